import PyProof.Rows.All
import Wide.All
import OpenK.AllK
import Wide.FinOn
import HandS.ForMost
import HandS.Exc
import HandS.TryOnly
import HandS.ExcOwn
import HandS.WordsExc
import HandS.IsInst
import HandS.Wide
import HandS.WideBits
import HandS.Flow
import HandS.Evl
import HandS.TryMany
import HandS.Style
import HandS.SortKw
import KE.DatumOrd
import HandS.ExcIs
import HandS.HotCalls
import KE.KExcIs
import HandS.ExcInit
import HandS.ExcField
import HandS.Deep
import HandS.Iter
import HandS.Text
import HandS.Codes
import HandS.StrMore
import HandS.Replace
import PyProof.ListOps
import HandS.More
import PySem.Challenge.RW_bitrail_k31_a_wire_read
set_option Elab.async false
set_option linter.all false
set_option maxRecDepth 100000
set_option maxHeartbeats 4000000
/-! The base of all proofs over bitrail: owned cells over a frame, and the readings' steps, one a construct. -/
namespace Bt
open PySem L2

/-! ### owned cells -/
abbrev Cell := Addr × HO
abbrev Ex (H H' : Hp) : Prop := ∀ a o, H a = some o → H' a = some o
theorem Ex.refl (H : Hp) : Ex H H := fun _ _ h => h
theorem Ex.trans {H H1 H2 : Hp} (a : Ex H H1) (b : Ex H1 H2) : Ex H H2 := fun x o h => b x o (a x o h)
theorem Ex.new {H : Hp} {p : Addr} {o : HO} (h : H p = none) : Ex H (upd H p o) := fun a u e => by
  rw [upd_ne (ne_of_none e h)]
  exact e
theorem Ex.back {H H' : Hp} {p : Addr} (e : Ex H H') (h : H' p = none) : H p = none := by
  cases h1 : H p with
  | none => rfl
  | some o =>
    rw [e p o h1] at h
    cases h
theorem Ex.rd {H H' : Hp} {a : Addr} {u : HO} (e : Ex H H') (h : Rd H a u) : Rd H' a u := by
  rcases h with h | ⟨o, h⟩
  · exact Or.inl (e a _ h)
  · exact Or.inr ⟨o, e a _ h⟩
theorem Ex.l {K : PySem.W.Frag} {H H' : Hp} {a : Addr} {xs : List V} (e : Ex H H') (h : SqL K H a xs) : SqL K H' a xs := by
  rcases h with h | h
  · exact Or.inl (e.rd h)
  · exact Or.inr h
theorem Ex.t {K : PySem.W.Frag} {H H' : Hp} {a : Addr} {xs : List V} (e : Ex H H') (h : SqT K H a xs) : SqT K H' a xs := by
  rcases h with h | h
  · exact Or.inl (e.rd h)
  · exact Or.inr h

/-- H holds the frame R, and beside it the cells L, at unlike places that R does not know -/
structure Own (R H : Hp) (L : List Cell) : Prop where
  ex : Ex R H
  at_ : ∀ c ∈ L, H c.1 = some c.2
  fr : ∀ c ∈ L, R c.1 = none
  nd : (L.map (·.1)).Nodup

section
variable {R H H' : Hp} {L L' A B C : List Cell} {a p q : Addr} {o o' : HO}
theorem Own.start (H : Hp) : Own H H [] := ⟨Ex.refl H, fun _ h => (nomatch h), fun _ h => (nomatch h), List.Pairwise.nil⟩
theorem Own.mem (O : Own R H L) (h : (a, o) ∈ L) : H a = some o := O.at_ _ h
theorem Own.g0 {c1 : Cell} (O : Own R H (c1 :: L)) : H c1.1 = some c1.2 := O.at_ _ (List.Mem.head _)
theorem Own.tl {c1 : Cell} (O : Own R H (c1 :: L)) : Own R H L :=
  ⟨O.ex, fun c h => O.at_ c (List.Mem.tail _ h), fun c h => O.fr c (List.Mem.tail _ h), (List.nodup_cons.mp O.nd).2⟩
theorem Own.ext (O : Own R H L) (e : Ex H H') : Own R H' L := ⟨O.ex.trans e, fun c h => e _ _ (O.at_ c h), O.fr, O.nd⟩
theorem Own.notin (O : Own R H L) (h : H p = none) : p ∉ L.map (·.1) := fun m => by
  obtain ⟨c, hc, e⟩ := List.mem_map.mp m
  have := O.at_ c hc
  rw [e, h] at this
  cases this
theorem Own.ext1 (O : Own R H L) (e : Ex H H') (h : H p = none) (h' : H' p = some o) : Own R H' ((p, o) :: L) :=
  ⟨O.ex.trans e, fun c hc => by
    rcases List.mem_cons.mp hc with rfl | hc
    · exact h'
    · exact e _ _ (O.at_ c hc), fun c hc => by
    rcases List.mem_cons.mp hc with rfl | hc
    · exact O.ex.back h
    · exact O.fr c hc, List.nodup_cons.mpr ⟨O.notin h, O.nd⟩⟩
theorem Own.new (O : Own R H L) (h : H p = none) : Own R (upd H p o) ((p, o) :: L) := O.ext1 (Ex.new h) h upd_same
/-- more cells, owned over H -/
theorem Own.app (O : Own R H L) (N : Own H H' A) : Own R H' (A ++ L) :=
  ⟨O.ex.trans N.ex, fun c hc => by
    rcases List.mem_append.mp hc with hc | hc
    · exact N.at_ c hc
    · exact N.ex _ _ (O.at_ c hc), fun c hc => by
    rcases List.mem_append.mp hc with hc | hc
    · exact O.ex.back (N.fr c hc)
    · exact O.fr c hc, by
    rw [List.map_append]
    refine List.nodup_append.mpr ⟨N.nd, O.nd, fun x hx y hy e => ?_⟩
    subst e
    obtain ⟨c, hc, e⟩ := List.mem_map.mp hx
    have := N.fr c hc
    rw [e] at this
    exact O.notin this hy⟩
theorem Own.put (O : Own R H (A ++ (p, o) :: B)) : Own R (upd H p o') (A ++ (p, o') :: B) := by
  have nd := O.nd
  rw [List.map_append, List.map_cons] at nd
  have nA : p ∉ A.map (·.1) := fun m => by
    have := (List.nodup_append.mp nd).2.2
    exact this _ m p (List.Mem.head _) rfl
  have nB : p ∉ B.map (·.1) := (List.nodup_cons.mp (List.nodup_append.mp nd).2.1).1
  have hp : R p = none := O.fr (p, o) (by simp)
  refine ⟨fun b u e => ?_, fun c hc => ?_, fun c hc => ?_, by rw [List.map_append, List.map_cons]; exact nd⟩
  · rw [upd_ne (ne_of_none e hp)]
    exact O.ex _ _ e
  · rcases List.mem_append.mp hc with hA | hc
    · rw [upd_ne (fun e : c.1 = p => nA (by rw [← e]; exact List.mem_map_of_mem hA))]
      exact O.at_ c (List.mem_append.mpr (Or.inl hA))
    · rcases List.mem_cons.mp hc with rfl | hB
      · exact upd_same
      · rw [upd_ne (fun e : c.1 = p => nB (by rw [← e]; exact List.mem_map_of_mem hB))]
        exact O.at_ c (List.mem_append.mpr (Or.inr (List.mem_cons_of_mem _ hB)))
  · rcases List.mem_append.mp hc with hA | hc
    · exact O.fr c (List.mem_append.mpr (Or.inl hA))
    · rcases List.mem_cons.mp hc with rfl | hB
      · exact hp
      · exact O.fr c (List.mem_append.mpr (Or.inr (List.mem_cons_of_mem _ hB)))
theorem Own.put0 (O : Own R H ((p, o) :: B)) : Own R (upd H p o') ((p, o') :: B) := Own.put (A := []) O
theorem Own.put1 {c1 : Cell} (O : Own R H (c1 :: (p, o) :: B)) : Own R (upd H p o') (c1 :: (p, o') :: B) := Own.put (A := [c1]) O
theorem Own.put2 {c1 c2 : Cell} (O : Own R H (c1 :: c2 :: (p, o) :: B)) : Own R (upd H p o') (c1 :: c2 :: (p, o') :: B) := Own.put (A := [c1, c2]) O
theorem Own.put3 {c1 c2 c3 : Cell} (O : Own R H (c1 :: c2 :: c3 :: (p, o) :: B)) : Own R (upd H p o') (c1 :: c2 :: c3 :: (p, o') :: B) := Own.put (A := [c1, c2, c3]) O
theorem Own.put4 {c1 c2 c3 c4 : Cell} (O : Own R H (c1 :: c2 :: c3 :: c4 :: (p, o) :: B)) : Own R (upd H p o') (c1 :: c2 :: c3 :: c4 :: (p, o') :: B) := Own.put (A := [c1, c2, c3, c4]) O
theorem Own.put5 {c1 c2 c3 c4 c5 : Cell} (O : Own R H (c1 :: c2 :: c3 :: c4 :: c5 :: (p, o) :: B)) : Own R (upd H p o') (c1 :: c2 :: c3 :: c4 :: c5 :: (p, o') :: B) := Own.put (A := [c1, c2, c3, c4, c5]) O
theorem Own.put6 {c1 c2 c3 c4 c5 c6 : Cell} (O : Own R H (c1 :: c2 :: c3 :: c4 :: c5 :: c6 :: (p, o) :: B)) : Own R (upd H p o') (c1 :: c2 :: c3 :: c4 :: c5 :: c6 :: (p, o') :: B) := Own.put (A := [c1, c2, c3, c4, c5, c6]) O
theorem Own.perm (O : Own R H L) (e : L.Perm L') : Own R H L' :=
  ⟨O.ex, fun c h => O.at_ c (e.mem_iff.mpr h), fun c h => O.fr c (e.mem_iff.mpr h), (e.map _).nodup_iff.mp O.nd⟩
/-- fewer cells -/
theorem Own.sub (O : Own R H L) (e : L'.Sublist L) : Own R H L' :=
  ⟨O.ex, fun c h => O.at_ c (e.subset h), fun c h => O.fr c (e.subset h), List.Nodup.sublist (e.map _) O.nd⟩
/-- THE FRAME: what is done to some of the cells, the others being its frame -/
theorem Own.focus (O : Own R H (A ++ B)) : ∃ R', Own R' H A ∧ Ex R R' ∧ (∀ c ∈ B, R' c.1 = some c.2) ∧ ∀ H' A', Own R' H' A' → Own R H' (A' ++ B) := by
  have nd := O.nd
  rw [List.map_append] at nd
  obtain ⟨ndA, ndB, dis⟩ := List.nodup_append.mp nd
  refine ⟨fun b => if b ∈ A.map (·.1) then none else H b, ⟨fun b u e => ?_, fun c h => O.at_ c (List.mem_append.mpr (Or.inl h)), fun c h => if_pos (List.mem_map_of_mem h), ndA⟩, fun b u e => ?_, fun c hc => ?_, fun H' A' O' => ?_⟩
  · by_cases hb : b ∈ A.map (·.1)
    · rw [if_pos hb] at e; cases e
    · rw [if_neg hb] at e; exact e
  · have hb : b ∉ A.map (·.1) := fun m => by
      obtain ⟨c, hc, e1⟩ := List.mem_map.mp m
      have := O.fr c (List.mem_append.mpr (Or.inl hc))
      rw [e1, e] at this
      cases this
    show (if b ∈ A.map (·.1) then none else H b) = some u
    rw [if_neg hb]
    exact O.ex _ _ e
  · have hb : c.1 ∉ A.map (·.1) := fun m => dis _ m _ (List.mem_map_of_mem hc) rfl
    show (if c.1 ∈ A.map (·.1) then none else H c.1) = some c.2
    rw [if_neg hb]
    exact O.at_ c (List.mem_append.mpr (Or.inr hc))
  · have hB : ∀ c ∈ B, (if c.1 ∈ A.map (·.1) then none else H c.1) = some c.2 := fun c hc => by
      have hb : c.1 ∉ A.map (·.1) := fun m => dis _ m _ (List.mem_map_of_mem hc) rfl
      rw [if_neg hb]
      exact O.at_ c (List.mem_append.mpr (Or.inr hc))
    have hR : ∀ b u, R b = some u → (if b ∈ A.map (·.1) then none else H b) = some u := fun b u e => by
      have hb : b ∉ A.map (·.1) := fun m => by
        obtain ⟨c, hc, e1⟩ := List.mem_map.mp m
        have := O.fr c (List.mem_append.mpr (Or.inl hc))
        rw [e1, e] at this
        cases this
      rw [if_neg hb]
      exact O.ex _ _ e
    refine ⟨fun b u e => O'.ex _ _ (hR b u e), fun c hc => ?_, fun c hc => ?_, ?_⟩
    · rcases List.mem_append.mp hc with hc | hc
      · exact O'.at_ c hc
      · exact O'.ex _ _ (hB c hc)
    · rcases List.mem_append.mp hc with hc | hc
      · cases e : R c.1 with
        | none => rfl
        | some u =>
          have := O'.fr c hc
          rw [hR _ _ e] at this
          cases this
      · exact O.fr c (List.mem_append.mpr (Or.inr hc))
    · rw [List.map_append]
      refine List.nodup_append.mpr ⟨O'.nd, ndB, fun x hx y hy e => ?_⟩
      subst e
      obtain ⟨c, hc, e⟩ := List.mem_map.mp hx
      obtain ⟨d, hd, e2⟩ := List.mem_map.mp hy
      have h1 := O'.fr c hc
      have h2 := hB d hd
      rw [e2, ← e, h1] at h2
      cases h2
/-- the frame may be what is there now: all else is kept -/
theorem Own.over (O : Own R H L) : Own H H [] := Own.start H
end

/-! ### what a call hands back: a value; a new list; a new tuple -/
def RetV (v : V) (H : Hp) (Q : VK) : Prop := ∀ H', Ex H H' → Q v H'
def RetL (xs : List V) (H : Hp) (Q : VK) : Prop := ∀ p H', H p = none → Ex H H' → H' p = some (.lst xs) → Q (.ref p) H'
def RetT (xs : List V) (H : Hp) (Q : VK) : Prop := ∀ p H', H p = none → Ex H H' → H' p = some (.tup xs) → Q (.ref p) H'
/-- any new cells, as D says -/
def RetN (D : V → List Cell → Prop) (H : Hp) (Q : VK) : Prop := ∀ v H' L, Own H H' L → D v L → Q v H'
section
variable {R H : Hp} {L : List Cell} {Q : VK} {v : V} {xs : List V}
theorem Own.retV (O : Own R H L) (k : ∀ H', Own R H' L → Q v H') : RetV v H Q := fun H' e => k H' (O.ext e)
theorem Own.retL (O : Own R H L) (k : ∀ p H', Own R H' ((p, .lst xs) :: L) → Q (.ref p) H') : RetL xs H Q := fun p H' h e h' => k p H' (O.ext1 e h h')
theorem Own.retT (O : Own R H L) (k : ∀ p H', Own R H' ((p, .tup xs) :: L) → Q (.ref p) H') : RetT xs H Q := fun p H' h e h' => k p H' (O.ext1 e h h')
theorem Own.retN {D : V → List Cell → Prop} (O : Own R H L) (k : ∀ v H' N, Own R H' (N ++ L) → D v N → Q v H') : RetN D H Q := fun v H' N o d => k v H' N (O.app o) d
/-- the end of a def that started at H: what it hands back is new -/
theorem RetV.go {H0 H : Hp} {L : List Cell} {v : V} {Q : VK} (k : RetV v H0 Q) (O : Own H0 H L) : Q v H := k H O.ex
theorem RetL.go {H0 H : Hp} {L : List Cell} {xs : List V} {Q : VK} {p : Addr} (k : RetL xs H0 Q) (O : Own H0 H L) (h : (p, HO.lst xs) ∈ L) : Q (.ref p) H := k p H (O.fr _ h) O.ex (O.at_ _ h)
theorem RetT.go {H0 H : Hp} {L : List Cell} {xs : List V} {Q : VK} {p : Addr} (k : RetT xs H0 Q) (O : Own H0 H L) (h : (p, HO.tup xs) ∈ L) : Q (.ref p) H := k p H (O.fr _ h) O.ex (O.at_ _ h)
theorem RetN.go {H0 H : Hp} {L N : List Cell} {D : V → List Cell → Prop} {Q : VK} {v : V} (k : RetN D H0 Q) (O : Own H0 H L) (e : N.Sublist L) (d : D v N) : Q v H := k v H N (O.sub e) d
end

end Bt

set_option Elab.async false
set_option linter.all false
set_option maxRecDepth 100000
set_option maxHeartbeats 4000000
/-! The mirror's words (partial functions: none where the program would stop), and the steps that join a reading with its mirror. -/
namespace Bt
open PySem L2

/-! ### the mirror's words -/
section
variable {α β γ S R T : Type}
def ltv (a : α) (f : α → Option β) : Option β := f a
theorem ltvE {a : α} {f : α → Option β} {r : β} (h : ltv a f = some r) : ∃ x, a = x ∧ f x = some r := ⟨a, rfl, h⟩
def bnd (a : Option α) (f : α → Option β) : Option β := match a with
  | some x => f x
  | none => none
theorem bndE {a : Option α} {f : α → Option β} {r : β} (h : bnd a f = some r) : ∃ x, a = some x ∧ f x = some r := by
  cases a with
  | none => cases h
  | some x => exact ⟨x, rfl, h⟩
def ifB (c : Bool) (a b : α) : α := match c with
  | true => a
  | false => b
theorem ifT {c : Bool} {a b r : α} (h : ifB c a b = r) (hc : c = true) : a = r := by subst hc; exact h
theorem ifF {c : Bool} {a b r : α} (h : ifB c a b = r) (hc : c = false) : b = r := by subst hc; exact h
inductive Fl (S R : Type) where
  | nx (s : S)
  | rt (r : R)
  | bk (s : S)
def finK (rest : S → Option R) : Fl S R → Option R
  | .nx s => rest s
  | .rt r => some r
  | .bk _ => none
def fin (a : Option (Fl S R)) (rest : S → Option R) : Option R := bnd a (finK rest)
def floK (rest : S → Option (Fl T R)) : Fl S R → Option (Fl T R)
  | .nx s => rest s
  | .rt r => some (.rt r)
  | .bk _ => none
def flo (a : Option (Fl S R)) (rest : S → Option (Fl T R)) : Option (Fl T R) := bnd a (floK rest)
theorem finRt {rest : S → Option R} {v r : R} (h : finK rest (.rt v) = some r) : v = r := Option.some.inj h
theorem floRt {rest : S → Option (Fl T R)} {v : R} {fl : Fl T R} (h : floK rest (.rt v) = some fl) : Fl.rt v = fl := Option.some.inj h
def loopM (f : α → S → Option S) : List α → S → Option S
  | [], s => some s
  | x :: r, s => bnd (f x s) (loopM f r)
theorem loopM_nil {f : α → S → Option S} {s out : S} (h : loopM f [] s = some out) : out = s := (Option.some.inj h).symm
theorem loopM_cons {f : α → S → Option S} {x : α} {r : List α} {s out : S} (h : loopM f (x :: r) s = some out) : ∃ s', f x s = some s' ∧ loopM f r s' = some out := bndE h
def contF (go : S → Option (Fl S R)) : Fl S R → Option (Fl S R)
  | .nx s => go s
  | .rt r => some (.rt r)
  | .bk s => some (.nx s)
def loopF (f : α → S → Option (Fl S R)) : List α → S → Option (Fl S R)
  | [], s => some (.nx s)
  | x :: r, s => bnd (f x s) (contF (loopF f r))
theorem loopF_nil {f : α → S → Option (Fl S R)} {s : S} {out : Fl S R} (h : loopF f [] s = some out) : Fl.nx s = out := Option.some.inj h
theorem loopF_cons {f : α → S → Option (Fl S R)} {x : α} {r : List α} {s : S} {out : Fl S R} (h : loopF f (x :: r) s = some out) : ∃ fl, f x s = some fl ∧ contF (loopF f r) fl = some out := bndE h
theorem contRt {go : S → Option (Fl S R)} {v : R} {out : Fl S R} (h : contF go (.rt v) = some out) : Fl.rt v = out := Option.some.inj h
theorem contBk {go : S → Option (Fl S R)} {s : S} {out : Fl S R} (h : contF go (.bk s) = some out) : Fl.nx s = out := Option.some.inj h
def whileM (c : S → Option Bool) (f : S → Option S) : Nat → S → Option S
  | 0, _ => none
  | n + 1, s => bnd (c s) fun b => ifB b (bnd (f s) (whileM c f n)) (some s)
theorem whileM_zero {c : S → Option Bool} {f : S → Option S} {s out : S} (h : whileM c f 0 s = some out) : False := nomatch h
theorem whileM_succ {c : S → Option Bool} {f : S → Option S} {n : Nat} {s out : S} (h : whileM c f (n + 1) s = some out) : ∃ b, c s = some b ∧ ifB b (bnd (f s) (whileM c f n)) (some s) = some out := bndE h
def whileF (c : S → Option Bool) (f : S → Option (Fl S R)) : Nat → S → Option (Fl S R)
  | 0, _ => none
  | n + 1, s => bnd (c s) fun b => ifB b (bnd (f s) (contF (whileF c f n))) (some (.nx s))
theorem whileF_succ {c : S → Option Bool} {f : S → Option (Fl S R)} {n : Nat} {s : S} {out : Fl S R} (h : whileF c f (n + 1) s = some out) : ∃ b, c s = some b ∧ ifB b (bnd (f s) (contF (whileF c f n))) (some (.nx s)) = some out := bndE h
/-- a comprehension: what is kept, in order -/
def compM (f : α → Option β) : List α → List β → Option (List β)
  | [], acc => some acc
  | x :: r, acc => bnd (f x) fun y => if acc.length < 16777216 then compM f r (acc ++ [y]) else none
theorem compM_cons {f : α → Option β} {x : α} {r : List α} {acc out : List β} (h : compM f (x :: r) acc = some out) : ∃ y, f x = some y ∧ acc.length < 16777216 ∧ compM f r (acc ++ [y]) = some out := by
  obtain ⟨y, h1, h2⟩ := bndE (show bnd (f x) (fun y => if acc.length < 16777216 then compM f r (acc ++ [y]) else none) = some out from h)
  by_cases c : acc.length < 16777216
  · rw [if_pos c] at h2
    exact ⟨y, h1, c, h2⟩
  · rw [if_neg c] at h2
    cases h2
theorem compM_nil {f : α → Option β} {acc out : List β} (h : compM f [] acc = some out) : out = acc := (Option.some.inj h).symm
/-- .. with a test -/
def compT (c : α → Option Bool) (f : α → Option β) : List α → List β → Option (List β)
  | [], acc => some acc
  | x :: r, acc => bnd (c x) fun b => ifB b (bnd (f x) fun y => if acc.length < 16777216 then compT c f r (acc ++ [y]) else none) (compT c f r acc)
theorem compT_nil {c : α → Option Bool} {f : α → Option β} {acc out : List β} (h : compT c f [] acc = some out) : out = acc := (Option.some.inj h).symm
theorem compT_cons {c : α → Option Bool} {f : α → Option β} {x : α} {r : List α} {acc out : List β} (h : compT c f (x :: r) acc = some out) :
    ∃ b, c x = some b ∧ ifB b (bnd (f x) fun y => if acc.length < 16777216 then compT c f r (acc ++ [y]) else none) (compT c f r acc) = some out := bndE h
theorem compT_yes {c : α → Option Bool} {f : α → Option β} {x : α} {r : List α} {acc out : List β} (h : (bnd (f x) fun y => if acc.length < 16777216 then compT c f r (acc ++ [y]) else none) = some out) :
    ∃ y, f x = some y ∧ acc.length < 16777216 ∧ compT c f r (acc ++ [y]) = some out := by
  obtain ⟨y, h1, h2⟩ := bndE h
  by_cases c : acc.length < 16777216
  · rw [if_pos c] at h2
    exact ⟨y, h1, c, h2⟩
  · rw [if_neg c] at h2
    cases h2
end
section
variable {α : Type}
def grd (c : Prop) [Decidable c] (a : α) : Option α := if c then some a else none
theorem grdE {c : Prop} [Decidable c] {a r : α} (h : grd c a = some r) : c ∧ a = r := by
  unfold grd at h
  by_cases hc : c
  · rw [if_pos hc] at h
    exact ⟨hc, Option.some.inj h⟩
  · rw [if_neg hc] at h
    cases h
theorem grd_of {c : Prop} [Decidable c] {a : α} (h : c) : grd c a = some a := if_pos h
def appG (xs : List α) (y : α) : Option (List α) := grd (xs.length < 16777216) (xs ++ [y])
def catG (xs ys : List α) : Option (List α) := grd (xs.length + ys.length ≤ 16777216) (xs ++ ys)
def repL (xs : List α) : Nat → List α
  | 0 => []
  | n + 1 => xs ++ repL xs n
def repG (xs : List α) (k : Int) : Option (List α) := grd (-(2 ^ 63) ≤ k ∧ k < 2 ^ 63 ∧ xs.length * k.toNat ≤ 16777216) (List.flatten (List.replicate k.toNat xs))
def setG (xs : List α) (i : Int) (y : α) : Option (List α) := match ixN xs.length i with
  | some j => some (xs.set j y)
  | none => none
def cutL (xs : List α) (lo hi : Option Int) : List α := (xs.drop (HT.sIx xs.length 0 lo)).take (HT.sIx xs.length xs.length hi - HT.sIx xs.length 0 lo)
def rangeI (lo hi : Int) : List Int := (List.range (hi - lo).toNat).map fun (i : Nat) => lo + (i : Int)
def rng1 (hi : Int) : Option (List Int) := grd (-(2 ^ 62) ≤ hi ∧ hi < 2 ^ 62) (rangeI 0 hi)
def rng2 (lo hi : Int) : Option (List Int) := grd (-(2 ^ 62) ≤ lo ∧ lo < 2 ^ 62 ∧ -(2 ^ 62) ≤ hi ∧ hi < 2 ^ 62) (rangeI lo hi)
end
def modG (i j : Int) : Option Int := grd (0 < j) (i % j)
def fdivG (i j : Int) : Option Int := grd (0 < j ∧ j.natAbs.log2 < 9000) (i / j)
def mulG (i j : Int) : Option Int := grd (i.natAbs.log2 + j.natAbs.log2 < 1000000) (i * j)
def shlG (i j : Int) : Option Int := grd (0 ≤ j ∧ (Builtin.Int.intBits i : Int) + j ≤ 2 ^ 27) (i * 2 ^ j.toNat)
def shrG (i j : Int) : Option Int := grd (0 ≤ j) (i / 2 ^ j.toNat)
def powG (i j : Int) : Option Int := grd (0 ≤ j ∧ j ≤ 1000000 ∧ i.natAbs < 2 ^ 64) (i ^ j.toNat)

/-! ### the steps -/
section
variable {K : PySem.W.Frag} {σ : St} {H R : Hp} {L : List Cell} {Q : VK} {i j t : Int} {x y z v : V} {a b p q : Addr} {α : Type} {f : α → V} {xs ys zs : List α} {xs' ys' : List Int}
theorem k_mul (h : mulG i j = some t) (k : Q (.int t) H) : rI CMulW (fun i j => .int (i * j)) (.int i) (.int j) H Q := by
  obtain ⟨c, rfl⟩ := grdE h
  exact ⟨_, _, rfl, rfl, c, k⟩
theorem k_mod (h : modG i j = some t) (k : Q (.int t) H) : rI (fun _ j => 0 < j) (fun i j => .int (i % j)) (.int i) (.int j) H Q := by
  obtain ⟨c, rfl⟩ := grdE h
  exact ⟨_, _, rfl, rfl, c, k⟩
theorem k_fdiv (h : fdivG i j = some t) (k : Q (.int t) H) : rI CDivW (fun i j => .int (i / j)) (.int i) (.int j) H Q := by
  obtain ⟨c, rfl⟩ := grdE h
  exact ⟨_, _, rfl, rfl, c, k⟩
theorem k_shl (h : shlG i j = some t) (k : Q (.int t) H) : rI CShl (fun i j => .int (i * 2 ^ j.toNat)) (.int i) (.int j) H Q := by
  obtain ⟨c, rfl⟩ := grdE h
  exact ⟨_, _, rfl, rfl, c, k⟩
theorem k_shr (h : shrG i j = some t) (k : Q (.int t) H) : rI (fun _ j => 0 ≤ j) (fun i j => .int (i / 2 ^ j.toNat)) (.int i) (.int j) H Q := by
  obtain ⟨c, rfl⟩ := grdE h
  exact ⟨_, _, rfl, rfl, c, k⟩
theorem k_pow (h : powG i j = some t) (k : Q (.int t) H) : rI CPow (fun i j => .int (i ^ j.toNat)) (.int i) (.int j) H Q := by
  obtain ⟨c, rfl⟩ := grdE h
  exact ⟨_, _, rfl, rfl, c, k⟩
theorem dec_int (i j : Int) : decide (V.int i = V.int j) = decide (i = j) := by
  by_cases h : i = j
  · subst h; simp
  · have : ¬ V.int i = V.int j := fun e => h (V.int.inj e)
    simp [h, this]
theorem dec_bl (i j : Bool) : decide (V.bl i = V.bl j) = decide (i = j) := by
  by_cases h : i = j
  · subst h; simp
  · have : ¬ V.bl i = V.bl j := fun e => h (V.bl.inj e)
    simp [h, this]
theorem dec_str (i j : Str) : decide (V.str i = V.str j) = decide (i = j) := by
  by_cases h : i = j
  · subst h; simp
  · have : ¬ V.str i = V.str j := fun e => h (V.str.inj e)
    simp [h, this]
theorem k_eqI (k : Q (.bl (decide (i = j))) H) : rEq (.int i) (.int j) H Q := ⟨rfl, by rw [dec_int]; exact k⟩
theorem k_neI (k : Q (.bl (!decide (i = j))) H) : rNe (.int i) (.int j) H Q := ⟨rfl, by rw [dec_int]; exact k⟩
theorem k_eqB {c d : Bool} (k : Q (.bl (decide (c = d))) H) : rEq (.bl c) (.bl d) H Q := ⟨rfl, by rw [dec_bl]; exact k⟩
theorem k_neB {c d : Bool} (k : Q (.bl (!decide (c = d))) H) : rNe (.bl c) (.bl d) H Q := ⟨rfl, by rw [dec_bl]; exact k⟩
theorem k_eqS {c d : Str} (k : Q (.bl (decide (c = d))) H) : rEq (.str c) (.str d) H Q := ⟨rfl, by rw [dec_str]; exact k⟩
theorem k_neS {c d : Str} (k : Q (.bl (!decide (c = d))) H) : rNe (.str c) (.str d) H Q := ⟨rfl, by rw [dec_str]; exact k⟩
/-! deep == of flat lists -/
theorem dpI : ∀ (ns : List Int), DpAll K H (ns.map V.int) (ns.map PyData.int)
  | [] => .nil
  | n :: r => .cons (.int n) (dpI r)
theorem dpB : ∀ (ns : List Bool), DpAll K H (ns.map V.bl) (ns.map PyData.bool)
  | [] => .nil
  | n :: r => .cons (.bl n) (dpB r)
theorem dpS : ∀ (ns : List Str), DpAll K H (ns.map V.str) (ns.map PyData.str)
  | [] => .nil
  | n :: r => .cons (.str n) (dpS r)

theorem sh_I (ns : List Int) : SeqAt.shaped (.list (ns.map PyData.int)) = true := by
  have h1 : ∀ ns : List Int, PyData.canLayAll0 (ns.map PyData.int) = true := fun ns => by
    induction ns with
    | nil => rfl
    | cons n r ih => simpa [PyData.canLayAll0, PyData.canLay0] using ih
  have h2 : ∀ ns : List Int, PyData.depthAll (ns.map PyData.int) = 0 := fun ns => by
    induction ns with
    | nil => rfl
    | cons n r ih => simpa [PyData.depthAll, PyData.depth] using ih
  simp [SeqAt.shaped, PyData.canLay0, h1, PyData.depth, h2]
theorem sh_B (ns : List Bool) : SeqAt.shaped (.list (ns.map PyData.bool)) = true := by
  have h1 : ∀ ns : List Bool, PyData.canLayAll0 (ns.map PyData.bool) = true := fun ns => by
    induction ns with
    | nil => rfl
    | cons n r ih => simpa [PyData.canLayAll0, PyData.canLay0] using ih
  have h2 : ∀ ns : List Bool, PyData.depthAll (ns.map PyData.bool) = 0 := fun ns => by
    induction ns with
    | nil => rfl
    | cons n r ih => simpa [PyData.depthAll, PyData.depth] using ih
  simp [SeqAt.shaped, PyData.canLay0, h1, PyData.depth, h2]
theorem ev_I : ∀ (ns ms : List Int), PyData.eqv (.list (ns.map PyData.int)) (.list (ms.map PyData.int)) = decide (ns = ms) := by
  have h : ∀ (ns ms : List Int), PyData.eqvAll (ns.map PyData.int) (ms.map PyData.int) = decide (ns = ms) := fun ns => by
    induction ns with
    | nil => intro ms; cases ms <;> simp [PyData.eqvAll]
    | cons n r ih =>
      intro ms
      cases ms with
      | nil => simp [PyData.eqvAll]
      | cons m s =>
        simp only [List.map_cons, PyData.eqvAll, PyData.eqv, ih, List.cons.injEq, Bool.decide_and]
        rw [Bool.beq_eq_decide_eq]
  exact fun ns ms => by simpa only [PyData.eqv] using h ns ms
theorem k_eqLI (ha : SqL K H a (xs'.map V.int)) (hb : SqL K H b (ys'.map V.int)) (k : Q (.bl (decide (xs' = ys'))) H) : rEqD K (.ref a) (.ref b) H Q :=
  ⟨_, _, .lst ha (dpI _), .lst hb (dpI _), sh_I _, sh_I _, by rw [ev_I]; exact k⟩
theorem k_neLI (ha : SqL K H a (xs'.map V.int)) (hb : SqL K H b (ys'.map V.int)) (k : Q (.bl (!decide (xs' = ys'))) H) : rNeD K (.ref a) (.ref b) H Q :=
  ⟨_, _, .lst ha (dpI _), .lst hb (dpI _), sh_I _, sh_I _, by rw [ev_I]; exact k⟩
/-! lists -/
theorem k_len (h : SqL K H a (xs.map f)) (k : Q (.int (xs.length : Int)) H) : ∃ p ys, [V.ref a] = [V.ref p] ∧ (SqL K H p ys ∨ SqT K H p ys) ∧ Q (.int ys.length) H :=
  ⟨a, _, rfl, .inl h, by rw [List.length_map]; exact k⟩
theorem k_list (O : Own R H L) {ys : List V} (h : SqL K H a ys) (k : ∀ p H', Own R H' ((p, .lst ys) :: L) → Q (.ref p) H') : ∃ p ys, [V.ref a] = [V.ref p] ∧ (SqL K H p ys ∨ SqT K H p ys) ∧ ∀ l, H l = none → Q (.ref l) (upd H l (.lst ys)) :=
  ⟨a, _, rfl, .inl h, fun l hl => k l _ (O.new hl)⟩
theorem k_sum (h : SqL K H a (xs'.map V.int)) (k : Q (.int xs'.sum) H) : rSum K [.ref a] H Q := ⟨a, _, rfl, h, k⟩
theorem k_new {zs : List V} (O : Own R H L) (k : ∀ p H', Own R H' ((p, .lst zs) :: L) → Q (.ref p) H') : ∀ p, H p = none → Q (.ref p) (upd H p (.lst zs)) := fun p hp => k p _ (O.new hp)
theorem k_newT {zs : List V} (O : Own R H L) (k : ∀ p H', Own R H' ((p, .tup zs) :: L) → Q (.ref p) H') : ∀ p, H p = none → Q (.ref p) (upd H p (.tup zs)) := fun p hp => k p _ (O.new hp)
theorem at_map {xs : List α} {i : Int} {x : α} (h : atI xs i = some x) (f : α → V) : atI (xs.map f) i = some (f x) := by
  unfold atI at h ⊢
  rw [List.length_map]
  cases e : ixN xs.length i with
  | none => rw [e] at h; cases h
  | some j =>
    rw [e] at h
    show (xs.map f)[j]? = some (f x)
    rw [List.getElem?_map, (show xs[j]? = some x from h)]
    rfl
theorem k_ixL {x : α} (hs : SqL K H a (xs.map f)) (h : atI xs i = some x) (k : Q (f x) H) : rIxL K (.ref a) (.int i) H Q := ⟨a, _, i, _, rfl, rfl, hs, at_map h f, k⟩
theorem map_snoc (xs : List α) (x : α) (f : α → V) : xs.map f ++ [f x] = (xs ++ [x]).map f := by rw [List.map_append]; rfl
theorem k_app {x : α} {g : HO → List Cell} (hl : H a = some (.lst (xs.map f))) (hp : ∀ o', Own R (upd H a o') (g o')) (h : appG xs x = some ys) (k : ∀ H', Own R H' (g (.lst (ys.map f))) → Q .non H') : rAppend (.ref a) [f x] H Q := by
  obtain ⟨c, rfl⟩ := grdE h
  refine ⟨a, _, _, rfl, rfl, hl, by rw [List.length_map]; exact c, ?_⟩
  rw [map_snoc]
  exact k _ (hp _)
theorem map_cut (xs : List α) (lo hi : Option Int) (f : α → V) : cutV (xs.map f) lo hi = (cutL xs lo hi).map f := by
  unfold cutV cutL
  rw [List.length_map, ← List.map_drop, ← List.map_take]
theorem k_cut {lo hi : Option Int} (O : Own R H L) (hs : SqL K H a (xs.map f)) (k : ∀ p H', Own R H' ((p, .lst ((cutL xs lo hi).map f)) :: L) → Q (.ref p) H') : rSlL K (.ref a) lo hi H Q :=
  ⟨a, _, rfl, hs, fun p hp => by rw [map_cut]; exact k p _ (O.new hp)⟩
theorem k_cat {ys zs : List α} (O : Own R H L) (h1 : H a = some (.lst (xs.map f))) (h2 : H b = some (.lst (ys.map f))) (h : catG xs ys = some zs) (k : ∀ p H', Own R H' ((p, .lst (zs.map f)) :: L) → Q (.ref p) H') : rCat (.ref a) (.ref b) H Q := by
  obtain ⟨c, rfl⟩ := grdE h
  exact ⟨a, b, _, _, rfl, rfl, h1, h2, by rw [List.length_map, List.length_map]; exact c, fun p hp => by rw [← List.map_append]; exact k p _ (O.new hp)⟩
theorem k_setL {x : α} {g : HO → List Cell} {QH : Hp → Prop} (hl : H a = some (.lst (xs.map f))) (hp : ∀ o', Own R (upd H a o') (g o')) (h : setG xs i x = some ys) (k : ∀ H', Own R H' (g (.lst (ys.map f))) → QH H') : rSetL (.ref a) (.int i) (f x) H QH := by
  unfold setG at h
  cases e : ixN xs.length i with
  | none => rw [e] at h; cases h
  | some j =>
    rw [e] at h
    cases h
    refine ⟨a, _, i, j, rfl, rfl, hl, by rw [List.length_map]; exact e, ?_⟩
    have e2 : (xs.map f).set j (f x) = (xs.set j x).map f := by rw [List.map_set]
    rw [e2]
    exact k _ (hp _)
/-! tests with two sides: what the one is asked for, the other is not seen -/
theorem x_and {c d e : Bool} {tt uu : TT} {QB : Bool → Hp → Prop} (O : Own R H L) (h1 : ∀ Q1 : Bool → Hp → Prop, (∀ H', Own R H' L → Q1 c H') → tt σ H Q1) (h2 : c = true → e = d ∧ ∀ H', Own R H' L → ∀ Q2 : Bool → Hp → Prop, (∀ H'', Own R H'' L → Q2 e H'') → uu σ H' Q2)
    (h3 : c = false → false = d) (k : ∀ H', Own R H' L → QB d H') : tAnd tt uu σ H QB := by
  refine h1 _ fun H' O' => ?_
  cases c with
  | true =>
    obtain ⟨e1, g2⟩ := h2 rfl
    subst e1
    exact g2 H' O' QB k
  | false =>
    rw [← h3 rfl] at k
    exact k H' O'
theorem x_or {c d e : Bool} {tt uu : TT} {QB : Bool → Hp → Prop} (O : Own R H L) (h1 : ∀ Q1 : Bool → Hp → Prop, (∀ H', Own R H' L → Q1 c H') → tt σ H Q1) (h2 : c = false → e = d ∧ ∀ H', Own R H' L → ∀ Q2 : Bool → Hp → Prop, (∀ H'', Own R H'' L → Q2 e H'') → uu σ H' Q2)
    (h3 : c = true → true = d) (k : ∀ H', Own R H' L → QB d H') : tOr tt uu σ H QB := by
  refine h1 _ fun H' O' => ?_
  cases c with
  | false =>
    obtain ⟨e1, g2⟩ := h2 rfl
    subst e1
    exact g2 H' O' QB k
  | true =>
    rw [← h3 rfl] at k
    exact k H' O'
theorem x_andV {c d e : Bool} {tt uu : TE} (O : Own R H L) (h1 : ∀ Q1 : VK, (∀ H', Own R H' L → Q1 (.bl c) H') → tt σ H Q1) (h2 : c = true → e = d ∧ ∀ H', Own R H' L → ∀ Q2 : VK, (∀ H'', Own R H'' L → Q2 (.bl e) H'') → uu σ H' Q2)
    (h3 : c = false → false = d) (k : ∀ H', Own R H' L → Q (.bl d) H') : tAndV tt uu σ H Q := by
  refine h1 _ fun H' O' => ⟨_, rfl, ?_⟩
  cases c with
  | true =>
    obtain ⟨e1, g2⟩ := h2 rfl
    subst e1
    exact g2 H' O' Q k
  | false =>
    rw [← h3 rfl] at k
    exact k H' O'
theorem x_orV {c d e : Bool} {tt uu : TE} (O : Own R H L) (h1 : ∀ Q1 : VK, (∀ H', Own R H' L → Q1 (.bl c) H') → tt σ H Q1) (h2 : c = false → e = d ∧ ∀ H', Own R H' L → ∀ Q2 : VK, (∀ H'', Own R H'' L → Q2 (.bl e) H'') → uu σ H' Q2)
    (h3 : c = true → true = d) (k : ∀ H', Own R H' L → Q (.bl d) H') : tOrV tt uu σ H Q := by
  refine h1 _ fun H' O' => ⟨_, rfl, ?_⟩
  cases c with
  | false =>
    obtain ⟨e1, g2⟩ := h2 rfl
    subst e1
    exact g2 H' O' Q k
  | true =>
    rw [← h3 rfl] at k
    exact k H' O'
/-- a < b < c -/
theorem x_chain {r r' : R2} {c d e : Bool} {ta tb tc : TE} (O : Own R H L) (h1 : ∀ Q1 : VK, (∀ H', Own R H' L → Q1 x H') → ta σ H Q1) (h2 : ∀ H', Own R H' L → ∀ Q1 : VK, (∀ H', Own R H' L → Q1 y H') → tb σ H' Q1) (h3 : ∀ H' (Q1 : VK), Q1 (.bl c) H' → r x y H' Q1)
    (h4 : c = true → e = d ∧ ∀ H', Own R H' L → ∀ Q1 : VK, (∀ H', Own R H' L → Q1 z H') → tc σ H' Q1) (h5 : ∀ H' (Q1 : VK), Q1 (.bl e) H' → r' y z H' Q1) (h6 : c = false → false = d) (k : ∀ H', Own R H' L → Q (.bl d) H') : tChain r r' ta tb tc σ H Q := by
  refine h1 _ fun H1 O1 => h2 H1 O1 _ fun H2 O2 => h3 H2 _ ⟨c, rfl, ?_⟩
  cases c with
  | true =>
    obtain ⟨e1, g4⟩ := h4 rfl
    subst e1
    exact g4 H2 O2 _ fun H3 O3 => h5 H3 _ (k H3 O3)
  | false =>
    rw [← h6 rfl] at k
    exact k H2 O2
/-- a if c else b, a value -/
theorem x_if {c : Bool} {tt : TT} {ta tb : TE} (O : Own R H L) (h1 : ∀ Q1 : Bool → Hp → Prop, (∀ H', Own R H' L → Q1 c H') → tt σ H Q1) (h2 : c = true → x = v ∧ ∀ H', Own R H' L → ∀ Q2 : VK, (∀ H'', Own R H'' L → Q2 x H'') → ta σ H' Q2)
    (h3 : c = false → y = v ∧ ∀ H', Own R H' L → ∀ Q2 : VK, (∀ H'', Own R H'' L → Q2 y H'') → tb σ H' Q2) (k : ∀ H', Own R H' L → Q v H') : tIf tt ta tb σ H Q := by
  refine h1 _ fun H' O' => ?_
  cases c with
  | true =>
    obtain ⟨e1, g2⟩ := h2 rfl
    subst e1
    exact g2 H' O' Q k
  | false =>
    obtain ⟨e1, g3⟩ := h3 rfl
    subst e1
    exact g3 H' O' Q k
theorem iteS {c : Bool} {A B : Prop} (h1 : c = true → A) (h2 : c = false → B) : if c = true then A else B := by
  cases c with
  | true => rw [if_pos rfl]; exact h1 rfl
  | false => rw [if_neg Bool.false_ne_true]; exact h2 rfl
/-! loops -/
theorem k_forL {g : TG} {tb : TS} {D : Ends} (J : List α → St → Hp → Prop) (h0 : J xs σ H) (hl : ∀ r σ H, J r σ H → SqL K H a (xs.map f))
    (hs : ∀ x r σ H, J (x :: r) σ H → g (f x) σ H fun σ2 H2 => tb { D with nx := J r, ct := J r, bk := D.nx } σ2 H2) (hd : ∀ σ H, J [] σ H → D.nx σ H) :
    ∃ W : Nat → Nat → St → Hp → Prop, (∃ m, W 0 m σ H) ∧ ∀ i m σ H, W i m σ H →
      ((Itl K a).stop i H ∧ D.nx σ H) ∨ ((Itl K a).go i H ∧ ∃ N : St → Hp → Prop, (∀ σ' H', N σ' H' → ∃ m', m' < m ∧ W (i + 1) m' σ' H') ∧ ∀ x H', (Itl K a).yld i H x H' → g x σ H' fun σ2 H2 => tb { D with nx := N, ct := N, bk := D.nx } σ2 H2) := by
  refine for_list (xs := xs.map f) (fun i σ H => J (xs.drop i) σ H) h0 (fun i σ H _ => hl _ σ H) (fun i x σ H hi hJ => ?_) fun σ H hJ => ?_
  · rw [List.getElem?_map] at hi
    cases e : xs[i]? with
    | none => rw [e] at hi; cases hi
    | some y =>
      rw [e] at hi
      cases hi
      have e2 : xs.drop i = y :: xs.drop (i + 1) := by
        obtain ⟨h1, h2⟩ := List.getElem?_eq_some_iff.mp e
        rw [← h2]
        exact List.drop_eq_getElem_cons h1
      rw [e2] at hJ
      exact hs y _ σ H hJ
  · rw [List.length_map, List.drop_length] at hJ
    exact hd σ H hJ
theorem k_forR {lo : Int} {n : Nat} {g : TG} {tb : TS} {D : Ends} (J : List Int → St → Hp → Prop) (h0 : J ((List.range n).map fun (i : Nat) => lo + (i : Int)) σ H)
    (hs : ∀ x r σ H, J (x :: r) σ H → g (.int x) σ H fun σ2 H2 => tb { D with nx := J r, ct := J r, bk := D.nx } σ2 H2) (hd : ∀ σ H, J [] σ H → D.nx σ H) :
    ∃ W : Nat → Nat → St → Hp → Prop, (∃ m, W 0 m σ H) ∧ ∀ i m σ H, W i m σ H →
      ((Itr lo n).stop i H ∧ D.nx σ H) ∨ ((Itr lo n).go i H ∧ ∃ N : St → Hp → Prop, (∀ σ' H', N σ' H' → ∃ m', m' < m ∧ W (i + 1) m' σ' H') ∧ ∀ x H', (Itr lo n).yld i H x H' → g x σ H' fun σ2 H2 => tb { D with nx := N, ct := N, bk := D.nx } σ2 H2) := by
  refine for_range (fun i σ H => J (((List.range n).map fun (i : Nat) => lo + (i : Int)).drop i) σ H) h0 (fun i σ H hi hJ => ?_) fun σ H hJ => ?_
  · have e2 : ((List.range n).map fun (i : Nat) => lo + (i : Int)).drop i = (lo + (i : Int)) :: ((List.range n).map fun (i : Nat) => lo + (i : Int)).drop (i + 1) := by
      have h1 : i < ((List.range n).map fun (i : Nat) => lo + (i : Int)).length := by simpa using hi
      rw [List.drop_eq_getElem_cons h1]
      simp
    rw [e2] at hJ
    exact hs _ _ σ H hJ
  · have e : ((List.range n).map fun (i : Nat) => lo + (i : Int)).drop n = [] := List.drop_eq_nil_of_le (by simp)
    rw [e] at hJ
    exact hd σ H hJ
theorem k_rng1 {RJ : It → Hp → Prop} (h : rng1 j = some xs') (k : xs' = ((List.range j.toNat).map fun (i : Nat) => (0 : Int) + (i : Int)) → RJ (Itr 0 j.toNat) H) : ∃ j' : Int, [V.int j] = [V.int j'] ∧ -(2 ^ 62) ≤ j' ∧ j' < 2 ^ 62 ∧ RJ (Itr 0 j'.toNat) H := by
  obtain ⟨⟨c1, c2⟩, rfl⟩ := grdE h
  exact ⟨j, rfl, c1, c2, k (by unfold rangeI; rw [Int.sub_zero])⟩
theorem k_rng2 {RJ : It → Hp → Prop} (h : rng2 i j = some xs') (k : xs' = ((List.range (j - i).toNat).map fun (n : Nat) => i + (n : Int)) → RJ (Itr i (j - i).toNat) H) :
    ∃ i' j' : Int, [V.int i, V.int j] = [V.int i', V.int j'] ∧ (-(2 ^ 62) ≤ i' ∧ i' < 2 ^ 62 ∧ -(2 ^ 62) ≤ j' ∧ j' < 2 ^ 62) ∧ RJ (Itr i' (j' - i').toNat) H := by
  obtain ⟨c, rfl⟩ := grdE h
  exact ⟨i, j, rfl, c, k rfl⟩
/-- while: J, by the turns that the mirror still has -/
theorem k_while {tc : TT} {tb : TS} {D : Ends} (J : Nat → St → Hp → Prop) (n : Nat) (h0 : J n σ H)
    (hs : ∀ n σ H, J n σ H → tc σ H fun b H1 => if b = true then ∃ N : St → Hp → Prop, (∀ σ' H', N σ' H' → ∃ m', m' < n ∧ J m' σ' H') ∧ tb { D with nx := N, ct := N, bk := D.nx } σ H1 else D.nx σ H1) : tWhile tc tb D σ H :=
  ⟨J, ⟨n, h0⟩, hs⟩
/-! comprehensions -/
theorem k_lcL {g : TG} {te : TE} {vs : List Nat} {D : Addr} {Qd : Hp → Prop} (J : List α → Hp → Prop) (h0 : J xs (upd H D (.lst []))) (hl : ∀ r H, J r H → SqL K H a (xs.map f))
    (hs : ∀ x r H, J (x :: r) H → g (f x) (wipe σ vs) H fun σ2 H2 => wipe σ2 vs = wipe σ vs ∧ te σ2 H2 fun y H4 => ∃ acc, H4 D = some (.lst acc) ∧ acc.length < sizeLine ∧ J r (upd H4 D (.lst (acc ++ [y])))) (hd : ∀ H, J [] H → Qd H) :
    ∃ W : Nat → Nat → Hp → Prop, (∃ m, W 0 m (upd H D (.lst []))) ∧ ∀ i m H, W i m H →
      ((Itl K a).stop i H ∧ Qd H) ∨ ((Itl K a).go i H ∧ ∃ Nx : Hp → Prop, (∀ H', Nx H' → ∃ m', m' < m ∧ W (i + 1) m' H') ∧ ∀ x H', (Itl K a).yld i H x H' → g x (wipe σ vs) H' fun σ2 H2 => wipe σ2 vs = wipe σ vs ∧ tYes σ2 H2 fun b H3 =>
        if b = true then te σ2 H3 fun y H4 => ∃ acc, H4 D = some (.lst acc) ∧ acc.length < sizeLine ∧ Nx (upd H4 D (.lst (acc ++ [y]))) else Nx H3) := by
  refine lc_list (xs := xs.map f) (fun i H => J (xs.drop i) H) h0 (fun i H _ => hl _ H) (fun i x H hi hJ => ?_) fun H hJ => ?_
  · rw [List.getElem?_map] at hi
    cases e : xs[i]? with
    | none => rw [e] at hi; cases hi
    | some y =>
      rw [e] at hi
      cases hi
      have e2 : xs.drop i = y :: xs.drop (i + 1) := by
        obtain ⟨h1, h2⟩ := List.getElem?_eq_some_iff.mp e
        rw [← h2]
        exact List.drop_eq_getElem_cons h1
      rw [e2] at hJ
      exact hs y _ H hJ
  · rw [List.length_map, List.drop_length] at hJ
    exact hd H hJ
theorem k_lcR {lo : Int} {n : Nat} {g : TG} {te : TE} {vs : List Nat} {D : Addr} {Qd : Hp → Prop} (J : List Int → Hp → Prop) (h0 : J ((List.range n).map fun (i : Nat) => lo + (i : Int)) (upd H D (.lst [])))
    (hs : ∀ x r H, J (x :: r) H → g (.int x) (wipe σ vs) H fun σ2 H2 => wipe σ2 vs = wipe σ vs ∧ te σ2 H2 fun y H4 => ∃ acc, H4 D = some (.lst acc) ∧ acc.length < sizeLine ∧ J r (upd H4 D (.lst (acc ++ [y])))) (hd : ∀ H, J [] H → Qd H) :
    ∃ W : Nat → Nat → Hp → Prop, (∃ m, W 0 m (upd H D (.lst []))) ∧ ∀ i m H, W i m H →
      ((Itr lo n).stop i H ∧ Qd H) ∨ ((Itr lo n).go i H ∧ ∃ Nx : Hp → Prop, (∀ H', Nx H' → ∃ m', m' < m ∧ W (i + 1) m' H') ∧ ∀ x H', (Itr lo n).yld i H x H' → g x (wipe σ vs) H' fun σ2 H2 => wipe σ2 vs = wipe σ vs ∧ tYes σ2 H2 fun b H3 =>
        if b = true then te σ2 H3 fun y H4 => ∃ acc, H4 D = some (.lst acc) ∧ acc.length < sizeLine ∧ Nx (upd H4 D (.lst (acc ++ [y]))) else Nx H3) := by
  refine lc_range (fun i H => J (((List.range n).map fun (i : Nat) => lo + (i : Int)).drop i) H) h0 (fun i H hi hJ => ?_) fun H hJ => ?_
  · have e2 : ((List.range n).map fun (i : Nat) => lo + (i : Int)).drop i = (lo + (i : Int)) :: ((List.range n).map fun (i : Nat) => lo + (i : Int)).drop (i + 1) := by
      have h1 : i < ((List.range n).map fun (i : Nat) => lo + (i : Int)).length := by simpa using hi
      rw [List.drop_eq_getElem_cons h1]
      simp
    rw [e2] at hJ
    exact hs _ _ H hJ
  · have e : ((List.range n).map fun (i : Nat) => lo + (i : Int)).drop n = [] := List.drop_eq_nil_of_le (by simp)
    rw [e] at hJ
    exact hd H hJ
end
end Bt

set_option Elab.async false
set_option linter.all false
set_option maxRecDepth 100000
set_option maxHeartbeats 4000000
/-! More steps. -/
namespace Bt
open PySem L2
/-- a name of the module that holds a value -/
def Gv (mg : Str → Option Value) (x : Str) (v : V) : Prop := ∃ u, mg x = some u ∧ RelV v u
theorem pe_gv {X : Cx} {x : Str} {v : V} {pos : Pos} (hg : Gl X x) (h : Gv X.mg x v) (hd : (x == ("__debug__" : Str)) = false := by decide) : PE X (.Name x pos) (tC v) := by
  obtain ⟨u, h1, h2⟩ := h
  exact pe_glob hg h1 h2 hd
section
variable {α S T R' : Type}
theorem finNx {rest : S → Option R'} {s : S} {r : R'} (h : finK rest (.nx s) = some r) : rest s = some r := h
theorem floNx {rest : S → Option (Fl T R')} {s : S} {fl : Fl T R'} (h : floK rest (.nx s) = some fl) : rest s = some fl := h
end
section
variable {K : PySem.W.Frag} {σ : St} {H R : Hp} {L L' : List Cell} {Q : VK} {a b p : Addr} {α : Type} {f : α → V} {xs ys zs : List α}
/-- some of the cells, by their places -/
theorem Own.sel (O : Own R H L) (is : List Nat) (hd : is.Nodup) (e : is.map (fun i => L[i]?) = L'.map some) : Own R H L' := by
  have hm : ∀ c ∈ L', c ∈ L := fun c hc => by
    have h1 : some c ∈ is.map (fun i => L[i]?) := by rw [e]; exact List.mem_map_of_mem hc
    obtain ⟨i, _, h2⟩ := List.mem_map.mp h1
    exact List.mem_of_getElem? h2
  refine ⟨O.ex, fun c h => O.at_ c (hm c h), fun c h => O.fr c (hm c h), ?_⟩
  clear hm
  induction is generalizing L' with
  | nil =>
    cases L' with
    | nil => exact List.Pairwise.nil
    | cons c r => simp at e
  | cons i is ih =>
    cases L' with
    | nil => simp at e
    | cons c r =>
      simp only [List.map_cons, List.cons.injEq] at e
      obtain ⟨e1, e2⟩ := e
      obtain ⟨n1, n2⟩ := List.nodup_cons.mp hd
      refine List.nodup_cons.mpr ⟨fun m => ?_, ih n2 e2⟩
      obtain ⟨d, hdm, ed⟩ := List.mem_map.mp m
      have h1 : some d ∈ is.map (fun i => L[i]?) := by rw [e2]; exact List.mem_map_of_mem hdm
      obtain ⟨j, hj, h2⟩ := List.mem_map.mp h1
      have g1 : (L.map (·.1))[i]? = some c.1 := by rw [List.getElem?_map, e1]; rfl
      have g2 : (L.map (·.1))[j]? = some c.1 := by
        rw [List.getElem?_map, h2]
        exact congrArg some ed
      have : i = j := nd_ix O.nd g1 g2
      subst this
      exact n1 hj
theorem a_set {v v' : V} {nx : St → Hp → Prop} {i : Nat} (e : v = v') (k : nx (σ.set i (some v')) H) : nx (σ.set i (some v)) H := by rw [e]; exact k
theorem k_newM {zs : List V} (O : Own R H L) (e : xs.map f = zs) (k : ∀ p H', Own R H' ((p, .lst (xs.map f)) :: L) → Q (.ref p) H') : ∀ p, H p = none → Q (.ref p) (upd H p (.lst zs)) := by
  subst e
  exact fun p hp => k p _ (O.new hp)
theorem k_rep {k : Int} (O : Own R H L) (h1 : H a = some (.lst (xs.map f))) (h : repG xs k = some zs) (q : ∀ p H', Own R H' ((p, .lst (zs.map f)) :: L) → Q (.ref p) H') : rRep (.ref a) (.int k) H Q := by
  obtain ⟨⟨c1, c2, c3⟩, rfl⟩ := grdE h
  refine ⟨a, k, _, rfl, rfl, h1, c1, c2, by rw [List.length_map]; exact c3, fun p hp => ?_⟩
  have e : ∀ n : Nat, (List.replicate n (xs.map f)).flatten = (List.replicate n xs).flatten.map f := fun n => by
    induction n with
    | zero => rfl
    | succ n ih => rw [List.replicate_succ, List.flatten_cons, ih, List.replicate_succ, List.flatten_cons, List.map_append]
  first
    | (rw [e]; exact q p _ (O.new hp))
    | (show Q (.ref p) _; simpa only [e] using q p _ (O.new hp))
end
end Bt
namespace Bt
open PySem L2
/-! readings under a name of their own, so that what follows stands as an argument -/
@[irreducible] def rNewL (xs : List V) (H : Hp) (Q : VK) : Prop := xs.length ≤ sizeLine ∧ ∀ p, H p = none → Q (.ref p) (upd H p (.lst xs))
@[irreducible] def rNewT (xs : List V) (H : Hp) (Q : VK) : Prop := xs.length ≤ sizeLine ∧ ∀ p, H p = none → Q (.ref p) (upd H p (.tup xs))
@[irreducible] def rLenQ (K : PySem.W.Frag) (xs : List V) (H : Hp) (Q : VK) : Prop := ∃ p ys, xs = [V.ref p] ∧ (SqL K H p ys ∨ SqT K H p ys) ∧ Q (.int ys.length) H
@[irreducible] def rListQ (K : PySem.W.Frag) (xs : List V) (H : Hp) (Q : VK) : Prop := ∃ p ys, xs = [V.ref p] ∧ (SqL K H p ys ∨ SqT K H p ys) ∧ ∀ l, H l = none → Q (.ref l) (upd H l (.lst ys))
section
variable {X : Cx}
theorem pe_lstQ {es : List Expr} {t : TA} {pos : Pos} (h : PE X (.List es pos) (tLst t)) : PE X (.List es pos) (fun σ H Q => t σ H fun xs H1 => rNewL xs H1 Q) := by
  unfold rNewL
  exact h
theorem pe_tupQ {es : List Expr} {k : Nat} {t : TA} {pos : Pos} (h : PE X (.Tuple es k pos) (tTup t)) : PE X (.Tuple es k pos) (fun σ H Q => t σ H fun xs H1 => rNewT xs H1 Q) := by
  unfold rNewT
  exact h
theorem call_lenQ : CallR X (.builtin "len") (rLenQ X.K) := by
  have e : rLenQ X.K = fun xs H Q => ∃ p ys, xs = [V.ref p] ∧ (SqL X.K H p ys ∨ SqT X.K H p ys) ∧ Q (.int ys.length) H := by
    funext xs H Q
    unfold rLenQ
    rfl
  rw [e]
  exact call_len_seq
theorem call_listQ : CallR X (.type "list") (rListQ X.K) := by
  have e : rListQ X.K = fun xs H Q => ∃ p ys, xs = [V.ref p] ∧ (SqL X.K H p ys ∨ SqT X.K H p ys) ∧ ∀ l, H l = none → Q (.ref l) (upd H l (.lst ys)) := by
    funext xs H Q
    unfold rListQ
    rfl
  rw [e]
  exact call_list_of
end
section
variable {K : PySem.W.Frag} {σ : St} {H R : Hp} {L L' : List Cell} {Q : VK} {a b p : Addr} {α : Type} {f : α → V} {xs ys zs : List α}
theorem x_nil {QA : List V → Hp → Prop} (h : QA [] H) : tNil σ H QA := h
theorem x_np {QO : Option Int → Hp → Prop} (h : QO none H) : tNoPart σ H QO := h
theorem n_lst {zs : List V} (O : Own R H L) (e : xs.map f = zs) (hz : zs.length ≤ sizeLine) (k : ∀ p H', Own R H' ((p, .lst (xs.map f)) :: L) → Q (.ref p) H') : rNewL zs H Q := by
  subst e
  unfold rNewL
  exact ⟨hz, fun p hp => k p _ (O.new hp)⟩
theorem n_lenT {K : PySem.W.Frag} {H : Hp} {Q : VK} {a : Addr} {ys : List V} {n : Nat} (hs : SqT K H a ys) (hn : ys.length = n) (q : Q (.int (n : Int)) H) : rLenQ K [.ref a] H Q := by
  unfold rLenQ
  exact ⟨a, ys, rfl, .inr hs, by rw [hn]; exact q⟩
theorem n_len (h : SqL K H a (xs.map f)) (k : Q (.int (xs.length : Int)) H) : rLenQ K [.ref a] H Q := by
  unfold rLenQ
  exact ⟨a, _, rfl, .inl h, by rw [List.length_map]; exact k⟩
theorem n_list {ys : List V} (O : Own R H L) (h : SqL K H a ys) (k : ∀ p H', Own R H' ((p, .lst ys) :: L) → Q (.ref p) H') : rListQ K [.ref a] H Q := by
  unfold rListQ
  exact ⟨a, _, rfl, .inl h, fun l hl => k l _ (O.new hl)⟩
theorem rng1E {j : Int} {xs : List Int} (h : rng1 j = some xs) : -(2 ^ 62) ≤ j ∧ j < 2 ^ 62 ∧ ((List.range j.toNat).map fun (i : Nat) => (0 : Int) + (i : Int)) = xs := by
  obtain ⟨⟨c1, c2⟩, rfl⟩ := grdE h
  exact ⟨c1, c2, by unfold rangeI; rw [Int.sub_zero]⟩
theorem rng2E {i j : Int} {xs : List Int} (h : rng2 i j = some xs) : (-(2 ^ 62) ≤ i ∧ i < 2 ^ 62 ∧ -(2 ^ 62) ≤ j ∧ j < 2 ^ 62) ∧ ((List.range (j - i).toNat).map fun (n : Nat) => i + (n : Int)) = xs := by
  obtain ⟨c, rfl⟩ := grdE h
  exact ⟨c, rfl⟩
end
end Bt
namespace Bt
open PySem L2
/-! a reading opened by one step, by its head -/
section
variable {K : PySem.W.Frag} {σ : St} {H : Hp} {Q : VK} {D : Ends} {t u ts : TS} {te ta tb tl : TE} {tr : TA} {c : TT} {v : V} {i : Nat} {r : R2} {QB : Bool → Hp → Prop} {QA : List V → Hp → Prop} {QO : Option Int → Hp → Prop} {R : It → Hp → Prop}
theorem o_seq {n b k : St → Hp → Prop} {w : VK} (h : t (Ends.mk (u (Ends.mk n w b k)) w b k) σ H) : tSeq t u (Ends.mk n w b k) σ H := h
theorem o_asg {n b k : St → Hp → Prop} {w : VK} (h : te σ H fun x H1 => n (σ.set i (some x)) H1) : tAsg te (gName i) (Ends.mk n w b k) σ H := h
theorem o_drop {n b k : St → Hp → Prop} {w : VK} (h : te σ H fun _ H1 => n σ H1) : tDrop te (Ends.mk n w b k) σ H := h
theorem o_ret {n b k : St → Hp → Prop} {w : VK} (h : te σ H w) : tRet te (Ends.mk n w b k) σ H := h
theorem o_ifs {n b k : St → Hp → Prop} {w : VK} (h : c σ H fun z H1 => if z = true then t (Ends.mk n w b k) σ H1 else u (Ends.mk n w b k) σ H1) : tIfS c t u (Ends.mk n w b k) σ H := h
theorem o_next {n b k : St → Hp → Prop} {w : VK} (h : n σ H) : tNext (Ends.mk n w b k) σ H := h
theorem o_brk {n b k : St → Hp → Prop} {w : VK} (h : b σ H) : tBreak (Ends.mk n w b k) σ H := h
theorem o_cont {n b k : St → Hp → Prop} {w : VK} (h : k σ H) : tCont (Ends.mk n w b k) σ H := h
theorem o_retN {n b k : St → Hp → Prop} {w : VK} (h : w .non H) : tRetN (Ends.mk n w b k) σ H := h
theorem o_cut {n b k : St → Hp → Prop} {w : VK} (Mid : St → Hp → Prop) (h1 : t (Ends.mk Mid w b k) σ H) (h2 : ∀ σ' H', Mid σ' H' → u (Ends.mk n w b k) σ' H') : Evl.tCut t u (Ends.mk n w b k) σ H := ⟨Mid, h1, h2⟩
theorem o_op (h : ta σ H fun x H1 => tb σ H1 fun y H2 => r x y H2 Q) : tOp r ta tb σ H Q := h
theorem o_un {r : V → Hp → VK → Prop} (h : ta σ H fun x H1 => r x H1 Q) : tUn r ta σ H Q := h
theorem o_c (h : Q v H) : tC v σ H Q := h
theorem o_test (h : te σ H fun x H' => ∃ k, x = .bl k ∧ QB k H') : tTest te σ H QB := h
theorem o_B (h : te σ H fun x H' => ∃ k, x = .bl k ∧ QB k H') : tB te σ H QB := h
theorem o_not (h : c σ H fun b H1 => QB (!b) H1) : tNot c σ H QB := h
theorem o_notV (h : te σ H fun x H1 => ∃ c, x = .bl c ∧ Q (.bl (!c)) H1) : tNotV te σ H Q := h
theorem o_cons (h : ta σ H fun x H1 => tr σ H1 fun xs H2 => QA (x :: xs) H2) : tCons ta tr σ H QA := h
theorem o_cb {r : List V → Hp → VK → Prop} (h : tr σ H fun vs H1 => r vs H1 Q) : tCB r tr σ H Q := h
theorem o_call {sp : Sp} {dvs : List V} {E : XK} (h : tr σ H fun vs H1 => sp (vs ++ dvs) H1 Q E) : tCall sp dvs E tr σ H Q := h
theorem o_bm {T : String} {r : V → List V → Hp → VK → Prop} (h : te σ H fun x H1 => tyV K T x H1 ∧ tr σ H1 fun xs H2 => r x xs H2 Q) : tBM K T r te tr σ H Q := h
theorem o_bm0 {T : String} {r : V → List V → Hp → VK → Prop} (h : te σ H fun x H1 => tyV K T x H1 ∧ r x [] H1 Q) : tBM0 K T r te σ H Q := h
theorem o_sl {r : V → Option Int → Option Int → Hp → VK → Prop} {t1 t2 : TO} (h : te σ H fun x H1 => t1 σ H1 fun l H2 => t2 σ H2 fun u H3 => r x l u H3 Q) : tSl r te t1 t2 σ H Q := h
theorem o_part (h : te σ H fun x H1 => ∃ i, x = .int i ∧ QO (some i) H1) : tPart te σ H QO := h
theorem o_for {wi : TI} {g : TG} {n b k : St → Hp → Prop} {w : VK} (h : wi σ H fun J H1 => ∃ W : Nat → Nat → St → Hp → Prop, (∃ m, W 0 m σ H1) ∧ ∀ i m σ H, W i m σ H →
    (J.stop i H ∧ n σ H) ∨ (J.go i H ∧ ∃ N : St → Hp → Prop, (∀ σ' H', N σ' H' → ∃ m', m' < m ∧ W (i + 1) m' σ' H') ∧ ∀ x H', J.yld i H x H' → g x σ H' fun σ2 H2 => ts (Ends.mk N w n N) σ2 H2)) : tFor wi g ts (Ends.mk n w b k) σ H := h
theorem o_il (h : tl σ H fun x H1 => ∃ a, x = .ref a ∧ (∃ xs, SqL K H1 a xs) ∧ R (Itl K a) H1) : iList K tl σ H R := h
theorem o_ir1 (h : tr σ H fun vs H1 => ∃ j : Int, vs = [.int j] ∧ -(2 ^ 62) ≤ j ∧ j < 2 ^ 62 ∧ R (Itr 0 j.toNat) H1) : iRng1 tr σ H R := h
theorem o_ir2 (h : tr σ H fun vs H1 => ∃ i j : Int, vs = [.int i, .int j] ∧ (-(2 ^ 62) ≤ i ∧ i < 2 ^ 62 ∧ -(2 ^ 62) ≤ j ∧ j < 2 ^ 62) ∧ R (Itr i (j - i).toNat) H1) : iRng2 tr σ H R := h
theorem o_sub {to ti : TE} {tset : TSet} {n b k : St → Hp → Prop} {w : VK} (h : te σ H fun x H1 => to σ H1 fun o H2 => ti σ H2 fun i H3 => tset o i x H3 fun H4 => n σ H4) : tAsg te (gSub to ti tset) (Ends.mk n w b k) σ H := h
/-! the loops once more, their ends apart -/
variable {α : Type} {f : α → V} {xs : List α} {a : Addr} {g : TG} {n b k : St → Hp → Prop} {w : VK}
theorem q_forL {j : Nat} (J : List α → St → Hp → Prop) (h0 : J xs σ H) (hl : ∀ r σ H, J r σ H → SqL K H a (xs.map f))
    (hs : ∀ x r σ H, J (x :: r) σ H → ts (Ends.mk (J r) w n (J r)) (σ.set j (some (f x))) H) (hd : ∀ σ H, J [] σ H → n σ H) :
    ∃ W : Nat → Nat → St → Hp → Prop, (∃ m, W 0 m σ H) ∧ ∀ i m σ H, W i m σ H →
      ((Itl K a).stop i H ∧ n σ H) ∨ ((Itl K a).go i H ∧ ∃ N : St → Hp → Prop, (∀ σ' H', N σ' H' → ∃ m', m' < m ∧ W (i + 1) m' σ' H') ∧ ∀ x H', (Itl K a).yld i H x H' → gName j x σ H' fun σ2 H2 => ts (Ends.mk N w n N) σ2 H2) :=
  k_forL (D := Ends.mk n w (fun _ _ => False) fun _ _ => False) (g := gName j) (tb := ts) J h0 hl hs hd
theorem q_forR {j : Nat} {lo : Int} {m : Nat} (J : List Int → St → Hp → Prop) (h0 : J ((List.range m).map fun (i : Nat) => lo + (i : Int)) σ H)
    (hs : ∀ x r σ H, J (x :: r) σ H → ts (Ends.mk (J r) w n (J r)) (σ.set j (some (.int x))) H) (hd : ∀ σ H, J [] σ H → n σ H) :
    ∃ W : Nat → Nat → St → Hp → Prop, (∃ m, W 0 m σ H) ∧ ∀ i m' σ H, W i m' σ H →
      ((Itr lo m).stop i H ∧ n σ H) ∨ ((Itr lo m).go i H ∧ ∃ N : St → Hp → Prop, (∀ σ' H', N σ' H' → ∃ m'', m'' < m' ∧ W (i + 1) m'' σ' H') ∧ ∀ x H', (Itr lo m).yld i H x H' → gName j x σ H' fun σ2 H2 => ts (Ends.mk N w n N) σ2 H2) :=
  k_forR (D := Ends.mk n w (fun _ _ => False) fun _ _ => False) (g := gName j) (tb := ts) J h0 hs hd
end
end Bt
namespace Bt
open PySem L2
/-! what the head tells of a def -/
theorem def_mk {K : PySem.W.Frag} {h : Heap} {mg : Str → Option Value} {name qual : Str} {st : Stmt} {f : Addr} {od an : Option Addr} {sl : Array (Option Value)} {oc kV dc pm cd ct : Value} (X : K.In h) (G : h.Ns mainGlobals mg)
    (a : PySem.W.nsIn K mainGlobals name = some (some (.ref f))) (l : K.lookup f = some ⟨oc, od, .func (PySem.W.fnOf name qual (defArgs st) (defBody st) (defScope st) .none kV dc pm an cd ct), sl⟩) (c : PySem.W.codeIn K cd qual = true) (k : PySem.W.keepIn K (.ref f) = true) :
    ∃ f fd, Fun K name qual st f fd ∧ mg name = some (.ref f) := ⟨f, _, fun_mk l c k, PySem.W.mg_of X G a⟩
theorem gv_int {K : PySem.W.Frag} {h : Heap} {mg : Str → Option Value} {x : Str} {i : Int} {t : Tok} (X : K.In h) (G : h.Ns mainGlobals mg) (a : PySem.W.nsIn K mainGlobals x = some (some (.int i t))) : Gv mg x (.int i) := ⟨_, PySem.W.mg_of X G a, _, rfl⟩
end Bt
namespace Bt
open PySem L2
section
variable {K : PySem.W.Frag} {σ : St} {H R : Hp} {L : List Cell} {Q : VK} {a p : Addr} {i : Int} {x v : V} {S R' : Type}
def FUEL : Nat := 100000
theorem whileM_end {c : Bool} {s out : S} {f : Option S} (h : ifB c f (some s) = some out) (hc : c = false) : out = s := (Option.some.inj (ifF h hc)).symm
theorem whileF_end {c : Bool} {s : S} {out : Fl S R'} {f : Option (Fl S R')} (h : ifB c f (some (.nx s)) = some out) (hc : c = false) : Fl.nx s = out := Option.some.inj (ifF h hc)
/-- while: J, by the turns that the mirror still has -/
theorem q_while {tc : TT} {ts : TS} {n b k : St → Hp → Prop} {w : VK} (J : Nat → St → Hp → Prop) (m : Nat) (h0 : J m σ H) (hz : ∀ σ H, J 0 σ H → False)
    (hs : ∀ m σ H, J (m + 1) σ H → tc σ H fun z H1 => if z = true then ts (Ends.mk (J m) w n (J m)) σ H1 else n σ H1) (mono : ∀ σ H (Q Q' : Bool → Hp → Prop), (∀ z H1, Q z H1 → Q' z H1) → tc σ H Q → tc σ H Q') : tWhile tc ts (Ends.mk n w b k) σ H := by
  refine ⟨J, ⟨m, h0⟩, fun m σ H hJ => ?_⟩
  cases m with
  | zero => exact (hz σ H hJ).elim
  | succ m =>
    refine mono σ H _ _ (fun z H1 q => ?_) (hs m σ H hJ)
    cases z with
    | true =>
      rw [if_pos rfl] at q ⊢
      exact ⟨J m, fun σ' H' hJ' => ⟨m, Nat.lt_succ_self m, hJ'⟩, q⟩
    | false =>
      rw [if_neg Bool.false_ne_true] at q ⊢
      exact q
theorem o_while {tc : TT} {ts : TS} {n b k : St → Hp → Prop} {w : VK} (J : Nat → St → Hp → Prop) (m : Nat) (h0 : J m σ H) (hz : ∀ σ H, J 0 σ H → False)
    (hs : ∀ m σ H, J (m + 1) σ H → tc σ H fun z H1 => if z = true then ∃ N : St → Hp → Prop, (∀ σ' H', N σ' H' → ∃ m', m' < m + 1 ∧ J m' σ' H') ∧ ts (Ends.mk N w n N) σ H1 else n σ H1) : tWhile tc ts (Ends.mk n w b k) σ H := by
  refine ⟨J, ⟨m, h0⟩, fun m σ H hJ => ?_⟩
  cases m with
  | zero => exact (hz σ H hJ).elim
  | succ m => exact hs m σ H hJ
theorem o_turn {J : Nat → St → Hp → Prop} {m : Nat} {ts : TS} {n : St → Hp → Prop} {w : VK} (h : ts (Ends.mk (J m) w n (J m)) σ H) :
    ∃ N : St → Hp → Prop, (∀ σ' H', N σ' H' → ∃ m', m' < m + 1 ∧ J m' σ' H') ∧ ts (Ends.mk N w n N) σ H := ⟨J m, fun _ _ hJ => ⟨m, Nat.lt_succ_self m, hJ⟩, h⟩
theorem n_tup {zs : List V} (O : Own R H L) (hz : zs.length ≤ sizeLine) (k : ∀ p H', Own R H' ((p, .tup zs) :: L) → Q (.ref p) H') : rNewT zs H Q := by
  unfold rNewT
  exact ⟨hz, fun p hp => k p _ (O.new hp)⟩
theorem k_ixT {xs : List V} (hs : SqT K H a xs) (h : atI xs i = some v) (k : Q v H) : rIxT K (.ref a) (.int i) H Q := ⟨a, xs, i, v, rfl, rfl, hs, h, k⟩
end
end Bt
namespace Bt
open PySem L2
section
variable {K : PySem.W.Frag} {σ : St} {H R : Hp} {L : List Cell} {Q : VK} {a p : Addr} {i : Int} {x v : V} {α : Type} {f : α → V} {xs : List α}
theorem inV_int (i : Int) : ∀ xs : List Int, inV (.int i) (xs.map V.int) = decide (i ∈ xs)
  | [] => rfl
  | y :: r => by
    have ih := inV_int i r
    have e : inV (.int i) ((y :: r).map V.int) = (eqV (.int y) (.int i) || inV (.int i) (r.map V.int)) := rfl
    rw [e, ih]
    have e2 : eqV (.int y) (.int i) = decide (i = y) := by
      by_cases h : i = y
      · subst h; simp [eqV]
      · have : ¬ y = i := fun q => h q.symm
        simp [eqV, h, this]
    rw [e2]
    simp
theorem flat_int : ∀ xs : List Int, (xs.map V.int).all flatV = true
  | [] => rfl
  | y :: r => by
    have ih := flat_int r
    show (flatV (.int y) && (r.map V.int).all flatV) = true
    rw [ih]
    rfl
theorem k_inL {ns : List Int} (hs : SqL K H a (ns.map V.int)) (k : Q (.bl (decide (i ∈ ns))) H) : rIn K false (.int i) (.ref a) H Q :=
  ⟨a, _, rfl, .inl hs, rfl, flat_int _, by rw [inV_int]; exact k⟩
theorem k_niL {ns : List Int} (hs : SqL K H a (ns.map V.int)) (k : Q (.bl (!decide (i ∈ ns))) H) : rIn K true (.int i) (.ref a) H Q :=
  ⟨a, _, rfl, .inl hs, rfl, flat_int _, by rw [inV_int]; exact k⟩
theorem k_inT {ns : List Int} (hs : SqT K H a (ns.map V.int)) (k : Q (.bl (decide (i ∈ ns))) H) : rIn K false (.int i) (.ref a) H Q :=
  ⟨a, _, rfl, .inr hs, rfl, flat_int _, by rw [inV_int]; exact k⟩
theorem k_niT {ns : List Int} (hs : SqT K H a (ns.map V.int)) (k : Q (.bl (!decide (i ∈ ns))) H) : rIn K true (.int i) (.ref a) H Q :=
  ⟨a, _, rfl, .inr hs, rfl, flat_int _, by rw [inV_int]; exact k⟩
/-! comprehensions with a test -/
theorem k_lcLt {g : TG} {tt : TT} {te : TE} {vs : List Nat} {D : Addr} {Qd : Hp → Prop} (J : List α → Hp → Prop) (h0 : J xs (upd H D (.lst []))) (hl : ∀ r H, J r H → SqL K H a (xs.map f))
    (hs : ∀ x r H, J (x :: r) H → g (f x) (wipe σ vs) H fun σ2 H2 => wipe σ2 vs = wipe σ vs ∧ tt σ2 H2 fun b H3 => if b = true then te σ2 H3 fun y H4 => ∃ acc, H4 D = some (.lst acc) ∧ acc.length < sizeLine ∧ J r (upd H4 D (.lst (acc ++ [y]))) else J r H3) (hd : ∀ H, J [] H → Qd H) :
    ∃ W : Nat → Nat → Hp → Prop, (∃ m, W 0 m (upd H D (.lst []))) ∧ ∀ i m H, W i m H →
      ((Itl K a).stop i H ∧ Qd H) ∨ ((Itl K a).go i H ∧ ∃ Nx : Hp → Prop, (∀ H', Nx H' → ∃ m', m' < m ∧ W (i + 1) m' H') ∧ ∀ x H', (Itl K a).yld i H x H' → g x (wipe σ vs) H' fun σ2 H2 => wipe σ2 vs = wipe σ vs ∧ tt σ2 H2 fun b H3 =>
        if b = true then te σ2 H3 fun y H4 => ∃ acc, H4 D = some (.lst acc) ∧ acc.length < sizeLine ∧ Nx (upd H4 D (.lst (acc ++ [y]))) else Nx H3) := by
  refine lc_list (xs := xs.map f) (fun i H => J (xs.drop i) H) h0 (fun i H _ => hl _ H) (fun i x H hi hJ => ?_) fun H hJ => ?_
  · rw [List.getElem?_map] at hi
    cases e : xs[i]? with
    | none => rw [e] at hi; cases hi
    | some y =>
      rw [e] at hi
      cases hi
      have e2 : xs.drop i = y :: xs.drop (i + 1) := by
        obtain ⟨h1, h2⟩ := List.getElem?_eq_some_iff.mp e
        rw [← h2]
        exact List.drop_eq_getElem_cons h1
      rw [e2] at hJ
      exact hs y _ H hJ
  · rw [List.length_map, List.drop_length] at hJ
    exact hd H hJ
theorem k_lcRt {lo : Int} {n : Nat} {g : TG} {tt : TT} {te : TE} {vs : List Nat} {D : Addr} {Qd : Hp → Prop} (J : List Int → Hp → Prop) (h0 : J ((List.range n).map fun (i : Nat) => lo + (i : Int)) (upd H D (.lst [])))
    (hs : ∀ x r H, J (x :: r) H → g (.int x) (wipe σ vs) H fun σ2 H2 => wipe σ2 vs = wipe σ vs ∧ tt σ2 H2 fun b H3 => if b = true then te σ2 H3 fun y H4 => ∃ acc, H4 D = some (.lst acc) ∧ acc.length < sizeLine ∧ J r (upd H4 D (.lst (acc ++ [y]))) else J r H3) (hd : ∀ H, J [] H → Qd H) :
    ∃ W : Nat → Nat → Hp → Prop, (∃ m, W 0 m (upd H D (.lst []))) ∧ ∀ i m H, W i m H →
      ((Itr lo n).stop i H ∧ Qd H) ∨ ((Itr lo n).go i H ∧ ∃ Nx : Hp → Prop, (∀ H', Nx H' → ∃ m', m' < m ∧ W (i + 1) m' H') ∧ ∀ x H', (Itr lo n).yld i H x H' → g x (wipe σ vs) H' fun σ2 H2 => wipe σ2 vs = wipe σ vs ∧ tt σ2 H2 fun b H3 =>
        if b = true then te σ2 H3 fun y H4 => ∃ acc, H4 D = some (.lst acc) ∧ acc.length < sizeLine ∧ Nx (upd H4 D (.lst (acc ++ [y]))) else Nx H3) := by
  refine lc_range (fun i H => J (((List.range n).map fun (i : Nat) => lo + (i : Int)).drop i) H) h0 (fun i H hi hJ => ?_) fun H hJ => ?_
  · have e2 : ((List.range n).map fun (i : Nat) => lo + (i : Int)).drop i = (lo + (i : Int)) :: ((List.range n).map fun (i : Nat) => lo + (i : Int)).drop (i + 1) := by
      have h1 : i < ((List.range n).map fun (i : Nat) => lo + (i : Int)).length := by simpa using hi
      rw [List.drop_eq_getElem_cons h1]
      simp
    rw [e2] at hJ
    exact hs _ _ H hJ
  · have e : ((List.range n).map fun (i : Nat) => lo + (i : Int)).drop n = [] := List.drop_eq_nil_of_le (by simp)
    rw [e] at hJ
    exact hd H hJ
/-! for i, x in enumerate(xs) -/
def enumI {α : Type} : Nat → List α → List (Int × α)
  | _, [] => []
  | n, x :: r => ((n : Int), x) :: enumI (n + 1) r
theorem enumI_drop {α : Type} : ∀ (xs : List α) (n i : Nat) (x : α), xs[i]? = some x → (enumI n xs).drop i = (((n + i : Nat) : Int), x) :: (enumI n xs).drop (i + 1)
  | [], _, _, _, h => by simp at h
  | y :: r, n, 0, x, h => by
    cases (Option.some.inj h)
    rfl
  | y :: r, n, i + 1, x, h => by
    have ih := enumI_drop r (n + 1) i x (by simpa using h)
    show (enumI (n + 1) r).drop i = _ :: (enumI (n + 1) r).drop (i + 1)
    rw [ih]
    have : n + 1 + i = n + (i + 1) := by omega
    rw [this]
theorem enumI_len {α : Type} : ∀ (xs : List α) (n : Nat), (enumI n xs).length = xs.length
  | [], _ => rfl
  | x :: r, n => by show (enumI (n + 1) r).length + 1 = r.length + 1; rw [enumI_len r]
theorem q_forE {i1 i2 : Nat} {ts : TS} {n b k : St → Hp → Prop} {w : VK} {KK : PySem.W.Frag} (J : List (Int × α) → St → Hp → Prop) (h0 : J (enumI 0 xs) σ H) (hl : ∀ r σ H, J r σ H → SqL K H a (xs.map f)) (hx : ∀ r σ H H', J r σ H → Ex H H' → J r σ H')
    (hs : ∀ j x r σ H, J ((j, x) :: r) σ H → ts (Ends.mk (J r) w n (J r)) ((σ.set i1 (some (.int j))).set i2 (some (f x))) H) (hd : ∀ σ H, J [] σ H → n σ H) :
    ∃ W : Nat → Nat → St → Hp → Prop, (∃ m, W 0 m σ H) ∧ ∀ i m σ H, W i m σ H →
      ((Ite K a).stop i H ∧ n σ H) ∨ ((Ite K a).go i H ∧ ∃ N : St → Hp → Prop, (∀ σ' H', N σ' H' → ∃ m', m' < m ∧ W (i + 1) m' σ' H') ∧ ∀ x H', (Ite K a).yld i H x H' → gTup KK 2 (gCons (gName i1) (gCons (gName i2) gNil)) x σ H' fun σ2 H2 => ts (Ends.mk N w n N) σ2 H2) := by
  refine ⟨fun i m σ H => m = xs.length - i ∧ i ≤ xs.length ∧ J ((enumI 0 xs).drop i) σ H, ⟨xs.length, by simp, Nat.zero_le _, h0⟩, ?_⟩
  rintro i m σ H ⟨rfl, hi, hJ⟩
  have hS := hl _ σ H hJ
  by_cases hlt : i < xs.length
  · have e : xs[i]? = some xs[i] := List.getElem?_eq_getElem hlt
    have e1 : (xs.map f)[i]? = some (f xs[i]) := by rw [List.getElem?_map, e]; rfl
    have e2 := enumI_drop xs 0 i xs[i] e
    rw [e2] at hJ
    refine .inr ⟨⟨_, _, hS, e1⟩, J ((enumI 0 xs).drop (i + 1)), fun σ' H' hJ' => ⟨_, by omega, rfl, hlt, hJ'⟩, fun y H' hy => ?_⟩
    obtain ⟨T, x, rfl, hT, rfl, hq⟩ := hy
    have hxx := hq _ hS
    rw [e1] at hxx
    cases hxx
    refine ⟨T, _, rfl, SqT.of upd_same, rfl, _, _, rfl, _, _, rfl, rfl, ?_⟩
    have hJ2 := hx _ _ _ (upd H T (.tup [.int ((i : Nat) : Int), f xs[i]])) hJ (Ex.new hT)
    have e3 : ((0 + i : Nat) : Int) = (i : Int) := by omega
    rw [e3] at hJ2
    exact hs _ _ _ _ _ hJ2
  · have e : (enumI 0 xs).drop i = [] := List.drop_eq_nil_of_le (by rw [enumI_len]; omega)
    rw [e] at hJ
    exact .inl ⟨⟨_, hS, by rw [List.length_map]; omega⟩, hd σ H hJ⟩
end
end Bt
namespace Bt
open PySem L2
/-! what is refused -/
inductive Er where
  | NoBits | NoName | NoKey | NoFrame | NoPost | NoThing | NoStrip | NoRail
  | NoWire (i : Int) | NoRow (i : Int)
  deriving DecidableEq
structure Eds where
  NoBits : Addr
  NoName : Addr
  NoKey : Addr
  NoFrame : Addr
  NoPost : Addr
  NoThing : Addr
  NoStrip : Addr
  NoRail : Addr
  NoWire : Addr
  NoRow : Addr
  RailError : Addr
def Eds.of (d : Eds) : Er → Addr
  | .NoBits => d.NoBits
  | .NoName => d.NoName
  | .NoKey => d.NoKey
  | .NoFrame => d.NoFrame
  | .NoPost => d.NoPost
  | .NoThing => d.NoThing
  | .NoStrip => d.NoStrip
  | .NoRail => d.NoRail
  | .NoWire _ => d.NoWire
  | .NoRow _ => d.NoRow
inductive Rs (R : Type) where
  | ok (r : R)
  | er (e : Er)
def RetE (d : Eds) (e : Er) (H : Hp) (E : XK) : Prop := match e with
  | .NoWire i => ∀ H' a, H a = none → Ex H H' → H' a = some (.xd [(("at" : Str), .int i)]) → E (.ref d.NoWire) (some a) H'
  | .NoRow i => ∀ H' a, H a = none → Ex H H' → H' a = some (.xd [(("word" : Str), .int i)]) → E (.ref d.NoRow) (some a) H'
  | e => ∀ H', Ex H H' → E (.ref (d.of e)) none H'
def RetR {R : Type} (P : R → Prop) (d : Eds) (r : Rs R) (H : Hp) (E : XK) : Prop := match r with
  | .ok r => P r
  | .er e => RetE d e H E
section
variable {α β S R' : Type} {d : Eds} {H H0 : Hp} {E : XK} {L : List Cell}
theorem RetE.go {e : Er} (k : RetE d e H0 E) (O : Own H0 H L) : RetE d e H E := by
  cases e <;> first
    | exact fun H' h => k H' (O.ex.trans h)
    | exact fun H' a ha h => k H' a (O.ex.back ha) (O.ex.trans h)
theorem RetR.ok {P : α → Prop} {y : α} (h : P y) : RetR P d (.ok y) H E := h
theorem RetR.split {P : α → Prop} {x : Rs α} (h2 : ∀ e, x = .er e → RetE d e H E) (h1 : ∀ y, x = .ok y → P y) : RetR P d x H E := by
  cases x with
  | ok y => exact h1 y rfl
  | er e => exact h2 e rfl
def contR (f : α → Option (Rs β)) : Rs α → Option (Rs β)
  | .ok x => f x
  | .er e => some (.er e)
def bndR (a : Option (Rs α)) (f : α → Option (Rs β)) : Option (Rs β) := bnd a (contR f)
def contRF (f : α → Option (Fl S (Rs β))) : Rs α → Option (Fl S (Rs β))
  | .ok x => f x
  | .er e => some (.rt (.er e))
def bndRF (a : Option (Rs α)) (f : α → Option (Fl S (Rs β))) : Option (Fl S (Rs β)) := bnd a (contRF f)
def contO (f : α → Option β) : Rs α → Option β
  | .ok x => f x
  | .er _ => none
def bndO (a : Option (Rs α)) (f : α → Option β) : Option β := bnd a (contO f)
theorem bndRE {a : Option (Rs α)} {f : α → Option (Rs β)} {r : Rs β} (h : bndR a f = some r) : ∃ x, a = some x ∧ contR f x = some r := bndE h
theorem bndRFE {a : Option (Rs α)} {f : α → Option (Fl S (Rs β))} {r : Fl S (Rs β)} (h : bndRF a f = some r) : ∃ x, a = some x ∧ contRF f x = some r := bndE h
theorem okR {f : α → Option (Rs β)} {y : α} {r : Rs β} (h : contR f (.ok y) = some r) : f y = some r := h
theorem okRF {f : α → Option (Fl S (Rs β))} {y : α} {r : Fl S (Rs β)} (h : contRF f (.ok y) = some r) : f y = some r := h
theorem erR {f : α → Option (Rs β)} {e : Er} {r : Rs β} (h : contR f (.er e) = some r) : Rs.er e = r := Option.some.inj h
theorem erRF {f : α → Option (Fl S (Rs β))} {e : Er} {r : Fl S (Rs β)} (h : contRF f (.er e) = some r) : Fl.rt (Rs.er e) = r := Option.some.inj h
theorem bndOE {a : Option (Rs α)} {f : α → Option β} {r : β} (h : bndO a f = some r) : ∃ y, a = some (.ok y) ∧ f y = some r := by
  obtain ⟨x, h1, h2⟩ := bndE h
  cases x with
  | ok y => exact ⟨y, h1, h2⟩
  | er e => cases h2
end
/-- a class of refusals, as the top has made it -/
structure ErrC (K : PySem.W.Frag) (mg : Str → Option Value) (x : Str) (C : Addr) : Prop where
  g : mg x = some (.ref C)
  ex : PySem.W.excIn K C [.type "ValueError", .type "Exception", .type "BaseException", .type "object"] "ValueError.__new__" = true
  kp : PySem.W.keepIn K (.ref C) = true
  b : PySem.W.subIn K (.ref C) (.type "BaseException") = some true
  t : PySem.W.typeIn K (.ref C) = some (.type "type")
theorem ps_err {X : Cx} {W : WX} {x m : Str} {j : Nat} {p p2 pos pos' : Pos} {C : Addr} (e : ErrC X.K X.mg x C) (tk : Takes X W) (hc : X.calm = true) (hg : Gl X x) (hdb : (x == ("__debug__" : Str)) = false := by decide) :
    PS X (.Raise (some (.Call (.Name x p) [.Constant (.str m) j p2] [] pos)) none pos') (fun _ σ H => W (.ref C) none σ H) :=
  ps_raise hc tk (pmk_own PySem.F.excBase_ValueError e.ex e.g e.kp (raises_own e.b e.t) hg hdb)
end Bt
namespace Bt
open PySem L2
theorem err_mk {K : PySem.W.Frag} {h : Heap} {mg : Str → Option Value} {x : Str} {C : Addr} (X : K.In h) (G : h.Ns mainGlobals mg) (a : PySem.W.nsIn K mainGlobals x = some (some (.ref C)))
    (e : PySem.W.excIn K C [.type "ValueError", .type "Exception", .type "BaseException", .type "object"] "ValueError.__new__" = true) (k : PySem.W.keepIn K (.ref C) = true) (b : PySem.W.subIn K (.ref C) (.type "BaseException") = some true) (t : PySem.W.typeIn K (.ref C) = some (.type "type")) :
    ∃ C, ErrC K mg x C := ⟨C, PySem.W.mg_of X G a, e, k, b, t⟩
end Bt
namespace Bt
open PySem L2
inductive Ek where
  | NoBits | NoName | NoKey | NoFrame | NoPost | NoThing | NoStrip | NoRail | NoWire | NoRow
  deriving DecidableEq
def Er.k : Er → Ek
  | .NoBits => .NoBits
  | .NoName => .NoName
  | .NoKey => .NoKey
  | .NoFrame => .NoFrame
  | .NoPost => .NoPost
  | .NoThing => .NoThing
  | .NoStrip => .NoStrip
  | .NoRail => .NoRail
  | .NoWire _ => .NoWire
  | .NoRow _ => .NoRow
def tryR {α β : Type} (x : Rs α) (f : α → β) (g : Er → β) : β := match x with
  | .ok y => f y
  | .er e => g e
theorem tryOk {α β : Type} {y : α} {f : α → β} {g : Er → β} {r : β} (h : tryR (.ok y) f g = r) : f y = r := h
theorem tryEr {α β : Type} {e : Er} {f : α → β} {g : Er → β} {r : β} (h : tryR (.er e) f g = r) : g e = r := h
theorem exm_mk {K : PySem.W.Frag} {C S : Addr} {r : Bool} (h1 : PySem.W.subIn K (.ref S) (.type "BaseException") = some true) (h2 : (PySem.W.clsIn K S).isSome = true) (h3 : PySem.W.typeIn K (.ref S) = some (.type "type")) (h4 : PySem.W.subIn K (.ref C) (.ref S) = some r) :
    PySem.W.exmOne K (.ref C) (.ref S) = some r := by
  have e1 : (PySem.W.subIn K (.ref S) (.type "BaseException") == some true) = true := by rw [h1] <;> rfl
  have e2 : ((PySem.W.clsIn K S).isSome && PySem.W.typeIn K (.ref S) == some (.type "type")) = true := by
    rw [h2, h3] <;> rfl
  unfold PySem.W.exmOne
  rw [if_pos e1]
  unfold PySem.W.kitCls
  dsimp only
  rw [if_pos e2]
  exact h4
end Bt
namespace Bt
open PySem L2
theorem o_callS {sp : Sp} {E : L2.St → XK} {tr : TA} {σ : L2.St} {H : Hp} {Q : VK} (h : tr σ H fun vs H1 => sp vs H1 Q (E σ)) : tCallS sp E tr σ H Q := h
end Bt
namespace Bt
open PySem L2
section
variable {α : Type} {R H : Hp} {Q : VK} {a : Addr} {xs ys : List α} {y : α} {f : α → V}
def popL (xs : List α) : Option (α × List α) := match xs[xs.length - 1]? with
  | some y => some (y, xs.dropLast)
  | none => none
theorem popE (h : popL xs = some (y, ys)) : xs[xs.length - 1]? = some y ∧ xs.dropLast = ys := by
  unfold popL at h
  split at h
  · rename_i e
    cases h
    exact ⟨e, rfl⟩
  · cases h
theorem popL_ok {xs : List α} {y : α} : popL (xs ++ [y]) = some (y, xs) := by
  unfold popL
  rw [List.length_append, List.length_singleton, Nat.add_sub_cancel, List.getElem?_append_right (Nat.le_refl _), Nat.sub_self]
  simp
theorem k_clr {g : HO → List Cell} (hl : H a = some (.lst (xs.map f))) (hp : ∀ o', Own R (upd H a o') (g o')) (k : ∀ H', Own R H' (g (.lst (([] : List α).map f))) → Q .non H') : rClear (.ref a) [] H Q :=
  ⟨a, _, rfl, rfl, hl, k _ (hp _)⟩
theorem k_pop {g : HO → List Cell} (hl : H a = some (.lst (xs.map f))) (hp : ∀ o', Own R (upd H a o') (g o')) (h : popL xs = some (y, ys)) (k : ∀ H', Own R H' (g (.lst (ys.map f))) → Q (f y) H') : rPop (.ref a) [] H Q := by
  obtain ⟨e, rfl⟩ := popE h
  refine ⟨a, _, f y, rfl, rfl, hl, ?_, ?_⟩
  · rw [List.length_map, List.getElem?_map, e]; rfl
  · rw [← List.map_dropLast]
    exact k _ (hp _)
theorem k_ext {b : Addr} {zs : List α} {g : HO → List Cell} (hl : H a = some (.lst (xs.map f))) (hb : H b = some (.lst (zs.map f))) (hp : ∀ o', Own R (upd H a o') (g o')) (h : catG xs zs = some ys) (k : ∀ H', Own R H' (g (.lst (ys.map f))) → Q .non H') : rExtend (.ref a) [.ref b] H Q := by
  obtain ⟨c, rfl⟩ := grdE h
  refine ⟨a, b, _, _, rfl, rfl, hl, hb, ?_, ?_⟩
  · rw [List.length_map, List.length_map]; exact c
  · rw [← List.map_append]
    exact k _ (hp _)
end
end Bt

set_option Elab.async false
set_option linter.all false
set_option maxRecDepth 100000
set_option maxHeartbeats 4000000
/-! Built-ins that the kit's rules do not name. -/
namespace Bt
open PySem L2 PyProof.Rows
section
variable {X : Cx}
def maxL (d : Int) : List Int → Int
  | [] => d
  | n :: ns => ns.foldl (fun a y => if a < y then y else a) n
def rMaxD (K : PySem.W.Frag) : List V → List V → Hp → VK → Prop := fun xs zs H Q => ∃ a ns d, xs = [.ref a] ∧ zs = [.int d] ∧ SqL K H a (ns.map V.int) ∧ Q (.int (maxL d ns)) H
theorem maxOf_int (x : Int) (xs : List Int) : PySem.W.maxOf x xs = xs.foldl (fun a y => if a < y then y else a) x := by
  unfold PySem.W.maxOf
  congr 1
  funext a y
  show (if decide (a < y) = true then y else a) = _
  by_cases h : a < y
  · rw [if_pos (decide_eq_true h), if_pos h]
  · rw [if_neg (by simpa using h), if_neg h]
theorem cr_maxD (hc : X.calm = true) (hu : X.A.units + 64 < cLine) : CallRK X (.builtin "max") [Str.ofString "default"] (rMaxD X.K) := by
  intro pins s σ H xs zs us ws Q I r1 r2 h
  obtain ⟨a, ns, d, rfl, rfl, hs, q⟩ := h
  obtain ⟨its, rv, hl, _⟩ := I.list hs
  rw [Vals.ref1 r1]
  obtain ⟨w, rfl, t, rfl⟩ := r2.one
  refine PySem.W.max_list_datum_default (α := Int) (I.ok.hd hc) hl.isList (PySem.W.HoldAll.of_ints rv.ints) (by show X.A.units + 1 + 0 < cLine; omega) (fun e h' tk k => ?_) fun y ys i v h' tk e _ hv k => ?_
  · subst e
    exact ⟨.int d, H, I.kept k, ⟨_, rfl⟩, q⟩
  · subst e
    obtain ⟨bs, hv⟩ := hv
    rw [maxOf_int] at hv
    cases hv
    exact ⟨.int _, H, I.kept k, ⟨_, rfl⟩, q⟩
variable {K : PySem.W.Frag} {H : Hp} {Q : VK} {a : Addr} {ns : List Int} {d : Int} {t tk : TA} {r : List V → List V → Hp → VK → Prop} {σ : L2.St}
theorem o_kw (h : t σ H fun vs H1 => tk σ H1 fun zs H2 => r vs zs H2 Q) : tCKw r t tk σ H Q := h
theorem k_maxD (hs : SqL K H a (ns.map V.int)) (q : Q (.int (maxL d ns)) H) : rMaxD K [.ref a] [.int d] H Q := ⟨a, ns, d, rfl, rfl, hs, q⟩
theorem o_en {ta : TA} {R : It → Hp → Prop} (h : ta σ H fun vs H1 => ∃ a xs, vs = [.ref a] ∧ SqL K H1 a xs ∧ R (Ite K a) H1) : iEnum K ta σ H R := h
end
end Bt

set_option Elab.async false
set_option linter.all false
set_option maxRecDepth 100000
set_option maxHeartbeats 4000000
/-! Data in data: what stands in a heap that only grows. -/
namespace Bt
open PySem L2
inductive All2 {α β : Type} (P : α → β → Prop) : List α → List β → Prop
  | nil : All2 P [] []
  | cons {a : α} {b : β} {as : List α} {bs : List β} : P a b → All2 P as bs → All2 P (a :: as) (b :: bs)
section
variable {α β : Type} {P Q : α → β → Prop} {as cs : List α} {bs ds : List β} {a : α} {b : β}
theorem All2.mp (f : ∀ a b, P a b → Q a b) (h : All2 P as bs) : All2 Q as bs := by
  induction h with
  | nil => exact .nil
  | cons h _ ih => exact .cons (f _ _ h) ih
theorem All2.app (h : All2 P as bs) (k : All2 P cs ds) : All2 P (as ++ cs) (bs ++ ds) := by
  induction h with
  | nil => exact k
  | cons h _ ih => exact .cons h ih
theorem All2.snoc (h : All2 P as bs) (k : P a b) : All2 P (as ++ [a]) (bs ++ [b]) := h.app (.cons k .nil)
theorem All2.len (h : All2 P as bs) : as.length = bs.length := by
  induction h with
  | nil => rfl
  | cons _ _ ih => simp [ih]
theorem All2.get (h : All2 P as bs) : ∀ {i : Nat} {b : β}, bs[i]? = some b → ∃ a, as[i]? = some a ∧ P a b := by
  induction h with
  | nil => intro i b e; simp at e
  | cons h _ ih =>
    intro i b e
    cases i with
    | zero => cases Option.some.inj e; exact ⟨_, rfl, h⟩
    | succ i => exact ih (by simpa using e)
theorem All2.drop (h : All2 P as bs) : ∀ n, All2 P (as.drop n) (bs.drop n) := by
  induction h with
  | nil => intro n; simp; exact .nil
  | cons h t ih =>
    intro n
    cases n with
    | zero => exact .cons h t
    | succ n => exact ih n
theorem All2.take (h : All2 P as bs) : ∀ n, All2 P (as.take n) (bs.take n) := by
  induction h with
  | nil => intro n; simp; exact .nil
  | cons h t ih =>
    intro n
    cases n with
    | zero => exact .nil
    | succ n => exact .cons h (ih n)
theorem All2.set (h : All2 P as bs) (k : P a b) : ∀ n, All2 P (as.set n a) (bs.set n b) := by
  induction h with
  | nil => intro n; exact .nil
  | cons h t ih =>
    intro n
    cases n with
    | zero => exact .cons k t
    | succ n => exact .cons h (ih n)
end
/-- what a value stands for, in a heap -/
abbrev Rp (α : Type) := Hp → V → α → Prop
def Mono {α : Type} (P : Rp α) : Prop := ∀ F F' v x, Ex F F' → P F v x → P F' v x
def rI : Rp Int := fun _ v a => v = .int a
def rB : Rp Bool := fun _ v a => v = .bl a
def rS : Rp Str := fun _ v a => v = .str a
def rL {α : Type} (P : Rp α) : Rp (List α) := fun F v xs => ∃ p vs, v = .ref p ∧ F p = some (.lst vs) ∧ All2 (P F) vs xs
def rT2 {α β : Type} (P : Rp α) (Q : Rp β) : Rp (α × β) := fun F v x => ∃ p a b, v = .ref p ∧ F p = some (.tup [a, b]) ∧ P F a x.1 ∧ Q F b x.2
def rT3 {α β γ : Type} (P : Rp α) (Q : Rp β) (R : Rp γ) : Rp (α × β × γ) := fun F v x => ∃ p a b c, v = .ref p ∧ F p = some (.tup [a, b, c]) ∧ P F a x.1 ∧ Q F b x.2.1 ∧ R F c x.2.2
def rT4 {α β γ δ : Type} (P : Rp α) (Q : Rp β) (R : Rp γ) (S : Rp δ) : Rp (α × β × γ × δ) := fun F v x => ∃ p a b c d, v = .ref p ∧ F p = some (.tup [a, b, c, d]) ∧ P F a x.1 ∧ Q F b x.2.1 ∧ R F c x.2.2.1 ∧ S F d x.2.2.2
def rO {α : Type} (P : Rp α) : Rp (Option α) := fun F v x => match x with
  | none => v = .non
  | some y => P F v y
theorem mI : Mono rI := fun _ _ _ _ _ h => h
theorem mB : Mono rB := fun _ _ _ _ _ h => h
theorem mS : Mono rS := fun _ _ _ _ _ h => h
theorem mL {α : Type} {P : Rp α} (m : Mono P) : Mono (rL P) := fun F F' v x e ⟨p, vs, h1, h2, h3⟩ => ⟨p, vs, h1, e _ _ h2, h3.mp fun a b h => m F F' a b e h⟩
theorem mA {α : Type} {P : Rp α} (m : Mono P) {F F' : Hp} {vs : List V} {xs : List α} (e : Ex F F') (h : All2 (P F) vs xs) : All2 (P F') vs xs := h.mp fun a b h => m F F' a b e h
theorem mT2 {α β : Type} {P : Rp α} {Q : Rp β} (m : Mono P) (n : Mono Q) : Mono (rT2 P Q) := fun F F' v x e ⟨p, a, b, h1, h2, h3, h4⟩ => ⟨p, a, b, h1, e _ _ h2, m _ _ _ _ e h3, n _ _ _ _ e h4⟩
theorem mT3 {α β γ : Type} {P : Rp α} {Q : Rp β} {R : Rp γ} (m : Mono P) (n : Mono Q) (o : Mono R) : Mono (rT3 P Q R) := fun F F' v x e ⟨p, a, b, c, h1, h2, h3, h4, h5⟩ => ⟨p, a, b, c, h1, e _ _ h2, m _ _ _ _ e h3, n _ _ _ _ e h4, o _ _ _ _ e h5⟩
theorem mT4 {α β γ δ : Type} {P : Rp α} {Q : Rp β} {R : Rp γ} {S : Rp δ} (m : Mono P) (n : Mono Q) (o : Mono R) (q : Mono S) : Mono (rT4 P Q R S) := fun F F' v x e ⟨p, a, b, c, d, h1, h2, h3, h4, h5, h6⟩ => ⟨p, a, b, c, d, h1, e _ _ h2, m _ _ _ _ e h3, n _ _ _ _ e h4, o _ _ _ _ e h5, q _ _ _ _ e h6⟩
theorem mO {α : Type} {P : Rp α} (m : Mono P) : Mono (rO P) := fun F F' v x e h => by
  cases x with
  | none => exact h
  | some y => exact m _ _ _ _ e h
/-! flat lists in a heap -/
theorem aI {F : Hp} : ∀ {vs : List V} {xs : List Int}, All2 (rI F) vs xs → vs = xs.map V.int
  | _, _, .nil => rfl
  | _, _, .cons h t => by rw [show _ = _ from h, aI t]; rfl
theorem aB {F : Hp} : ∀ {vs : List V} {xs : List Bool}, All2 (rB F) vs xs → vs = xs.map V.bl
  | _, _, .nil => rfl
  | _, _, .cons h t => by rw [show _ = _ from h, aB t]; rfl
theorem aS {F : Hp} : ∀ {vs : List V} {xs : List Str}, All2 (rS F) vs xs → vs = xs.map V.str
  | _, _, .nil => rfl
  | _, _, .cons h t => by rw [show _ = _ from h, aS t]; rfl
theorem iA {F : Hp} : ∀ (xs : List Int), All2 (rI F) (xs.map V.int) xs
  | [] => .nil
  | x :: r => .cons rfl (iA r)
theorem bA {F : Hp} : ∀ (xs : List Bool), All2 (rB F) (xs.map V.bl) xs
  | [] => .nil
  | x :: r => .cons rfl (bA r)
theorem sA {F : Hp} : ∀ (xs : List Str), All2 (rS F) (xs.map V.str) xs
  | [] => .nil
  | x :: r => .cons rfl (sA r)
theorem fI {F : Hp} {v : V} {xs : List Int} (h : rL rI F v xs) : ∃ p, v = .ref p ∧ F p = some (.lst (xs.map V.int)) := by
  obtain ⟨p, vs, h1, h2, h3⟩ := h
  rw [aI h3] at h2
  exact ⟨p, h1, h2⟩
theorem fB {F : Hp} {v : V} {xs : List Bool} (h : rL rB F v xs) : ∃ p, v = .ref p ∧ F p = some (.lst (xs.map V.bl)) := by
  obtain ⟨p, vs, h1, h2, h3⟩ := h
  rw [aB h3] at h2
  exact ⟨p, h1, h2⟩
theorem fS {F : Hp} {v : V} {xs : List Str} (h : rL rS F v xs) : ∃ p, v = .ref p ∧ F p = some (.lst (xs.map V.str)) := by
  obtain ⟨p, vs, h1, h2, h3⟩ := h
  rw [aS h3] at h2
  exact ⟨p, h1, h2⟩
theorem gI {F : Hp} {p : Addr} {xs : List Int} (h : F p = some (.lst (xs.map V.int))) : rL rI F (.ref p) xs := ⟨p, _, rfl, h, iA xs⟩
theorem gB {F : Hp} {p : Addr} {xs : List Bool} (h : F p = some (.lst (xs.map V.bl))) : rL rB F (.ref p) xs := ⟨p, _, rfl, h, bA xs⟩
theorem gS {F : Hp} {p : Addr} {xs : List Str} (h : F p = some (.lst (xs.map V.str))) : rL rS F (.ref p) xs := ⟨p, _, rfl, h, sA xs⟩
/-! the frame grows -/
/-- of X what R knows, or what H does not -/
def ovr (R H X : Hp) : Hp := fun a => if R a ≠ none ∨ H a = none then X a else none
theorem ovr_some {R H X : Hp} {a : Addr} {u : HO} (h : ovr R H X a = some u) : (R a ≠ none ∨ H a = none) ∧ X a = some u := by
  unfold ovr at h
  split at h
  · exact ⟨by assumption, h⟩
  · cases h
theorem ovr_mk {R H X : Hp} {a : Addr} {u : HO} (h : R a ≠ none ∨ H a = none) (k : X a = some u) : ovr R H X a = some u := by
  unfold ovr
  rw [if_pos h]
  exact k
theorem ovr_ex {R H X : Hp} : Ex (ovr R H X) X := fun a o h => by
  unfold ovr at h
  split at h
  · exact h
  · cases h
theorem ovr_mono {R H X Y : Hp} (e : Ex X Y) : Ex (ovr R H X) (ovr R H Y) := fun a o h => by
  unfold ovr at h ⊢
  split at h
  · rename_i c
    rw [if_pos c]
    exact e _ _ h
  · cases h
theorem ovr_start {R H : Hp} (e : Ex R H) : Ex R (ovr R H H) := fun a o h => by
  unfold ovr
  rw [if_pos (.inl (by rw [h]; simp))]
  exact e _ _ h
section
variable {R H H' F H0 R0 : Hp} {L : List Cell} {p : Addr} {o : HO}
theorem Own.freeze (O : Own R H ((p, o) :: L)) : Own (upd R p o) H L :=
  ⟨fun a u h => by
    by_cases e : a = p
    · subst e
      rw [upd_same] at h
      cases h
      exact O.at_ _ (List.Mem.head _)
    · rw [upd_ne e] at h
      exact O.ex _ _ h, fun c h => O.at_ c (List.Mem.tail _ h), fun c h => by
    have hne : c.1 ≠ p := fun e => (List.nodup_cons.mp O.nd).1 (by rw [← e]; exact List.mem_map_of_mem (f := (·.1)) h)
    rw [upd_ne hne]
    exact O.fr c (List.Mem.tail _ h), (List.nodup_cons.mp O.nd).2⟩
/-- R grows by a cell; what was known of it stays, the new cell is known -/
theorem Own.frz (O : Own R H ((p, o) :: L)) : ∃ R', Own R' H L ∧ Ex R R' ∧ R' p = some o := ⟨_, O.freeze, Ex.new (O.fr _ (List.Mem.head _)), upd_same⟩
theorem Own.frzO (O : Own R H ((p, o) :: L)) (e0 : Ex H0 R) : ∃ R', Own R' H L ∧ Ex R R' ∧ ovr R0 H0 R' p = some o := ⟨_, O.freeze, Ex.new (O.fr _ (List.Mem.head _)), by
  unfold ovr
  rw [if_pos (.inr (e0.back (O.fr _ (List.Mem.head _))))]
  exact upd_same⟩
/-- R grows by all that is new -/
theorem Own.grow (O : Own R H L) (e : Ex H H') : ∃ R', Own R' H' L ∧ Ex R R' ∧ ∀ F, Ex F R → Ex (ovr F H H') R' := by
  refine ⟨fun a => if H a = none then H' a else R a, ⟨fun a u h => ?_, fun c h => e _ _ (O.at_ c h), fun c h => ?_, O.nd⟩, fun a u h => ?_, fun F hF a u h => ?_⟩
  · by_cases c : H a = none
    · rw [if_pos c] at h; exact h
    · rw [if_neg c] at h; exact e _ _ (O.ex _ _ h)
  · rw [if_neg (by rw [O.at_ c h]; simp)]
    exact O.fr c h
  · show (if H a = none then H' a else R a) = some u
    rw [if_neg (by rw [O.ex _ _ h]; simp)]
    exact h
  · unfold ovr at h
    split at h
    · rename_i q
      rcases q with q | q
      · cases hf : F a with
        | none => exact absurd hf q
        | some w =>
          have h1 := O.ex _ _ (hF _ _ hf)
          have h2 := e _ _ h1
          rw [h] at h2
          cases h2
          show (if H a = none then H' a else R a) = some u
          rw [if_neg (by rw [h1]; simp)]
          exact hF _ _ hf
      · show (if H a = none then H' a else R a) = some u
        rw [if_pos q]
        exact h
    · cases h
theorem Own.growO (O : Own R H L) (e : Ex H H') (e0 : Ex H0 R) : ∃ R', Own R' H' L ∧ Ex R R' ∧ Ex (ovr (ovr R0 H0 R) H H') (ovr R0 H0 R') := by
  obtain ⟨R', O', e1, e2⟩ := O.grow e
  refine ⟨R', O', e1, fun a u h => ?_⟩
  have h1 := e2 (ovr R0 H0 R) ovr_ex _ _ h
  obtain ⟨q, _⟩ := ovr_some h
  refine ovr_mk ?_ h1
  rcases q with q | q
  · cases hq : ovr R0 H0 R a with
    | none => exact absurd hq q
    | some w => exact (ovr_some hq).1
  · exact .inr (Ex.back (e0.trans O.ex) q)
end
/-- a new thing is handed back, in what R knows or what is new -/
def RetG {α : Type} (P : Rp α) (R : Hp) (r : α) (H : Hp) (Q : VK) : Prop := ∀ v H', Ex H H' → P (ovr R H H') v r → Q v H'
section
variable {α : Type} {P : Rp α} {R H F H0 R0 : Hp} {L : List Cell} {r : α} {Q : VK} {v : V}
theorem Own.retG (O : Own R H L) (m : Mono P) (k : ∀ v H' R', Own R' H' L → Ex R R' → P R' v r → Q v H') : RetG P R r H Q := fun v H' e h => by
  obtain ⟨R', O', e1, e2⟩ := O.grow e
  exact k v H' R' O' e1 (m _ _ _ _ (e2 R (Ex.refl R)) h)
theorem Own.retGO (O : Own R H L) (m : Mono P) (e0 : Ex H0 R) (k : ∀ v H' R', Own R' H' L → Ex R R' → P (ovr R0 H0 R') v r → Q v H') : RetG P (ovr R0 H0 R) r H Q := fun v H' e h => by
  obtain ⟨R', O', e1, e2⟩ := O.growO (R0 := R0) e e0
  exact k v H' R' O' e1 (m _ _ _ _ e2 h)
theorem RetG.go (k : RetG P R0 r H0 Q) (m : Mono P) (O : Own R H L) (e0 : Ex H0 R) (h : P (ovr R0 H0 R) v r) : Q v H := k v H (e0.trans O.ex) (m _ _ _ _ (ovr_mono O.ex) h)
theorem RetV.goR {v : V} (k : RetV v H0 Q) (O : Own R H L) (e0 : Ex H0 R) : Q v H := k H (e0.trans O.ex)
theorem RetL.goR {xs : List V} {p : Addr} (k : RetL xs H0 Q) (O : Own R H L) (e0 : Ex H0 R) (h : (p, HO.lst xs) ∈ L) : Q (.ref p) H := k p H (e0.back (O.fr _ h)) (e0.trans O.ex) (O.at_ _ h)
theorem RetT.goR {xs : List V} {p : Addr} (k : RetT xs H0 Q) (O : Own R H L) (e0 : Ex H0 R) (h : (p, HO.tup xs) ∈ L) : Q (.ref p) H := k p H (e0.back (O.fr _ h)) (e0.trans O.ex) (O.at_ _ h)
end
/-! == of such data -/
structure De {α : Type} [DecidableEq α] (P : Rp α) where
  d : α → PyData
  dp : ∀ (K : PySem.W.Frag) F v a, P F v a → Dp K F v (d a)
  ok : ∀ a, PyData.canLay0 (d a) = true
  n : Nat
  dep : ∀ a, PyData.depth (d a) ≤ n
  eq : ∀ a b, PyData.eqv (d a) (d b) = decide (a = b)
def deI : De rI where
  d := PyData.int
  dp := fun K F v a h => by rw [show v = V.int a from h]; exact .int a
  ok := fun _ => rfl
  n := 0
  dep := fun _ => Nat.le_refl _
  eq := fun a b => by simp only [PyData.eqv]; rw [Bool.beq_eq_decide_eq]
def deB : De rB where
  d := PyData.bool
  dp := fun K F v a h => by rw [show v = V.bl a from h]; exact .bl a
  ok := fun _ => rfl
  n := 0
  dep := fun _ => Nat.le_refl _
  eq := fun a b => by simp only [PyData.eqv]; rw [Bool.beq_eq_decide_eq]
section
variable {α β γ : Type} [DecidableEq α] [DecidableEq β] [DecidableEq γ]
theorem de_all {P : Rp α} (e : De P) {K : PySem.W.Frag} {F : Hp} : ∀ {vs : List V} {xs : List α}, All2 (P F) vs xs → DpAll K F vs (xs.map e.d)
  | _, _, .nil => .nil
  | _, _, .cons h t => .cons (e.dp K F _ _ h) (de_all e t)
theorem ok_all {P : Rp α} (e : De P) : ∀ xs : List α, PyData.canLayAll0 (xs.map e.d) = true
  | [] => rfl
  | x :: r => by simp only [List.map_cons, PyData.canLayAll0, e.ok x, ok_all e r, Bool.and_self]
theorem dep_all {P : Rp α} (e : De P) : ∀ xs : List α, PyData.depthAll (xs.map e.d) ≤ e.n
  | [] => by simp [PyData.depthAll]
  | x :: r => by
    have h1 := e.dep x
    have h2 := dep_all e r
    simp only [List.map_cons, PyData.depthAll]
    omega
theorem eq_all {P : Rp α} (e : De P) : ∀ xs ys : List α, PyData.eqvAll (xs.map e.d) (ys.map e.d) = decide (xs = ys)
  | [], [] => by simp [PyData.eqvAll]
  | [], y :: s => by simp [PyData.eqvAll]
  | x :: r, [] => by simp [PyData.eqvAll]
  | x :: r, y :: s => by simp only [List.map_cons, PyData.eqvAll, e.eq x y, eq_all e r s, List.cons.injEq, Bool.decide_and]
def deL {P : Rp α} (e : De P) : De (rL P) where
  d := fun xs => .list (xs.map e.d)
  dp := fun K F v xs ⟨p, vs, h1, h2, h3⟩ => by
    subst h1
    exact .lst (SqL.of h2) (de_all e h3)
  ok := fun xs => by simp only [PyData.canLay0]; exact ok_all e xs
  n := e.n + 1
  dep := fun xs => by
    have := dep_all e xs
    simp only [PyData.depth]
    omega
  eq := fun xs ys => by simp only [PyData.eqv]; exact eq_all e xs ys
def deT2 {P : Rp α} {Q : Rp β} (e : De P) (f : De Q) : De (rT2 P Q) where
  d := fun x => .tuple [e.d x.1, f.d x.2]
  dp := fun K F v x ⟨p, a, b, h1, h2, h3, h4⟩ => by
    subst h1
    exact .tup (SqT.of h2) (.cons (e.dp K F _ _ h3) (.cons (f.dp K F _ _ h4) .nil))
  ok := fun x => by simp only [PyData.canLay0, PyData.canLayAll0, e.ok, f.ok, Bool.and_self]
  n := max e.n f.n + 1
  dep := fun x => by
    have h1 := e.dep x.1
    have h2 := f.dep x.2
    simp only [PyData.depth, PyData.depthAll]
    omega
  eq := fun x y => by
    obtain ⟨x1, x2⟩ := x
    obtain ⟨y1, y2⟩ := y
    simp only [PyData.eqv, PyData.eqvAll, e.eq, f.eq, Prod.mk.injEq, Bool.decide_and, Bool.and_true]
def deT3 {P : Rp α} {Q : Rp β} {R : Rp γ} (e : De P) (f : De Q) (g : De R) : De (rT3 P Q R) where
  d := fun x => .tuple [e.d x.1, f.d x.2.1, g.d x.2.2]
  dp := fun K F v x ⟨p, a, b, c, h1, h2, h3, h4, h5⟩ => by
    subst h1
    exact .tup (SqT.of h2) (.cons (e.dp K F _ _ h3) (.cons (f.dp K F _ _ h4) (.cons (g.dp K F _ _ h5) .nil)))
  ok := fun x => by simp only [PyData.canLay0, PyData.canLayAll0, e.ok, f.ok, g.ok, Bool.and_self]
  n := max e.n (max f.n g.n) + 1
  dep := fun x => by
    have h1 := e.dep x.1
    have h2 := f.dep x.2.1
    have h3 := g.dep x.2.2
    simp only [PyData.depth, PyData.depthAll]
    omega
  eq := fun x y => by
    obtain ⟨x1, x2, x3⟩ := x
    obtain ⟨y1, y2, y3⟩ := y
    simp only [PyData.eqv, PyData.eqvAll, e.eq, f.eq, g.eq, Prod.mk.injEq, Bool.decide_and, Bool.and_true, Bool.and_assoc]
end
section
variable {α : Type} [DecidableEq α] {P : Rp α} {K : PySem.W.Frag} {F F' H : Hp} {v w : V} {x y : α} {Q : VK}
theorem sh_de (e : De P) (h : e.n ≤ 64) (x : α) : SeqAt.shaped (e.d x) = true := by
  have h1 := e.dep x
  simp only [SeqAt.shaped, e.ok, Bool.true_and]
  exact decide_eq_true (by omega)
theorem k_eqN (e : De P) (m : Mono P) (h : e.n ≤ 64) (h1 : P F v x) (e1 : Ex F H) (h2 : P F' w y) (e2 : Ex F' H) (k : Q (.bl (decide (x = y))) H) : rEqD K v w H Q :=
  ⟨_, _, e.dp K H _ _ (m _ _ _ _ e1 h1), e.dp K H _ _ (m _ _ _ _ e2 h2), sh_de e h x, sh_de e h y, by rw [e.eq]; exact k⟩
theorem k_neN (e : De P) (m : Mono P) (h : e.n ≤ 64) (h1 : P F v x) (e1 : Ex F H) (h2 : P F' w y) (e2 : Ex F' H) (k : Q (.bl (!decide (x = y))) H) : rNeD K v w H Q :=
  ⟨_, _, e.dp K H _ _ (m _ _ _ _ e1 h1), e.dp K H _ _ (m _ _ _ _ e2 h2), sh_de e h x, sh_de e h y, by rw [e.eq]; exact k⟩
end
section
variable {α : Type} {P : Rp α} {K : PySem.W.Frag} {F H R : Hp} {L : List Cell} {p a : Addr} {i : Int} {xs : List α} {y : α} {Q : VK} {vs : List V} {σ : L2.St}
theorem All2.at {β : Type} {P : α → β → Prop} {as : List α} {bs : List β} (h : All2 P as bs) {i : Int} {b : β} (e : atI bs i = some b) : ∃ a, atI as i = some a ∧ P a b := by
  unfold atI at e ⊢
  rw [h.len]
  cases hj : ixN bs.length i with
  | none => rw [hj] at e; cases e
  | some j =>
    rw [hj] at e
    obtain ⟨a, h1, h2⟩ := h.get e
    exact ⟨a, h1, h2⟩
theorem k_ixN (hn : rL P F (.ref p) xs) (e : Ex F H) (h : atI xs i = some y) (k : ∀ v, P F v y → Q v H) : rIxL K (.ref p) (.int i) H Q := by
  obtain ⟨q, vs, h1, h2, h3⟩ := hn
  cases h1
  obtain ⟨v, e1, hv⟩ := h3.at h
  exact ⟨p, vs, i, v, rfl, rfl, SqL.of (e _ _ h2), e1, k v hv⟩
theorem n_lenN (hn : rL P F (.ref p) xs) (e : Ex F H) (k : Q (.int (xs.length : Int)) H) : rLenQ K [.ref p] H Q := by
  obtain ⟨q, vs, h1, h2, h3⟩ := hn
  cases h1
  unfold rLenQ
  exact ⟨p, vs, rfl, .inl (SqL.of (e _ _ h2)), by rw [h3.len]; exact k⟩
theorem n_lstV (O : Own R H L) (hz : vs.length ≤ sizeLine) (k : ∀ p H', Own R H' ((p, .lst vs) :: L) → Q (.ref p) H') : rNewL vs H Q := by
  unfold rNewL
  exact ⟨hz, fun p hp => k p _ (O.new hp)⟩
end
end Bt

set_option Elab.async false
set_option linter.all false
set_option maxRecDepth 100000
set_option maxHeartbeats 4000000
/-! What is refused, caught by a name, asked of its class. -/
namespace Bt
open PySem L2 PyProof.Rows
theorem passN {X : Cx} : Passes (L2N.CX X.prog X.w) X E0 := fun _ _ _ _ _ _ _ h => by
  obtain ⟨_, _, _, _, _, _, _, _, _, _, _, _, z⟩ := h
  exact z.elim
theorem takesN0 {X : Cx} : L2N.Takes X (fun _ _ _ _ => False) := fun _ _ x => by
  obtain ⟨_, _, _, _, _, _, _, _, _, _, _, _, _, _, _, _, z⟩ := x
  exact z.elim
theorem okN {P : Program} {w : World} {K : PySem.W.Frag} {mg : Str → Option Value} {base : Heap} {x qual : Str} {st : Stmt} {f : Addr} {fd : FuncData} {N ps : List Str} {k : Nat} {sp : Sp} (F : Fun K x qual st f fd) (S : FnScope N ps (defScope st)) (len : ∀ vs H Q E, sp vs H Q E → vs.length = ps.length)
    (hbody : ∀ (cdv : Value) (A : Around) (outer : List Env) (s : Shared) (H : Hp) (vs : List V) (Q : VK) (E : XK), Room k (A.deeper (envOfC qual (defScope st) s.heap.objs.size f cdv)) → sp vs H Q E →
      ∃ t, PSs (cxOf (L2N.CX P w) P w K mg base N qual (defScope st) f cdv A outer s H E) (defBody st) t ∧ t { nx := fun _ H' => Q .non H', rt := Q } (start N vs) H) : FnOk P w K mg base (L2N.CX P w) (k + 1) f fd ps sp := by
  obtain ⟨oc, od, kV, doc, pm, an, cdv, ct, osl, rfl, lk, hcd⟩ := F.ex
  exact fn_of lk hcd S len fun A outer s H vs Q E hr hsp => hbody cdv A outer s H vs Q E hr hsp
theorem ps_errN {X : Cx} {W : WX} {x m : Str} {j : Nat} {p p2 pos pos' : Pos} {C : Addr} (e : ErrC X.K X.mg x C) (tk : L2N.Takes X W) (hc : X.calm = true) (hg : Gl X x) (hdb : (x == ("__debug__" : Str)) = false := by decide) :
    PS X (.Raise (some (.Call (.Name x p) [.Constant (.str m) j p2] [] pos)) none pos') (fun _ σ H => W (.ref C) none σ H) :=
  L2N.ps_raise hc tk (L2N.pmk_own PySem.F.excBase_ValueError e.ex e.g e.kp (raises_own e.b e.t) hg hdb)
/-! classes by their letters -/
def Eds.at (d : Eds) : Ek → Addr
  | .NoBits => d.NoBits
  | .NoName => d.NoName
  | .NoKey => d.NoKey
  | .NoFrame => d.NoFrame
  | .NoPost => d.NoPost
  | .NoThing => d.NoThing
  | .NoStrip => d.NoStrip
  | .NoRail => d.NoRail
  | .NoWire => d.NoWire
  | .NoRow => d.NoRow
/-- what the walk knows of the classes ks -/
structure EcF (K : PySem.W.Frag) (d : Eds) (ks : List Ek) : Prop where
  ec : ∀ k ∈ ks, ExcC K (d.at k)
  kt : ∀ k ∈ ks, ∀ c ∈ ks, PySem.W.kitOne K (.ref (d.at k)) (.ref (d.at c)) = some (decide (k = c))
  kv : ∀ k ∈ ks, PySem.W.kitOne K (.ref (d.at k)) (.type "ValueError") = some true
  kr : ∀ k ∈ ks, PySem.W.kitOne K (.ref (d.at k)) (.ref d.RailError) = some true
  xr : ∀ k ∈ ks, PySem.W.exmOne K (.ref (d.at k)) (.ref d.RailError) = some true
  xx : ∀ k ∈ ks, ∀ c ∈ ks, PySem.W.exmOne K (.ref (d.at k)) (.ref (d.at c)) = some (decide (k = c))
/-- what an exception's own dict holds -/
def XFl (e : Er) (d : Option Addr) (H : Hp) : Prop := match e with
  | .NoWire i => ∃ x, d = some x ∧ H x = some (.xd [(("at" : Str), .int i)])
  | .NoRow i => ∃ x, d = some x ∧ H x = some (.xd [(("word" : Str), .int i)])
  | _ => d = none
theorem XFl.ext {e : Er} {d : Option Addr} {H H' : Hp} (h : XFl e d H) (x : Ex H H') : XFl e d H' := by
  cases e <;> first
    | exact h
    | (obtain ⟨a, h1, h2⟩ := h; exact ⟨a, h1, x _ _ h2⟩)
theorem RetE.by {d : Eds} {e : Er} {H : Hp} {E : XK} (h : ∀ H' dd, Ex H H' → XFl e dd H' → E (.ref (d.at e.k)) dd H') : RetE d e H E := by
  cases e <;> first
    | exact fun H' x => h H' none x rfl
    | exact fun H' a _ x q => h H' (some a) x ⟨a, rfl, q⟩
/-! isinstance of the exception in hand -/
section
variable {X : Cx} {p : Addr × Obj} {D : Addr} {ex : Er}
theorem inst_pin {pins : List (Addr × Obj)} {σ : L2.St} {H : Hp} {s : Shared} (I : Inv X pins σ H s) (hp : p ∈ X.pn) (hz : p.2.cls = .ref D) (hd : XFl ex p.2.dict H) (hf : ∃ vs, p.2.data = .fields vs) : ∃ od, PySem.W.InstAt s.heap p.1 p.2 D od := by
  obtain ⟨hget, _⟩ := I.pin p (List.mem_append.mpr (.inl hp))
  obtain ⟨a, oc, od, oda, osl⟩ := p
  obtain ⟨vs, hv⟩ := hf
  dsimp only at hz hd hv hget
  subst hz hv
  have hk : od = none ∨ ∃ x fs, od = some x ∧ H x = some (.xd fs) := by
    cases ex <;> first
      | exact .inl hd
      | (obtain ⟨x, h1, h2⟩ := hd; exact .inr ⟨x, _, h1, h2⟩)
  rcases hk with rfl | ⟨x, fs, rfl, hx⟩
  · exact ⟨none, hget, rfl, rfl, trivial⟩
  · obtain ⟨_, ⟨o, _, _, e, _⟩, _⟩ := (show ∃ mA, s.heap.Ns1 x mA ∧ ∀ f, RelO (fs.lookup f) (mA f) from I.hok x _ hx)
    exact ⟨some _, hget, rfl, rfl, e⟩
theorem exc_cls {K : PySem.W.Frag} {D : Addr} (C : ExcC K D) : (PySem.W.clsIn K D).isSome = true := by
  obtain ⟨cd, hc, _⟩ := PySem.W.any_some C.hd
  rw [hc]; rfl
/-- isinstance(e, c), e the exception in hand -/
def rIsX (K : PySem.W.Frag) (D a : Addr) (ex : Er) (d : Option Addr) : List V → Hp → VK → Prop := fun xs H Q => ∃ (c : V) (cv : Value) (b : Bool), xs = [.ref a, c] ∧ ClsV c cv ∧ XFl ex d H ∧ PySem.W.kitOne K (.ref D) cv = some b ∧ Q (.bl b) H
theorem call_isP (hp : p ∈ X.pn) (C : ExcC X.K D) (hz : p.2.cls = .ref D) {d : Option Addr} (hdd : p.2.dict = d) (hf : ∃ vs, p.2.data = .fields vs) : CallR X (.builtin "isinstance") (rIsX X.K D p.1 ex d) := by
  subst hdd
  intro pins s σ H xs us Q I r h
  obtain ⟨c, cv, b, rfl, hcv, hd, e, q⟩ := h
  obtain ⟨u1, u2, rfl, r1, r2⟩ := vals2 r
  cases (show u1 = Value.ref p.1 from r1)
  have ec := hcv.eq r2
  subst ec
  obtain ⟨od, J⟩ := inst_pin I hp hz hd hf
  exact PySem.W.kia_one (PySem.W.kitx_exc (exc_cls C) C.hg C.hk C.hs C.ha C.hn C.ht C.hm) I.kIn J e (fun z => nomatch z) fun tk => ⟨.bl b, H, I.kept (t' := tk) fun _ _ z => z, rfl, q⟩
/-- .. and of a row of classes -/
def rIsXt (K : PySem.W.Frag) (D a : Addr) (ex : Er) (d : Option Addr) : List V → Hp → VK → Prop := fun xs H Q => ∃ (tp : Addr) (cs : List V) (us : List Value) (b : Bool), xs = [.ref a, .ref tp] ∧ H tp = some (.tup cs) ∧ Paired ClsV cs us ∧ XFl ex d H ∧ PySem.W.kitAny K (.ref D) us = some b ∧ Q (.bl b) H
theorem call_isPt (hp : p ∈ X.pn) (C : ExcC X.K D) (hz : p.2.cls = .ref D) {d : Option Addr} (hdd : p.2.dict = d) (hf : ∃ vs, p.2.data = .fields vs) : CallR X (.builtin "isinstance") (rIsXt X.K D p.1 ex d) := by
  subst hdd
  intro pins s σ H xs us Q I r h
  obtain ⟨tp, cs, ws, b, rfl, hT, k, hd, e, q⟩ := h
  obtain ⟨u1, u2, rfl, r1, r2⟩ := vals2 r
  cases (show u1 = Value.ref p.1 from r1)
  cases (show u2 = Value.ref tp from r2)
  obtain ⟨_, its, rv, o, h1, h2, n, h3⟩ := (show ObjOk X.prog X.w H s.heap tp (.tup cs) from I.hok tp _ hT)
  have e3 := ClsV.all k rv
  subst e3
  obtain ⟨oc, od, dt, sl⟩ := o
  simp only at h2 h3
  subst h2 h3
  obtain ⟨od, J⟩ := inst_pin I hp hz hd hf
  exact PySem.W.kia_tup (PySem.W.kitx_exc (exc_cls C) C.hg C.hk C.hs C.ha C.hn C.ht C.hm) I.kIn J h1 e (fun z => nomatch z) fun tk => ⟨.bl b, H, I.kept (t' := tk) fun _ _ z => z, rfl, q⟩
end
/-- the classes of a row, asked -/
def inKs (k : Ek) : List Ek → Bool
  | [] => false
  | c :: r => decide (k = c) || inKs k r
theorem kit_any {K : PySem.W.Frag} {d : Eds} {ks : List Ek} (T : EcF K d ks) {k : Ek} (hk : k ∈ ks) : ∀ (cs : List Ek), (∀ c ∈ cs, c ∈ ks) → PySem.W.kitAny K (.ref (d.at k)) (cs.map fun c => .ref (d.at c)) = some (inKs k cs)
  | [], _ => rfl
  | c :: r, h => by
    refine kitAny_cons (T.kt k hk c (h c (List.Mem.head _))) (fun e => ?_) fun e => ?_
    · rw [kit_any T hk r fun z hz => h z (List.Mem.tail _ hz)]
      show some (inKs k r) = some (decide (k = c) || inKs k r)
      rw [e, Bool.false_or]
    · show (decide (k = c) || inKs k r) = true
      rw [e, Bool.true_or]
/-! a def of the exception in hand, called in the suite -/
structure FnE (P : Program) (w : World) (K : PySem.W.Frag) (mg : Str → Option Value) (base : Heap) (k : Nat) (f : Addr) (fd : FuncData) (x : Str) (D : Addr) (ex : Er) (R : Bool) : Prop where
  run : ∀ (A : Around) (outer : List Env) (s : Shared) (H : Hp) (args : Args) (p : Addr × Obj) (Q : VK), L2H.RoomH k A → L2H.Hot1 A p → L2H.PinOk outer H s p → p.2.cls = .ref D → XFl ex p.2.dict H → Env0 P w K mg base A outer s H → BindsTo s fd args ([x].zip [.ref p.1]) → RetV (.bl R) H Q →
    codeAny (model P w) A (.call (.ref f) args) (CR CX0 outer P w H s Q E0) s
theorem fnE_of {P : Program} {w : World} {K : PySem.W.Frag} {mg : Str → Option Value} {base : Heap} {x qual : Str} {st : Stmt} {f : Addr} {fd : FuncData} {N : List Str} {y : Str} {k : Nat} {D : Addr} {ex : Er} {R : Bool} (F : Fun K x qual st f fd) (S : FnScope N [y] (defScope st))
    (hbody : ∀ (cdv : Value) (A : Around) (outer : List Env) (s : Shared) (H : Hp) (p : Addr × Obj) (Q : VK), A.units + 64 < cLine → p.2.cls = .ref D → XFl ex p.2.dict H → (∃ vs, p.2.data = .fields vs) → RetV (.bl R) H Q →
      ∃ t, PSs (L2H.cxH CX0 P w K mg base N qual (defScope st) f cdv A outer s H E0 p) (defBody st) t ∧ t { nx := fun _ H' => Q .non H', rt := Q } (start N [.ref p.1]) H) : FnE P w K mg base (k + 1) f fd y D ex R := by
  obtain ⟨oc, od, kV, doc, pm, an, cdv, ct, osl, rfl, lk, hcd⟩ := F.ex
  refine ⟨fun A outer s H args p Q hr hot hpin hz hd e0 hb hq => ?_⟩
  have KX : K.In s.heap := e0.mod.kin.keeps fun b o e => (e0.bs b o e).1
  have lim : s.heap.NoLimit := e0.mod.nolimit.keeps fun b o e => (e0.bs b o e).1
  have hkind : ∀ z ∈ [y].zip [Value.ref p.1], (defScope st).names.lookup z.1 = some .local ∨ ((defScope st).names.lookup z.1 = some .cell ∧ ((cellsFrom (s.heap.objs.size + 1) (defScope st).names []).lookup z.1).isSome = true) := fun ⟨n, v⟩ hy =>
    (S.par n (List.of_mem_zip hy).1).imp id fun q => ⟨q, PySem.W.cellsFrom_some _ _ _ (.inl q)⟩
  refine codeAny_call_function hr.depth (KX _ _ lk) rfl S.co S.gen rfl (PySem.W.codeRec_of KX hcd) (hb _ _ _ _ (wpAny_newFunctionEnv_cells S.kind hkind fun env he s1 hx => ?_))
  subst he
  refine ⟨lim.keeps hx.toInCall.keep, codeAny_func ?_⟩
  obtain ⟨h1, vs, h2, _⟩ := hot
  obtain ⟨t, ht, h3⟩ := hbody cdv A outer s H p Q (by have := hr.un; omega) hz hd ⟨vs, h2⟩ hq
  have rv : Vals [V.ref p.1] [Value.ref p.1] := .cons rfl .nil
  have I := L2H.inv_startH (CX := CX0) (qual := qual) (f := f) (cd := cdv) (E := E0) S hpin e0 rfl rv hx
  refine wpAny_mono (ht.run [] s1 _ H _ I h3) (fun fl s' hs => ?_) fun e s' hs => hs
  cases fl with
  | ret u =>
    obtain ⟨v, σ', H', J, r, q⟩ := hs
    exact ⟨v, H', J.os, J.bare, J.base, J.hok, r, q⟩
  | next =>
    obtain ⟨σ', H', J, q⟩ := hs
    exact ⟨V.non, H', J.os, J.bare, J.base, J.hok, rfl, q⟩
  | brk =>
    obtain ⟨_, _, _, q⟩ := hs
    exact q.elim
  | cont =>
    obtain ⟨_, _, _, q⟩ := hs
    exact q.elim
def tCallE (a : Addr) (ex : Er) (d : Option Addr) (R : Bool) (t : TA) : TE := fun σ H Q => t σ H fun vs H1 => vs = [.ref a] ∧ XFl ex d H1 ∧ RetV (.bl R) H1 Q
theorem pe_callE {X : Cx} {k : Nat} {f : Addr} {fd : FuncData} {x y : Str} {q pos : Pos} {e : Expr} {t : TA} {D : Addr} {ex : Er} {R : Bool} {p : Addr × Obj} (F : FnE X.prog X.w X.K X.mg X.base k f fd y D ex R) (hp : p ∈ X.pn) (hot : L2H.Hot1 X.A p) (hz : p.2.cls = .ref D) {d : Option Addr} (hdd : p.2.dict = d)
    (hr : L2H.RoomH k X.A) (hg : Gl X x) (hm : X.mg x = some (.ref f)) (hk : PySem.W.keepIn X.K (.ref f) = true) (hb : Binds X.K fd [y] []) (ha : PA X [e] t) (hdb : (x == ("__debug__" : Str)) = false := by decide)
    (he : starEach [e] X.env = (false, eval e X.env) :: starEach [] X.env := by rfl) (hpl : (backTo pos (starEach [] X.env)).any (·.1) = false := by rfl) : PE X (.Call (.Name x q) [e] [] pos) (tCallE p.1 ex d R t) := by
  subst hdd
  refine ⟨fun pins s σ H Q I h => ?_⟩
  refine wpAny_Call_Name_kw (ld_glob I hg hm ?_ hdb)
  refine PySem.W.callWith_K (h₀ := X.base) I.ok.mod.kin hk (thn (ha.run pos pins s σ H _ I h) fun us s1 ⟨vs, H1, I1, r, e1, hd, hq⟩ => ⟨I1.kIn, ?_⟩) he hpl
  subst e1
  obtain ⟨u, rfl, r1⟩ := r.one
  cases (show u = Value.ref p.1 from r1)
  have b := hb s1 [.ref p.1] I1.kIn (by rw [List.append_nil]; rfl)
  rw [List.append_nil] at b
  obtain ⟨p1, p2, p3, p4, p5⟩ := I1.pin p (List.mem_append_left _ hp)
  have hpin : L2H.PinOk X.stack H1 s1 p := ⟨p1, p2, fun hm => (List.mem_cons.mp (I1.stkSub p.1 hm)).elim p3 p4, p5⟩
  refine wpAny_call (codeAny_mono (F.run X.A X.stack s1 H1 ⟨[.ref p.1], []⟩ p Q hr hot hpin hz hd I1.env0 b hq) fun r s' hq => ?_)
  cases r with
  | error e => exact (show False from hq).elim
  | ok fl =>
    cases fl with
    | ret u => exact I1.after hq
    | next => exact False.elim hq
    | brk => exact False.elim hq
    | cont => exact False.elim hq
/-! all of it, class by class -/
structure EcP (K : PySem.W.Frag) (C : Addr) : Prop where
  hg : PySem.W.findIn K (.ref C) "__getattribute__" = some (some (.builtin "BaseException.__getattribute__"))
  hk : PySem.W.findIn K (.ref C) "__getattr__" = some none
  hs : PySem.W.subIn K (.ref C) (.type "BaseException") = some true
  hd : PySem.W.hasDictIn K C = true
  ha : PySem.W.findIn K (.ref C) "__class__" = some (some (.builtin "object.__class__"))
  hm : PySem.W.mroIn K C (.type "object") = some true
  ct : PySem.W.typeIn K (.ref C) = some (.type "type")
  sv : PySem.W.subIn K (.ref C) (.type "ValueError") = some true
theorem all_nil {α : Type} {P : α → Prop} : ∀ x ∈ ([] : List α), P x := fun _ h => (nomatch h)
theorem all_cons {α : Type} {P : α → Prop} {a : α} {l : List α} (h : P a) (t : ∀ x ∈ l, P x) : ∀ x ∈ a :: l, P x := fun x hx => by
  rcases List.mem_cons.mp hx with rfl | hx
  · exact h
  · exact t x hx
theorem ecf_mk {K : PySem.W.Frag} {d : Eds} {ks : List Ek} (h : ∀ k ∈ ks, EcP K (d.at k)) (hp : ∀ k ∈ ks, ∀ c ∈ ks, PySem.W.subIn K (.ref (d.at k)) (.ref (d.at c)) = some (decide (k = c)))
    (hr : ∀ k ∈ ks, PySem.W.subIn K (.ref (d.at k)) (.ref d.RailError) = some true) (rr : EcP K d.RailError)
    (hn : PySem.W.specialIn K (.builtin "object.__class__") "__get__" = some (some (.builtin "getset_descriptor.__get__"))) (ht : PySem.W.takesIn K (.builtin "object.__class__") = some true) (hv : PySem.W.kitMeta "ValueError" = true) : EcF K d ks := by
  have ec : ∀ k ∈ ks, ExcC K (d.at k) := fun k hk => by
    obtain ⟨h1, h2, h3, h4, h5, h6, h7, h8⟩ := h k hk
    exact ⟨h1, h2, h3, h4, h5, hn, ht, h6⟩
  have cl : ∀ {C : Addr}, EcP K C → (PySem.W.clsIn K C).isSome = true := fun q => by
    obtain ⟨cd, hc, _⟩ := PySem.W.any_some q.hd
    rw [hc]; rfl
  have ko : ∀ {a b : Addr} {r : Bool}, EcP K b → PySem.W.subIn K (.ref a) (.ref b) = some r → (a = b → r = true) → PySem.W.kitOne K (.ref a) (.ref b) = some r := fun {a b r} q e1 e2 => by
    unfold PySem.W.kitOne
    by_cases e : a = b
    · subst e
      rw [if_pos (by simp), e2 rfl]
    · rw [if_neg (by simp [e])]
      unfold PySem.W.kitCls
      dsimp only
      rw [if_pos (by rw [cl q, q.ct]; rfl)]
      exact e1
  refine ⟨ec, fun k hk c hc => ko (h c hc) (hp k hk c hc) (fun e => ?_), fun k hk => ?_, fun k hk => ko rr (hr k hk) fun _ => rfl, fun k hk => exm_mk rr.hs (cl rr) rr.ct (hr k hk), fun k hk c hc => exm_mk (h c hc).hs (cl (h c hc)) (h c hc).ct (hp k hk c hc)⟩
  · have e1 := hp k hk c hc
    have e2 := hp c hc c hc
    rw [e] at e1
    rw [e2] at e1
    rw [decide_eq_true (rfl : c = c)] at e1
    exact (Option.some.inj e1).symm
  · unfold PySem.W.kitOne
    rw [if_neg (by simp)]
    unfold PySem.W.kitCls
    dsimp only
    rw [if_pos hv]
    exact (h k hk).sv
theorem gv_ref {K : PySem.W.Frag} {h : Heap} {mg : Str → Option Value} {x : Str} {C : Addr} (X : K.In h) (G : h.Ns mainGlobals mg) (a : PySem.W.nsIn K mainGlobals x = some (some (.ref C))) : Gv mg x (.ref C) := ⟨_, PySem.W.mg_of X G a, rfl⟩
theorem err_at {K : PySem.W.Frag} {h : Heap} {mg : Str → Option Value} {x : Str} {C : Addr} (X : K.In h) (G : h.Ns mainGlobals mg) (a : PySem.W.nsIn K mainGlobals x = some (some (.ref C)))
    (e : PySem.W.excIn K C [.type "ValueError", .type "Exception", .type "BaseException", .type "object"] "ValueError.__new__" = true) (k : PySem.W.keepIn K (.ref C) = true) (b : PySem.W.subIn K (.ref C) (.type "BaseException") = some true) (t : PySem.W.typeIn K (.ref C) = some (.type "type")) : ErrC K mg x C :=
  ⟨PySem.W.mg_of X G a, e, k, b, t⟩
def Er.plain : Er → Bool
  | .NoWire _ => false
  | .NoRow _ => false
  | _ => true
theorem XFl.of {e : Er} {H : Hp} (h : e.plain = true) : XFl e none H := by
  cases e <;> first
    | rfl
    | cases h
theorem RetE.byP {d : Eds} {e : Er} {H : Hp} {E : XK} (hp : e.plain = true) (h : ∀ H', Ex H H' → E (.ref (d.at e.k)) none H') : RetE d e H E := by
  cases e <;> first
    | exact fun H' x => h H' x
    | cases hp
theorem Ek.all (k : Ek) : k ∈ [Ek.NoBits, .NoName, .NoKey, .NoFrame, .NoPost, .NoThing, .NoStrip, .NoRail, .NoWire, .NoRow] := by
  cases k <;> decide
/-! the suite, its exception known -/
theorem pss_exc {X : Cx} {ss : List Stmt} {es : Eds} {ks : List Ek} {cls : Value} {t : Er → TS} (h : ∀ e, e.k ∈ ks → cls = .ref (es.at e.k) → PSs X ss (t e)) :
    PSs X ss (fun D σ H => ∃ e : Er, e.k ∈ ks ∧ cls = .ref (es.at e.k) ∧ t e D σ H) :=
  ⟨fun pins s σ H D I ⟨e, h1, h2, q⟩ => (h e h1 h2).run pins s σ H D I q⟩
theorem hot_suite {X : Cx} {a : Addr} {oe : Obj} {pn : List (Addr × Obj)} {cls : Value} {d : Option Addr} (hz : L2N.Zn cls d oe) (hf : ∃ vs, oe.data = .fields vs) : L2H.Hot1 (X.suite a ((a, oe) :: pn)).A (a, oe) := by
  obtain ⟨vs, hv⟩ := hf
  exact ⟨rfl, vs, hv, hz.2.2 vs hv⟩
theorem roomE {X : Cx} {k : Nat} {v : Option Value} (hr : Room k X.A) : L2H.RoomH k (X.A.mark v) := ⟨hr.dp, hr.un⟩
def Er.num : Er → Int
  | .NoWire i => i
  | .NoRow i => i
  | _ => 0
end Bt
namespace Bt
open PySem L2 PyProof.Rows
def okE (ks : List Ek) (e : Er) : Bool := e.plain && decide (e.k ∈ ks)
theorem okE_iff {ks : List Ek} {e : Er} (h : okE ks e = true) : e.plain = true ∧ e.k ∈ ks := by
  unfold okE at h
  rw [Bool.and_eq_true, decide_eq_true_eq] at h
  exact h
theorem ifN {α : Type} {c : Bool} {a : Option α} {r : α} (h : ifB c a none = some r) : c = true ∧ a = some r := by
  cases c with
  | true => exact ⟨rfl, h⟩
  | false => cases h
theorem o_cE {a : Addr} {ex : Er} {d : Option Addr} {R : Bool} {t : TA} {σ : L2.St} {H : Hp} {Q : VK} (h : t σ H fun vs H1 => vs = [.ref a] ∧ XFl ex d H1 ∧ RetV (.bl R) H1 Q) : tCallE a ex d R t σ H Q := h
end Bt
namespace Bt
open PySem L2 PyProof.Rows
theorem pe_gr {X : Cx} {x : Str} {C : Addr} {pos : Pos} (hg : Gl X x) (h : X.mg x = some (.ref C)) (hd : (x == ("__debug__" : Str)) = false := by decide) : PE X (.Name x pos) (tC (.ref C)) := pe_gv hg ⟨_, h, rfl⟩ hd
end Bt
namespace Bt
open PySem L2 PyProof.Rows
theorem pe_callEs {X : Cx} {a : Addr} {oe : Obj} {pn : List (Addr × Obj)} {cls : Value} {k : Nat} {f : Addr} {fd : FuncData} {x y : Str} {q pos : Pos} {e : Expr} {t : TA} {D : Addr} {ex : Er} {R : Bool} {d : Option Addr} (F : FnE X.prog X.w X.K X.mg X.base k f fd y D ex R) (hz : L2N.Zn cls d oe) (hf : ∃ vs, oe.data = .fields vs) (hc : cls = .ref D)
    (hr : Room k X.A) (hg : Gl X x) (hm : X.mg x = some (.ref f)) (hk : PySem.W.keepIn X.K (.ref f) = true) (hb : Binds X.K fd [y] []) (ha : PA (X.suite a ((a, oe) :: pn)) [e] t) (hdb : (x == ("__debug__" : Str)) = false := by decide)
    (he : starEach [e] X.env = (false, eval e X.env) :: starEach [] X.env := by rfl) (hpl : (backTo pos (starEach [] X.env)).any (·.1) = false := by rfl) : PE (X.suite a ((a, oe) :: pn)) (.Call (.Name x q) [e] [] pos) (tCallE a ex d R t) :=
  pe_callE (X := X.suite a ((a, oe) :: pn)) (p := (a, oe)) F (List.Mem.head _) (hot_suite hz hf) (hz.1.trans hc) hz.2.1 (roomE hr) hg hm hk hb ha hdb he hpl
end Bt
namespace Bt
open PySem L2
theorem o_dn {n b k : L2.St → Hp → Prop} {w : VK} {σ : L2.St} {H : Hp} (h : n σ H) : (Ends.mk n w b k).nx σ H := h
end Bt
namespace Bt
open PySem L2
theorem RetE.up {d : Eds} {e : Er} {H H' : Hp} {E : XK} (k : RetE d e H E) (x : Ex H H') : RetE d e H' E := by
  cases e <;> first
    | exact fun H2 h => k H2 (x.trans h)
    | exact fun H2 a ha h => k H2 a (x.back ha) (x.trans h)
end Bt
namespace Bt
open PySem L2
/-! a refusal with its own dict, caught: the dict is laid in the frame -/
theorem RetE.byX {d : Eds} {e : Er} {H : Hp} {E : XK} (h : ∀ H' dd, Ex H H' → XFl e dd H' → (∀ x, dd = some x → H x = none) → E (.ref (d.at e.k)) dd H') : RetE d e H E := by
  cases e <;> first
    | exact fun H' x => h H' none x rfl (fun _ z => nomatch z)
    | exact fun H' a ha x q => h H' (some a) x ⟨a, rfl, q⟩ (fun y z => by cases z; exact ha)
theorem Own.growX {R H H' : Hp} {L : List Cell} {e : Er} {dd : Option Addr} (O : Own R H L) (x : Ex H H') (hX : XFl e dd H') (hn : ∀ y, dd = some y → H y = none) : ∃ R', Own R' H' L ∧ Ex R R' ∧ XFl e dd R' := by
  obtain ⟨R', O', e1, e2⟩ := O.grow x
  refine ⟨R', O', e1, ?_⟩
  cases e <;> first
    | exact hX
    | (obtain ⟨a, h1, h2⟩ := hX
       exact ⟨a, h1, e2 R (Ex.refl R) _ _ (ovr_mk (.inr (hn a h1)) h2)⟩)
end Bt

set_option Elab.async false
set_option linter.all false
set_option maxRecDepth 100000
set_option maxHeartbeats 4000000
/-! Refusals that are made of a whole number: their own __init__, raised where nothing is handled. -/
namespace Bt
open PySem L2 PyProof.Rows
/-- R.__init__(self, ..), R an own class that takes it from ValueError -/
theorem pe_rinit {X : Cx} {x : Str} {R : Addr} {e : Expr} {es : List Expr} {ta : TA} {p1 p2 pos : Pos} {pl : Sem Bool} (hg : Gl X x) (hm : X.mg x = some (.ref R))
    (ga : PySem.W.specialIn X.K (.ref R) "__getattribute__" = some (some (.builtin "type.__getattribute__"))) (rd : PySem.W.readsIn X.K R (.type "type") = true)
    (vV : PySem.W.findCls X.K (.ref R) (.type "type") "__init__" = some (.val (.builtin "ValueError.__init__"))) (ha : PA X (e :: es) ta)
    (hc : eval (.Call (.Attribute (.Name x p1) "__init__" p2) (e :: es) [] pos) X.env = (do
      let ov ← eval (.Name x p1) X.env
      standAt p2.atName
      let (f, first) ← holding [ov] (getMethod ov "__init__" pl)
      callWith pos f first (backTo pos (starEach (e :: es) X.env)) (backToKw pos (keywordEach [] X.env))) := by rfl)
    (hdb : (x == ("__debug__" : Str)) = false := by decide)
    (he : starEach (e :: es) X.env = (false, eval e X.env) :: starEach es X.env := by rfl) (hpl : (backTo pos (starEach es X.env)).any (·.1) = false := by rfl) :
    PE X (.Call (.Attribute (.Name x p1) "__init__" p2) (e :: es) [] pos) (tVeI X.K ta) := by
  refine ⟨fun pins s σ H Q I h => ?_⟩
  refine PySem.W.methodCall_KW (ld_glob I hg hm ?_ hdb) hc
  refine PySem.W.method_cls I.kIn ga (PySem.W.cls_value I.kIn rd vV (by decide +kernel) ?_)
  refine PyProof.Rows.callWith_method1 (thn (ha.run pos pins _ σ H _ (I.tok _) h) fun us s1 ⟨vs, H1, I1, r1, a, C, ws, ev, hl, T, ea, q⟩ => ?_) he hpl
  subst ev
  cases r1 with
  | @cons _ u0 _ ur ra rw' =>
    obtain rfl : u0 = Value.ref a := ra
    have hlen : ur.length ≤ sizeLine := by
      rw [← Paired.length rw', sizeLine_eq]
      omega
    exact oinit_ok T I1 ea hlen fun s' J => ⟨.non, H1, J, rfl, q⟩
/-- C(e, ..) where nothing is handled, its context None -/
theorem pmk_initN {X : Cx} {CX : CXT} {x : Str} {e : Expr} {es : List Expr} {ta : TA} {p pos : Pos} {C fI : Addr} {k : Nat} {fd : FuncData} {ps : List Str} {sp : Sp} (T : OexC X.K C) (iC : PySem.W.findIn X.K (.ref C) "__init__" = some (some (.ref fI))) (tI : PySem.W.typeIn X.K (.ref fI) = some (.type "function"))
    (F1 : FnOk X.prog X.w X.K X.mg X.base CX k fI fd ps sp) (hr : Room (k + 1) X.A) (hb : Binds X.K fd ps []) (hx : Passes CX X (fun _ _ _ => False)) (hg : Gl X x) (hm : X.mg x = some (.ref C)) (ha : PA X (e :: es) ta)
    (hdb : (x == ("__debug__" : Str)) = false := by decide) (he : starEach (e :: es) X.env = (false, eval e X.env) :: starEach es X.env := by rfl) (hpl : (backTo pos (starEach es X.env)).any (·.1) = false := by rfl) :
    L2N.PMk X (.Call (.Name x p) (e :: es) [] pos) (tMkO C sp [] ta) := by
  intro pins s σ H Q I h
  obtain ⟨nm, q, N, bs, bm, sn, sub, ab, col, dd, k0, k1, k2, k3, k5, hC, hbm⟩ := T.cls
  refine wpAny_Call_Name_kw (ld_glob I hg hm ?_ hdb)
  refine PySem.W.callWith_K (h₀ := X.base) I.ok.mod.kin T.kC (thn (ha.run pos pins s σ H _ I h) fun us s1 ⟨vs, H1, I1, r1, hz, q1⟩ => ⟨I1.kIn, ?_⟩) he hpl
  obtain ⟨hp, g, dr, tk, os⟩ := s1
  have hsz : hp.objs.size ≤ hp.objs.size + 1 := Nat.le_succ _
  have hq := q1 (hp.objs.size + 1) (I1.hok.fresh hsz)
  rw [List.append_nil] at hq
  have kk : ∀ b o, hp.get? b = some o → ((hp.push (PySem.W.kdv_tup us)).push (PySem.HandSPX.excO C hp.objs.size)).get? b = some o := fun b o z => Heap.get?_push_of_some _ (Heap.get?_push_of_some _ z)
  have I2 : Inv X pins σ (upd H1 (hp.objs.size + 1) (exo (hp.objs.size + 1) C none)) ⟨(hp.push (PySem.W.kdv_tup us)).push (PySem.HandSPX.excO C hp.objs.size), g, dr, tk, os⟩ :=
    I1.laid (t' := tk) (a := hp.objs.size + 1) (o := exo (hp.objs.size + 1) C none) (h' := (hp.push (PySem.W.kdv_tup us)).push (PySem.HandSPX.excO C hp.objs.size)) kk hsz (exo_ok (by heap_get))
  have r2 : Vals (V.ref (hp.objs.size + 1) :: vs) (Value.ref (hp.objs.size + 1) :: us) := .cons rfl r1
  have hl : (Value.ref (hp.objs.size + 1) :: us ++ []).length = ps.length := by
    have z := r2.length
    rw [F1.len _ _ _ _ hq] at z
    rw [List.append_nil]
    exact z.symm
  have hus : us.length ≤ sizeLine := by
    rw [← Paired.length r1, sizeLine_eq]
    omega
  have b2 := hb _ (Value.ref (hp.objs.size + 1) :: us) I2.kIn hl
  rw [List.append_nil] at b2
  refine wpAny_call (PySem.HandSPX.call_own PySem.F.excBase_ValueError (fun Y => PySem.HandSPX.refsVE_contains Y bm hbm) (I1.kIn _ _ hC) (PySem.W.looks_findIn I1.kIn iC) (fun self => PySem.W.bind_fn I1.kIn self tI) hus
    (codeAny_mono (F1.run _ X.stack _ _ ⟨Value.ref (hp.objs.size + 1) :: us, []⟩ (Value.ref (hp.objs.size + 1) :: us) _ _ (fun _ _ _ => False) (hr.make C us []) (I2.env0.make C us []) b2 r2 hq) fun r s' hq' => ?_))
  cases r with
  | error er => exact hx pins σ _ _ er s' I2 hq'
  | ok fl =>
    cases fl with
    | ret u =>
      obtain ⟨v, H2, os2, bare2, un2, hok2, rv, ev, d, fs, ea, ed, hd1, q2⟩ := hq'
      subst ev
      obtain ⟨h2, g2, d2, t2, os'⟩ := s'
      obtain ⟨t0, G, J, kG, ge, hoe, na⟩ := mk_end0 (d2 := d2) (t2 := t2) I1 hsz kk un2 hok2 os2 bare2 ea ed hd1
      exact ⟨rv, _, _, _, ⟨G, g2, d2, t2, os'⟩, _, .ref C, some d, rfl, J, kG, ge, hoe, ⟨rfl, rfl, fun vs z => by cases z; rfl⟩, rfl, rfl, na, rfl, bare2, raises_own T.exC T.tyC, q2⟩
    | next => exact False.elim hq'
    | brk => exact False.elim hq'
    | cont => exact False.elim hq'
/-- what such an __init__ promises: the field laid -/
def spI (C : Addr) (fld : Str) : Sp := fun vs H Q _ => ∃ (a : Addr) (i : Int), vs = [.ref a, .int i] ∧ H a = some (exo a C none) ∧ ∀ dx, H dx = none → dx ≠ a → Q .non (upd (upd H dx (exd dx [(fld, .int i)])) a (exo a C (some dx)))
def rMkI (C : Addr) (fld : Str) (vs : List V) (H1 : Hp) (Q : XK) : Prop := vs.length ≤ 1000 ∧ ∀ a, H1 a = none → spI C fld (.ref a :: (vs ++ [])) (upd H1 a (exo a C none))
  (fun v H2 => v = .non ∧ ∃ (d : Addr) (fs : List (Str × V)), H2 a = some (exo a C (some d)) ∧ H2 d = some (exd d fs) ∧ H1 d = none ∧ Q (.ref C) (some d) (upd (del H2 a) d (.xd fs))) (fun _ _ _ => False)
theorem o_mkI {C : Addr} {fld : Str} {t : TA} {σ : L2.St} {H : Hp} {Q : XK} (h : t σ H fun vs H1 => rMkI C fld vs H1 Q) : tMkO C (spI C fld) [] t σ H Q := h
theorem k_mkI {C : Addr} {fld : Str} {H1 : Hp} {Q : XK} {i : Int} (k : ∀ H' dx, H1 dx = none → Ex H1 H' → H' dx = some (.xd [(fld, .int i)]) → Q (.ref C) (some dx) H') : rMkI C fld [.int i] H1 Q := by
  refine ⟨by show 1 ≤ 1000; decide, fun a ha => ⟨a, i, rfl, upd_same, fun dx h1 h2 => ?_⟩⟩
  rw [upd_ne h2] at h1
  refine ⟨rfl, dx, _, upd_same, ?_, h1, k _ dx h1 (fun b o hb => ?_) upd_same⟩
  · rw [upd_ne h2, upd_same]
  · have hba : b ≠ a := fun z => by rw [z, ha] at hb; cases hb
    have hbd : b ≠ dx := fun z => by rw [z, h1] at hb; cases hb
    rw [upd_ne hbd, del_ne hba, upd_ne hba, upd_ne hbd, upd_ne hba]
    exact hb
/-- the facts of such a class -/
structure InF (K : PySem.W.Frag) (mg : Str → Option Value) (C R f : Addr) (fld : Str) : Prop where
  o : OexC K C
  i : PySem.W.findIn K (.ref C) "__init__" = some (some (.ref f))
  t : PySem.W.typeIn K (.ref f) = some (.type "function")
  n : PySem.W.findIn K (.ref C) fld = some none
  ga : PySem.W.specialIn K (.ref R) "__getattribute__" = some (some (.builtin "type.__getattribute__"))
  rd : PySem.W.readsIn K R (.type "type") = true
  v : PySem.W.findCls K (.ref R) (.type "type") "__init__" = some (.val (.builtin "ValueError.__init__"))
  mr : mg "RailError" = some (.ref R)
end Bt
namespace Bt
open PySem
/-- the statements of a class -/
def clsB (s : Stmt) : List Stmt := match s with
  | .ClassDef _ _ _ b _ _ _ _ _ _ _ => b
  | _ => []
end Bt

set_option linter.all false
set_option maxRecDepth 100000
set_option maxHeartbeats 1000000
/-! Plain facts about the mirror's words. -/
namespace Bt
open PySem L2
section
variable {α β S R : Type}
theorem bnd_some {a : α} {f : α → Option β} : bnd (some a) f = f a := rfl
theorem bnd_of {a : Option α} {x : α} {f : α → Option β} (h : a = some x) : bnd a f = f x := by rw [h]; rfl
theorem ltv_eq {a : α} {f : α → Option β} : ltv a f = f a := rfl
theorem ifB_t {a b : α} : ifB true a b = a := rfl
theorem ifB_f {a b : α} : ifB false a b = b := rfl
theorem ifB_dec {c : Prop} [Decidable c] {a b : α} : ifB (decide c) a b = if c then a else b := by
  by_cases h : c
  · rw [if_pos h, decide_eq_true h]; rfl
  · rw [if_neg h, decide_eq_false h]; rfl
theorem ifB_ite {c : Bool} {a b : α} : ifB c a b = if c = true then a else b := by cases c <;> rfl
theorem fin_nx {s : S} {rest : S → Option R} : fin (some (.nx s)) rest = rest s := rfl
theorem fin_rt {r : R} {rest : S → Option R} : fin (some (.rt r)) rest = some r := rfl
theorem loopM_ok {f : α → S → Option S} (I : List α → S → Prop) (hs : ∀ x r s, I (x :: r) s → ∃ s', f x s = some s' ∧ I r s') : ∀ (xs : List α) (s : S), I xs s → ∃ out, loopM f xs s = some out ∧ I [] out
  | [], s, h => ⟨s, rfl, h⟩
  | x :: r, s, h => by
    obtain ⟨s', h1, h2⟩ := hs x r s h
    obtain ⟨out, h3, h4⟩ := loopM_ok I hs r s' h2
    exact ⟨out, by show bnd (f x s) (loopM f r) = some out; rw [h1]; exact h3, h4⟩
theorem loopF_ok {f : α → S → Option (Fl S R)} (I : List α → S → Prop) (hs : ∀ x r s, I (x :: r) s → ∃ s', f x s = some (.nx s') ∧ I r s') : ∀ (xs : List α) (s : S), I xs s → ∃ out, loopF f xs s = some (.nx out) ∧ I [] out
  | [], s, h => ⟨s, rfl, h⟩
  | x :: r, s, h => by
    obtain ⟨s', h1, h2⟩ := hs x r s h
    obtain ⟨out, h3, h4⟩ := loopF_ok I hs r s' h2
    exact ⟨out, by show bnd (f x s) (contF (loopF f r)) = some (.nx out); rw [h1]; exact h3, h4⟩
/-- a search that finds nothing -/
theorem loopF_unit {f : α → Unit → Option (Fl Unit R)} {xs : List α} (h : ∀ x ∈ xs, f x () = some (.nx ())) : loopF f xs () = some (.nx ()) := by
  induction xs with
  | nil => rfl
  | cons x r ih =>
    show bnd (f x ()) (contF (loopF f r)) = some (.nx ())
    rw [h x (List.Mem.head _)]
    exact ih fun y hy => h y (List.Mem.tail _ hy)
theorem compM_ok {f : α → Option β} {g : α → β} : ∀ (xs : List α) (acc : List β), (∀ x ∈ xs, f x = some (g x)) → acc.length + xs.length ≤ 16777216 → compM f xs acc = some (acc ++ xs.map g)
  | [], acc, _, _ => by simp [compM]
  | x :: r, acc, h, hz => by
    have hl : acc.length < 16777216 := by simp only [List.length_cons] at hz; omega
    have ih := compM_ok r (acc ++ [g x]) (fun y hy => h y (List.Mem.tail _ hy)) (by simp only [List.length_append, List.length_cons, List.length_nil] at hz ⊢; omega)
    show bnd (f x) (fun y => if acc.length < 16777216 then compM f r (acc ++ [y]) else none) = _
    rw [h x (List.Mem.head _), bnd_some, if_pos hl, ih]
    simp
/-- the elements' property alone -/
theorem compM_all {f : α → Option β} {P : β → Prop} : ∀ (xs : List α) (acc : List β), (∀ x ∈ xs, ∃ y, f x = some y ∧ P y) → acc.length + xs.length ≤ 16777216 → (∀ y ∈ acc, P y) → ∃ out, compM f xs acc = some out ∧ out.length = acc.length + xs.length ∧ ∀ y ∈ out, P y
  | [], acc, _, _, ha => ⟨acc, rfl, by simp, ha⟩
  | x :: r, acc, h, hz, ha => by
    obtain ⟨y, h1, h2⟩ := h x (List.Mem.head _)
    have hl : acc.length < 16777216 := by simp only [List.length_cons] at hz; omega
    obtain ⟨out, h3, h4, h5⟩ := compM_all r (acc ++ [y]) (fun y hy => h y (List.Mem.tail _ hy)) (by simp only [List.length_append, List.length_cons, List.length_nil] at hz ⊢; omega) (fun z hz => by
      rcases List.mem_append.mp hz with q | q
      · exact ha z q
      · rw [List.mem_singleton.mp q]; exact h2)
    refine ⟨out, ?_, by rw [h4]; simp only [List.length_append, List.length_cons, List.length_nil]; omega, h5⟩
    show bnd (f x) (fun y => if acc.length < 16777216 then compM f r (acc ++ [y]) else none) = _
    rw [h1, bnd_some, if_pos hl, h3]
theorem appG_ok {xs : List α} {y : α} (h : xs.length < 16777216) : appG xs y = some (xs ++ [y]) := grd_of h
theorem catG_ok {xs ys : List α} (h : xs.length + ys.length ≤ 16777216) : catG xs ys = some (xs ++ ys) := grd_of h
theorem ixN_nat' {n : Nat} {i : Int} (h0 : 0 ≤ i) (h1 : i < n) : ixN n i = some i.toNat := by
  unfold ixN
  rw [if_pos h0, if_pos h1]
theorem atI_ok {xs : List α} {i : Int} (h0 : 0 ≤ i) (h1 : i < xs.length) : atI xs i = xs[i.toNat]? := by
  unfold atI
  rw [ixN_nat' h0 h1]
  rfl
theorem atI_mem {xs : List α} {i : Int} (h0 : 0 ≤ i) (h1 : i < xs.length) : ∃ x, atI xs i = some x ∧ x ∈ xs := by
  have hn : i.toNat < xs.length := by omega
  exact ⟨xs[i.toNat], by rw [atI_ok h0 h1]; exact List.getElem?_eq_getElem hn, List.getElem_mem hn⟩
theorem setG_ok {xs : List α} {i : Int} {y : α} (h0 : 0 ≤ i) (h1 : i < xs.length) : setG xs i y = some (xs.set i.toNat y) := by
  unfold setG
  rw [ixN_nat' h0 h1]
theorem repG_ok {xs : List α} {k : Int} (h0 : 0 ≤ k) (h1 : k ≤ 1000000) (h2 : xs.length * k.toNat ≤ 16777216) : repG xs k = some (List.replicate k.toNat xs).flatten := grd_of ⟨by omega, by omega, h2⟩
end
theorem modG_ok {i j : Int} (h : 0 < j) : modG i j = some (i % j) := grd_of h
theorem log2_small {n k : Nat} (h : n < 2 ^ k) : n.log2 ≤ k := by
  by_cases h0 : n = 0
  · subst h0; rw [show Nat.log2 0 = 0 from by decide]; exact Nat.zero_le _
  · exact Nat.le_of_lt ((Nat.log2_lt h0).mpr h)
theorem mulG_ok {i j : Int} {a b : Nat} (h1 : i.natAbs < 2 ^ a) (h2 : j.natAbs < 2 ^ b) (h : a + b < 1000000) : mulG i j = some (i * j) := by
  refine grd_of ?_
  have := log2_small h1
  have := log2_small h2
  omega
theorem fdivG_ok {i j : Int} {b : Nat} (h : 0 < j) (h2 : j.natAbs < 2 ^ b) (hb : b < 9000) : fdivG i j = some (i / j) := by
  refine grd_of ⟨h, ?_⟩
  have := log2_small h2
  omega
theorem shrG_ok {i j : Int} (h : 0 ≤ j) : shrG i j = some (i / 2 ^ j.toNat) := grd_of h
theorem rng1_ok {j : Int} (h : j ≤ 1000000) (h0 : -1000000 ≤ j) : rng1 j = some (rangeI 0 j) := grd_of ⟨by omega, by omega⟩
theorem rng2_ok {i j : Int} (h : j ≤ 1000000) (h0 : -1000000 ≤ j) (h1 : -1000000 ≤ i) (h2 : i ≤ 1000000) : rng2 i j = some (rangeI i j) := grd_of ⟨by omega, by omega, by omega, by omega⟩
theorem mem_rangeI {i j x : Int} (h : x ∈ rangeI i j) : i ≤ x ∧ x < j := by
  unfold rangeI at h
  obtain ⟨n, hn, rfl⟩ := List.mem_map.mp h
  have := List.mem_range.mp hn
  omega
theorem rangeI_length (i j : Int) : (rangeI i j).length = (j - i).toNat := by simp [rangeI]
theorem rangeI_cons {i j : Int} (h : i < j) : rangeI i j = i :: rangeI (i + 1) j := by
  unfold rangeI
  have e : (j - i).toNat = (j - (i + 1)).toNat + 1 := by omega
  rw [e, List.range_succ_eq_map]
  simp only [List.map_cons, List.map_map]
  congr 1
  · simp
  · refine List.map_congr_left fun n _ => ?_
    simp only [Function.comp]
    omega
theorem rangeI_nil {i j : Int} (h : j ≤ i) : rangeI i j = [] := by
  unfold rangeI
  rw [show (j - i).toNat = 0 from by omega]
  rfl
/-- a loop over a range: the invariant by the number ahead -/
theorem loopM_rng {S : Type} {f : Int → S → Option S} (I : Int → S → Prop) {hi : Int} (hs : ∀ i s, i < hi → I i s → ∃ s', f i s = some s' ∧ I (i + 1) s') : ∀ (n : Nat) (lo : Int) (s : S), (hi - lo).toNat = n → lo ≤ hi → I lo s → ∃ out, loopM f (rangeI lo hi) s = some out ∧ I hi out
  | 0, lo, s, e, h, h0 => by
    have : lo = hi := by omega
    subst this
    rw [rangeI_nil (Int.le_refl _)]
    exact ⟨s, rfl, h0⟩
  | n + 1, lo, s, e, h, h0 => by
    rw [rangeI_cons (by omega)]
    obtain ⟨s', h1, h2⟩ := hs lo s (by omega) h0
    obtain ⟨out, h3, h4⟩ := loopM_rng I hs n (lo + 1) s' (by omega) (by omega) h2
    exact ⟨out, by show bnd (f lo s) _ = _; rw [h1]; exact h3, h4⟩
theorem loopF_rng {S R : Type} {f : Int → S → Option (Fl S R)} (I : Int → S → Prop) {hi : Int} (hs : ∀ i s, i < hi → I i s → ∃ s', f i s = some (.nx s') ∧ I (i + 1) s') : ∀ (n : Nat) (lo : Int) (s : S), (hi - lo).toNat = n → lo ≤ hi → I lo s → ∃ out, loopF f (rangeI lo hi) s = some (.nx out) ∧ I hi out
  | 0, lo, s, e, h, h0 => by
    have : lo = hi := by omega
    subst this
    rw [rangeI_nil (Int.le_refl _)]
    exact ⟨s, rfl, h0⟩
  | n + 1, lo, s, e, h, h0 => by
    rw [rangeI_cons (by omega)]
    obtain ⟨s', h1, h2⟩ := hs lo s (by omega) h0
    obtain ⟨out, h3, h4⟩ := loopF_rng I hs n (lo + 1) s' (by omega) (by omega) h2
    exact ⟨out, by show bnd (f lo s) _ = _; rw [h1]; exact h3, h4⟩
end Bt
namespace Bt
open PySem L2
theorem bits_le {i : Int} {n : Nat} (h : i.natAbs < 2 ^ n) : Builtin.Int.intBits i ≤ n := by
  unfold Builtin.Int.intBits
  split
  · exact Nat.zero_le _
  · rename_i h0
    have h1 : i.natAbs ≠ 0 := by simpa using h0
    have := (Nat.log2_lt h1).mpr h
    omega
theorem shlG_ok {i j : Int} {n : Nat} (h : i.natAbs < 2 ^ n) (h0 : 0 ≤ j) (h1 : (n : Int) + j ≤ 100000000) : shlG i j = some (i * 2 ^ j.toNat) := by
  refine grd_of ⟨h0, ?_⟩
  have := bits_le h
  omega
end Bt
namespace Bt
open PySem L2
theorem whileM_go {S : Type} {c : S → Option Bool} {f : S → Option S} {n : Nat} {s s' : S} (h1 : c s = some true) (h2 : f s = some s') : whileM c f (n + 1) s = whileM c f n s' := by
  show bnd (c s) (fun b => ifB b (bnd (f s) (whileM c f n)) (some s)) = _
  rw [h1, bnd_some, ifB_t, h2, bnd_some]
theorem whileM_stop {S : Type} {c : S → Option Bool} {f : S → Option S} {n : Nat} {s : S} (h1 : c s = some false) : whileM c f (n + 1) s = some s := by
  show bnd (c s) (fun b => ifB b (bnd (f s) (whileM c f n)) (some s)) = _
  rw [h1, bnd_some, ifB_f]
theorem loopM_go {α S : Type} {f : α → S → Option S} {x : α} {r : List α} {s s' : S} (h : f x s = some s') : loopM f (x :: r) s = loopM f r s' := by
  show bnd (f x s) (loopM f r) = _
  rw [h, bnd_some]
theorem loopF_go {α S R : Type} {f : α → S → Option (Fl S R)} {x : α} {r : List α} {s s' : S} (h : f x s = some (.nx s')) : loopF f (x :: r) s = loopF f r s' := by
  show bnd (f x s) (contF (loopF f r)) = _
  rw [h, bnd_some]
  rfl
end Bt
namespace Bt
open PySem L2
theorem compT_ok {α β : Type} {c : α → Option Bool} {f : α → Option β} {p : α → Bool} {g : α → β} : ∀ (xs : List α) (acc : List β), (∀ x ∈ xs, c x = some (p x)) → (∀ x ∈ xs, f x = some (g x)) → acc.length + xs.length ≤ 16777216 → compT c f xs acc = some (acc ++ (xs.filter p).map g)
  | [], acc, _, _, _ => by simp [compT]
  | x :: r, acc, h, k, hz => by
    simp only [List.length_cons] at hz
    show bnd (c x) (fun b => ifB b (bnd (f x) fun y => if acc.length < 16777216 then compT c f r (acc ++ [y]) else none) (compT c f r acc)) = _
    rw [h x (List.Mem.head _), bnd_some]
    cases e : p x with
    | true =>
      rw [ifB_t, k x (List.Mem.head _), bnd_some, if_pos (by omega), compT_ok r (acc ++ [g x]) (fun y hy => h y (List.Mem.tail _ hy)) (fun y hy => k y (List.Mem.tail _ hy)) (by simp; omega)]
      simp [e]
    | false =>
      rw [ifB_f, compT_ok r acc (fun y hy => h y (List.Mem.tail _ hy)) (fun y hy => k y (List.Mem.tail _ hy)) (by omega)]
      simp [e]
end Bt
namespace Bt
theorem bndO_ok {α β : Type} {y : α} {f : α → Option β} : bndO (some (.ok y)) f = f y := rfl
theorem bndR_ok {α β : Type} {y : α} {f : α → Option (Rs β)} : bndR (some (.ok y)) f = f y := rfl
theorem bndR_er {α β : Type} {e : Er} {f : α → Option (Rs β)} : bndR (some (.er e)) f = some (.er e) := rfl
theorem tryR_ok {α β : Type} {y : α} {f : α → β} {g : Er → β} : tryR (.ok y) f g = f y := rfl
theorem tryR_er {α β : Type} {e : Er} {f : α → β} {g : Er → β} : tryR (.er e) f g = g e := rfl
end Bt

set_option Elab.async false
set_option linter.all false
set_option maxRecDepth 100000
set_option maxHeartbeats 4000000
/-! Objects: what a def is handed to change, and gives back. -/
namespace Bt
open PySem L2
section
variable {R R' H H' H0 R0 Hb F : Hp} {L L' A B C : List Cell} {Bs Bs' Cs : List (List Cell)} {a p q : Addr} {o o' : HO} {Q : VK} {v : V} {D : Hp → V → List Cell → Prop} {α : Type}
/-- some of the blocks, by their places -/
theorem flat_mem {i : Nat} {b : List Cell} (h : Bs[i]? = some b) {c : Cell} (hc : c ∈ b) : c ∈ Bs.flatten := List.mem_flatten.mpr ⟨b, List.mem_of_getElem? h, hc⟩
theorem flat_nd : ∀ {Bs : List (List Cell)}, (Bs.flatten.map (·.1)).Nodup → ∀ {i j : Nat} {b b' : List Cell}, Bs[i]? = some b → Bs[j]? = some b' → i ≠ j → ∀ c ∈ b, ∀ d ∈ b', c.1 ≠ d.1
  | [], _, i, j, b, b', h, _, _ => by simp at h
  | x :: r, nd, i, j, b, b', h, h', n => by
    rw [List.flatten_cons, List.map_append] at nd
    obtain ⟨_, n2, n3⟩ := List.nodup_append.mp nd
    intro c hc d hd e
    cases i with
    | zero =>
      cases j with
      | zero => exact n rfl
      | succ j =>
        cases Option.some.inj h
        exact n3 _ (List.mem_map_of_mem (f := (·.1)) hc) _ (List.mem_map_of_mem (f := (·.1)) (flat_mem (by simpa using h') hd)) e
    | succ i =>
      cases j with
      | zero =>
        cases Option.some.inj h'
        exact n3 _ (List.mem_map_of_mem (f := (·.1)) hd) _ (List.mem_map_of_mem (f := (·.1)) (flat_mem (by simpa using h) hc)) e.symm
      | succ j => exact flat_nd n2 (by simpa using h) (by simpa using h') (fun z => n (by rw [z])) c hc d hd e
theorem flat_nd1 : ∀ {Bs : List (List Cell)}, (Bs.flatten.map (·.1)).Nodup → ∀ {i : Nat} {b : List Cell}, Bs[i]? = some b → (b.map (·.1)).Nodup
  | [], _, i, b, h => by simp at h
  | x :: r, nd, i, b, h => by
    rw [List.flatten_cons, List.map_append] at nd
    obtain ⟨n1, n2, _⟩ := List.nodup_append.mp nd
    cases i with
    | zero => cases Option.some.inj h; exact n1
    | succ i => exact flat_nd1 n2 (by simpa using h)
theorem Own.selB (O : Own R H Bs.flatten) (is : List Nat) (hd : is.Nodup) (e : is.map (fun i => Bs[i]?) = Bs'.map some) : Own R H Bs'.flatten := by
  have hm : ∀ c ∈ Bs'.flatten, c ∈ Bs.flatten := fun c hc => by
    obtain ⟨b, hb, hc⟩ := List.mem_flatten.mp hc
    have h1 : some b ∈ is.map (fun i => Bs[i]?) := by rw [e]; exact List.mem_map_of_mem hb
    obtain ⟨i, _, h2⟩ := List.mem_map.mp h1
    exact flat_mem h2 hc
  refine ⟨O.ex, fun c h => O.at_ c (hm c h), fun c h => O.fr c (hm c h), ?_⟩
  clear hm
  induction is generalizing Bs' with
  | nil =>
    cases Bs' with
    | nil => exact List.Pairwise.nil
    | cons c r => simp at e
  | cons i is ih =>
    cases Bs' with
    | nil => simp at e
    | cons b r =>
      simp only [List.map_cons, List.cons.injEq] at e
      obtain ⟨e1, e2⟩ := e
      obtain ⟨n1, n2⟩ := List.nodup_cons.mp hd
      rw [List.flatten_cons, List.map_append]
      refine List.nodup_append.mpr ⟨flat_nd1 O.nd e1, ih n2 e2, fun x hx y hy exy => ?_⟩
      obtain ⟨c, hc, rfl⟩ := List.mem_map.mp hx
      obtain ⟨d, hd', rfl⟩ := List.mem_map.mp hy
      obtain ⟨b', hb', hd'⟩ := List.mem_flatten.mp hd'
      have h1 : some b' ∈ is.map (fun i => Bs[i]?) := by rw [e2]; exact List.mem_map_of_mem hb'
      obtain ⟨j, hj, h2⟩ := List.mem_map.mp h1
      exact flat_nd O.nd e1 h2 (fun z => n1 (by rw [z]; exact hj)) c hc d hd' exy
theorem Own.split (O : Own R H (Bs ++ Cs).flatten) : Own R H (Bs.flatten ++ Cs.flatten) := by
  rw [List.flatten_append] at O
  exact O
/-- blocks to the front, apart -/
theorem Own.cutB (O : Own R H Bs.flatten) (is : List Nat) (hd : is.Nodup) (e : is.map (fun i => Bs[i]?) = (Bs' ++ Cs).map some) : Own R H (Bs'.flatten ++ Cs.flatten) := (O.selB is hd e).split
theorem Own.asc (O : Own R H ((A ++ B) ++ C)) : Own R H (A ++ (B ++ C)) := by
  rw [List.append_assoc] at O
  exact O
/-- H without the cells -/
def hsub (H : Hp) (L : List Cell) : Hp := fun a => if a ∈ L.map (·.1) then none else H a
theorem hsub_nil : hsub H [] = H := rfl
theorem hsub_in {c : Cell} (h : c ∈ L) : hsub H L c.1 = none := by
  unfold hsub
  exact if_pos (List.mem_map_of_mem (f := (·.1)) h)
theorem hsub_ex : Ex (hsub H L) H := fun a u e => by
  unfold hsub at e
  split at e
  · cases e
  · exact e
theorem Own.subR (O : Own R H L) : Ex R (hsub H L) := fun a u e => by
  unfold hsub
  rw [if_neg (fun m => by
    obtain ⟨c, hc, e1⟩ := List.mem_map.mp m
    have := O.fr c hc
    rw [e1, e] at this
    cases this)]
  exact O.ex _ _ e
theorem Own.startX (O : Own R H L) : Own (hsub H L) H L := ⟨hsub_ex, O.at_, fun c h => hsub_in h, O.nd⟩
theorem Own.shrink (O : Own R H L) (e : Ex R' R) : Own R' H L := ⟨e.trans O.ex, O.at_, fun c h => e.back (O.fr c h), O.nd⟩
theorem Own.left (O : Own R H (A ++ B)) : Own R H A := O.sub (List.sublist_append_left A B)
theorem Own.right (O : Own R H (A ++ B)) : Own R H B := O.sub (List.sublist_append_right A B)
/-- what a def that changes things hands back: in what R0 knows or what is new; the cells L are its own to give back -/
def RetX (R0 Hb : Hp) (D : Hp → V → List Cell → Prop) (Q : VK) : Prop := ∀ v H' R' L', Ex Hb R' → Own R' H' L' → D (ovr R0 Hb R') v L' → Q v H'
abbrev DT := Hp → V → List Cell → Prop
def MonoD (D : DT) : Prop := ∀ F F' v L, Ex F F' → D F v L → D F' v L
/-- back from the call: the other cells are still there -/
theorem Own.back (O : Own R H (B ++ C)) (e : Ex (hsub H B) R') (O' : Own R' H' L') : ∃ R'', Own R'' H' (L' ++ C) ∧ Ex R R'' ∧ ∀ F, Ex F R → Ex (ovr F (hsub H B) R') R'' := by
  have nd := O.nd
  rw [List.map_append] at nd
  obtain ⟨ndB, ndC, dis⟩ := List.nodup_append.mp nd
  have hC : ∀ c ∈ C, R' c.1 = some c.2 := fun c hc => e _ _ (by
    unfold hsub
    rw [if_neg (fun m => dis _ m _ (List.mem_map_of_mem (f := (·.1)) hc) rfl)]
    exact O.at_ c (List.mem_append.mpr (.inr hc)))
  have hR : ∀ b u, R b = some u → R' b = some u := fun b u h => e _ _ (O.left.subR b u h)
  refine ⟨hsub R' C, ⟨hsub_ex.trans O'.ex, fun c hc => ?_, fun c hc => ?_, ?_⟩, fun b u h => ?_, fun F hF b u h => ?_⟩
  · rcases List.mem_append.mp hc with hc | hc
    · exact O'.at_ c hc
    · exact O'.ex _ _ (hC c hc)
  · rcases List.mem_append.mp hc with hc | hc
    · exact hsub_ex.back (O'.fr c hc)
    · exact hsub_in hc
  · rw [List.map_append]
    refine List.nodup_append.mpr ⟨O'.nd, ndC, fun x hx y hy exy => ?_⟩
    subst exy
    obtain ⟨c, hc, e1⟩ := List.mem_map.mp hx
    obtain ⟨d, hd, e2⟩ := List.mem_map.mp hy
    have h1 := O'.fr c hc
    have h2 := hC d hd
    rw [e2, ← e1, h1] at h2
    cases h2
  · unfold hsub
    rw [if_neg (fun m => by
      obtain ⟨c, hc, e1⟩ := List.mem_map.mp m
      have := O.fr c (List.mem_append.mpr (.inr hc))
      rw [e1, h] at this
      cases this)]
    exact hR b u h
  · obtain ⟨hq, h1⟩ := ovr_some h
    unfold hsub
    rw [if_neg (fun m => ?_)]
    · exact h1
    · obtain ⟨c, hc, e1⟩ := List.mem_map.mp m
      rcases hq with hq | hq
      · cases hf : F b with
        | none => exact hq hf
        | some w =>
          have := O.fr c (List.mem_append.mpr (.inr hc))
          rw [e1, hF _ _ hf] at this
          cases this
      · have : hsub H B c.1 = some c.2 := by
          unfold hsub
          rw [if_neg (fun m => dis _ m _ (List.mem_map_of_mem (f := (·.1)) hc) rfl)]
          exact O.at_ c (List.mem_append.mpr (.inr hc))
        rw [e1, hq] at this
        cases this
theorem Own.retX (O : Own R H (B ++ C)) (m : MonoD D) (k : ∀ v H' R' L', Own R' H' (L' ++ C) → Ex R R' → D R' v L' → Q v H') : RetX R (hsub H B) D Q := fun v H' R' L' e O' d => by
  obtain ⟨R'', O'', e1, e2⟩ := O.back e O'
  exact k v H' R'' L' O'' e1 (m _ _ _ _ (e2 R (Ex.refl R)) d)
theorem Own.retXO (O : Own R H (B ++ C)) (m : MonoD D) (e0 : Ex H0 R) (k : ∀ v H' R' L', Own R' H' (L' ++ C) → Ex R R' → D (ovr R0 H0 R') v L' → Q v H') : RetX (ovr R0 H0 R) (hsub H B) D Q := fun v H' R' L' e O' d => by
  obtain ⟨R'', O'', e1, e2⟩ := O.back e O'
  refine k v H' R'' L' O'' e1 (m _ _ _ _ (fun b u h => ?_) d)
  have h1 := e2 (ovr R0 H0 R) ovr_ex _ _ h
  obtain ⟨hq, _⟩ := ovr_some h
  refine ovr_mk ?_ h1
  rcases hq with hq | hq
  · cases hz : ovr R0 H0 R b with
    | none => exact absurd hz hq
    | some w => exact (ovr_some hz).1
  · refine .inr ?_
    cases hz : H0 b with
    | none => rfl
    | some w =>
      have h3 := O.left.subR _ _ (e0 _ _ hz)
      rw [hq] at h3
      cases h3
theorem Own.inC {B C : List Cell} {c : Cell} (O : Own R H (B ++ C)) (h : c ∈ C) : hsub H B c.1 = some c.2 := by
  have nd := O.nd
  rw [List.map_append] at nd
  unfold hsub
  rw [if_neg (fun m => (List.nodup_append.mp nd).2.2 _ m _ (List.mem_map_of_mem (f := (·.1)) h) rfl)]
  exact O.at_ c (List.mem_append_right _ h)
/-! what is handed back -/
abbrev Ob (α : Type) := Hp → Addr → List Cell → α → Prop
def MonoO {α : Type} (B : Ob α) : Prop := ∀ F F' a L x, Ex F F' → B F a L x → B F' a L x
def dV (w : V) : DT := fun _ v L => L = [] ∧ v = w
def dLs (xs : List V) : DT := fun _ v L => ∃ p, v = .ref p ∧ L = [(p, .lst xs)]
def dTp (xs : List V) : DT := fun _ v L => ∃ p, v = .ref p ∧ L = [(p, .tup xs)]
def dP {α : Type} (P : Rp α) (x : α) : DT := fun F v L => L = [] ∧ P F v x
def dOb {α : Type} (B : Ob α) (x : α) : DT := fun F v L => ∃ a, v = .ref a ∧ B F a L x
def dX {α : Type} (B : Ob α) (a : Addr) (x : α) (D : DT) : DT := fun F v L => ∃ L1 L2, L = L1 ++ L2 ∧ B F a L1 x ∧ D F v L2
def dI {α : Type} (B : Ob α) (a : Addr) (x : α) : DT := fun F v L => v = .non ∧ B F a L x
theorem mdI {α : Type} {B : Ob α} {a : Addr} {x : α} (m : MonoO B) : MonoD (dI B a x) := fun _ _ _ _ e h => ⟨h.1, m _ _ _ _ _ e h.2⟩
def dK (L : List Cell) (D : DT) : DT := fun F v L' => ∃ L2, L' = L ++ L2 ∧ D F v L2
theorem mdK {L : List Cell} {D : DT} (n : MonoD D) : MonoD (dK L D) := fun _ _ _ _ e ⟨L2, h1, h3⟩ => ⟨L2, h1, n _ _ _ _ e h3⟩
theorem Own.whole {R0 Hs Hb H0 H : Hp} {L X : List Cell} (O0 : Own R0 Hs L) (hb : Hb = hsub Hs L) (eB : Ex Hb H0) (O : Own H0 H (L ++ X)) : Ex Hs H := fun a u h => by
  by_cases c : a ∈ L.map (·.1)
  · obtain ⟨d, hd, e⟩ := List.mem_map.mp c
    have h1 := O0.at_ d hd
    have h2 := O.at_ d (List.mem_append_left _ hd)
    subst e
    rw [h1] at h
    rw [h2, ← h]
  · refine O.ex _ _ (eB _ _ ?_)
    rw [hb]
    unfold hsub
    rw [if_neg c]
    exact h
theorem mdV {w : V} : MonoD (dV w) := fun _ _ _ _ _ h => h
theorem mdLs {xs : List V} : MonoD (dLs xs) := fun _ _ _ _ _ h => h
theorem mdTp {xs : List V} : MonoD (dTp xs) := fun _ _ _ _ _ h => h
theorem mdP {α : Type} {P : Rp α} {x : α} (m : Mono P) : MonoD (dP P x) := fun _ _ _ _ e h => ⟨h.1, m _ _ _ _ e h.2⟩
theorem mdOb {α : Type} {B : Ob α} {x : α} (m : MonoO B) : MonoD (dOb B x) := fun _ _ _ _ e ⟨a, h1, h2⟩ => ⟨a, h1, m _ _ _ _ _ e h2⟩
theorem mdX {α : Type} {B : Ob α} {a : Addr} {x : α} {D : DT} (m : MonoO B) (n : MonoD D) : MonoD (dX B a x D) := fun _ _ _ _ e ⟨L1, L2, h1, h2, h3⟩ => ⟨L1, L2, h1, m _ _ _ _ _ e h2, n _ _ _ _ e h3⟩
/-! a list of such -/
inductive All3 {α β γ : Type} (P : α → β → γ → Prop) : List α → List β → List γ → Prop
  | nil : All3 P [] [] []
  | cons {a : α} {b : β} {c : γ} {as : List α} {bs : List β} {cs : List γ} : P a b c → All3 P as bs cs → All3 P (a :: as) (b :: bs) (c :: cs)
theorem All3.mp {α β γ : Type} {P P' : α → β → γ → Prop} {as : List α} {bs : List β} {cs : List γ} (f : ∀ a b c, P a b c → P' a b c) (h : All3 P as bs cs) : All3 P' as bs cs := by
  induction h with
  | nil => exact .nil
  | cons h _ ih => exact .cons (f _ _ _ h) ih
theorem All3.len {α β γ : Type} {P : α → β → γ → Prop} {as : List α} {bs : List β} {cs : List γ} (h : All3 P as bs cs) : as.length = cs.length := by
  induction h with
  | nil => rfl
  | cons _ _ ih => simp [ih]
/-- the j-th of them, apart -/
theorem All3.at {α γ : Type} {P : α → List Cell → γ → Prop} {as : List α} {bs : List (List Cell)} {cs : List γ} (h : All3 P as bs cs) : ∀ {j : Nat} {c : γ}, cs[j]? = some c → ∃ a b bs1 bs2, as[j]? = some a ∧ P a b c ∧ bs = bs1 ++ b :: bs2 ∧ ∀ (P' : α → List Cell → γ → Prop) (b' : List Cell) (c' : γ), (∀ a b c, P a b c → P' a b c) → P' a b' c' → All3 P' as (bs1 ++ b' :: bs2) (cs.set j c') := by
  induction h with
  | nil => intro j c e; simp at e
  | @cons a b c as bs cs h t ih =>
    intro j d e
    cases j with
    | zero =>
      cases Option.some.inj e
      exact ⟨a, b, [], bs, rfl, h, rfl, fun P' b' c' m k => .cons k (t.mp m)⟩
    | succ j =>
      obtain ⟨a1, b1, bs1, bs2, h1, h2, h3, h4⟩ := ih (by simpa using e)
      exact ⟨a1, b1, b :: bs1, bs2, by simpa using h1, h2, by rw [h3]; rfl, fun P' b' c' m k => .cons (m _ _ _ h) (h4 P' b' c' m k)⟩
def oLs {α : Type} (B : Ob α) : Ob (List α) := fun F a L xs => ∃ as Ls, L.Perm ((a, HO.lst (as.map V.ref)) :: Ls.flatten) ∧ All3 (B F) as Ls xs
theorem moLs {α : Type} {B : Ob α} (m : MonoO B) : MonoO (oLs B) := fun _ _ _ _ _ e ⟨as, Ls, h1, h2⟩ => ⟨as, Ls, h1, h2.mp fun _ _ _ h => m _ _ _ _ _ e h⟩
theorem Own.lsAt {α : Type} {B : Ob α} {F : Hp} {a : Addr} {A L C : List Cell} {xs : List α} {i : Int} {x : α} (m : MonoO B) (O : Own R H (A ++ (L ++ C))) (h : oLs B F a L xs) (e : atI xs i = some x) :
    ∃ (vs : List V) (b : Addr) (L1 L2 : List Cell), H a = some (.lst vs) ∧ atI vs i = some (.ref b) ∧ vs.length = xs.length ∧ B F b L1 x ∧ (L1 ++ L2).Perm L ∧ Own R H (A ++ (L1 ++ (L2 ++ C))) ∧ (∀ F' L1' x', Ex F F' → B F' b L1' x' → ∀ ys, setG xs i x' = some ys → oLs B F' a (L1' ++ L2) ys) ∧ ∀ F' L1', Ex F F' → B F' b L1' x → oLs B F' a (L1' ++ L2) xs := by
  obtain ⟨as, Ls, hp, h3⟩ := h
  unfold atI at e
  cases ej : ixN xs.length i with
  | none => rw [ej] at e; cases e
  | some j =>
    rw [ej] at e
    obtain ⟨b, L1, bs1, bs2, h4, h5, h6, h7⟩ := h3.at e
    subst h6
    have hp2 : L.Perm (L1 ++ ((a, HO.lst (as.map V.ref)) :: (bs1.flatten ++ bs2.flatten))) := by
      refine hp.trans ?_
      rw [List.flatten_append, List.flatten_cons]
      refine List.Perm.trans ?_ (List.perm_middle.symm)
      refine List.Perm.cons _ ?_
      rw [← List.append_assoc, ← List.append_assoc]
      exact List.Perm.append_right _ List.perm_append_comm
    have cl : ∀ F' L1' x', Ex F F' → B F' b L1' x' → oLs B F' a (L1' ++ ((a, HO.lst (as.map V.ref)) :: (bs1.flatten ++ bs2.flatten))) (xs.set j x') := fun F' L1' x' ex hb => by
      refine ⟨as, bs1 ++ L1' :: bs2, ?_, h7 _ L1' x' (fun _ _ _ h => m _ _ _ _ _ ex h) hb⟩
      rw [List.flatten_append, List.flatten_cons]
      refine List.perm_middle.trans ?_
      refine List.Perm.cons _ ?_
      rw [← List.append_assoc, ← List.append_assoc]
      exact List.Perm.append_right _ List.perm_append_comm
    refine ⟨as.map V.ref, b, L1, (a, HO.lst (as.map V.ref)) :: (bs1.flatten ++ bs2.flatten), O.mem (List.mem_append_right _ (List.mem_append_left _ (hp.mem_iff.mpr (List.Mem.head _)))), ?_, by rw [List.length_map, h3.len], h5, hp2.symm, O.perm ?_, fun F' L1' x' ex hb ys hy => ?_, fun F' L1' ex hb => ?_⟩
    · unfold atI
      rw [List.length_map, h3.len, ej]
      show (as.map V.ref)[j]? = _
      rw [List.getElem?_map, h4]
      rfl
    · refine List.Perm.append_left _ ?_
      rw [← List.append_assoc]
      exact List.Perm.append_right _ hp2
    · unfold setG at hy
      rw [ej] at hy
      cases hy
      exact cl F' L1' x' ex hb
    · have := cl F' L1' x ex hb
      have e2 : xs.set j x = xs := by
        obtain ⟨h8, h9⟩ := List.getElem?_eq_some_iff.mp (show xs[j]? = some x from e)
        rw [← h9]
        exact List.set_getElem_self h8
      rw [e2] at this
      exact this
end
/-! tests with two sides, over any state -/
section
variable {J : Hp → Prop} {Q : VK} {σ : St} {H : Hp} {v x y : V}
theorem x_andJ {c d e : Bool} {tt uu : TT} {QB : Bool → Hp → Prop} (J : Hp → Prop) (h1 : ∀ Q1 : Bool → Hp → Prop, (∀ H', J H' → Q1 c H') → tt σ H Q1) (h2 : c = true → e = d ∧ ∀ H', J H' → ∀ Q2 : Bool → Hp → Prop, (∀ H'', J H'' → Q2 e H'') → uu σ H' Q2)
    (h3 : c = false → false = d) (k : ∀ H', J H' → QB d H') : tAnd tt uu σ H QB := by
  refine h1 _ fun H' O' => ?_
  cases c with
  | true =>
    obtain ⟨e1, g2⟩ := h2 rfl
    subst e1
    exact g2 H' O' QB k
  | false =>
    rw [← h3 rfl] at k
    exact k H' O'
theorem x_orJ {c d e : Bool} {tt uu : TT} {QB : Bool → Hp → Prop} (J : Hp → Prop) (h1 : ∀ Q1 : Bool → Hp → Prop, (∀ H', J H' → Q1 c H') → tt σ H Q1) (h2 : c = false → e = d ∧ ∀ H', J H' → ∀ Q2 : Bool → Hp → Prop, (∀ H'', J H'' → Q2 e H'') → uu σ H' Q2)
    (h3 : c = true → true = d) (k : ∀ H', J H' → QB d H') : tOr tt uu σ H QB := by
  refine h1 _ fun H' O' => ?_
  cases c with
  | false =>
    obtain ⟨e1, g2⟩ := h2 rfl
    subst e1
    exact g2 H' O' QB k
  | true =>
    rw [← h3 rfl] at k
    exact k H' O'
theorem x_andVJ {c d e : Bool} {tt uu : TE} (J : Hp → Prop) (h1 : ∀ Q1 : VK, (∀ H', J H' → Q1 (.bl c) H') → tt σ H Q1) (h2 : c = true → e = d ∧ ∀ H', J H' → ∀ Q2 : VK, (∀ H'', J H'' → Q2 (.bl e) H'') → uu σ H' Q2)
    (h3 : c = false → false = d) (k : ∀ H', J H' → Q (.bl d) H') : tAndV tt uu σ H Q := by
  refine h1 _ fun H' O' => ⟨_, rfl, ?_⟩
  cases c with
  | true =>
    obtain ⟨e1, g2⟩ := h2 rfl
    subst e1
    exact g2 H' O' Q k
  | false =>
    rw [← h3 rfl] at k
    exact k H' O'
theorem x_orVJ {c d e : Bool} {tt uu : TE} (J : Hp → Prop) (h1 : ∀ Q1 : VK, (∀ H', J H' → Q1 (.bl c) H') → tt σ H Q1) (h2 : c = false → e = d ∧ ∀ H', J H' → ∀ Q2 : VK, (∀ H'', J H'' → Q2 (.bl e) H'') → uu σ H' Q2)
    (h3 : c = true → true = d) (k : ∀ H', J H' → Q (.bl d) H') : tOrV tt uu σ H Q := by
  refine h1 _ fun H' O' => ⟨_, rfl, ?_⟩
  cases c with
  | false =>
    obtain ⟨e1, g2⟩ := h2 rfl
    subst e1
    exact g2 H' O' Q k
  | true =>
    rw [← h3 rfl] at k
    exact k H' O'
theorem x_ifJ {c : Bool} {tt : TT} {ta tb : TE} (J : Hp → Prop) (h1 : ∀ Q1 : Bool → Hp → Prop, (∀ H', J H' → Q1 c H') → tt σ H Q1) (h2 : c = true → x = v ∧ ∀ H', J H' → ∀ Q2 : VK, (∀ H'', J H'' → Q2 x H'') → ta σ H' Q2)
    (h3 : c = false → y = v ∧ ∀ H', J H' → ∀ Q2 : VK, (∀ H'', J H'' → Q2 y H'') → tb σ H' Q2) (k : ∀ H', J H' → Q v H') : tIf tt ta tb σ H Q := by
  refine h1 _ fun H' O' => ?_
  cases c with
  | true =>
    obtain ⟨e1, g2⟩ := h2 rfl
    subst e1
    exact g2 H' O' Q k
  | false =>
    obtain ⟨e1, g3⟩ := h3 rfl
    subst e1
    exact g3 H' O' Q k
end
theorem Own.unls {R H : Hp} {A L1 L2 L C : List Cell} (O : Own R H (A ++ (L1 ++ (L2 ++ C)))) (h : (L1 ++ L2).Perm L) : Own R H (A ++ (L ++ C)) := by
  refine O.perm (List.Perm.append_left _ ?_)
  rw [← List.append_assoc]
  exact List.Perm.append_right _ h
/-! fields -/
section
variable {K : PySem.W.Frag} {σ : St} {H R : Hp} {L : List Cell} {Q : VK} {a dx C : Addr} {fs : List (Str × V)} {v : V} {f : Str} {te tv : TE}
theorem o_fld (h : te σ H fun x H1 => ∃ a C dx fs v, x = .ref a ∧ H1 a = some (.ins C dx fs) ∧ Cls K C ∧ NoAttr K C f ∧ fs.lookup f = some v ∧ Q v H1) : tFld K te f σ H Q := h
def rSFld (K : PySem.W.Frag) (f : Str) (y x : V) (H : Hp) (QH : Hp → Prop) : Prop := ∃ a C dx fs, x = .ref a ∧ H a = some (.ins C dx fs) ∧ Cls K C ∧ NoAttr K C f ∧ fs.length < 1000 ∧ QH (upd H a (.ins C dx (putF f y fs)))
theorem o_sfld {n b k : St → Hp → Prop} {w : VK} (h : tv σ H fun y H1 => te σ H1 fun x H2 => rSFld K f y x H2 (n σ)) : sFld K te tv f (Ends.mk n w b k) σ H := h
theorem o_meth {m : Str} {sp : Sp} {dvs : List V} {E : XK} {t : TA} (h : te σ H fun x H1 => ∃ a dx fs, x = .ref a ∧ H1 a = some (.ins C dx fs) ∧ fs.lookup m = none ∧ t σ H1 fun vs H2 => sp (x :: (vs ++ dvs)) H2 Q E) : tMeth C m sp dvs E te t σ H Q := h
theorem o_make {sp : Sp} {dvs : List V} {E : XK} {t : TA} (h : t σ H fun vs H1 => ∀ x dx, H1 x = none → H1 dx = none → dx ≠ x → sp (.ref x :: (vs ++ dvs)) (upd (upd H1 dx (.own x)) x (.ins C dx [])) (fun v H2 => v = .non ∧ Q (.ref x) H2) E) : tMake C sp dvs E t σ H Q := h
theorem Own.mk2 (O : Own R H L) {x : Addr} (h1 : H x = none) (h2 : H dx = none) (h3 : dx ≠ x) : Own R (upd (upd H dx (.own x)) x (.ins C dx fs)) ((x, .ins C dx fs) :: (dx, .own x) :: L) :=
  Own.new (O.new h2) (by rw [upd_ne (Ne.symm h3)]; exact h1)
theorem k_make {sp : Sp} {vs : List V} {E : XK} {Q2 : Addr → Hp → Prop} (O : Own R H L) (k : ∀ x dx H', Own R H' ((x, .ins C dx []) :: (dx, .own x) :: L) → sp (.ref x :: vs) H' (fun v H2 => v = .non ∧ Q2 x H2) E) : ∀ x dx, H x = none → H dx = none → dx ≠ x → sp (.ref x :: vs) (upd (upd H dx (.own x)) x (.ins C dx [])) (fun v H2 => v = .non ∧ Q2 x H2) E := fun x dx h1 h2 h3 => k x dx _ (O.mk2 h1 h2 h3)
theorem putF_nil : putF f v [] = [(f, v)] := rfl
theorem putF_hit {x : V} {r : List (Str × V)} : putF f v ((f, x) :: r) = (f, v) :: r := by simp [putF]
theorem putF_skip {g : Str} {x : V} {r r' : List (Str × V)} (h : (g == f) = false) (e : putF f v r = r') : putF f v ((g, x) :: r) = (g, x) :: r' := by
  have : g ≠ f := by simpa using h
  simp [putF, this, e]
theorem lk_hit {r : List (Str × V)} : List.lookup f ((f, v) :: r) = some v := by simp [List.lookup]
theorem lk_skip {g : Str} {x : V} {r : List (Str × V)} {o : Option V} (h : (f == g) = false) (e : List.lookup f r = o) : List.lookup f ((g, x) :: r) = o := by simp [List.lookup, h, e]
theorem lk_nil : List.lookup f ([] : List (Str × V)) = none := rfl
theorem k_sfld {v' : V} {fs' : List (Str × V)} {QH : Hp → Prop} {g : HO → List Cell} (hl : H a = some (.ins C dx fs)) (c : Cls K C) (n : NoAttr K C f) (hz : fs.length < 1000) (ev : v = v') (e : putF f v' fs = fs') (hp : ∀ o', Own R (upd H a o') (g o')) (k : ∀ H', Own R H' (g (.ins C dx fs')) → QH H') :
    rSFld K f v (.ref a) H QH := by
  subst ev
  refine ⟨a, C, dx, fs, rfl, hl, c, n, hz, ?_⟩
  rw [e]
  exact k _ (hp _)
theorem Own.cv {L' : List Cell} (O : Own R H L) (e : L = L') : Own R H L' := e ▸ O
theorem Own.putB {A B : List Cell} {o o' : HO} (O : Own R H L) (e : L = A ++ (a, o) :: B) : Own R (upd H a o') (A ++ (a, o') :: B) := by
  subst e
  exact Own.put O
theorem cls_at {K : PySem.W.Frag} {C : Addr} (h1 : PySem.W.plainGet K C Str.empty = true) (h2 : PySem.W.hasDictIn K C = true) (h3 : PySem.W.plainOver K C = true) (h4 : PySem.W.findIn K (.ref C) "__setattr__" = some (some (.builtin "object.__setattr__"))) : Cls K C := ⟨h1, h2, h3, h4⟩
end
end Bt

set_option Elab.async false
set_option linter.all false
set_option maxRecDepth 100000
set_option maxHeartbeats 4000000
/-! Data of any form: lists and tuples of such, None, one of two kinds. -/
namespace Bt
open PySem L2
section
variable {α β γ δ : Type} {P : Rp α} {P' : Rp β} {P3 : Rp γ} {P4 : Rp δ} {F H R : Hp} {L : List Cell} {v w : V} {a p : Addr} {K : PySem.W.Frag} {Q : VK} {i : Int}
def rN : Rp Unit := fun _ v _ => v = .non
def rU (P : Rp α) (P' : Rp β) : Rp (α ⊕ β) := fun F v x => match x with
  | .inl a => P F v a
  | .inr b => P' F v b
theorem mN : Mono rN := fun _ _ _ _ _ h => h
theorem mU (m : Mono P) (n : Mono P') : Mono (rU P P') := fun F F' v x e h => by
  cases x with
  | inl a => exact m _ _ _ _ e h
  | inr b => exact n _ _ _ _ e h
theorem rO_some {x : Option α} {y : α} (h : rO P F v x) (e : x = some y) : P F v y := by subst e; exact h
theorem rO_mk {y : α} (h : P F v y) : rO P F v (some y) := h
def prL : α ⊕ β → Option α
  | .inl a => some a
  | .inr _ => none
def prR : α ⊕ β → Option β
  | .inl _ => none
  | .inr b => some b
theorem rU_l {x : α ⊕ β} {y : α} (h : rU P P' F v x) (e : prL x = some y) : P F v y := by
  cases x with
  | inl a => cases e; exact h
  | inr b => cases e
theorem rU_r {x : α ⊕ β} {y : β} (h : rU P P' F v x) (e : prR x = some y) : P' F v y := by
  cases x with
  | inl a => cases e
  | inr b => cases e; exact h
theorem rL_ref {x : List α} (h : rL P F v x) : ∃ p, v = .ref p := by obtain ⟨p, _, e, _⟩ := h; exact ⟨p, e⟩
theorem rT2_ref {x : α × β} (h : rT2 P P' F v x) : ∃ p, v = .ref p := by obtain ⟨p, _, _, e, _⟩ := h; exact ⟨p, e⟩
theorem rT3_ref {x : α × β × γ} (h : rT3 P P' P3 F v x) : ∃ p, v = .ref p := by obtain ⟨p, _, _, _, e, _⟩ := h; exact ⟨p, e⟩
theorem rT4_ref {x : α × β × γ × δ} (h : rT4 P P' P3 P4 F v x) : ∃ p, v = .ref p := by obtain ⟨p, _, _, _, _, e, _⟩ := h; exact ⟨p, e⟩
theorem rL_at {x : List α} (h : rL P F (.ref p) x) : ∃ vs, F p = some (.lst vs) ∧ All2 (P F) vs x := by
  obtain ⟨q, vs, e, h1, h2⟩ := h
  cases e
  exact ⟨vs, h1, h2⟩
theorem rT2_at {x : α × β} (h : rT2 P P' F (.ref p) x) : ∃ a b, F p = some (.tup [a, b]) ∧ P F a x.1 ∧ P' F b x.2 := by
  obtain ⟨q, a, b, e, h1, h2⟩ := h
  cases e
  exact ⟨a, b, h1, h2⟩
theorem rT3_at {x : α × β × γ} (h : rT3 P P' P3 F (.ref p) x) : ∃ a b c, F p = some (.tup [a, b, c]) ∧ P F a x.1 ∧ P' F b x.2.1 ∧ P3 F c x.2.2 := by
  obtain ⟨q, a, b, c, e, h1, h2⟩ := h
  cases e
  exact ⟨a, b, c, h1, h2⟩
theorem rT4_at {x : α × β × γ × δ} (h : rT4 P P' P3 P4 F (.ref p) x) : ∃ a b c d, F p = some (.tup [a, b, c, d]) ∧ P F a x.1 ∧ P' F b x.2.1 ∧ P3 F c x.2.2.1 ∧ P4 F d x.2.2.2 := by
  obtain ⟨q, a, b, c, d, e, h1, h2⟩ := h
  cases e
  exact ⟨a, b, c, d, h1, h2⟩
theorem fIr {F : Hp} {p : Addr} {xs : List Int} (h : rL rI F (.ref p) xs) : F p = some (.lst (xs.map V.int)) := by
  obtain ⟨q, e, h⟩ := fI h
  cases e
  exact h
theorem fBr {F : Hp} {p : Addr} {xs : List Bool} (h : rL rB F (.ref p) xs) : F p = some (.lst (xs.map V.bl)) := by
  obtain ⟨q, e, h⟩ := fB h
  cases e
  exact h
theorem fSr {F : Hp} {p : Addr} {xs : List Str} (h : rL rS F (.ref p) xs) : F p = some (.lst (xs.map V.str)) := by
  obtain ⟨q, e, h⟩ := fS h
  cases e
  exact h
/-! never None -/
def NN (P : Rp α) : Prop := ∀ F v x, P F v x → v ≠ .non
theorem nnI : NN rI := fun _ _ _ h => by rw [show _ = _ from h]; simp
theorem nnB : NN rB := fun _ _ _ h => by rw [show _ = _ from h]; simp
theorem nnS : NN rS := fun _ _ _ h => by rw [show _ = _ from h]; simp
theorem nnL : NN (rL P) := fun _ _ _ h => by obtain ⟨p, rfl⟩ := rL_ref h; simp
theorem nnT2 : NN (rT2 P P') := fun _ _ _ h => by obtain ⟨p, rfl⟩ := rT2_ref h; simp
theorem nnT3 : NN (rT3 P P' P3) := fun _ _ _ h => by obtain ⟨p, rfl⟩ := rT3_ref h; simp
theorem nnT4 : NN (rT4 P P' P3 P4) := fun _ _ _ h => by obtain ⟨p, rfl⟩ := rT4_ref h; simp
theorem nnU (m : NN P) (n : NN P') : NN (rU P P') := fun _ _ x h => by
  cases x with
  | inl a => exact m _ _ _ h
  | inr b => exact n _ _ _ h
theorem dec_non {x : Option α} (n : NN P) (h : rO P F v x) : decide (v = V.non) = x.isNone := by
  cases x with
  | none => rw [show v = _ from h]; rfl
  | some y => rw [decide_eq_false (n _ _ _ h)]; rfl
def rIsN : R2 := fun x y H Q => y = .non ∧ Q (.bl (decide (x = .non))) H
def rNotN : R2 := fun x y H Q => y = .non ∧ Q (.bl (!decide (x = .non))) H
theorem op_isNq {X : Cx} : OpR X (compareOp .Is) rIsN := op_isN
theorem op_notNq {X : Cx} : OpR X (compareOp .IsNot) rNotN := op_notN
theorem k_isN {x : Option α} (n : NN P) (h : rO P F v x) (q : Q (.bl x.isNone) H) : rIsN v .non H Q := ⟨rfl, by rw [dec_non n h]; exact q⟩
theorem k_notN {x : Option α} (n : NN P) (h : rO P F v x) (q : Q (.bl (!x.isNone)) H) : rNotN v .non H Q := ⟨rfl, by rw [dec_non n h]; exact q⟩
end
theorem k_isT {H : Hp} {Q : VK} (q : Q (.bl true) H) : rIsN .non .non H Q := ⟨rfl, by rw [decide_eq_true rfl]; exact q⟩
theorem k_isTn {H : Hp} {Q : VK} (q : Q (.bl (!true)) H) : rNotN .non .non H Q := ⟨rfl, by rw [decide_eq_true rfl]; exact q⟩
theorem k_isF {v : V} {H : Hp} {Q : VK} (q : Q (.bl false) H) (h : v ≠ .non := by simp) : rIsN v .non H Q := ⟨rfl, by rw [decide_eq_false h]; exact q⟩
theorem k_isFn {v : V} {H : Hp} {Q : VK} (q : Q (.bl (!false)) H) (h : v ≠ .non := by simp) : rNotN v .non H Q := ⟨rfl, by rw [decide_eq_false h]; exact q⟩
theorem room65 {k : Nat} {A : Around} (r : Room k A) : A.units + 65 < cLine := by have := r.un; omega
/-! lists of such, one's own or not -/
section
variable {α : Type} {P : V → α → Prop} {F H R : Hp} {L : List Cell} {v w : V} {a b p : Addr} {K : PySem.W.Frag} {Q : VK} {i : Int} {vs ws : List V} {xs ys zs : List α} {y : α} {σ : St}
theorem n_lenA (hs : SqL K H a vs) (ha : All2 P vs xs) (k : Q (.int (xs.length : Int)) H) : rLenQ K [.ref a] H Q := by
  unfold rLenQ
  exact ⟨a, vs, rfl, .inl hs, by rw [ha.len]; exact k⟩
theorem k_ixA (hs : SqL K H a vs) (ha : All2 P vs xs) (h : atI xs i = some y) (k : ∀ v, P v y → Q v H) : rIxL K (.ref a) (.int i) H Q := by
  obtain ⟨v, e1, hv⟩ := ha.at h
  exact ⟨a, vs, i, v, rfl, rfl, hs, e1, k v hv⟩
theorem k_appA {g : HO → List Cell} (hl : H a = some (.lst vs)) (ha : All2 P vs xs) (hp : ∀ o', Own R (upd H a o') (g o')) (h : appG xs y = some ys) (hv : P v y) (k : ∀ H', Own R H' (g (.lst (vs ++ [v]))) → All2 P (vs ++ [v]) ys → Q .non H') : rAppend (.ref a) [v] H Q := by
  obtain ⟨c, rfl⟩ := grdE h
  exact ⟨a, _, _, rfl, rfl, hl, by rw [ha.len]; exact c, k _ (hp _) (ha.snoc hv)⟩
theorem k_setA {g : HO → List Cell} {QH : Hp → Prop} (hl : H a = some (.lst vs)) (ha : All2 P vs xs) (hp : ∀ o', Own R (upd H a o') (g o')) (h : setG xs i y = some ys) (hv : P v y) (k : ∀ H' ws, Own R H' (g (.lst ws)) → All2 P ws ys → QH H') : rSetL (.ref a) (.int i) v H QH := by
  unfold setG at h
  cases e : ixN xs.length i with
  | none => rw [e] at h; cases h
  | some j =>
    rw [e] at h
    cases h
    exact ⟨a, _, i, j, rfl, rfl, hl, by rw [ha.len]; exact e, k _ _ (hp _) (ha.set hv j)⟩
theorem All2.cut (ha : All2 P vs xs) (lo hi : Option Int) : All2 P (cutV vs lo hi) (cutL xs lo hi) := by
  unfold cutV cutL
  rw [ha.len]
  exact (ha.drop _).take _
theorem k_cutA {lo hi : Option Int} (O : Own R H L) (hs : SqL K H a vs) (ha : All2 P vs xs) (k : ∀ p H' ws, Own R H' ((p, .lst ws) :: L) → All2 P ws (cutL xs lo hi) → Q (.ref p) H') : rSlL K (.ref a) lo hi H Q :=
  ⟨a, vs, rfl, hs, fun p hp => k p _ _ (O.new hp) (ha.cut lo hi)⟩
theorem k_catA (O : Own R H L) (h1 : H a = some (.lst vs)) (ha : All2 P vs xs) (h2 : H b = some (.lst ws)) (hb : All2 P ws ys) (h : catG xs ys = some zs) (k : ∀ p H' us, Own R H' ((p, .lst us) :: L) → All2 P us zs → Q (.ref p) H') : rCat (.ref a) (.ref b) H Q := by
  obtain ⟨c, rfl⟩ := grdE h
  exact ⟨a, b, _, _, rfl, rfl, h1, h2, by rw [ha.len, hb.len]; exact c, fun p hp => k p _ _ (O.new hp) (ha.app hb)⟩
theorem n_listA (O : Own R H L) (h : SqL K H a vs) (k : ∀ p H', Own R H' ((p, .lst vs) :: L) → Q (.ref p) H') : rListQ K [.ref a] H Q := n_list O h k
theorem k_forA {g : TG} {tb : TS} {D : Ends} (ha : All2 P vs xs) (J : List α → St → Hp → Prop) (h0 : J xs σ H) (hl : ∀ r σ H, J r σ H → SqL K H a vs)
    (hs : ∀ x v r σ H, P v x → J (x :: r) σ H → g v σ H fun σ2 H2 => tb { D with nx := J r, ct := J r, bk := D.nx } σ2 H2) (hd : ∀ σ H, J [] σ H → D.nx σ H) :
    ∃ W : Nat → Nat → St → Hp → Prop, (∃ m, W 0 m σ H) ∧ ∀ i m σ H, W i m σ H →
      ((Itl K a).stop i H ∧ D.nx σ H) ∨ ((Itl K a).go i H ∧ ∃ N : St → Hp → Prop, (∀ σ' H', N σ' H' → ∃ m', m' < m ∧ W (i + 1) m' σ' H') ∧ ∀ x H', (Itl K a).yld i H x H' → g x σ H' fun σ2 H2 => tb { D with nx := N, ct := N, bk := D.nx } σ2 H2) := by
  refine for_list (xs := vs) (fun i σ H => J (xs.drop i) σ H) h0 (fun i σ H _ => hl _ σ H) (fun i v σ H hi hJ => ?_) fun σ H hJ => ?_
  · have hlt : i < xs.length := by
      rw [← ha.len]
      exact (List.getElem?_eq_some_iff.mp hi).1
    obtain ⟨v', e1, e2⟩ := ha.get (List.getElem?_eq_getElem hlt)
    rw [hi] at e1
    cases e1
    rw [List.drop_eq_getElem_cons hlt] at hJ
    exact hs _ v _ σ H e2 hJ
  · rw [ha.len, List.drop_length] at hJ
    exact hd σ H hJ
theorem q_forA {j : Nat} {ts : TS} {n b k : St → Hp → Prop} {w : VK} (ha : All2 P vs xs) (J : List α → St → Hp → Prop) (h0 : J xs σ H) (hl : ∀ r σ H, J r σ H → SqL K H a vs)
    (hs : ∀ x v r σ H, P v x → J (x :: r) σ H → ts (Ends.mk (J r) w n (J r)) (σ.set j (some v)) H) (hd : ∀ σ H, J [] σ H → n σ H) :
    ∃ W : Nat → Nat → St → Hp → Prop, (∃ m, W 0 m σ H) ∧ ∀ i m σ H, W i m σ H →
      ((Itl K a).stop i H ∧ n σ H) ∨ ((Itl K a).go i H ∧ ∃ N : St → Hp → Prop, (∀ σ' H', N σ' H' → ∃ m', m' < m ∧ W (i + 1) m' σ' H') ∧ ∀ x H', (Itl K a).yld i H x H' → gName j x σ H' fun σ2 H2 => ts (Ends.mk N w n N) σ2 H2) :=
  k_forA (D := Ends.mk n w (fun _ _ => False) fun _ _ => False) (g := gName j) (tb := ts) ha J h0 hl hs hd
/-- for a, b in xs, its items pairs -/
theorem q_forA2 {α β : Type} {P : Rp α} {P' : Rp β} {F : Hp} {xs : List (α × β)} {i1 i2 : Nat} {ts : TS} {n b k : St → Hp → Prop} {w : VK} {KK : PySem.W.Frag} (ha : All2 (rT2 P P' F) vs xs) (J : List (α × β) → St → Hp → Prop) (h0 : J xs σ H) (hl : ∀ r σ H, J r σ H → SqL K H a vs) (hx : ∀ r σ H, J r σ H → Ex F H)
    (hs : ∀ x y u v r σ H, P F u x → P' F v y → J ((x, y) :: r) σ H → ts (Ends.mk (J r) w n (J r)) ((σ.set i1 (some u)).set i2 (some v)) H) (hd : ∀ σ H, J [] σ H → n σ H) :
    ∃ W : Nat → Nat → St → Hp → Prop, (∃ m, W 0 m σ H) ∧ ∀ i m σ H, W i m σ H →
      ((Itl K a).stop i H ∧ n σ H) ∨ ((Itl K a).go i H ∧ ∃ N : St → Hp → Prop, (∀ σ' H', N σ' H' → ∃ m', m' < m ∧ W (i + 1) m' σ' H') ∧ ∀ x H', (Itl K a).yld i H x H' → gTup KK 2 (gCons (gName i1) (gCons (gName i2) gNil)) x σ H' fun σ2 H2 => ts (Ends.mk N w n N) σ2 H2) :=
  k_forA (D := Ends.mk n w (fun _ _ => False) fun _ _ => False) (g := gTup KK 2 (gCons (gName i1) (gCons (gName i2) gNil))) (tb := ts) ha J h0 hl (fun x v r σ H hv hJ => by
    obtain ⟨q, u1, u2, rfl, h1, h2, h3⟩ := hv
    exact ⟨q, _, rfl, SqT.of (hx _ _ _ hJ _ _ h1), rfl, u1, _, rfl, u2, _, rfl, rfl, hs x.1 x.2 u1 u2 r σ H h2 h3 hJ⟩) hd
theorem q_forEA {i1 i2 : Nat} {ts : TS} {n b k : St → Hp → Prop} {w : VK} {KK : PySem.W.Frag} (ha : All2 P vs xs) (J : List (Int × α) → St → Hp → Prop) (h0 : J (enumI 0 xs) σ H) (hl : ∀ r σ H, J r σ H → SqL K H a vs) (hx : ∀ r σ H H', J r σ H → Ex H H' → J r σ H')
    (hs : ∀ j x v r σ H, P v x → J ((j, x) :: r) σ H → ts (Ends.mk (J r) w n (J r)) ((σ.set i1 (some (.int j))).set i2 (some v)) H) (hd : ∀ σ H, J [] σ H → n σ H) :
    ∃ W : Nat → Nat → St → Hp → Prop, (∃ m, W 0 m σ H) ∧ ∀ i m σ H, W i m σ H →
      ((Ite K a).stop i H ∧ n σ H) ∨ ((Ite K a).go i H ∧ ∃ N : St → Hp → Prop, (∀ σ' H', N σ' H' → ∃ m', m' < m ∧ W (i + 1) m' σ' H') ∧ ∀ x H', (Ite K a).yld i H x H' → gTup KK 2 (gCons (gName i1) (gCons (gName i2) gNil)) x σ H' fun σ2 H2 => ts (Ends.mk N w n N) σ2 H2) := by
  refine ⟨fun i m σ H => m = xs.length - i ∧ i ≤ xs.length ∧ J ((enumI 0 xs).drop i) σ H, ⟨xs.length, by simp, Nat.zero_le _, h0⟩, ?_⟩
  rintro i m σ H ⟨rfl, hi, hJ⟩
  have hS := hl _ σ H hJ
  by_cases hlt : i < xs.length
  · have e : xs[i]? = some xs[i] := List.getElem?_eq_getElem hlt
    obtain ⟨v', e1, hv⟩ := ha.get e
    have e2 := enumI_drop xs 0 i xs[i] e
    rw [e2] at hJ
    refine .inr ⟨⟨_, _, hS, e1⟩, J ((enumI 0 xs).drop (i + 1)), fun σ' H' hJ' => ⟨_, by omega, rfl, hlt, hJ'⟩, fun y H' hy => ?_⟩
    obtain ⟨T, x, rfl, hT, rfl, hq⟩ := hy
    have hxx := hq _ hS
    rw [e1] at hxx
    cases hxx
    refine ⟨T, _, rfl, SqT.of upd_same, rfl, _, _, rfl, _, _, rfl, rfl, ?_⟩
    have hJ2 := hx _ _ _ (upd H T (.tup [.int ((i : Nat) : Int), v'])) hJ (Ex.new hT)
    have e3 : ((0 + i : Nat) : Int) = (i : Int) := by omega
    rw [e3] at hJ2
    exact hs _ _ _ _ _ _ hv hJ2
  · have e : (enumI 0 xs).drop i = [] := List.drop_eq_nil_of_le (by rw [enumI_len]; omega)
    rw [e] at hJ
    exact .inl ⟨⟨_, hS, by rw [ha.len]; omega⟩, hd σ H hJ⟩
/-! comprehensions over such -/
theorem k_lcA {g : TG} {tt : TT} {te : TE} {us : List Nat} {D : Addr} {Qd : Hp → Prop} (ha : All2 P vs xs) (J : List α → Hp → Prop) (h0 : J xs (upd H D (.lst []))) (hl : ∀ r H, J r H → SqL K H a vs)
    (hs : ∀ x v r H, P v x → J (x :: r) H → g v (wipe σ us) H fun σ2 H2 => wipe σ2 us = wipe σ us ∧ tt σ2 H2 fun b H3 => if b = true then te σ2 H3 fun y H4 => ∃ acc, H4 D = some (.lst acc) ∧ acc.length < sizeLine ∧ J r (upd H4 D (.lst (acc ++ [y]))) else J r H3) (hd : ∀ H, J [] H → Qd H) :
    ∃ W : Nat → Nat → Hp → Prop, (∃ m, W 0 m (upd H D (.lst []))) ∧ ∀ i m H, W i m H →
      ((Itl K a).stop i H ∧ Qd H) ∨ ((Itl K a).go i H ∧ ∃ Nx : Hp → Prop, (∀ H', Nx H' → ∃ m', m' < m ∧ W (i + 1) m' H') ∧ ∀ x H', (Itl K a).yld i H x H' → g x (wipe σ us) H' fun σ2 H2 => wipe σ2 us = wipe σ us ∧ tt σ2 H2 fun b H3 =>
        if b = true then te σ2 H3 fun y H4 => ∃ acc, H4 D = some (.lst acc) ∧ acc.length < sizeLine ∧ Nx (upd H4 D (.lst (acc ++ [y]))) else Nx H3) := by
  refine lc_list (xs := vs) (fun i H => J (xs.drop i) H) h0 (fun i H _ => hl _ H) (fun i v H hi hJ => ?_) fun H hJ => ?_
  · have hlt : i < xs.length := by
      rw [← ha.len]
      exact (List.getElem?_eq_some_iff.mp hi).1
    obtain ⟨v', e1, e2⟩ := ha.get (List.getElem?_eq_getElem hlt)
    rw [hi] at e1
    cases e1
    rw [List.drop_eq_getElem_cons hlt] at hJ
    exact hs _ v _ H e2 hJ
  · rw [ha.len, List.drop_length] at hJ
    exact hd H hJ
end
section
variable {α β : Type} [DecidableEq α] [DecidableEq β]
def optD (d : α → PyData) : Option α → PyData
  | none => .none
  | some x => d x
def deO {P : Rp α} (e : De P) (hn : ∀ a, PyData.eqv .none (e.d a) = false ∧ PyData.eqv (e.d a) .none = false) : De (rO P) where
  d := optD e.d
  dp := fun K F v x h => by
    cases x with
    | none => rw [show v = V.non from h]; exact .non
    | some y => exact e.dp K F v y h
  ok := fun x => by
    cases x with
    | none => rfl
    | some y => exact e.ok y
  n := e.n
  dep := fun x => by
    cases x with
    | none => exact Nat.zero_le _
    | some y => exact e.dep y
  eq := fun x y => by
    cases x with
    | none =>
      cases y with
      | none => simp [optD, PyData.eqv]
      | some b => simp only [optD]; rw [(hn b).1]; simp
    | some a =>
      cases y with
      | none => simp only [optD]; rw [(hn a).2]; simp
      | some b => simp only [optD]; rw [e.eq a b]; simp
def sumD (d : α → PyData) (f : β → PyData) : α ⊕ β → PyData
  | .inl x => d x
  | .inr x => f x
def deU {P : Rp α} {Q : Rp β} (e : De P) (f : De Q) (hn : ∀ a b, PyData.eqv (e.d a) (f.d b) = false ∧ PyData.eqv (f.d b) (e.d a) = false) : De (rU P Q) where
  d := sumD e.d f.d
  dp := fun K F v x h => by
    cases x with
    | inl y => exact e.dp K F v y h
    | inr y => exact f.dp K F v y h
  ok := fun x => by
    cases x with
    | inl y => exact e.ok y
    | inr y => exact f.ok y
  n := max e.n f.n
  dep := fun x => by
    cases x with
    | inl y => have := e.dep y; simp only [sumD]; omega
    | inr y => have := f.dep y; simp only [sumD]; omega
  eq := fun x y => by
    cases x with
    | inl a =>
      cases y with
      | inl b => simp only [sumD]; rw [e.eq a b]; simp
      | inr b => simp only [sumD]; rw [(hn a b).1]; simp
    | inr a =>
      cases y with
      | inl b => simp only [sumD]; rw [(hn b a).2]; simp
      | inr b => simp only [sumD]; rw [f.eq a b]; simp
end
section
variable {α : Type} [DecidableEq α] {P : Rp α} {K : PySem.W.Frag} {F F' H : Hp} {v : V} {x : α} {a : Addr} {vs : List V} {xs : List α} {Q : VK}
theorem any_mem (e : De P) (x : α) : ∀ xs : List α, ((xs.map e.d).any fun z => PyData.eqv z (e.d x)) = decide (x ∈ xs)
  | [] => rfl
  | y :: r => by
    rw [List.map_cons, List.any_cons, any_mem e x r, e.eq y x]
    by_cases h : y = x
    · subst h; simp
    · have h2 : ¬ x = y := fun q => h q.symm
      simp [h, h2]
theorem k_inN (e : De P) (m : Mono P) (h : e.n ≤ 60) (h1 : P F v x) (e1 : Ex F H) (hs : SqL K H a vs) (ha : All2 (P F') vs xs) (e2 : Ex F' H) (k : Q (.bl (decide (x ∈ xs))) H) : rInD K v (.ref a) H Q :=
  ⟨_, xs.map e.d, e.dp K H _ _ (m _ _ _ _ e1 h1), .lst hs (de_all e (mA m e2 ha)), sh_de e (by omega) x, sh_de (deL e) (by show e.n + 1 ≤ 64; omega) xs, by rw [any_mem]; exact k⟩
theorem k_niN (e : De P) (m : Mono P) (h : e.n ≤ 60) (h1 : P F v x) (e1 : Ex F H) (hs : SqL K H a vs) (ha : All2 (P F') vs xs) (e2 : Ex F' H) (k : Q (.bl (!decide (x ∈ xs))) H) : rNotInD K v (.ref a) H Q :=
  ⟨_, xs.map e.d, e.dp K H _ _ (m _ _ _ _ e1 h1), .lst hs (de_all e (mA m e2 ha)), sh_de e (by omega) x, sh_de (deL e) (by show e.n + 1 ≤ 64; omega) xs, by rw [any_mem]; exact k⟩
end
/-! the same where there are texts: whether they may be laid is asked -/
structure Dq {α : Type} [DecidableEq α] (P : Rp α) where
  d : α → PyData
  dp : ∀ (K : PySem.W.Frag) F v a, P F v a → Dp K F v (d a)
  n : Nat
  dep : ∀ a, PyData.depth (d a) ≤ n
  eq : ∀ a b, PyData.eqv (d a) (d b) = decide (a = b)
def okD {α : Type} (d : α → PyData) (x : α) : Option Unit := grd (PyData.canLay0 (d x) = true) ()
theorem okDE {α : Type} {d : α → PyData} {x : α} {u : Unit} (h : okD d x = some u) : PyData.canLay0 (d x) = true := (grdE h).1
section
variable {α β γ δ : Type} [DecidableEq α] [DecidableEq β] [DecidableEq γ] [DecidableEq δ]
def De.q {P : Rp α} (e : De P) : Dq P := ⟨e.d, e.dp, e.n, e.dep, e.eq⟩
def dqS : Dq rS where
  d := PyData.str
  dp := fun K F v a h => by rw [show v = V.str a from h]; exact .str a
  n := 0
  dep := fun _ => Nat.le_refl _
  eq := fun a b => by
    simp only [PyData.eqv]
    by_cases h : a = b
    · subst h; simp
    · rw [decide_eq_false h]; simpa using h
theorem dq_all {P : Rp α} (e : Dq P) {K : PySem.W.Frag} {F : Hp} : ∀ {vs : List V} {xs : List α}, All2 (P F) vs xs → DpAll K F vs (xs.map e.d)
  | _, _, .nil => .nil
  | _, _, .cons h t => .cons (e.dp K F _ _ h) (dq_all e t)
theorem dqdep_all {P : Rp α} (e : Dq P) : ∀ xs : List α, PyData.depthAll (xs.map e.d) ≤ e.n
  | [] => by simp [PyData.depthAll]
  | x :: r => by
    have h1 := e.dep x
    have h2 := dqdep_all e r
    simp only [List.map_cons, PyData.depthAll]
    omega
theorem dqeq_all {P : Rp α} (e : Dq P) : ∀ xs ys : List α, PyData.eqvAll (xs.map e.d) (ys.map e.d) = decide (xs = ys)
  | [], [] => by simp [PyData.eqvAll]
  | [], y :: s => by simp [PyData.eqvAll]
  | x :: r, [] => by simp [PyData.eqvAll]
  | x :: r, y :: s => by simp only [List.map_cons, PyData.eqvAll, e.eq x y, dqeq_all e r s, List.cons.injEq, Bool.decide_and]
def dqL {P : Rp α} (e : Dq P) : Dq (rL P) where
  d := fun xs => .list (xs.map e.d)
  dp := fun K F v xs ⟨p, vs, h1, h2, h3⟩ => by
    subst h1
    exact .lst (SqL.of h2) (dq_all e h3)
  n := e.n + 1
  dep := fun xs => by
    have := dqdep_all e xs
    simp only [PyData.depth]
    omega
  eq := fun xs ys => by simp only [PyData.eqv]; exact dqeq_all e xs ys
def dqT2 {P : Rp α} {Q : Rp β} (e : Dq P) (f : Dq Q) : Dq (rT2 P Q) where
  d := fun x => .tuple [e.d x.1, f.d x.2]
  dp := fun K F v x ⟨p, a, b, h1, h2, h3, h4⟩ => by
    subst h1
    exact .tup (SqT.of h2) (.cons (e.dp K F _ _ h3) (.cons (f.dp K F _ _ h4) .nil))
  n := max e.n f.n + 1
  dep := fun x => by
    have h1 := e.dep x.1
    have h2 := f.dep x.2
    simp only [PyData.depth, PyData.depthAll]
    omega
  eq := fun x y => by
    obtain ⟨x1, x2⟩ := x
    obtain ⟨y1, y2⟩ := y
    simp only [PyData.eqv, PyData.eqvAll, e.eq, f.eq, Prod.mk.injEq, Bool.decide_and, Bool.and_true]
def dqT3 {P : Rp α} {Q : Rp β} {R : Rp γ} (e : Dq P) (f : Dq Q) (g : Dq R) : Dq (rT3 P Q R) where
  d := fun x => .tuple [e.d x.1, f.d x.2.1, g.d x.2.2]
  dp := fun K F v x ⟨p, a, b, c, h1, h2, h3, h4, h5⟩ => by
    subst h1
    exact .tup (SqT.of h2) (.cons (e.dp K F _ _ h3) (.cons (f.dp K F _ _ h4) (.cons (g.dp K F _ _ h5) .nil)))
  n := max e.n (max f.n g.n) + 1
  dep := fun x => by
    have h1 := e.dep x.1
    have h2 := f.dep x.2.1
    have h3 := g.dep x.2.2
    simp only [PyData.depth, PyData.depthAll]
    omega
  eq := fun x y => by
    obtain ⟨x1, x2, x3⟩ := x
    obtain ⟨y1, y2, y3⟩ := y
    simp only [PyData.eqv, PyData.eqvAll, e.eq, f.eq, g.eq, Prod.mk.injEq, Bool.decide_and, Bool.and_true, Bool.and_assoc]
def dqO {P : Rp α} (e : Dq P) (hn : ∀ a, PyData.eqv .none (e.d a) = false ∧ PyData.eqv (e.d a) .none = false) : Dq (rO P) where
  d := optD e.d
  dp := fun K F v x h => by
    cases x with
    | none => rw [show v = V.non from h]; exact .non
    | some y => exact e.dp K F v y h
  n := e.n
  dep := fun x => by
    cases x with
    | none => exact Nat.zero_le _
    | some y => exact e.dep y
  eq := fun x y => by
    cases x with
    | none =>
      cases y with
      | none => simp [optD, PyData.eqv]
      | some b => simp only [optD]; rw [(hn b).1]; simp
    | some a =>
      cases y with
      | none => simp only [optD]; rw [(hn a).2]; simp
      | some b => simp only [optD]; rw [e.eq a b]; simp
def dqU {P : Rp α} {Q : Rp β} (e : Dq P) (f : Dq Q) (hn : ∀ a b, PyData.eqv (e.d a) (f.d b) = false ∧ PyData.eqv (f.d b) (e.d a) = false) : Dq (rU P Q) where
  d := sumD e.d f.d
  dp := fun K F v x h => by
    cases x with
    | inl y => exact e.dp K F v y h
    | inr y => exact f.dp K F v y h
  n := max e.n f.n
  dep := fun x => by
    cases x with
    | inl y => have := e.dep y; simp only [sumD]; omega
    | inr y => have := f.dep y; simp only [sumD]; omega
  eq := fun x y => by
    cases x with
    | inl a =>
      cases y with
      | inl b => simp only [sumD]; rw [e.eq a b]; simp
      | inr b => simp only [sumD]; rw [(hn a b).1]; simp
    | inr a =>
      cases y with
      | inl b => simp only [sumD]; rw [(hn b a).2]; simp
      | inr b => simp only [sumD]; rw [f.eq a b]; simp
end
section
variable {α : Type} [DecidableEq α] {P : Rp α} {K : PySem.W.Frag} {F F' H : Hp} {v w : V} {x y : α} {a : Addr} {vs : List V} {xs : List α} {Q : VK}
theorem sh_dq (e : Dq P) (h : e.n ≤ 64) {x : α} (hx : PyData.canLay0 (e.d x) = true) : SeqAt.shaped (e.d x) = true := by
  have h1 := e.dep x
  simp only [SeqAt.shaped, hx, Bool.true_and]
  exact decide_eq_true (by omega)
theorem k_eqQ (e : Dq P) (m : Mono P) (h : e.n ≤ 64) (hx : PyData.canLay0 (e.d x) = true) (hy : PyData.canLay0 (e.d y) = true) (h1 : P F v x) (e1 : Ex F H) (h2 : P F' w y) (e2 : Ex F' H) (k : Q (.bl (decide (x = y))) H) : rEqD K v w H Q :=
  ⟨_, _, e.dp K H _ _ (m _ _ _ _ e1 h1), e.dp K H _ _ (m _ _ _ _ e2 h2), sh_dq e h hx, sh_dq e h hy, by rw [e.eq]; exact k⟩
theorem k_neQ (e : Dq P) (m : Mono P) (h : e.n ≤ 64) (hx : PyData.canLay0 (e.d x) = true) (hy : PyData.canLay0 (e.d y) = true) (h1 : P F v x) (e1 : Ex F H) (h2 : P F' w y) (e2 : Ex F' H) (k : Q (.bl (!decide (x = y))) H) : rNeD K v w H Q :=
  ⟨_, _, e.dp K H _ _ (m _ _ _ _ e1 h1), e.dp K H _ _ (m _ _ _ _ e2 h2), sh_dq e h hx, sh_dq e h hy, by rw [e.eq]; exact k⟩
end
/-! what was told, changed by its asker -/
theorem exE {R : Hp} : Ex (fun _ => none) R := fun _ _ h => nomatch h
theorem ovr_fr {R0 Hb Hc R : Hp} (e : Ex Hb Hc) : Ex (ovr (fun _ => none) Hc R) (ovr R0 Hb R) := fun a o h => by
  obtain ⟨q, h1⟩ := ovr_some h
  refine ovr_mk (.inr ?_) h1
  rcases q with q | q
  · exact absurd rfl q
  · exact e.back q
theorem Own.poke {Rs R Hc H : Hp} {L : List Cell} {q : Addr} {o o' : HO} (O : Own R H L) (e : Ex Rs R) (hc : Ex Rs Hc) (hq : ovr (fun _ => none) Hc R q = some o) : Own Rs (upd H q o') L := by
  obtain ⟨c, h1⟩ := ovr_some hq
  have hcq : Hc q = none := by
    rcases c with c | c
    · exact absurd rfl c
    · exact c
  have hs : Rs q = none := hc.back hcq
  refine ⟨fun a u h => ?_, fun c hc' => ?_, fun c hc' => e.back (O.fr c hc'), O.nd⟩
  · rw [upd_ne (ne_of_none h hs)]
    exact O.ex _ _ (e _ _ h)
  · have : c.1 ≠ q := fun z => by
      have := O.fr c hc'
      rw [z, h1] at this
      cases this
    rw [upd_ne this]
    exact O.at_ c hc'
theorem Own.retX0 {R H Hc : Hp} {B C : List Cell} {D : DT} {Q : VK} (O : Own R H (B ++ C)) (m : MonoD D) (hc : Hc = hsub H B) (k : ∀ v H' R' L', Own R' H' (L' ++ C) → Ex R R' → D (ovr (fun _ => none) Hc R') v L' → Q v H') : RetX (fun _ => none) (hsub H B) D Q := fun v H' R' L' e O' d => by
  obtain ⟨R'', O'', e1, e2⟩ := O.back e O'
  subst hc
  refine k v H' R'' L' O'' e1 (m _ _ _ _ (fun a u h => ?_) d)
  obtain ⟨q, _⟩ := ovr_some h
  exact ovr_mk q (e2 _ exE _ _ h)
/-! isinstance of what is of one of several kinds -/
section
variable {α β γ δ : Type} {P : Rp α} {P' : Rp β} {P3 : Rp γ} {P4 : Rp δ} {K : PySem.W.Frag} {H : Hp} {v : V} {Q : VK} {u : Value}
def TyP (P : Rp α) (K : PySem.W.Frag) (u : Value) (f : α → Bool) : Prop := ∀ H v x, P H v x → ∃ t, TyX K H v t ∧ PySem.W.kitOne K t u = some (f x)
def sumB (f : α → Bool) (g : β → Bool) : α ⊕ β → Bool
  | .inl a => f a
  | .inr b => g b
theorem tyI {b : String} {r : Bool} (h : kitB "int" b = some r) : TyP rI K (.type b) (fun _ => r) := fun H v x hx => ⟨_, .base (by rw [show v = _ from hx]; exact .int _), kit_ty h⟩
theorem tyB {b : String} {r : Bool} (h : kitB "bool" b = some r) : TyP rB K (.type b) (fun _ => r) := fun H v x hx => ⟨_, .base (by rw [show v = _ from hx]; exact .bl _), kit_ty h⟩
theorem tyS {b : String} {r : Bool} (h : kitB "str" b = some r) : TyP rS K (.type b) (fun _ => r) := fun H v x hx => ⟨_, .base (by rw [show v = _ from hx]; exact .str _), kit_ty h⟩
theorem tyL {b : String} {r : Bool} (h : kitB "list" b = some r) : TyP (rL P) K (.type b) (fun _ => r) := fun H v x hx => by
  obtain ⟨p, vs, rfl, h1, _⟩ := hx
  exact ⟨_, .base (.lst h1), kit_ty h⟩
theorem tyT2 {b : String} {r : Bool} (h : kitB "tuple" b = some r) : TyP (rT2 P P') K (.type b) (fun _ => r) := fun H v x hx => by
  obtain ⟨p, _, _, rfl, h1, _⟩ := hx
  exact ⟨_, .base (.tup h1), kit_ty h⟩
theorem tyT3 {b : String} {r : Bool} (h : kitB "tuple" b = some r) : TyP (rT3 P P' P3) K (.type b) (fun _ => r) := fun H v x hx => by
  obtain ⟨p, _, _, _, rfl, h1, _⟩ := hx
  exact ⟨_, .base (.tup h1), kit_ty h⟩
theorem tyU {f : α → Bool} {g : β → Bool} (h1 : TyP P K u f) (h2 : TyP P' K u g) : TyP (rU P P') K u (sumB f g) := fun H v x hx => by
  cases x with
  | inl a => exact h1 H v a hx
  | inr b => exact h2 H v b hx
theorem k_isU {b : String} {f : α → Bool} (h : TyP P K u f) {x : α} (hx : P H v x) (q : Q (.bl (f x)) H) (hu : u = .type b := by rfl) : rIsi K [v, .ty b] H Q := by
  obtain ⟨t, h1, h2⟩ := h H v x hx
  subst hu
  exact ⟨v, _, t, _, _, rfl, .ty _, h1, h2, q⟩
end
/-! the number of a refusal in hand -/
def atE (k : Ek) (e : Er) : Option Int := match k, e with
  | .NoWire, .NoWire i => some i
  | .NoRow, .NoRow i => some i
  | _, _ => none
theorem o_xf {a : Addr} {cls : Value} {d : Option Addr} {C : Addr} {f : Str} {te : TE} {σ : St} {H : Hp} {Q : VK} (h : te σ H fun x H1 => x = .ref a ∧ cls = .ref C ∧ ∃ (dd : Addr) (fs : List (Str × V)) (v : V), d = some dd ∧ H1 dd = some (.xd fs) ∧ fs.lookup f = some v ∧ Q v H1) : tXf a cls d C f te σ H Q := h
theorem k_xfNoWire {es : Eds} {e : Er} {n : Int} {a : Addr} {cls : Value} {d : Option Addr} {H : Hp} {Q : VK} (h : atE .NoWire e = some n) (hx : XFl e d H) (hc : cls = .ref (es.at e.k)) (q : Q (.int n) H) :
    V.ref a = .ref a ∧ cls = .ref es.NoWire ∧ ∃ (dd : Addr) (fs : List (Str × V)) (v : V), d = some dd ∧ H dd = some (.xd fs) ∧ fs.lookup ("at" : Str) = some v ∧ Q v H := by
  cases e with
  | NoWire i =>
    cases h
    obtain ⟨x, h1, h2⟩ := hx
    exact ⟨rfl, hc, x, _, _, h1, h2, lk_hit, q⟩
  | _ => cases h
theorem k_xfNoRow {es : Eds} {e : Er} {n : Int} {a : Addr} {cls : Value} {d : Option Addr} {H : Hp} {Q : VK} (h : atE .NoRow e = some n) (hx : XFl e d H) (hc : cls = .ref (es.at e.k)) (q : Q (.int n) H) :
    V.ref a = .ref a ∧ cls = .ref es.NoRow ∧ ∃ (dd : Addr) (fs : List (Str × V)) (v : V), d = some dd ∧ H dd = some (.xd fs) ∧ fs.lookup ("word" : Str) = some v ∧ Q v H := by
  cases e with
  | NoRow i =>
    cases h
    obtain ⟨x, h1, h2⟩ := hx
    exact ⟨rfl, hc, x, _, _, h1, h2, lk_hit, q⟩
  | _ => cases h
theorem o_yes {A B : Hp → Prop} {σ : St} {H : Hp} (h : A H) : tYes σ H (fun b H3 => if b = true then A H3 else B H3) := by
  show if true = true then A H else B H
  rw [if_pos rfl]
  exact h
/-! a if c else b, any value -/
theorem x_ifP {c : Bool} {tt : TT} {ta tb : TE} {σ : St} {H : Hp} {Q : VK} (J0 : Hp → Prop) (J : V → Hp → Prop) (h1 : ∀ Q1 : Bool → Hp → Prop, (∀ H', J0 H' → Q1 c H') → tt σ H Q1) (h2 : c = true → ∀ H', J0 H' → ∀ Q2 : VK, (∀ v H'', J v H'' → Q2 v H'') → ta σ H' Q2)
    (h3 : c = false → ∀ H', J0 H' → ∀ Q2 : VK, (∀ v H'', J v H'' → Q2 v H'') → tb σ H' Q2) (k : ∀ v H', J v H' → Q v H') : tIf tt ta tb σ H Q := by
  refine h1 _ fun H' O' => ?_
  cases c with
  | true => exact h2 rfl H' O' Q k
  | false => exact h3 rfl H' O' Q k
end Bt

namespace Bt
open PySem L2
/-! a list of objects whose items stay these -/
section
variable {α : Type} {B : Ob α} {F R H : Hp} {vs : List V} {a b : Addr} {A L L1 C : List Cell} {xs ys : List α} {x : α} {i : Int} {w : V} {K : PySem.W.Frag} {Q : VK}
def oLv {α : Type} (vs : List V) (B : Ob α) : Ob (List α) := fun F a L xs => ∃ as Ls, vs = as.map V.ref ∧ L.Perm ((a, HO.lst vs) :: Ls.flatten) ∧ All3 (B F) as Ls xs
theorem moLv (m : MonoO B) : MonoO (oLv vs B) := fun _ _ _ _ _ e ⟨as, Ls, h0, h1, h2⟩ => ⟨as, Ls, h0, h1, h2.mp fun _ _ _ h => m _ _ _ _ _ e h⟩
theorem oLs.fix (h : oLs B F a L xs) : ∃ vs, oLv vs B F a L xs := by
  obtain ⟨as, Ls, h1, h2⟩ := h
  exact ⟨_, as, Ls, rfl, h1, h2⟩
theorem oLv.un (h : oLv vs B F a L xs) : oLs B F a L xs := by
  obtain ⟨as, Ls, rfl, h1, h2⟩ := h
  exact ⟨as, Ls, h1, h2⟩
theorem oLv.len (h : oLv vs B F a L xs) : vs.length = xs.length := by
  obtain ⟨as, Ls, rfl, h1, h2⟩ := h
  rw [List.length_map, h2.len]
theorem oLv.at (O : Own R H C) (h : oLv vs B F a L xs) (hs : ∀ c ∈ L, c ∈ C) : H a = some (.lst vs) := by
  obtain ⟨as, Ls, _, h1, _⟩ := h
  exact O.mem (hs _ (h1.mem_iff.mpr (List.Mem.head _)))
theorem oLv.isref (h : oLv vs B F a L xs) (hw : atI vs i = some w) : ∃ b, w = .ref b := by
  obtain ⟨as, Ls, rfl, _, _⟩ := h
  unfold atI at hw
  cases e : ixN (as.map V.ref).length i with
  | none => rw [e] at hw; cases hw
  | some j =>
    rw [e] at hw
    have hw : (as.map V.ref)[j]? = some w := hw
    rw [List.getElem?_map] at hw
    cases e2 : as[j]? with
    | none => rw [e2] at hw; cases hw
    | some b => rw [e2] at hw; exact ⟨b, (Option.some.inj hw).symm⟩
theorem All2.of_get {α β : Type} {P : α → β → Prop} : ∀ {as : List α} {bs : List β}, as.length = bs.length → (∀ (i : Nat) (a : α) (b : β), as[i]? = some a → bs[i]? = some b → P a b) → All2 P as bs
  | [], [], _, _ => .nil
  | a :: as, b :: bs, h, k => .cons (k 0 a b rfl rfl) (All2.of_get (by simpa using h) fun i x y hx hy => k (i + 1) x y (by simpa using hx) (by simpa using hy))
theorem ixs_of (vs : List V) {n : Nat} (h : vs.length = n) : All2 (fun v (i : Int) => atI vs i = some v) vs (rangeI 0 (n : Int)) := by
  subst h
  refine All2.of_get (by simp [rangeI]) fun j v i hv hi => ?_
  have hj : j < vs.length := (List.getElem?_eq_some_iff.mp hv).1
  have : (rangeI 0 (vs.length : Int))[j]? = some (j : Int) := by
    unfold rangeI
    rw [List.getElem?_map, show ((vs.length : Int) - 0).toNat = vs.length by omega, List.getElem?_range hj]
    simp
  rw [this] at hi
  cases hi
  unfold atI ixN
  rw [if_pos (by omega), if_pos (by omega)]
  simpa using hv
theorem Own.lsAtV (m : MonoO B) (O : Own R H (A ++ (L ++ C))) (h : oLv vs B F a L xs) (e : atI xs i = some x) (hw : atI vs i = some (.ref b)) :
    ∃ (L1 L2 : List Cell), B F b L1 x ∧ (L1 ++ L2).Perm L ∧ Own R H (A ++ (L1 ++ (L2 ++ C))) ∧ (∀ F' L1' x', Ex F F' → B F' b L1' x' → ∀ ys, setG xs i x' = some ys → oLv vs B F' a (L1' ++ L2) ys) ∧ ∀ F' L1', Ex F F' → B F' b L1' x → oLv vs B F' a (L1' ++ L2) xs := by
  obtain ⟨as, Ls, rfl, hp, h3⟩ := h
  unfold atI at e
  cases ej : ixN xs.length i with
  | none => rw [ej] at e; cases e
  | some j =>
    rw [ej] at e
    obtain ⟨b', L1, bs1, bs2, h4, h5, h6, h7⟩ := h3.at e
    subst h6
    have hbb : b' = b := by
      unfold atI at hw
      rw [List.length_map, h3.len, ej] at hw
      have hw : (as.map V.ref)[j]? = some (.ref b) := hw
      rw [List.getElem?_map, h4] at hw
      exact V.ref.inj (Option.some.inj hw)
    subst hbb
    have hp2 : L.Perm (L1 ++ ((a, HO.lst (as.map V.ref)) :: (bs1.flatten ++ bs2.flatten))) := by
      refine hp.trans ?_
      rw [List.flatten_append, List.flatten_cons]
      refine List.Perm.trans ?_ (List.perm_middle.symm)
      refine List.Perm.cons _ ?_
      rw [← List.append_assoc, ← List.append_assoc]
      exact List.Perm.append_right _ List.perm_append_comm
    have cl : ∀ F' L1' x', Ex F F' → B F' b' L1' x' → oLv (as.map V.ref) B F' a (L1' ++ ((a, HO.lst (as.map V.ref)) :: (bs1.flatten ++ bs2.flatten))) (xs.set j x') := fun F' L1' x' ex hb => by
      refine ⟨as, bs1 ++ L1' :: bs2, rfl, ?_, h7 _ L1' x' (fun _ _ _ h => m _ _ _ _ _ ex h) hb⟩
      rw [List.flatten_append, List.flatten_cons]
      refine List.perm_middle.trans ?_
      refine List.Perm.cons _ ?_
      rw [← List.append_assoc, ← List.append_assoc]
      exact List.Perm.append_right _ List.perm_append_comm
    refine ⟨L1, (a, HO.lst (as.map V.ref)) :: (bs1.flatten ++ bs2.flatten), h5, hp2.symm, O.perm ?_, fun F' L1' x' ex hb ys hy => ?_, fun F' L1' ex hb => ?_⟩
    · refine List.Perm.append_left _ ?_
      rw [← List.append_assoc]
      exact List.Perm.append_right _ hp2
    · unfold setG at hy
      rw [ej] at hy
      cases hy
      exact cl F' L1' x' ex hb
    · have := cl F' L1' x ex hb
      have e2 : xs.set j x = xs := by
        obtain ⟨h8, h9⟩ := List.getElem?_eq_some_iff.mp (show xs[j]? = some x from e)
        rw [← h9]
        exact List.set_getElem_self h8
      rw [e2] at this
      exact this
def inL {α : Type} [DecidableEq α] (x : α) (xs : List α) : Bool := decide (x ∈ xs)
section
variable {α : Type} [DecidableEq α] {P : Rp α} {F F' H : Hp} {K : PySem.W.Frag} {v : V} {x : α} {xs : List α} {vs : List V} {a : Addr} {Q : VK}
theorem k_inJ (e : De P) (m : Mono P) (h : e.n ≤ 60) (h1 : P F v x) (e1 : Ex F H) (hs : SqL K H a vs) (ha : All2 (P F') vs xs) (e2 : Ex F' H) (k : Q (.bl (inL x xs)) H) : rInD K v (.ref a) H Q := k_inN e m h h1 e1 hs ha e2 k
theorem k_niJ (e : De P) (m : Mono P) (h : e.n ≤ 60) (h1 : P F v x) (e1 : Ex F H) (hs : SqL K H a vs) (ha : All2 (P F') vs xs) (e2 : Ex F' H) (k : Q (.bl (!inL x xs)) H) : rNotInD K v (.ref a) H Q := k_niN e m h h1 e1 hs ha e2 k
end
theorem pe_fld2 {X : Cx} {K : PySem.W.Frag} {e : PySem.Expr} {f : Str} {pos : PySem.Pos} {ta : TE} (hK : X.K = K) (he : PE X e ta) (hb : attributeBase e f X.env (eval e X.env) = eval e X.env) : PE X (.Attribute e f pos) (tFld K ta f) := by
  subst hK
  exact pe_fld he hb
theorem k_clrA {g : HO → List Cell} (hl : H a = some (.lst vs)) (hp : ∀ o', Own R (upd H a o') (g o')) (k : ∀ H', Own R H' (g (.lst [])) → Q .non H') : rClear (.ref a) [] H Q :=
  ⟨a, _, rfl, rfl, hl, k _ (hp _)⟩
abbrev tLs (t : TA) : TE := fun σ H Q => t σ H fun xs H1 => rNewL xs H1 Q
theorem pe_lst2 {X : Cx} {es : List PySem.Expr} {t : TA} {pos : PySem.Pos} (h : PE X (.List es pos) (tLst t)) : PE X (.List es pos) (tLs t) := pe_lstQ h
/-! len and append -/
theorem oLs.sq (O : Own R H C) (h : oLs B F a L xs) (hs : ∀ c ∈ L, c ∈ C) : ∃ vs, SqL K H a vs ∧ vs.length = xs.length := by
  obtain ⟨vs, hv⟩ := h.fix
  exact ⟨vs, SqL.of (hv.at O hs), hv.len⟩
theorem n_lenO (h : ∃ vs, SqL K H a vs ∧ vs.length = xs.length) (k : Q (.int (xs.length : Int)) H) : rLenQ K [.ref a] H Q := by
  obtain ⟨vs, hs, hl⟩ := h
  unfold rLenQ
  exact ⟨a, vs, rfl, .inl hs, by rw [hl]; exact k⟩
theorem All3.snoc {α β γ : Type} {P : α → β → γ → Prop} {as : List α} {bs : List β} {cs : List γ} {a : α} {b : β} {c : γ} (h : All3 P as bs cs) (k : P a b c) : All3 P (as ++ [a]) (bs ++ [b]) (cs ++ [c]) := by
  induction h with
  | nil => exact .cons k .nil
  | cons h _ ih => exact .cons h ih
theorem k_appO (O : Own R H (L ++ (L1 ++ C))) (h : oLs B F a L xs) (hb : B F b L1 x) (e : appG xs x = some ys) (k : ∀ H' L', Own R H' (L' ++ C) → oLs B F a L' ys → Q .non H') : rAppend (.ref a) [.ref b] H Q := by
  obtain ⟨c, rfl⟩ := grdE e
  obtain ⟨as, Ls, hp, h3⟩ := h
  have O1 : Own R H ((a, HO.lst (as.map V.ref)) :: (Ls.flatten ++ (L1 ++ C))) := O.perm (List.Perm.append_right _ hp)
  refine ⟨a, _, _, rfl, rfl, O1.mem (List.Mem.head _), by rw [List.length_map, h3.len]; exact c, k _ ((a, HO.lst (as.map V.ref ++ [.ref b])) :: (Ls.flatten ++ L1)) ?_ ?_⟩
  · have O2 := O1.put0 (o' := HO.lst (as.map V.ref ++ [.ref b]))
    refine O2.perm ?_
    rw [List.cons_append, List.append_assoc]
  · refine ⟨as ++ [b], Ls ++ [L1], ?_, h3.snoc hb⟩
    rw [List.map_append, List.flatten_append, List.flatten_singleton]
    exact List.Perm.refl _
end
end Bt

set_option Elab.async false
set_option linter.all false
set_option maxRecDepth 100000
set_option maxHeartbeats 4000000
/-! What is refused, kept beyond its suite. -/
namespace Bt
open PySem L2 PyProof.Rows
/-- an exception that stays: its class and its dict are known -/
def ExH (a : Addr) (cls : Value) (d : Option Addr) : HO := .ext fun h => ∃ (oe : Obj) (vs : Array Value), h.get? a = some oe ∧ L2N.Zn cls d oe ∧ oe.data = .fields vs
section
variable {X : Cx} {pins : List (Addr × Obj)} {σ : L2.St} {H : Hp} {s : Shared} {a : Addr} {oe : Obj} {cls : Value} {d : Option Addr}
theorem inv_layX (I : Inv X pins σ H s) (he : s.heap.get? a = some oe) (hz : L2N.Zn cls d oe) (hd : ∃ vs, oe.data = .fields vs) (na : H a = none) (n0 : X.s_0.heap.get? a = none) (np : ∀ p ∈ X.pn ++ pins, p.1 ≠ a) (nL : a ≠ X.env.locals) : Inv X pins σ (upd H a (ExH a cls d)) s := by
  obtain ⟨vs, hv⟩ := hd
  have nb : ∀ b o, X.s_0.heap.get? b = some o → b ≠ a := fun b o e z => by
    rw [z, n0] at e
    cases e
  have nh : ∀ b o, H b = some o → b ≠ a := fun b o e z => by
    rw [z, na] at e
    cases e
  refine ⟨I.ok, I.os, I.bare, ⟨I.base.keep, I.base.slot, fun b o e n hx => ?_, I.base.there, fun b xs e => ?_, fun b o u e => ?_, fun b ps e => ?_⟩, I.loc, I.cell, ?_, fun x c e => ?_, fun p hp => ?_, fun b o e => ?_, I.len⟩
  · rw [upd_ne (nb b o e)]
    exact I.base.free b o e n hx
  · have q := I.base.tups b xs e
    rw [upd_ne (nh _ _ q)]
    exact q
  · have q := I.base.frzs b o u e
    rw [upd_ne (nh _ _ q)]
    exact q
  · obtain ⟨more, q⟩ := I.base.tbls b ps e
    refine ⟨more, ?_⟩
    rw [upd_ne (nh _ _ q)]
    exact q
  · rw [upd_ne (Ne.symm nL)]
    exact I.free
  · have : c ≠ a := fun z => by
      obtain ⟨v, o, ho, hdd⟩ := I.cell x c e
      rw [z, he] at ho
      cases ho
      rw [hv] at hdd
      cases hdd
    rw [upd_ne this]
    exact I.freeC x c e
  · obtain ⟨p1, p2, p3⟩ := I.pin p hp
    refine ⟨p1, ?_, p3⟩
    rw [upd_ne (np p hp)]
    exact p2
  · by_cases z : b = a
    · subst z
      rw [upd_same] at e
      cases e
      refine ⟨⟨oe, vs, he, hz, hv⟩, ⟨oe, he⟩, fun h1 h2 ⟨o', vs', e1, e2, e3⟩ hk => ⟨o', vs', hk _ e1, e2, e3⟩⟩
    · rw [upd_ne z] at e
      refine (I.hok b o e).stay (fun _ _ _ h => h) (fun c h => ?_) fun c xs h => ?_
      · rw [upd_ne (nh _ _ h)]
        exact h
      · rw [upd_ne (nh _ _ h)]
        exact h
end
/-! ### try with clauses of all three sorts: without a name, with one, with one whose exception stays -/
/-- an exception in hand, the clauses ahead of it -/
structure Grip (X : Cx) (pins : List (Addr × Obj)) (σ : L2.St) (H : Hp) (a : Addr) (cls : Value) (d : Option Addr) (B : Heap) (t s : Shared) : Prop where
  src : Inv X pins σ H t
  nb : ∀ b o, t.heap.get? b = some o → b ∉ frs X.stack → B.get? b = some o
  up : t.heap.UpToSlots s.heap
  os : s.os = t.os
  ag : AllBare s.gens
  fl : HandSPX.FlyingZ B X.stack a (L2N.Zn cls d) s.heap
  na : H a = none
section
variable {X : Cx} {pins : List (Addr × Obj)} {σ : L2.St} {H : Hp} {a : Addr} {cls : Value} {d : Option Addr} {B : Heap} {t s : Shared}
theorem Grip.on (g : Grip X pins σ H a cls d B t s) {h : Heap} (f : HandSPX.FlyingZ B X.stack a (L2N.Zn cls d) h) (u : s.heap.UpToSlots h) : Grip X pins σ H a cls d B t { s with heap := h } :=
  ⟨g.src, g.nb, g.up.trans u, g.os, g.ag, f, g.na⟩
theorem Grip.inv (g : Grip X pins σ H a cls d B t s) : Inv X pins σ H s := g.src.landed g.nb g.fl.1 g.up g.os g.ag
theorem Grip.off (g : Grip X pins σ H a cls d B t s) : a ∉ frs X.stack := fun m => by
  obtain ⟨oe, vs, e1, _, e2⟩ := g.fl.there
  obtain ⟨_, o, e3, nf⟩ := g.fl.2.2.1.mem m
  rw [e1] at e3
  exact nf vs (by cases e3; exact e2)
theorem Grip.new (g : Grip X pins σ H a cls d B t s) : t.heap.get? a = none := by
  have z := g.fl.2.1
  cases q : t.heap.get? a with
  | none => rfl
  | some o =>
    rw [g.nb a o q g.off] at z
    cases z
theorem Grip.new0 (g : Grip X pins σ H a cls d B t s) (hex : X.ex = []) : X.s_0.heap.get? a = none := by
  cases q : X.s_0.heap.get? a with
  | none => rfl
  | some o =>
    have hx : a ∉ X.ex := by
      rw [hex]
      exact List.not_mem_nil
    obtain ⟨o2, q2⟩ := g.src.base.there a o q hx
    rw [g.new] at q2
    cases q2
theorem Grip.nopin (g : Grip X pins σ H a cls d B t s) : ∀ p ∈ X.pn ++ pins, p.1 ≠ a := fun p m z => by
  have q := (g.src.pin p m).1
  rw [z, g.new] at q
  cases q
theorem Grip.nL (g : Grip X pins σ H a cls d B t s) (hs : X.stack = X.env :: X.outer) (hf : X.env.frame = some X.env.locals) : a ≠ X.env.locals := fun z =>
  g.off (by rw [hs]; exact List.mem_filterMap.mpr ⟨_, List.Mem.head _, by rw [hf, z]⟩)
theorem Grip.nF (g : Grip X pins σ H a cls d B t s) (hs : X.stack = X.env :: X.outer) : a ∉ X.fs := fun m => by
  obtain ⟨e, m1, m2⟩ := List.mem_filterMap.mp m
  exact g.off (by rw [hs]; exact List.mem_filterMap.mpr ⟨e, List.Mem.tail _ m1, m2⟩)
/-- the suite's own state -/
theorem Grip.within (g : Grip X pins σ H a cls d B t s) (hs : X.stack = X.env :: X.outer) (hf : X.env.frame = some X.env.locals) : ∃ oe, L2N.Zn cls d oe ∧ (∃ vs, oe.data = .fields vs) ∧ s.heap.get? a = some oe ∧ Inv (X.suite a ((a, oe) :: (X.pn ++ pins))) [] σ H s := by
  obtain ⟨oe, vs, e1, e2, e3⟩ := g.fl.there
  exact ⟨oe, e2, ⟨vs, e3⟩, e1, g.inv.suite e1 e3 g.na (g.nL hs hf) (g.nF hs)⟩
/-- no clause takes it -/
theorem Grip.out (g : Grip X pins σ H a cls d B t s) (hf : X.env.frame = some X.env.locals) {W : WX} (tk : L2N.Takes X W) (w : W cls d σ H) {Q : Flow → Shared → Prop} : wpAny (model X.prog X.w) X.A (handleBy (.ref a) X.env []) Q X.xe s := by
  obtain ⟨_, _, _, oe, vs, T, oT, ts, e1, _, e3, e4, _⟩ := id g.fl
  refine wpAny_handleBy_nil ?_
  unfold PySem.passOn
  refine wpAny_bind (wpAny_field e1 e3 e4 ?_)
  rw [if_neg (by simp)]
  have last : wpAny (model X.prog X.w) X.A (setFlight (.ref a) X.env.frame) (fun _ s2 => wpAny (model X.prog X.w) X.A (throw (.ref a) : Sem Flow) Q X.xe s2) X.xe s := by
    rw [hf]
    exact HandSPX.setFlight_upZ g.fl fun h1 k1 k2 => wpAny_throw (tk _ _ ⟨a, B, t, pins, σ, H, cls, d, rfl, g.src, g.nb, g.up.trans k2, .inr (.inr k1), g.na, g.os, g.ag, w⟩)
  first
    | exact wpAny_bind (wpAny_pure (wpAny_bind last))
    | exact wpAny_bind last
/-- is it of a clause's class? -/
theorem Grip.ask (g : Grip X pins σ H a cls d B t s) (hs : X.stack = X.env :: X.outer) (hf : X.env.frame = some X.env.locals) {x : Str} {c : Value} {np pos : Pos} {b : Bool} (hc : Names X x c) (hb : PySem.W.exmOne X.K cls c = some b) {R : Except Value Flow → Shared → Prop} (q : R (.ok (if b then .brk else .next)) s) :
    codeAny (model X.prog X.w) (X.A.mark (some (.ref a))) (.handlers (.ref a) [.ExceptHandler (some (.Name x np)) none [] pos] X.env) R s := by
  obtain ⟨oe, z, _, e1, S⟩ := g.within hs hf
  have what : PySem.W.Looks (model X.prog X.w) s.heap (typeOf (.ref a)) cls := fun A Q E s' k q' => wpAny_typeOf_ref (k _ _ e1) (by rw [z.1]; exact q')
  have hit := PySem.W.exm_one (M := model X.prog X.w) g.inv.kIn what hb
  refine codeAny_handlers_test ?_
  obtain ⟨h1, h2, h3⟩ := hc
  rcases h3 with h3 | ⟨h3, h4, h5⟩
  · exact ld_glob (X := X.suite a ((a, oe) :: (X.pn ++ pins))) S h1 h3 (hit.here q) h2
  · exact ld_blt (X := X.suite a ((a, oe) :: (X.pn ++ pins))) S h1 h3 h4 (hit.here q) h5 h2
end
/-- what stands behind a clause's suite; m: its name's slot, and whether the exception stays -/
abbrev behindC (D : Ends) : Option (Nat × Bool) → Addr → Value → Option Addr → Ends
  | none, _, _, _ => D
  | some (i, false), _, _, _ => { nx := fun σ H => D.nx (σ.set i none) H, rt := D.rt, bk := fun σ H => D.bk (σ.set i none) H, ct := fun σ H => D.ct (σ.set i none) H }
  | some (i, true), a, cls, d => { nx := fun σ H => H a = none → D.nx (σ.set i none) (upd H a (ExH a cls d)), rt := D.rt, bk := fun σ H => D.bk (σ.set i none) H, ct := fun σ H => D.ct (σ.set i none) H }
abbrev slotC (σ : L2.St) : Option (Nat × Bool) → Addr → L2.St
  | none, _ => σ
  | some (i, _), a => σ.set i (some (.ref a))
abbrev Clauses := List (Value × Option (Nat × Bool) × (Addr → Value → Option Addr → TS))
def wCl (K : PySem.W.Frag) (Wout : WX) (D : Ends) : Clauses → WX
  | [] => Wout
  | (c, m, ts) :: r => fun cls d σ H => ∃ b, PySem.W.exmOne K cls c = some b ∧ (b = true → ∀ a, H a = none → ts a cls d (behindC D m a cls d) (slotC σ m a) H) ∧ (b = false → wCl K Wout D r cls d σ H)
abbrev SuiteOk (X : Cx) (ss : List Stmt) (ts : Addr → Value → Option Addr → TS) : Prop :=
  ∀ (a : Addr) (oe : Obj) (cls : Value) (d : Option Addr) (pn : List (Addr × Obj)), L2N.Zn cls d oe → (∃ vs, oe.data = .fields vs) → PSs (X.suite a ((a, oe) :: pn)) ss (ts a cls d)
inductive ClOk (X : Cx) : List ExceptHandler → Clauses → Prop
  | nil : ClOk X [] []
  | bare {x : Str} {c : Value} {ts : Addr → Value → Option Addr → TS} {b₀ : Stmt} {ss : List Stmt} {np pos : Pos} {hs : List ExceptHandler} {l : Clauses} (hc : Names X x c) (su : SuiteOk X (b₀ :: ss) ts) (r : ClOk X hs l) : ClOk X (.ExceptHandler (some (.Name x np)) none (b₀ :: ss) pos :: hs) ((c, none, ts) :: l)
  | named {x n : Str} {c : Value} {i : Nat} (k : Bool) {ts : Addr → Value → Option Addr → TS} {b₀ : Stmt} {ss : List Stmt} {np pos : Pos} {hs : List ExceptHandler} {l : Clauses} (hc : Names X x c) (hi : X.N[i]? = some n) (hl : X.env.kindOf n = some .local) (su : SuiteOk X (b₀ :: ss) ts) (r : ClOk X hs l) :
      ClOk X (.ExceptHandler (some (.Name x np)) (some n) (b₀ :: ss) pos :: hs) ((c, some (i, k), ts) :: l)
section
variable {X : Cx} {pins : List (Addr × Obj)} {σ : L2.St} {H : Hp} {a : Addr} {cls : Value} {d : Option Addr} {B : Heap} {t s : Shared} {D : Ends} {W : WX}
theorem clauses_run (hs : X.stack = X.env :: X.outer) (hf : X.env.frame = some X.env.locals) (hN : X.N.Nodup) (hex : X.ex = []) (tk : L2N.Takes X W) {hds : List ExceptHandler} {l : Clauses} (h : ClOk X hds l) :
    ∀ s, Grip X pins σ H a cls d B t s → wCl X.K W D l cls d σ H → wpAny (model X.prog X.w) X.A (handleBy (.ref a) X.env hds) (SP X pins D) X.xe s := by
  induction h with
  | nil => exact fun s g w => g.out hf tk w
  | bare hc su r ih =>
    rintro s g ⟨b, h1, h2, h3⟩
    refine wpAny_handleBy_cons (g.ask hs hf hc h1 ?_) (by intro z; cases z)
    cases b with
    | false => exact ih s g (h3 rfl)
    | true =>
      refine codeAny_handlers_suite (HandSPX.lands_againZ g.fl fun h4 f4 u4 => ?_)
      have g := g.on f4 u4
      obtain ⟨oe, z1, z2, _, S⟩ := g.within hs hf
      refine wpAny_mono ((su a oe cls d (X.pn ++ pins) z1 z2).run [] _ _ H _ S (h2 rfl a g.na)) (fun f s6 e => ?_) (fun _ _ z => False.elim z)
      cases f with
      | ret u => exact (fun ⟨v, σ6, H6, S6, r6, q6⟩ => ⟨v, σ6, H6, S6.unsuite g.src.ok, r6, q6⟩) e
      | _ => exact (fun ⟨σ6, H6, S6, q6⟩ => ⟨σ6, H6, S6.unsuite g.src.ok, q6⟩) e
  | named k hc hi hl su r ih =>
    rintro s g ⟨b, h1, h2, h3⟩
    refine wpAny_handleBy_cons (g.ask hs hf hc h1 ?_) (by intro z; cases z)
    cases b with
    | false => exact ih s g (h3 rfl)
    | true =>
      refine codeAny_handlers_suite_as (HandSPX.lands_againZ g.fl fun h4 f4 u4 => ?_)
      have g := g.on f4 u4
      obtain ⟨oe, z1, z2, _, S⟩ := g.within hs hf
      refine store_ok (X := X.suite a ((a, oe) :: (X.pn ++ pins))) (v := .ref a) S hN hi (.inl hl) rfl (fun s5 S5 => ?_) (.inr hl)
      have q0 := h2 rfl a g.na
      have ok := g.src.ok
      cases k with
      | false =>
        refine wpAny_mono ((su a oe cls d (X.pn ++ pins) z1 z2).run [] s5 _ H _ S5 q0) (fun f s6 e => ?_) (fun _ _ z => False.elim z)
        cases f with
        | ret u => exact (fun ⟨v, σ6, H6, S6, r6, q6⟩ => gone_ok (S6.unsuite ok) hN hi hl fun s7 J => ⟨v, _, H6, J, r6, q6⟩) e
        | _ => exact (fun ⟨σ6, H6, S6, q6⟩ => gone_ok (S6.unsuite ok) hN hi hl fun s7 J => ⟨_, H6, J, q6⟩) e
      | true =>
        refine wpAny_mono ((su a oe cls d (X.pn ++ pins) z1 z2).run [] s5 _ H _ S5 q0) (fun f s6 e => ?_) (fun _ _ z => False.elim z)
        cases f with
        | next =>
          obtain ⟨σ6, H6, S6, q6⟩ := e
          obtain ⟨p1, p2, _⟩ := S6.pin (a, oe) (List.mem_append_left _ (List.Mem.head _))
          exact gone_ok (inv_layX (S6.unsuite ok) p1 z1 z2 p2 (g.new0 hex) g.nopin (g.nL hs hf)) hN hi hl fun s7 J => ⟨_, _, J, q6 p2⟩
        | ret u => exact (fun ⟨v, σ6, H6, S6, r6, q6⟩ => gone_ok (S6.unsuite ok) hN hi hl fun s7 J => ⟨v, _, H6, J, r6, q6⟩) e
        | brk => exact (fun ⟨σ6, H6, S6, q6⟩ => gone_ok (S6.unsuite ok) hN hi hl fun s7 J => ⟨_, H6, J, q6⟩) e
        | cont => exact (fun ⟨σ6, H6, S6, q6⟩ => gone_ok (S6.unsuite ok) hN hi hl fun s7 J => ⟨_, H6, J, q6⟩) e
/-- try: .. except ..: .. -/
theorem ps_tryC {body : List Stmt} {h₀ : ExceptHandler} {hds : List ExceptHandler} {l : Clauses} {pos : Pos} {tb : WX → TS} (hs : X.stack = X.env :: X.outer) (hf : X.env.frame = some X.env.locals) (hN : X.N.Nodup) (hex : X.ex = []) (tk : L2N.Takes X W)
    (hb : ∀ (W : WX) (pn : List (Addr × Obj)) (xe : Value → Shared → Prop), L2N.Takes (X.tr pn xe) W → PassesOwn (model X.prog X.w) X.A X.env xe → PSs (X.tr pn xe) body (tb W))
    (hh : ClOk X (h₀ :: hds) l) : PS X (.Try body (h₀ :: hds) [] [] pos) (fun D σ H => tb (wCl X.K W D l) D σ H) := by
  refine ⟨fun pins s σ H D I h => wpAny_Try_except (wpAny_mono ((hb (wCl X.K W D l) (X.pn ++ pins) _ (fun u s2 x => ?_) PassesOwn.looking).run [] s σ H D (I.toTry _) h) (fun f s2 e => ?_) fun _ _ z => z)⟩
  · obtain ⟨a, B, t, pins', σ', H', cls, d, rfl, J, nb, up, sky, na, os, ag, w⟩ := x
    have fr : X.A.frames = some (X.env :: X.outer) := by rw [I.ok.frames, hs]
    have sky2 : Sky B (X.env :: X.outer) a (L2N.Zn cls d) X.env.locals s2.heap := by rw [← hs]; exact sky
    exact L2N.Sky.land L2N.Zn.steady fr hf sky2 fun h3 f3 u3 => clauses_run hs hf hN hex tk hh _ ⟨J.ofTry I.ok, nb, up.trans u3, os, ag, by rw [hs]; exact f3, na⟩ w
  · cases f with
    | ret u => exact (fun ⟨v, σ1, H1, J, r, q⟩ => ⟨v, σ1, H1, J.ofTry I.ok, r, q⟩) e
    | next => exact (fun ⟨σ1, H1, J, q⟩ => wpAny_execs_nil ⟨σ1, H1, J.ofTry I.ok, q⟩) e
    | _ => exact (fun ⟨σ1, H1, J, q⟩ => ⟨σ1, H1, J.ofTry I.ok, q⟩) e
end
/-! the exception as data -/
def rX (es : Eds) (ks : List Ek) : Rp Er := fun F v e => ∃ a : Addr, v = .ref a ∧ F a = some (ExH a (.ref (es.at e.k)) none) ∧ e.plain = true ∧ e.k ∈ ks
theorem mX (es : Eds) (ks : List Ek) : Mono (rX es ks) := fun F F' v e x h => by
  obtain ⟨a, h1, h2, h3⟩ := h
  exact ⟨a, h1, x _ _ h2, h3⟩
theorem nnX {es : Eds} {ks : List Ek} : NN (rX es ks) := fun F v e h => by
  obtain ⟨a, rfl, _⟩ := h
  simp
theorem rX_ref {es : Eds} {ks : List Ek} {F : Hp} {v : V} {e : Er} (h : rX es ks F v e) : ∃ p, v = .ref p := by
  obtain ⟨a, h1, _⟩ := h
  exact ⟨a, h1⟩
theorem rX_k {es : Eds} {ks : List Ek} {F : Hp} {v : V} {e : Er} (h : rX es ks F v e) : e.k ∈ ks := by
  obtain ⟨_, _, _, _, h1⟩ := h
  exact h1
theorem Own.layE {es : Eds} {ks : List Ek} {R H : Hp} {L : List Cell} {a : Addr} {e : Er} (O : Own R H L) (hn : H a = none) (hp : e.plain = true) (hk : e.k ∈ ks) : ∃ R', Own R' (upd H a (ExH a (.ref (es.at e.k)) none)) L ∧ Ex R R' ∧ ∀ R0 Hb, Ex Hb R → rX es ks (ovr R0 Hb R') (.ref a) e := by
  refine ⟨upd R a (ExH a (.ref (es.at e.k)) none), (O.new hn).freeze, Ex.new (O.ex.back hn), fun R0 Hb eB => ⟨a, rfl, ovr_mk (.inr (eB.back (O.ex.back hn))) upd_same, hp, hk⟩⟩
theorem rX_up {es : Eds} {ks : List Ek} {R0 Hb R : Hp} {v : V} {e : Er} (h : rX es ks (ovr R0 Hb R) v e) : rX es ks R v e := mX es ks _ _ _ _ ovr_ex h
/-! isinstance of it -/
def rIsH (K : PySem.W.Frag) (es : Eds) (ks : List Ek) : List V → Hp → VK → Prop := fun xs H Q => ∃ (x c : V) (e : Er) (cv : Value) (b : Bool), xs = [x, c] ∧ ClsV c cv ∧ rX es ks H x e ∧ PySem.W.kitOne K (.ref (es.at e.k)) cv = some b ∧ Q (.bl b) H
theorem inst_h {X : Cx} {pins : List (Addr × Obj)} {σ : L2.St} {H : Hp} {s : Shared} {a D : Addr} (I : Inv X pins σ H s) (h : H a = some (ExH a (.ref D) none)) : ∃ oe od, PySem.W.InstAt s.heap a oe D od := by
  obtain ⟨⟨oe, vs, he, hz, hd⟩, _⟩ := (show ObjOk X.prog X.w H s.heap a (ExH a (.ref D) none) from I.hok a _ h)
  obtain ⟨oc, od, oda, osl⟩ := oe
  obtain ⟨h1, h2, _⟩ := hz
  dsimp only at h1 h2 hd
  subst h1 h2 hd
  exact ⟨_, none, he, rfl, rfl, trivial⟩
theorem call_isH {X : Cx} {es : Eds} {ks : List Ek} (T : EcF X.K es ks) : CallR X (.builtin "isinstance") (rIsH X.K es ks) := by
  intro pins s σ H xs us Q I r h
  obtain ⟨x, c, ex, cv, b, rfl, hcv, ⟨a, rfl, hd, _, hk⟩, e, q⟩ := h
  obtain ⟨u1, u2, rfl, r1, r2⟩ := vals2 r
  cases (show u1 = Value.ref a from r1)
  have ec := hcv.eq r2
  subst ec
  have C := T.ec _ hk
  obtain ⟨oe, od, J⟩ := inst_h I hd
  exact PySem.W.kia_one (PySem.W.kitx_exc (exc_cls C) C.hg C.hk C.hs C.ha C.hn C.ht C.hm) I.kIn J e (fun z => nomatch z) fun tk => ⟨.bl b, H, I.kept (t' := tk) fun _ _ z => z, rfl, q⟩
def rIsHt (K : PySem.W.Frag) (es : Eds) (ks : List Ek) : List V → Hp → VK → Prop := fun xs H Q => ∃ (x : V) (tp : Addr) (ex : Er) (cs : List V) (us : List Value) (b : Bool), xs = [x, .ref tp] ∧ rX es ks H x ex ∧ H tp = some (.tup cs) ∧ Paired ClsV cs us ∧ PySem.W.kitAny K (.ref (es.at ex.k)) us = some b ∧ Q (.bl b) H
theorem call_isHt {X : Cx} {es : Eds} {ks : List Ek} (T : EcF X.K es ks) : CallR X (.builtin "isinstance") (rIsHt X.K es ks) := by
  intro pins s σ H xs us Q I r h
  obtain ⟨x, tp, ex, cs, ws, b, rfl, ⟨a, rfl, hd, _, hk⟩, hT, k, e, q⟩ := h
  obtain ⟨u1, u2, rfl, r1, r2⟩ := vals2 r
  cases (show u1 = Value.ref a from r1)
  cases (show u2 = Value.ref tp from r2)
  obtain ⟨_, its, rv, o, h1, h2, n, h3⟩ := (show ObjOk X.prog X.w H s.heap tp (.tup cs) from I.hok tp _ hT)
  have e3 := ClsV.all k rv
  subst e3
  obtain ⟨oc, od, dt, sl⟩ := o
  simp only at h2 h3
  subst h2 h3
  have C := T.ec _ hk
  obtain ⟨oe, od, J⟩ := inst_h I hd
  exact PySem.W.kia_tup (PySem.W.kitx_exc (exc_cls C) C.hg C.hk C.hs C.ha C.hn C.ht C.hm) I.kIn J h1 e (fun z => nomatch z) fun tk => ⟨.bl b, H, I.kept (t' := tk) fun _ _ z => z, rfl, q⟩
theorem exE2 {es : Eds} {ks : List Ek} {cls : Value} {dd : Option Addr} {H H' : Hp} {t : Er → TS} {D : Ends} {σ : L2.St} {e : Er} (hX : XFl e dd H') (hk : e.k ∈ ks) (hc : cls = .ref (es.at e.k)) (q : t e D σ H) : ∃ e : Er, e.k ∈ ks ∧ cls = .ref (es.at e.k) ∧ t e D σ H := ⟨e, hk, hc, q⟩
end Bt

set_option linter.all false
set_option maxRecDepth 100000
set_option maxHeartbeats 1000000
/-! What was told, its inner lists changed by its asker: a loop over them all. -/
namespace Bt
open PySem L2
def NoL {α : Type} (P : Rp α) : Prop := ∀ F v x, P F v x → ∀ p ws, v = .ref p → F p = some (.lst ws) → False
theorem noI : NoL rI := fun F v x h p ws e _ => by
  rw [show v = V.int x from h] at e
  cases e
theorem noB : NoL rB := fun F v x h p ws e _ => by
  rw [show v = V.bl x from h] at e
  cases e
theorem noS : NoL rS := fun F v x h p ws e _ => by
  rw [show v = V.str x from h] at e
  cases e
theorem noT2 {α β : Type} {P : Rp α} {P' : Rp β} : NoL (rT2 P P') := fun F v x h p ws e k => by
  obtain ⟨q, _, _, rfl, h1, _⟩ := h
  cases e
  rw [h1] at k
  cases k
theorem noT3 {α β γ : Type} {P : Rp α} {P' : Rp β} {P3 : Rp γ} : NoL (rT3 P P' P3) := fun F v x h p ws e k => by
  obtain ⟨q, _, _, _, rfl, h1, _⟩ := h
  cases e
  rw [h1] at k
  cases k
def pokeG {α : Type} (xs : List (List α)) : Option Unit := grd (∀ r ∈ xs, r.length + xs.length ≤ 16777216) ()
def PkR (Rs : Hp) (a : Addr) (vs : List V) (B : Nat) (R : Hp) : Prop :=
  Ex Rs R ∧ R a = some (.lst vs) ∧ ∀ v ∈ vs, ∃ p ws, v = .ref p ∧ p ≠ a ∧ Rs p = none ∧ R p = some (.lst ws) ∧ ws.length ≤ B
def PkJ (Rs : Hp) (L : List Cell) (a : Addr) (vs : List V) (n : Nat) (H : Hp) : Prop := ∃ B R, B + n ≤ 16777216 ∧ Own R H L ∧ PkR Rs a vs B R
theorem All2.memL {α β : Type} {P : α → β → Prop} {as : List α} {bs : List β} (h : All2 P as bs) : ∀ a ∈ as, ∃ b ∈ bs, P a b := by
  induction h with
  | nil => exact fun _ h => nomatch h
  | cons k _ ih =>
    intro a ha
    rcases List.mem_cons.mp ha with rfl | ha
    · exact ⟨_, List.Mem.head _, k⟩
    · obtain ⟨b, hb, hp⟩ := ih a ha
      exact ⟨b, List.Mem.tail _ hb, hp⟩
theorem pk_start1 {α : Type} {P : Rp α} {Rs X R H : Hp} {L : List Cell} {a : Addr} {vs : List V} {xs : List (List α)} {u : Unit} (O : Own R H L) (e : Ex Rs R) (hX : ∀ p ws, X p = some (.lst ws) → Rs p = none) (eX : Ex X R) (h1 : X a = some (.lst vs)) (h2 : All2 (rL P X) vs xs) (nl : NoL P) (hb : pokeG xs = some u) : PkJ Rs L a vs xs.length H := by
  obtain ⟨hb, _⟩ := grdE hb
  have hle : ∀ v ∈ vs, ∃ p ws, v = .ref p ∧ p ≠ a ∧ Rs p = none ∧ R p = some (.lst ws) ∧ ws.length + xs.length ≤ 16777216 := fun v hv => by
    obtain ⟨r, hr, p, ws, rfl, k1, k2⟩ := h2.memL v hv
    refine ⟨p, ws, rfl, fun z => ?_, hX _ _ k1, eX _ _ k1, by rw [k2.len]; exact hb r hr⟩
    subst z
    rw [h1] at k1
    cases k1
    obtain ⟨y, _, hy⟩ := k2.memL _ hv
    exact nl _ _ _ hy _ _ rfl h1
  by_cases hx : xs.length ≤ 16777216
  · refine ⟨16777216 - xs.length, R, by omega, O, e, eX _ _ h1, fun v hv => ?_⟩
    obtain ⟨p, ws, a1, a2, a3, a4, a5⟩ := hle v hv
    exact ⟨p, ws, a1, a2, a3, a4, by omega⟩
  · exfalso
    cases xs with
    | nil => simp at hx
    | cons r q =>
      have := hb r (List.Mem.head _)
      omega
theorem pk_start {α : Type} {P : Rp α} {Rs Hc R H : Hp} {L : List Cell} {a : Addr} {vs : List V} {xs : List (List α)} {u : Unit} (O : Own R H L) (e : Ex Rs R) (hc : Ex Rs Hc) (h1 : ovr (fun _ => none) Hc R a = some (.lst vs)) (h2 : All2 (rL P (ovr (fun _ => none) Hc R)) vs xs) (nl : NoL P) (hb : pokeG xs = some u) : PkJ Rs L a vs xs.length H :=
  pk_start1 O e (fun p ws h => by
    obtain ⟨c, _⟩ := ovr_some h
    rcases c with c | c
    · exact absurd rfl c
    · exact hc.back c) ovr_ex h1 h2 nl hb
theorem pk_as {Rs Fr Hc R : Hp} (eF : Ex Fr R) (hF : ∀ p o, Fr p = some o → Rs p = none ∨ ∃ t, o = .tup t) (hc : Ex Rs Hc) : ∀ p ws, ovr Fr Hc R p = some (.lst ws) → Rs p = none := fun p ws h => by
  obtain ⟨c, k⟩ := ovr_some h
  rcases c with c | c
  · cases e : Fr p with
    | none => exact absurd e c
    | some o =>
      rcases hF p o e with q | ⟨t, rfl⟩
      · exact q
      · rw [eF _ _ e] at k
        cases k
  · exact hc.back c
/-! the frame that a call needs to know: some cells, and all tuples -/
def lonR (as : List Addr) (F : Hp) : Hp := fun x => if x ∈ as then F x else match F x with
  | some (.tup t) => some (.tup t)
  | _ => none
theorem lonR_ex {as : List Addr} {F : Hp} : Ex (lonR as F) F := fun x o h => by
  unfold lonR at h
  split at h
  · exact h
  · split at h
    · rename_i t e
      rw [e, ← h]
    · cases h
theorem lonR_tup {as : List Addr} {F : Hp} {x : Addr} {t : List V} (h : F x = some (.tup t)) : lonR as F x = some (.tup t) := by
  unfold lonR
  split
  · exact h
  · rw [h]
theorem lonR_or {as : List Addr} {F Hs : Hp} (h : ∀ p, p ∈ as → Hs p = none) : ∀ p o, lonR as F p = some o → Hs p = none ∨ ∃ t, o = .tup t := fun p o e => by
  unfold lonR at e
  split at e
  · exact .inl (h p (by assumption))
  · split at e
    · exact .inr ⟨_, (Option.some.inj e).symm⟩
    · cases e
def TpO {α : Type} (P : Rp α) : Prop := ∀ as F v x, P F v x → P (lonR as F) v x
theorem tpI : TpO rI := fun _ _ _ _ h => h
theorem tpB : TpO rB := fun _ _ _ _ h => h
theorem tpS : TpO rS := fun _ _ _ _ h => h
theorem tpT2 {α β : Type} {P : Rp α} {P' : Rp β} (m : TpO P) (n : TpO P') : TpO (rT2 P P') := fun as F v x h => by
  obtain ⟨p, a, b, rfl, h1, h2, h3⟩ := h
  exact ⟨p, a, b, rfl, lonR_tup h1, m _ _ _ _ h2, n _ _ _ _ h3⟩
theorem tpT3 {α β γ : Type} {P : Rp α} {P' : Rp β} {P3 : Rp γ} (m : TpO P) (n : TpO P') (o : TpO P3) : TpO (rT3 P P' P3) := fun as F v x h => by
  obtain ⟨p, a, b, c, rfl, h1, h2, h3, h4⟩ := h
  exact ⟨p, a, b, c, rfl, lonR_tup h1, m _ _ _ _ h2, n _ _ _ _ h3, o _ _ _ _ h4⟩
theorem lonL {α : Type} {P : Rp α} {as : List Addr} {F : Hp} {a : Addr} {xs : List α} (h : rL P F (.ref a) xs) (hm : a ∈ as) (tp : TpO P) : rL P (lonR as F) (.ref a) xs := by
  obtain ⟨p, vs, e, h1, h2⟩ := h
  cases e
  refine ⟨_, vs, rfl, ?_, h2.mp fun v x h => tp _ _ _ _ h⟩
  unfold lonR
  rw [if_pos hm]
  exact h1
theorem ovr_lo {as : List Addr} {R0 Hb Hc H0 R Fr : Hp} (hF : Fr = lonR as (ovr R0 Hb H0)) (e : Ex Hb Hc) : Ex (ovr Fr Hc R) (ovr R0 Hb R) := fun a o h => by
  obtain ⟨q, h1⟩ := ovr_some h
  refine ovr_mk ?_ h1
  rcases q with q | q
  · cases z : Fr a with
    | none => exact absurd z q
    | some u =>
      rw [hF] at z
      exact (ovr_some (lonR_ex _ _ z)).1
  · exact .inr (e.back q)
theorem Own.retX1 {A R H Hc : Hp} {B C : List Cell} {D : DT} {Q : VK} (O : Own R H (B ++ C)) (m : MonoD D) (hc : Hc = hsub H B) (hA : Ex A R) (k : ∀ v H' R' L', Own R' H' (L' ++ C) → Ex R R' → D (ovr A Hc R') v L' → Q v H') : RetX A (hsub H B) D Q := fun v H' R' L' e O' d => by
  obtain ⟨R'', O'', e1, e2⟩ := O.back e O'
  subst hc
  refine k v H' R'' L' O'' e1 (m _ _ _ _ (fun a u h => ?_) d)
  obtain ⟨q, _⟩ := ovr_some h
  exact ovr_mk q (e2 _ hA _ _ h)
theorem k_pokeP {Rs R H : Hp} {L E : List Cell} {a q : Addr} {v : V} {vs : List V} {B n : Nat} {Q : VK} (O : Own R H (E ++ L)) (hP : PkR Rs a vs B R) (hm : V.ref q ∈ vs) (hB : B + (n + 1) ≤ 16777216) (k : ∀ H', PkJ Rs L a vs n H' → Q .non H') : rAppend (.ref q) [v] H Q := by
  obtain ⟨e, h1, h2⟩ := hP
  obtain ⟨p, ws, a1, a2, a3, b1, a4⟩ := h2 _ hm
  cases a1
  refine ⟨q, ws, v, rfl, rfl, O.ex _ _ b1, by show _ < 16777216; omega, k _ ⟨B + 1, upd R q (.lst (ws ++ [v])), by omega, ?_, ?_, ?_, ?_⟩⟩
  · have O := O.right
    have hne : ∀ c ∈ L, c.1 ≠ q := fun c hc z => by
      have := O.fr c hc
      rw [z, b1] at this
      cases this
    refine ⟨fun x u h => ?_, fun c hc => ?_, fun c hc => ?_, O.nd⟩
    · by_cases z : x = q
      · subst z
        rw [upd_same] at h ⊢
        exact h
      · rw [upd_ne z] at h ⊢
        exact O.ex _ _ h
    · rw [upd_ne (hne c hc)]
      exact O.at_ c hc
    · rw [upd_ne (hne c hc)]
      exact O.fr c hc
  · intro x u h
    rw [upd_ne (ne_of_none h a3)]
    exact e _ _ h
  · rw [upd_ne (Ne.symm a2)]
    exact h1
  · intro w hw
    obtain ⟨p, us, c1, c2, c3, c4, c5⟩ := h2 w hw
    by_cases z : p = q
    · subst z
      rw [b1] at c4
      cases c4
      exact ⟨p, _, c1, c2, c3, upd_same, by simp; omega⟩
    · exact ⟨p, us, c1, c2, c3, by rw [upd_ne z]; exact c4, by omega⟩
theorem q_forP {α : Type} {K : PySem.W.Frag} {Rs H : Hp} {L : List Cell} {a : Addr} {vs : List V} {xs : List α} {j : Nat} {ts : TS} {n : St → Hp → Prop} {w : VK} {σ : St} (σ1 : Option V → St) (hl : vs.length = xs.length) (hP : PkJ Rs L a vs xs.length H) (h0 : ∃ u, σ = σ1 u) (hj : ∀ u v, (σ1 u).set j (some v) = σ1 (some v))
    (hs : ∀ q m B R H, Own R H L → PkR Rs a vs B R → V.ref q ∈ vs → B + (m + 1) ≤ 16777216 → (∃ ws, H q = some (.lst ws)) → ts (Ends.mk (fun σ H => (∃ u, σ = σ1 u) ∧ PkJ Rs L a vs m H) w n (fun σ H => (∃ u, σ = σ1 u) ∧ PkJ Rs L a vs m H)) (σ1 (some (.ref q))) H)
    (hd : ∀ u H, Own Rs H L → n (σ1 u) H) :
    ∃ W : Nat → Nat → St → Hp → Prop, (∃ m, W 0 m σ H) ∧ ∀ i m σ H, W i m σ H →
      ((Itl K a).stop i H ∧ n σ H) ∨ ((Itl K a).go i H ∧ ∃ N : St → Hp → Prop, (∀ σ' H', N σ' H' → ∃ m', m' < m ∧ W (i + 1) m' σ' H') ∧ ∀ x H', (Itl K a).yld i H x H' → gName j x σ H' fun σ2 H2 => ts (Ends.mk N w n N) σ2 H2) := by
  refine q_forA (P := fun v (_ : α) => v ∈ vs) (b := fun _ _ => False) (k := fun _ _ => False) (xs := xs) (All2.of_get hl fun i x y e _ => List.mem_of_getElem? e) (fun r σ H => (∃ u, σ = σ1 u) ∧ PkJ Rs L a vs r.length H) ⟨h0, hP⟩ (fun r σ H h => ?_) (fun x v r σ H hv h => ?_) (fun σ H h => ?_)
  · obtain ⟨_, B, R, _, O, _, h1, _⟩ := h
    exact SqL.of (O.ex _ _ h1)
  · obtain ⟨⟨u, rfl⟩, B, R, h1, O, h2⟩ := h
    obtain ⟨p, ws, rfl, _, _, h3, _⟩ := h2.2.2 v hv
    rw [hj]
    exact hs p r.length B R H O h2 hv h1 ⟨ws, O.ex _ _ h3⟩
  · obtain ⟨⟨u, rfl⟩, B, R, h1, O, h2⟩ := h
    exact hd u H (O.shrink h2.1)
theorem pk_none {Rs Hc R : Hp} {a : Addr} {o : HO} (hc : Ex Rs Hc) (h1 : ovr (fun _ => none) Hc R a = some o) : Rs a = none := by
  obtain ⟨c, _⟩ := ovr_some h1
  rcases c with c | c
  · exact absurd rfl c
  · exact hc.back c
def pokeO {α : Type} (xs : List α) : Option Unit := grd (xs.length < 16777216) ()
theorem k_pokeO {α : Type} {P : Rp α} {F Rs R H : Hp} {L E : List Cell} {a : Addr} {v : V} {vs : List V} {xs : List α} {B : Nat} {u : Unit} {Q : VK} (O : Own R H (E ++ L)) (hP : PkR Rs a vs B R) (hz : Rs a = none) (h2 : All2 (P F) vs xs) (hb : pokeO xs = some u) (k : ∀ H', Own Rs H' L → Q .non H') : rAppend (.ref a) [v] H Q := by
  obtain ⟨hb, _⟩ := grdE hb
  obtain ⟨e, h1, _⟩ := hP
  refine ⟨a, vs, v, rfl, rfl, O.ex _ _ h1, by show _ < 16777216; rw [h2.len]; exact hb, k _ ?_⟩
  have O := O.right
  have hne : ∀ c ∈ L, c.1 ≠ a := fun c hc z => by
    have := O.fr c hc
    rw [z, h1] at this
    cases this
  refine ⟨fun x u h => ?_, fun c hc => ?_, fun c hc => ?_, O.nd⟩
  · by_cases z : x = a
    · subst z
      rw [hz] at h
      cases h
    · rw [upd_ne z]
      exact O.ex _ _ (e _ _ h)
  · rw [upd_ne (hne c hc)]
    exact O.at_ c hc
  · cases q : Rs c.1 with
    | none => rfl
    | some o =>
      have := e _ _ q
      rw [O.fr c hc] at this
      cases this
theorem q_forP2 {α : Type} {K : PySem.W.Frag} {Rs H : Hp} {L : List Cell} {a : Addr} {vs : List V} {xs : List α} {j : Nat} {ts : TS} {n : St → Hp → Prop} {w : VK} {σ : St} (σ1 : Option V → St) (hl : vs.length = xs.length) (hP : PkJ Rs L a vs xs.length H) (h0 : ∃ u, σ = σ1 u) (hj : ∀ u v, (σ1 u).set j (some v) = σ1 (some v))
    (hs : ∀ q m B R H, Own R H L → PkR Rs a vs B R → V.ref q ∈ vs → B + (m + 1) ≤ 16777216 → (∃ ws, H q = some (.lst ws)) → ts (Ends.mk (fun σ H => (∃ u, σ = σ1 u) ∧ PkJ Rs L a vs m H) w n (fun σ H => (∃ u, σ = σ1 u) ∧ PkJ Rs L a vs m H)) (σ1 (some (.ref q))) H)
    (hd : ∀ u H B R, Own R H L → PkR Rs a vs B R → n (σ1 u) H) :
    ∃ W : Nat → Nat → St → Hp → Prop, (∃ m, W 0 m σ H) ∧ ∀ i m σ H, W i m σ H →
      ((Itl K a).stop i H ∧ n σ H) ∨ ((Itl K a).go i H ∧ ∃ N : St → Hp → Prop, (∀ σ' H', N σ' H' → ∃ m', m' < m ∧ W (i + 1) m' σ' H') ∧ ∀ x H', (Itl K a).yld i H x H' → gName j x σ H' fun σ2 H2 => ts (Ends.mk N w n N) σ2 H2) := by
  refine q_forA (P := fun v (_ : α) => v ∈ vs) (b := fun _ _ => False) (k := fun _ _ => False) (xs := xs) (All2.of_get hl fun i x y e _ => List.mem_of_getElem? e) (fun r σ H => (∃ u, σ = σ1 u) ∧ PkJ Rs L a vs r.length H) ⟨h0, hP⟩ (fun r σ H h => ?_) (fun x v r σ H hv h => ?_) (fun σ H h => ?_)
  · obtain ⟨_, B, R, _, O, _, h1, _⟩ := h
    exact SqL.of (O.ex _ _ h1)
  · obtain ⟨⟨u, rfl⟩, B, R, h1, O, h2⟩ := h
    obtain ⟨p, ws, rfl, _, _, h3, _⟩ := h2.2.2 v hv
    rw [hj]
    exact hs p r.length B R H O h2 hv h1 ⟨ws, O.ex _ _ h3⟩
  · obtain ⟨⟨u, rfl⟩, B, R, h1, O, h2⟩ := h
    exact hd u H B R O h2
end Bt

set_option linter.all false
set_option maxRecDepth 100000
set_option maxHeartbeats 1000000
/-! Texts. -/
namespace Bt
open PySem L2
def sg (c : Nat) : Str := ⟨#[c]⟩
/-- the signs of a text -/
def sgs (z : Str) : List Str := z.cps.toList.map sg
def ixS (z : Str) (i : Int) : Option Str := bnd (grd (z.length ≤ 16777216) (sgs z)) fun l => atI l i
def slS (z : Str) (lo hi : Option Int) : Option Str := grd (z.length ≤ 16777216) (cutS z lo hi)
def addS (x y : Str) : Option Str := grd (x.length + y.length ≤ 16777216) (x ++ y)
def lenS (z : Str) : Option Int := grd (z.length ≤ 16777216) (z.length : Int)
def joinS (a : Str) (ys : List Str) : Option Str := grd ((ys.map (·.length)).sum + ys.length * a.length ≤ 16777216) (Txt.join a ys)
section
variable {K : PySem.W.Frag} {σ : St} {H R : Hp} {L : List Cell} {Q : VK} {i : Int} {x y z : Str} {lo hi : Option Int} {p : Addr} {ys : List Str} {n : Int}
theorem atI_map {α β : Type} {f : α → β} {xs : List α} {i : Int} {v : β} (h : atI (xs.map f) i = some v) : ∃ u, atI xs i = some u ∧ v = f u := by
  unfold atI at h ⊢
  rw [List.length_map] at h
  cases e : ixN xs.length i with
  | none => rw [e] at h; cases h
  | some j =>
    rw [e] at h
    have h : (xs.map f)[j]? = some v := h
    rw [List.getElem?_map] at h
    cases e2 : xs[j]? with
    | none => rw [e2] at h; cases h
    | some u =>
      rw [e2] at h
      exact ⟨u, e2, (Option.some.inj h).symm⟩
theorem k_ixS (h : ixS z i = some y) (k : Q (.str y) H) : rIxS (.str z) (.int i) H Q := by
  obtain ⟨l, h1, h2⟩ := bndE h
  obtain ⟨c, rfl⟩ := grdE h1
  obtain ⟨u, e1, rfl⟩ := atI_map h2
  exact ⟨z, i, u, rfl, rfl, c, e1, k⟩
theorem k_slS (h : slS z lo hi = some y) (k : Q (.str y) H) : rSlS (.str z) lo hi H Q := by
  obtain ⟨c, rfl⟩ := grdE h
  exact ⟨z, rfl, c, k⟩
def rAddZ : R2 := fun x y H Q => ∃ i j, x = .str i ∧ y = .str j ∧ i.length + j.length ≤ sizeLine ∧ Q (.str (i ++ j)) H
theorem op_addZ {X : Cx} : OpR X (binaryOp .Add) rAddZ := op_add_str
theorem k_addS (h : addS x y = some z) (k : Q (.str z) H) : rAddZ (.str x) (.str y) H Q := by
  obtain ⟨c, rfl⟩ := grdE h
  exact ⟨x, y, rfl, rfl, c, k⟩
def rLenZ : List V → Hp → VK → Prop := fun xs H Q => ∃ z : Str, xs = [.str z] ∧ z.length ≤ sizeLine ∧ Q (.int (z.length : Int)) H
theorem call_lenZ {X : Cx} : CallR X (.builtin "len") rLenZ := call_len_str
theorem n_lenZ (h : lenS z = some n) (k : Q (.int n) H) : rLenZ [.str z] H Q := by
  obtain ⟨c, rfl⟩ := grdE h
  exact ⟨z, rfl, c, k⟩
theorem o_m1 {to te : TE} {r : V → List V → Hp → VK → Prop} (h : to σ H fun x H1 => (∃ a, x = .str a) ∧ te σ H1 fun y H2 => r x [y] H2 Q) : tM1 r to te σ H Q := h
def rJoin (K : PySem.W.Frag) : V → List V → Hp → VK → Prop := fun x xs H Q => ∃ a p, ∃ ys : List Str, x = .str a ∧ xs = [.ref p] ∧ (SqL K H p (ys.map V.str) ∨ SqT K H p (ys.map V.str)) ∧ (ys.map (·.length)).sum + ys.length * a.length ≤ 16777216 ∧ Q (.str (Txt.join a ys)) H
theorem mt_joinZ {X : Cx} : MtR X "str.join" (rJoin X.K) := mt_join
theorem k_join (hs : SqL K H p (ys.map V.str)) (h : joinS x ys = some z) (k : Q (.str z) H) : rJoin K (.str x) [.ref p] H Q := by
  obtain ⟨c, rfl⟩ := grdE h
  exact ⟨x, p, ys, rfl, rfl, .inl hs, c, k⟩
theorem o_is {te : TE} {Rr : It → Hp → Prop} (h : te σ H fun v H1 => ∃ x, v = .str x ∧ Rr (Its x) H1) : iStr te σ H Rr := h
theorem q_forS {j : Nat} {z : Str} {ts : TS} {n b k : St → Hp → Prop} {w : VK} (J : List Str → St → Hp → Prop) (h0 : J (sgs z) σ H)
    (hs : ∀ x r σ H, J (x :: r) σ H → ts (Ends.mk (J r) w n (J r)) (σ.set j (some (.str x))) H) (hd : ∀ σ H, J [] σ H → n σ H) :
    ∃ W : Nat → Nat → St → Hp → Prop, (∃ m, W 0 m σ H) ∧ ∀ i m σ H, W i m σ H →
      ((Its z).stop i H ∧ n σ H) ∨ ((Its z).go i H ∧ ∃ N : St → Hp → Prop, (∀ σ' H', N σ' H' → ∃ m', m' < m ∧ W (i + 1) m' σ' H') ∧ ∀ x H', (Its z).yld i H x H' → gName j x σ H' fun σ2 H2 => ts (Ends.mk N w n N) σ2 H2) := by
  have hz : (sgs z).length = z.cps.size := by unfold sgs; simp
  refine ⟨fun i m σ H => m = z.cps.size - i ∧ i ≤ z.cps.size ∧ J ((sgs z).drop i) σ H, ⟨z.cps.size, by simp, Nat.zero_le _, h0⟩, ?_⟩
  rintro i m σ H ⟨rfl, hi, hJ⟩
  by_cases hlt : i < z.cps.size
  · have e : z.cps[i]? = some z.cps[i] := Array.getElem?_eq_getElem hlt
    have e2 : (sgs z).drop i = sg z.cps[i] :: (sgs z).drop (i + 1) := by
      rw [List.drop_eq_getElem_cons (by omega)]
      congr 1
      unfold sgs
      simp
    rw [e2] at hJ
    refine .inr ⟨hlt, J ((sgs z).drop (i + 1)), fun σ' H' hJ' => ⟨_, by omega, rfl, hlt, hJ'⟩, fun v H' hv => ?_⟩
    obtain ⟨rfl, c, hc, rfl⟩ := hv
    rw [e] at hc
    cases hc
    exact hs _ _ σ H' hJ
  · have : i = z.cps.size := by omega
    subst this
    rw [List.drop_of_length_le (by omega)] at hJ
    exact .inl ⟨Nat.le_refl _, hd σ H hJ⟩
def inS (x y : Str) : Bool := !(Builtin.Str.occurrences y x 0 y.length 1).isEmpty
def rInZ : R2 := fun x y H Q => ∃ i j, x = .str i ∧ y = .str j ∧ Q (.bl (inS i j)) H
theorem op_inZ {X : Cx} : OpR X (compareOp .In) rInZ := op_in_str
def rNiZ : R2 := fun x y H Q => ∃ i j, x = .str i ∧ y = .str j ∧ Q (.bl (!inS i j)) H
theorem op_niZ {X : Cx} : OpR X (compareOp .NotIn) rNiZ := op_notin_str
def strI (i : Int) : Option Str := grd (i.natAbs.log2 < 1920) (Str.ofString (toString i))
def rStrZ : List V → Hp → VK → Prop := fun xs H Q => ∃ i : Int, xs = [.int i] ∧ i.natAbs.log2 < 1920 ∧ Q (.str (Str.ofString (toString i))) H
theorem call_strZ {X : Cx} : CallR X (.type "str") rStrZ := call_str_int
theorem n_strZ (h : strI i = some z) (k : Q (.str z) H) : rStrZ [.int i] H Q := by
  obtain ⟨c, rfl⟩ := grdE h
  exact ⟨i, rfl, c, k⟩
def intS (z : Str) : Option Int := bnd (grd (z.length ≤ 640) ()) fun _ => intText? z
def rIntZ : List V → Hp → VK → Prop := fun xs H Q => ∃ (a : Str) (n : Int), xs = [.str a] ∧ PySem.intText? a = some n ∧ a.length ≤ 640 ∧ Q (.int n) H
theorem call_intZ {X : Cx} : CallR X (.type "int") rIntZ := call_int_str
theorem n_intZ (h : intS z = some n) (k : Q (.int n) H) : rIntZ [.str z] H Q := by
  obtain ⟨u, h1, h2⟩ := bndE h
  obtain ⟨c, _⟩ := grdE h1
  exact ⟨z, n, rfl, h2, c, k⟩
def zfS (z : Str) (i : Int) : Option Str := grd (PySem.PadOk i = true) (Txt.zfill z i)
def rZf : V → List V → Hp → VK → Prop := fun x xs H Q => ∃ (a : Str) (i : Int), x = .str a ∧ xs = [.int i] ∧ PySem.PadOk i = true ∧ Q (.str (Txt.zfill a i)) H
theorem mt_zfZ {X : Cx} : MtR X "str.zfill" rZf := mt_zfill
theorem k_zf (h : zfS x i = some z) (k : Q (.str z) H) : rZf (.str x) [.int i] H Q := by
  obtain ⟨c, rfl⟩ := grdE h
  exact ⟨x, i, rfl, rfl, c, k⟩
/-! range with a step -/
def rng3 (i j c : Int) : Option (List Int) := grd (0 < c ∧ c < 1000000 ∧ -(2 ^ 60) ≤ i ∧ i < 2 ^ 60 ∧ -(2 ^ 60) ≤ j ∧ j < 2 ^ 60) ((List.range (Builtin.Range.rangeSize i j c).toNat).map fun (k : Nat) => i + (k : Int) * c)
theorem rng3E {i j c : Int} {xs : List Int} (h : rng3 i j c = some xs) : RgC i j c (Builtin.Range.rangeSize i j c).toNat ∧ ((List.range (Builtin.Range.rangeSize i j c).toNat).map fun (k : Nat) => i + (k : Int) * c) = xs := by
  obtain ⟨⟨c0, c1, i0, i1, j0, j1⟩, rfl⟩ := grdE h
  have hs : 0 ≤ Builtin.Range.rangeSize i j c ∧ Builtin.Range.rangeSize i j c ≤ 2 ^ 62 := by
    unfold Builtin.Range.rangeSize
    rw [if_pos c0]
    split
    · rename_i hlt
      have h1 := Int.ediv_nonneg (show 0 ≤ j - i - 1 by omega) (show 0 ≤ c by omega)
      have h2 := Int.ediv_le_self c (show 0 ≤ j - i - 1 by omega)
      omega
    · omega
  refine ⟨⟨by omega, by omega, ?_, by omega⟩, rfl⟩
  unfold Builtin.Range.small
  generalize Builtin.Range.rangeSize i j c = z at hs
  simp only [Builtin.Range.rangeFitsLong, Bool.and_eq_true, Bool.or_eq_true, decide_eq_true_eq, beq_iff_eq, if_pos (show c > 0 from c0)]
  omega
theorem o_ir3 {tr : TA} {Rr : It → Hp → Prop} (h : tr σ H fun vs H1 => ∃ (i j c : Int) (n : Nat), vs = [.int i, .int j, .int c] ∧ RgC i j c n ∧ Rr (Itc i c n) H1) : iRng3 tr σ H Rr := h
theorem q_forC {j : Nat} {lo c : Int} {n : Nat} {ts : TS} {nx : St → Hp → Prop} {w : VK} (J : List Int → St → Hp → Prop) (h0 : J ((List.range n).map fun (i : Nat) => lo + (i : Int) * c) σ H)
    (hs : ∀ x r σ H, J (x :: r) σ H → ts (Ends.mk (J r) w nx (J r)) (σ.set j (some (.int x))) H) (hd : ∀ σ H, J [] σ H → nx σ H) :
    ∃ W : Nat → Nat → St → Hp → Prop, (∃ m, W 0 m σ H) ∧ ∀ i m σ H, W i m σ H →
      ((Itc lo c n).stop i H ∧ nx σ H) ∨ ((Itc lo c n).go i H ∧ ∃ N : St → Hp → Prop, (∀ σ' H', N σ' H' → ∃ m', m' < m ∧ W (i + 1) m' σ' H') ∧ ∀ x H', (Itc lo c n).yld i H x H' → gName j x σ H' fun σ2 H2 => ts (Ends.mk N w nx N) σ2 H2) := by
  have hz : ((List.range n).map fun (i : Nat) => lo + (i : Int) * c).length = n := by simp
  generalize hL : ((List.range n).map fun (i : Nat) => lo + (i : Int) * c) = L at h0 hz
  refine ⟨fun i m σ H => m = n - i ∧ i ≤ n ∧ J (L.drop i) σ H, ⟨n, by simp, Nat.zero_le _, h0⟩, ?_⟩
  rintro i m σ H ⟨rfl, hi, hJ⟩
  by_cases hlt : i < n
  · have e2 : L.drop i = (lo + (i : Int) * c) :: L.drop (i + 1) := by
      rw [List.drop_eq_getElem_cons (by omega)]
      congr 1
      subst hL
      simp
    rw [e2] at hJ
    refine .inr ⟨hlt, J (L.drop (i + 1)), fun σ' H' hJ' => ⟨_, by omega, rfl, hlt, hJ'⟩, fun v H' hv => ?_⟩
    obtain ⟨rfl, rfl⟩ := hv
    exact hs _ _ σ H' hJ
  · have : i = n := by omega
    subst this
    rw [List.drop_of_length_le (by omega)] at hJ
    exact .inl ⟨Nat.le_refl _, hd σ H hJ⟩
theorem k_inZ (q : Q (.bl (inS x y)) H) : rInZ (.str x) (.str y) H Q := ⟨x, y, rfl, rfl, q⟩
theorem k_niZ (q : Q (.bl (!inS x y)) H) : rNiZ (.str x) (.str y) H Q := ⟨x, y, rfl, rfl, q⟩
theorem gv_str {K : PySem.W.Frag} {h : Heap} {mg : Str → Option Value} {x s : Str} {t : Tok} (X : K.In h) (G : h.Ns mainGlobals mg) (a : PySem.W.nsIn K mainGlobals x = some (some (.str s t))) : Gv mg x (.str s) := ⟨_, PySem.W.mg_of X G a, _, rfl⟩
/-! text.index(sign), found -/
def idxS (x y : Str) : Option Int := match Builtin.Str.occurrences x y 0 x.length 1 with
  | i :: _ => some ((i : Nat) : Int)
  | [] => none
def rIndexZ : V → List V → Hp → VK → Prop := fun x xs H Q => ∃ a b i rest, x = .str a ∧ xs = [.str b] ∧ Builtin.Str.occurrences a b 0 a.length 1 = i :: rest ∧ Q (.int (i : Nat)) H
theorem mt_indexZ {X : Cx} : MtR X "str.index" rIndexZ := mt_sindex
theorem k_indexZ (h : idxS x y = some n) (k : Q (.int n) H) : rIndexZ (.str x) [.str y] H Q := by
  unfold idxS at h
  split at h
  · rename_i i r e
    cases h
    exact ⟨x, y, i, r, rfl, rfl, e, k⟩
  · cases h
/-! text * number -/
def repZ (x : Str) (n : Int) : Str := if n < 1 then Str.empty else if (n == 1 || x.length == 0) = true then x else ⟨(List.replicate n.toNat x.cps).foldl (· ++ ·) #[]⟩
def mulZ (x : Str) (n : Int) : Option Str := grd (0 ≤ n ∧ n ≤ 1000000 ∧ x.length * n.toNat ≤ 16777216 ∧ (repZ x n).length ≤ 16777216) (repZ x n)
def rMulZ : R2 := fun x y H Q => ∃ a n, x = .str a ∧ y = .int n ∧ 0 ≤ n ∧ n ≤ 1000000 ∧ a.length * n.toNat ≤ 16777216 ∧ (repZ a n).length ≤ 16777216 ∧ Q (.str (repZ a n)) H
theorem op_mulZ {X : Cx} : OpR X (binaryOp .Mult) rMulZ := by
  intro pins s σ H x y v u Q I rx ry h
  obtain ⟨a, n, rfl, rfl, h0, h1, h2, h3, q⟩ := h
  obtain ⟨t, rfl⟩ := rx
  obtain ⟨t', rfl⟩ := ry
  refine PySem.P.mul_str ?_ ?_ ?_ ?_
  · rw [decide_eq_false (by omega), decide_eq_false (by omega)]
    rfl
  · intro g1 g2 g3
    have e : (2 ^ 63 - 1 : Int) / n * n ≤ 2 ^ 63 - 1 := Int.ediv_mul_le _ (by omega)
    have e2 : ((a.length * n.toNat : Nat) : Int) = (a.length : Int) * n := by
      rw [Int.natCast_mul, Int.toNat_of_nonneg h0]
    have e3 : ((2 ^ 63 - 1 : Int) / n + 1) * n ≤ (a.length : Int) * n := Int.mul_le_mul_of_nonneg_right (by omega) h0
    have e4 : (2 ^ 63 - 1 : Int) < ((2 ^ 63 - 1 : Int) / n + 1) * n := by
      have := Int.lt_ediv_add_one_mul_self (2 ^ 63 - 1) (show 0 < n by omega)
      exact this
    omega
  · intro _ _
    unfold Builtin.Str.tooLong
    rw [sizeLine_eq]
    exact decide_eq_false (by omega)
  · unfold repZ at h3 q
    by_cases g1 : n < 1
    · rw [if_pos g1] at h3 q ⊢
      exact ⟨by decide, ⟨.str Str.empty, H, I.tok _, ⟨_, rfl⟩, q⟩⟩
    · rw [if_neg g1] at h3 q ⊢
      by_cases g2 : (n == 1 || a.length == 0) = true
      · rw [if_pos g2] at h3 q ⊢
        exact ⟨.str a, H, I, ⟨_, rfl⟩, q⟩
      · rw [if_neg g2] at h3 q ⊢
        exact ⟨h3, ⟨.str _, H, I.tok _, ⟨_, rfl⟩, q⟩⟩
theorem k_mulZ (h : mulZ x n = some z) (k : Q (.str z) H) : rMulZ (.str x) (.int n) H Q := by
  obtain ⟨⟨c1, c2, c3, c4⟩, rfl⟩ := grdE h
  exact ⟨x, n, rfl, rfl, c1, c2, c3, c4, k⟩
end
/-! xs.pop(i) -/
section
variable {α : Type} {f : α → V} {R H : Hp} {L : List Cell} {a : Addr} {xs ys : List α} {y : α} {i : Int} {Q : VK} {P : V → α → Prop} {vs : List V}
def popA (xs : List α) (i : Int) : Option (α × List α) := bnd (grd (xs.length ≤ 1000000000) ()) fun _ => bnd (ixN xs.length i) fun k => bnd xs[k]? fun y => some (y, xs.eraseIdx k)
def rPopI : V → List V → Hp → VK → Prop := fun x vs H Q => ∃ l xs i k y, x = .ref l ∧ vs = [.int i] ∧ H l = some (.lst xs) ∧ -(2 ^ 63) ≤ i ∧ i < 2 ^ 63 ∧ seqIndex? i xs.length = some k ∧ xs[k]? = some y ∧ Q y (upd H l (.lst (xs.eraseIdx k)))
theorem mt_popI {X : Cx} : MtM X "list.pop" rPopI := mt_popAt
theorem erase_map (f : α → V) : ∀ (xs : List α) (k : Nat), (xs.map f).eraseIdx k = (xs.eraseIdx k).map f
  | [], _ => rfl
  | _ :: _, 0 => rfl
  | x :: r, k + 1 => by
    show f x :: (r.map f).eraseIdx k = f x :: (r.eraseIdx k).map f
    rw [erase_map f r k]
theorem k_popI {g : HO → List Cell} (hl : H a = some (.lst (xs.map f))) (hp : ∀ o', Own R (upd H a o') (g o')) (h : popA xs i = some (y, ys)) (k : ∀ H', Own R H' (g (.lst (ys.map f))) → Q (f y) H') : rPopI (.ref a) [.int i] H Q := by
  obtain ⟨_, h1, h2⟩ := bndE h
  obtain ⟨c, _⟩ := grdE h1
  obtain ⟨j, h3, h4⟩ := bndE h2
  obtain ⟨z, h5, h6⟩ := bndE h4
  cases h6
  obtain ⟨s1, s2, s3, s4⟩ := ixN_seq h3
  refine ⟨a, _, i, j, f y, rfl, rfl, hl, by omega, by omega, by rw [List.length_map]; exact s1, by rw [List.getElem?_map, h5]; rfl, ?_⟩
  rw [erase_map]
  exact k _ (hp _)
end
end Bt

set_option linter.all false
set_option maxRecDepth 100000
set_option maxHeartbeats 1000000
/-! Lists that are handed to be changed, and lists of one's own lists. -/
namespace Bt
open PySem L2
section
variable {α : Type} {f : α → V} {F R R0 Hb H : Hp} {a : Addr} {L C : List Cell} {xs : List α}
/-- a list of plain things -/
def oRow (f : α → V) : Ob (List α) := fun _ a L xs => L = [(a, HO.lst (xs.map f))]
theorem moRow : MonoO (oRow f) := fun _ _ _ _ _ _ h => h
theorem oRow_mk : oRow f F a [(a, HO.lst (xs.map f))] xs := rfl
/-- a list of data that is to stay -/
def oRowD (P : Rp α) : Ob (List α) := fun F a L xs => ∃ vs, L = [(a, HO.lst vs)] ∧ All2 (P F) vs xs
theorem moRowD {P : Rp α} (m : Mono P) : MonoO (oRowD P) := fun _ _ _ _ _ e ⟨vs, h1, h2⟩ => ⟨vs, h1, mA m e h2⟩
theorem Own.frzAll : ∀ (L : List Cell) {R : Hp}, Own R H (L ++ C) → Ex Hb R → ∃ R', Own R' H C ∧ Ex R R' ∧ ∀ c ∈ L, ovr R0 Hb R' c.1 = some c.2
  | [], R, O, _ => ⟨R, O, Ex.refl _, fun _ h => nomatch h⟩
  | (p, o) :: r, R, O, e => by
    obtain ⟨R1, O1, e1, h1⟩ := Own.frzO (R0 := R0) O e
    obtain ⟨R2, O2, e2, h2⟩ := Own.frzAll r O1 (e.trans e1)
    refine ⟨R2, O2, e1.trans e2, fun c hc => ?_⟩
    rcases List.mem_cons.mp hc with rfl | hc
    · exact ovr_mono e2 _ _ h1
    · exact h2 c hc
theorem all_map {P : Rp α} (hP : ∀ F x, P F (f x) x) (G : Hp) : ∀ ys : List α, All2 (P G) (ys.map f) ys
  | [] => .nil
  | y :: r => .cons (hP G y) (all_map hP G r)
theorem rows_all {P : Rp α} (hP : ∀ F x, P F (f x) x) {G : Hp} {as : List Addr} {Ls : List (List Cell)} {xss : List (List α)} (h : All3 (oRow f F) as Ls xss) (hg : ∀ c ∈ Ls.flatten, G c.1 = some c.2) : All2 (rL P G) (as.map V.ref) xss := by
  induction h with
  | nil => exact .nil
  | @cons b L1 ys as Ls xss h t ih =>
    refine .cons ⟨b, ys.map f, rfl, ?_, ?_⟩ (ih fun c hc => hg c (by rw [List.flatten_cons]; exact List.mem_append_right _ hc))
    · have := hg (b, .lst (ys.map f)) (by rw [List.flatten_cons, show L1 = _ from h]; exact List.Mem.head _)
      exact this
    · exact all_map hP G ys
/-- laid in the frame -/
theorem Own.frzRows {P : Rp α} {xss : List (List α)} (hP : ∀ F x, P F (f x) x) (O : Own R H (L ++ C)) (h : oLs (oRow f) F a L xss) (e : Ex Hb R) : ∃ R', Own R' H C ∧ Ex R R' ∧ rL (rL P) (ovr R0 Hb R') (.ref a) xss := by
  obtain ⟨as, Ls, hp, h3⟩ := h
  obtain ⟨R', O', e1, h1⟩ := Own.frzAll (R0 := R0) L O e
  have hm : ∀ c ∈ (a, HO.lst (as.map V.ref)) :: Ls.flatten, ovr R0 Hb R' c.1 = some c.2 := fun c hc => h1 c (hp.mem_iff.mpr hc)
  exact ⟨R', O', e1, a, as.map V.ref, rfl, hm _ (List.Mem.head _), rows_all hP h3 fun c hc => hm c (List.Mem.tail _ hc)⟩
end
end Bt

set_option Elab.async false
set_option linter.all false
set_option maxRecDepth 100000
set_option maxHeartbeats 4000000
/-! More built-ins of lists. -/
namespace Bt
open PySem L2 PySem.Spec PyProof.Rows
def minG : List Int → Option Int
  | [] => none
  | n :: ns => some (ns.foldl min n)
def maxG : List Int → Option Int
  | [] => none
  | n :: ns => some (ns.foldl max n)
theorem foldl_min (ns : List Int) : ∀ n : Int, (ns.foldl min n = n ∨ ns.foldl min n ∈ ns) ∧ ns.foldl min n ≤ n ∧ ∀ y ∈ ns, ns.foldl min n ≤ y := by
  induction ns with
  | nil => intro n; exact ⟨.inl rfl, Int.le_refl _, fun _ h => nomatch h⟩
  | cons m r ih =>
    intro n
    obtain ⟨h1, h2, h3⟩ := ih (min n m)
    refine ⟨?_, ?_, fun y hy => ?_⟩
    · rcases h1 with h1 | h1
      · by_cases h : n ≤ m
        · left; show r.foldl min (min n m) = n; rw [h1]; omega
        · right; show r.foldl min (min n m) ∈ m :: r; rw [h1, show min n m = m by omega]; exact List.Mem.head _
      · exact .inr (List.Mem.tail _ h1)
    · show r.foldl min (min n m) ≤ n; omega
    · rcases List.mem_cons.mp hy with rfl | hy
      · show r.foldl min (min n y) ≤ y; omega
      · exact h3 y hy
theorem foldl_max (ns : List Int) : ∀ n : Int, (ns.foldl max n = n ∨ ns.foldl max n ∈ ns) ∧ n ≤ ns.foldl max n ∧ ∀ y ∈ ns, y ≤ ns.foldl max n := by
  induction ns with
  | nil => intro n; exact ⟨.inl rfl, Int.le_refl _, fun _ h => nomatch h⟩
  | cons m r ih =>
    intro n
    obtain ⟨h1, h2, h3⟩ := ih (max n m)
    refine ⟨?_, ?_, fun y hy => ?_⟩
    · rcases h1 with h1 | h1
      · by_cases h : m ≤ n
        · left; show r.foldl max (max n m) = n; rw [h1]; omega
        · right; show r.foldl max (max n m) ∈ m :: r; rw [h1, show max n m = m by omega]; exact List.Mem.head _
      · exact .inr (List.Mem.tail _ h1)
    · show n ≤ r.foldl max (max n m); omega
    · rcases List.mem_cons.mp hy with rfl | hy
      · show y ≤ r.foldl max (max n y); omega
      · exact h3 y hy
theorem minG_spec {xs : List Int} {m : Int} (h : minG xs = some m) : 0 < xs.length ∧ m ∈ xs ∧ ∀ y ∈ xs, m ≤ y := by
  cases xs with
  | nil => cases h
  | cons n r =>
    cases h
    obtain ⟨h1, h2, h3⟩ := foldl_min r n
    refine ⟨by simp, ?_, fun y hy => ?_⟩
    · rcases h1 with h1 | h1
      · rw [h1]; exact List.Mem.head _
      · exact List.Mem.tail _ h1
    · rcases List.mem_cons.mp hy with rfl | hy
      · exact h2
      · exact h3 y hy
theorem maxG_spec {xs : List Int} {m : Int} (h : maxG xs = some m) : 0 < xs.length ∧ m ∈ xs ∧ ∀ y ∈ xs, y ≤ m := by
  cases xs with
  | nil => cases h
  | cons n r =>
    cases h
    obtain ⟨h1, h2, h3⟩ := foldl_max r n
    refine ⟨by simp, ?_, fun y hy => ?_⟩
    · rcases h1 with h1 | h1
      · rw [h1]; exact List.Mem.head _
      · exact List.Mem.tail _ h1
    · rcases List.mem_cons.mp hy with rfl | hy
      · exact h2
      · exact h3 y hy
section
variable {K : PySem.W.Frag} {H R : Hp} {L : List Cell} {Q : VK} {a : Addr} {xs : List Int} {m : Int}
theorem k_min (hs : SqL K H a (xs.map V.int)) (h : minG xs = some m) (q : Q (.int m) H) : rMin K [.ref a] H Q := by
  obtain ⟨h1, h2, h3⟩ := minG_spec h
  refine ⟨a, xs, rfl, hs, h1, fun m' hm hy => ?_⟩
  have e1 := hy m h2
  have e2 := h3 m' hm
  have : m' = m := by omega
  rw [this]; exact q
theorem k_max (hs : SqL K H a (xs.map V.int)) (h : maxG xs = some m) (q : Q (.int m) H) : rMax K [.ref a] H Q := by
  obtain ⟨h1, h2, h3⟩ := maxG_spec h
  refine ⟨a, xs, rfl, hs, h1, fun m' hm hy => ?_⟩
  have e1 := hy m h2
  have e2 := h3 m' hm
  have : m' = m := by omega
  rw [this]; exact q
end
theorem inV_str (i : Str) : ∀ xs : List Str, inV (.str i) (xs.map V.str) = decide (i ∈ xs)
  | [] => rfl
  | y :: r => by
    have ih := inV_str i r
    have e : inV (.str i) ((y :: r).map V.str) = (eqV (.str y) (.str i) || inV (.str i) (r.map V.str)) := rfl
    rw [e, ih]
    have e2 : eqV (.str y) (.str i) = decide (i = y) := by
      by_cases h : i = y
      · subst h; simp [eqV]
      · have : ¬ y = i := fun q => h q.symm
        simp [eqV, h, this]
    rw [e2]
    simp
theorem flat_str : ∀ xs : List Str, (xs.map V.str).all flatV = true
  | [] => rfl
  | y :: r => by
    have ih := flat_str r
    show (flatV (.str y) && (r.map V.str).all flatV) = true
    rw [ih]
    rfl
section
variable {K : PySem.W.Frag} {H : Hp} {Q : VK} {a : Addr} {i : Str} {ns : List Str}
theorem k_inLS (hs : SqL K H a (ns.map V.str)) (k : Q (.bl (decide (i ∈ ns))) H) : rIn K false (.str i) (.ref a) H Q := ⟨a, _, rfl, .inl hs, rfl, flat_str _, by rw [inV_str]; exact k⟩
theorem k_niLS (hs : SqL K H a (ns.map V.str)) (k : Q (.bl (!decide (i ∈ ns))) H) : rIn K true (.str i) (.ref a) H Q := ⟨a, _, rfl, .inl hs, rfl, flat_str _, by rw [inV_str]; exact k⟩
theorem k_inTS (hs : SqT K H a (ns.map V.str)) (k : Q (.bl (decide (i ∈ ns))) H) : rIn K false (.str i) (.ref a) H Q := ⟨a, _, rfl, .inr hs, rfl, flat_str _, by rw [inV_str]; exact k⟩
theorem k_niTS (hs : SqT K H a (ns.map V.str)) (k : Q (.bl (!decide (i ∈ ns))) H) : rIn K true (.str i) (.ref a) H Q := ⟨a, _, rfl, .inr hs, rfl, flat_str _, by rw [inV_str]; exact k⟩
end
/-! l.count(x), l.index(x) of data -/
def rCountD (K : PySem.W.Frag) : V → List V → Hp → VK → Prop := fun x xs H Q => ∃ (a : Addr) (y : V) (d : PyData) (ds : List PyData), x = V.ref a ∧ xs = [y] ∧ Dp K H (V.ref a) (.list ds) ∧ Dp K H y d ∧
  SeqAt.shaped (.list ds) = true ∧ SeqAt.shaped d = true ∧ Q (.int ((ds.countP fun z => PyData.eqv z d : Nat) : Int)) H
theorem mt_countD {X : Cx} (hu : X.A.units + 65 < cLine) : MtR X "list.count" (rCountD X.K) := by
  intro pins s σ H x xs v us Q I rx rxs h
  obtain ⟨a, y, d, ds, rfl, rfl, hl, hy, sl, sd, q⟩ := h
  cases rx
  cases rxs with
  | cons ry rt =>
    rename_i uy ut
    cases rt
    obtain ⟨bs, r1⟩ := Dp.reads I d y uy hy ry
    have hxs : PyData.canLayAll0 ds = true := SeqAt.canLay_of_shaped sl
    have hroom : X.A.units + 1 + min (PyData.depthAll ds) d.depth < cLine := room_in_shaped sd hu
    cases hl with
    | lst hs ha =>
      obtain ⟨its, rv, ⟨⟨cls, dd, data, sls⟩, n, ho, hc, hdn, hdt⟩, hlen⟩ := I.list hs
      simp only at hc hdt
      subst hc hdt
      obtain ⟨as, h4⟩ := Dp.readsAll I ds _ its ha rv
      have hmap : its.map (SeqAt.readOf s.heap) = ds := SeqAt.readsAll_map ds its as hxs h4
      have e : its.toArray.toList.countP (fun u => PyData.eqv (SeqAt.readOf s.heap u) d) = ds.countP fun z => PyData.eqv z d := by
        rw [← hmap, List.countP_map]
        rfl
      rw [← e] at q
      exact call_meets PySem.F.slot_list_count ⟨_, ho, rfl⟩ PySem.F.entry_list_count (PySem.F.args_list_count_2 _ _) (SeqAt.list_countAt a its.toArray n dd sls uy (fun u => PyData.eqv (SeqAt.readOf s.heap u) d))
        ⟨ho, SeqAt.items_eqAt (vs := its.toArray) (show ReadsAll s.heap its.toArray.toList ds as from h4) r1 hxs (SeqAt.canLay_of_shaped sd) hroom, ⟨.int _, H, I.tok _, ⟨_, rfl⟩, q⟩⟩
section
variable {α : Type} [DecidableEq α] {P : Rp α} {K : PySem.W.Frag} {H : Hp} {v w : V} {xs : List α} {y : α} {Q : VK} {a : Addr}
def cntL (xs : List α) (y : α) : Int := ((xs.countP fun z => decide (z = y) : Nat) : Int)
theorem countP_de (e : Dq P) (y : α) : ∀ xs : List α, ((xs.map e.d).countP fun z => PyData.eqv z (e.d y)) = xs.countP fun z => decide (z = y)
  | [] => rfl
  | x :: r => by
    rw [List.map_cons, List.countP_cons, List.countP_cons, countP_de e y r, e.eq x y]
theorem k_countD (e : Dq P) (h : e.n ≤ 60) (hx : PyData.canLay0 ((dqL e).d xs) = true) (hy : PyData.canLay0 (e.d y) = true) (h1 : rL P H (.ref a) xs) (h2 : P H v y) (q : Q (.int (cntL xs y)) H) : rCountD K (.ref a) [v] H Q :=
  ⟨a, v, e.d y, xs.map e.d, rfl, rfl, (dqL e).dp K H _ _ h1, e.dp K H _ _ h2, sh_dq (dqL e) (by show e.n + 1 ≤ 64; omega) hx, sh_dq e (by omega) hy, by rw [countP_de]; exact q⟩
def idxL : List α → α → Option Int
  | [], _ => none
  | x :: r, y => if x = y then some 0 else match idxL r y with
    | some j => some (j + 1)
    | none => none
theorem idxL_spec : ∀ {xs : List α} {j : Int}, idxL xs y = some j → ∃ n : Nat, j = n ∧ xs[n]? = some y ∧ ∀ m z, m < n → xs[m]? = some z → z ≠ y
  | [], j, h => by cases h
  | x :: r, j, h => by
    unfold idxL at h
    by_cases c : x = y
    · rw [if_pos c] at h
      cases h
      exact ⟨0, rfl, by rw [c]; rfl, fun m z hm => by omega⟩
    · rw [if_neg c] at h
      cases e : idxL r y with
      | none => rw [e] at h; cases h
      | some i =>
        rw [e] at h
        cases h
        obtain ⟨n, rfl, h1, h2⟩ := idxL_spec e
        refine ⟨n + 1, by omega, by simpa using h1, fun m z hm hz => ?_⟩
        cases m with
        | zero => cases Option.some.inj hz; exact c
        | succ m => exact h2 m z (by omega) (by simpa using hz)
theorem k_indexD (e : Dq P) (h : e.n ≤ 60) (hx : PyData.canLay0 ((dqL e).d xs) = true) (hy : PyData.canLay0 (e.d y) = true) (h1 : rL P H (.ref a) xs) (h2 : P H v y) {j : Int} (hj : idxL xs y = some j) (q : Q (.int j) H) : rIndexD K (.ref a) [v] H Q := by
  obtain ⟨n, rfl, g1, g2⟩ := idxL_spec hj
  refine ⟨a, v, e.d y, xs.map e.d, n, e.d y, rfl, rfl, (dqL e).dp K H _ _ h1, e.dp K H _ _ h2, sh_dq (dqL e) (by show e.n + 1 ≤ 64; omega) hx, sh_dq e (by omega) hy, by rw [List.getElem?_map, g1]; rfl, by rw [e.eq]; simp, fun m z' hm hz => ?_, q⟩
  rw [List.getElem?_map] at hz
  cases e1 : xs[m]? with
  | none => rw [e1] at hz; cases hz
  | some z =>
    rw [e1] at hz
    cases hz
    rw [e.eq]
    exact decide_eq_false (g2 m z hm e1)
theorem okInts (xs : List Int) : PyData.canLay0 ((dqL (De.q deI)).d xs) = true := by
  show PyData.canLay0 (.list (xs.map PyData.int)) = true
  simp only [PyData.canLay0]
  induction xs with
  | nil => rfl
  | cons x r ih => simp only [List.map_cons, PyData.canLayAll0, PyData.canLay0, ih, Bool.and_self]
theorem okDe {P : Rp α} (e : De P) (y : α) : PyData.canLay0 ((De.q e).d y) = true := e.ok y
theorem okDeL {P : Rp α} (e : De P) (xs : List α) : PyData.canLay0 ((dqL (De.q e)).d xs) = true := by
  show PyData.canLay0 (.list (xs.map e.d)) = true
  simp only [PyData.canLay0]
  exact ok_all e xs
end
/-! xs.insert(i, y) -/
section
variable {α : Type} {f : α → V} {R H : Hp} {L : List Cell} {a : Addr} {xs ys : List α} {y : α} {i : Int} {Q : VK} {v : V} {P : V → α → Prop} {vs : List V}
def insG (xs : List α) (i : Int) (y : α) : Option (List α) := grd (xs.length < sizeLine ∧ 0 ≤ i ∧ i < 2 ^ 63) (xs.take i.toNat ++ [y] ++ xs.drop i.toNat)
def rInsert : V → List V → Hp → VK → Prop := fun x vs H Q => ∃ (l : Addr) (xs : List V) (i : Int) (y : V), x = .ref l ∧ vs = [.int i, y] ∧ H l = some (.lst xs) ∧ xs.length < sizeLine ∧ 0 ≤ i ∧ i < 2 ^ 63 ∧
    Q .non (upd H l (.lst (xs.take i.toNat ++ [y] ++ xs.drop i.toNat)))
theorem k_ins {g : HO → List Cell} (hl : H a = some (.lst (xs.map f))) (hp : ∀ o', Own R (upd H a o') (g o')) (h : insG xs i y = some ys) (k : ∀ H', Own R H' (g (.lst (ys.map f))) → Q .non H') : rInsert (.ref a) [.int i, f y] H Q := by
  obtain ⟨⟨c1, c2, c3⟩, rfl⟩ := grdE h
  refine ⟨a, _, i, _, rfl, rfl, hl, by rw [List.length_map]; exact c1, c2, c3, ?_⟩
  rw [← List.map_take, ← List.map_drop, map_snoc, ← List.map_append]
  exact k _ (hp _)
theorem k_insA {g : HO → List Cell} (hl : H a = some (.lst vs)) (ha : All2 P vs xs) (hp : ∀ o', Own R (upd H a o') (g o')) (h : insG xs i y = some ys) (hv : P v y) (k : ∀ H' ws, Own R H' (g (.lst ws)) → All2 P ws ys → Q .non H') : rInsert (.ref a) [.int i, v] H Q := by
  obtain ⟨⟨c1, c2, c3⟩, rfl⟩ := grdE h
  exact ⟨a, _, i, _, rfl, rfl, hl, by rw [ha.len]; exact c1, c2, c3, k _ _ (hp _) (((ha.take _).snoc hv).app (ha.drop _))⟩
theorem k_insE {g : HO → List Cell} (hl : H a = some (.lst vs)) (hp : ∀ o', Own R (upd H a o') (g o')) (c1 : vs.length < sizeLine) (c2 : 0 ≤ i) (c3 : i < 2 ^ 63) (k : ∀ H', Own R H' (g (.lst (vs.take i.toNat ++ [v] ++ vs.drop i.toNat))) → Q .non H') : rInsert (.ref a) [.int i, v] H Q :=
  ⟨a, _, i, _, rfl, rfl, hl, c1, c2, c3, k _ (hp _)⟩
end
def rInt : List V → Hp → VK → Prop := fun xs H Q => (∃ i, xs = [.int i] ∧ Q (.int i) H) ∨ ∃ k, xs = [.bl k] ∧ Q (.int (if k then 1 else 0)) H
theorem call_intQ {X : Cx} : CallR X (.type "int") rInt := call_int1
theorem mt_insertQ {X : Cx} : MtR X "list.insert" rInsert := mt_insert
end Bt

set_option Elab.async false
set_option linter.all false
set_option maxRecDepth 100000
set_option maxHeartbeats 4000000
namespace Bt
open PySem L2
def top (i : Nat) : Stmt := PySem.Challenge.pw_bitrail_k31_a_wire_read.main.body.getD i (.Pass ⟨0, 0, 0, 0⟩)
abbrev s__law_draw : Stmt := top 21
abbrev s__law_wire : Stmt := top 25
abbrev s_Reader_init : Stmt := (clsB (top 19)).getD 0 (.Pass ⟨0, 0, 0, 0⟩)
abbrev s__law_alike : Stmt := top 26
abbrev s__law_byte : Stmt := top 23
abbrev s__law_bits : Stmt := top 22
abbrev s__law_plain : Stmt := top 24
abbrev s_Reader_plain : Stmt := (clsB (top 19)).getD 4 (.Pass ⟨0, 0, 0, 0⟩)
abbrev s_number_of : Stmt := top 6
abbrev s_divided : Stmt := top 8
abbrev s_rest_of : Stmt := top 11
abbrev s_read_frame : Stmt := top 15
abbrev s_Reader_frame : Stmt := (clsB (top 19)).getD 5 (.Pass ⟨0, 0, 0, 0⟩)
abbrev s__law_framed : Stmt := top 27
abbrev s_Reader_judged : Stmt := (clsB (top 19)).getD 2 (.Pass ⟨0, 0, 0, 0⟩)
abbrev s_Reader_hear : Stmt := (clsB (top 19)).getD 1 (.Pass ⟨0, 0, 0, 0⟩)
abbrev s__law_told : Stmt := top 28
abbrev s_law : Stmt := top 29
structure Ad where
  f__law_draw : Addr
  fd__law_draw : FuncData
  f__law_wire : Addr
  fd__law_wire : FuncData
  f_Reader_init : Addr
  fd_Reader_init : FuncData
  f__law_alike : Addr
  fd__law_alike : FuncData
  f__law_byte : Addr
  fd__law_byte : FuncData
  f__law_bits : Addr
  fd__law_bits : FuncData
  f__law_plain : Addr
  fd__law_plain : FuncData
  f_Reader_plain : Addr
  fd_Reader_plain : FuncData
  f_number_of : Addr
  fd_number_of : FuncData
  f_divided : Addr
  fd_divided : FuncData
  f_rest_of : Addr
  fd_rest_of : FuncData
  f_read_frame : Addr
  fd_read_frame : FuncData
  f_Reader_frame : Addr
  fd_Reader_frame : FuncData
  f__law_framed : Addr
  fd__law_framed : FuncData
  f_Reader_judged : Addr
  fd_Reader_judged : FuncData
  f_Reader_hear : Addr
  fd_Reader_hear : FuncData
  f__law_told : Addr
  fd__law_told : FuncData
  f_law : Addr
  fd_law : FuncData
  c_Reader : Addr
  es : Eds
structure S_Reader where
  kept : List Int
  last : Int
  alike : Int
  latest : Str
deriving DecidableEq
def o_Reader (ad : Ad) : Ob S_Reader := fun F a L s => ∃ (dx : Addr) (p_kept : Addr), L = ((a, .ins ad.c_Reader dx [("kept", .ref p_kept), ("last", .int s.last), ("alike", .int s.alike), ("latest", .str s.latest)]) :: (dx, .own a) :: ((p_kept, .lst (List.map V.int s.kept)) :: []))
theorem mo_Reader (ad : Ad) : MonoO (o_Reader ad) := by
  rintro F F' a L s e ⟨x0, x1, h⟩
  exact ⟨x0, x1, h⟩
structure Txt (K : PySem.W.Frag) (mg : Str → Option Value) (ad : Ad) : Prop where
  F__law_draw : Fun K "_law_draw" "_law_draw" s__law_draw ad.f__law_draw ad.fd__law_draw
  g__law_draw : mg "_law_draw" = some (.ref ad.f__law_draw)
  b__law_draw : Binds K ad.fd__law_draw ["script", "k", "many"] []
  F__law_wire : Fun K "_law_wire" "_law_wire" s__law_wire ad.f__law_wire ad.fd__law_wire
  g__law_wire : mg "_law_wire" = some (.ref ad.f__law_wire)
  b__law_wire : Binds K ad.fd__law_wire ["plain"] []
  F_Reader_init : Fun K "__init__" "Reader.__init__" s_Reader_init ad.f_Reader_init ad.fd_Reader_init
  b_Reader_init : Binds K ad.fd_Reader_init ["self"] []
  F__law_alike : Fun K "_law_alike" "_law_alike" s__law_alike ad.f__law_alike ad.fd__law_alike
  g__law_alike : mg "_law_alike" = some (.ref ad.f__law_alike)
  b__law_alike : Binds K ad.fd__law_alike ["found", "due"] []
  F__law_byte : Fun K "_law_byte" "_law_byte" s__law_byte ad.f__law_byte ad.fd__law_byte
  g__law_byte : mg "_law_byte" = some (.ref ad.f__law_byte)
  b__law_byte : Binds K ad.fd__law_byte ["script", "k"] []
  F__law_bits : Fun K "_law_bits" "_law_bits" s__law_bits ad.f__law_bits ad.fd__law_bits
  g__law_bits : mg "_law_bits" = some (.ref ad.f__law_bits)
  b__law_bits : Binds K ad.fd__law_bits ["number", "many"] []
  F__law_plain : Fun K "_law_plain" "_law_plain" s__law_plain ad.f__law_plain ad.fd__law_plain
  g__law_plain : mg "_law_plain" = some (.ref ad.f__law_plain)
  b__law_plain : Binds K ad.fd__law_plain ["frame"] []
  F_Reader_plain : Fun K "plain" "Reader.plain" s_Reader_plain ad.f_Reader_plain ad.fd_Reader_plain
  b_Reader_plain : Binds K ad.fd_Reader_plain ["self"] []
  F_number_of : Fun K "number_of" "number_of" s_number_of ad.f_number_of ad.fd_number_of
  g_number_of : mg "number_of" = some (.ref ad.f_number_of)
  b_number_of : Binds K ad.fd_number_of ["bits"] []
  F_divided : Fun K "divided" "divided" s_divided ad.f_divided ad.fd_divided
  g_divided : mg "divided" = some (.ref ad.f_divided)
  b_divided : Binds K ad.fd_divided ["number", "key"] []
  F_rest_of : Fun K "rest_of" "rest_of" s_rest_of ad.f_rest_of ad.fd_rest_of
  g_rest_of : mg "rest_of" = some (.ref ad.f_rest_of)
  b_rest_of : Binds K ad.fd_rest_of ["bits"] []
  F_read_frame : Fun K "read_frame" "read_frame" s_read_frame ad.f_read_frame ad.fd_read_frame
  g_read_frame : mg "read_frame" = some (.ref ad.f_read_frame)
  b_read_frame : Binds K ad.fd_read_frame ["bits"] []
  F_Reader_frame : Fun K "frame" "Reader.frame" s_Reader_frame ad.f_Reader_frame ad.fd_Reader_frame
  b_Reader_frame : Binds K ad.fd_Reader_frame ["self"] []
  F__law_framed : Fun K "_law_framed" "_law_framed" s__law_framed ad.f__law_framed ad.fd__law_framed
  g__law_framed : mg "_law_framed" = some (.ref ad.f__law_framed)
  b__law_framed : Binds K ad.fd__law_framed ["reader", "frame"] []
  F_Reader_judged : Fun K "judged" "Reader.judged" s_Reader_judged ad.f_Reader_judged ad.fd_Reader_judged
  b_Reader_judged : Binds K ad.fd_Reader_judged ["self"] []
  F_Reader_hear : Fun K "hear" "Reader.hear" s_Reader_hear ad.f_Reader_hear ad.fd_Reader_hear
  b_Reader_hear : Binds K ad.fd_Reader_hear ["self", "bit"] []
  F__law_told : Fun K "_law_told" "_law_told" s__law_told ad.f__law_told ad.fd__law_told
  g__law_told : mg "_law_told" = some (.ref ad.f__law_told)
  b__law_told : Binds K ad.fd__law_told ["reader", "wire", "k", "plain", "held"] []
  F_law : Fun K "law" "law" s_law ad.f_law ad.fd_law
  g_law : mg "law" = some (.ref ad.f_law)
  b_law : Binds K ad.fd_law ["script"] []
  z_bool : mg "bool" = none
  z_int : mg "int" = none
  z_isinstance : mg "isinstance" = none
  z_len : mg "len" = none
  z_list : mg "list" = none
  z_max : mg "max" = none
  z_range : mg "range" = none
  z_str : mg "str" = none
  z_tuple : mg "tuple" = none
  g_BARE_frames : Gv mg "BARE_frames" (.int 27)
  g_BARE_readers : Gv mg "BARE_readers" (.int 27)
  g_HEAD_frames : Gv mg "HEAD_frames" (.int 12)
  g_HEAD_readers : Gv mg "HEAD_readers" (.int 12)
  g_KEY : Gv mg "KEY" (.int 64647)
  e_NoFrame : ErrC K mg "NoFrame" ad.es.NoFrame
  e_NoKey : ErrC K mg "NoKey" ad.es.NoKey
  C_Reader : Cls K ad.c_Reader
  N_Reader_alike : NoAttr K ad.c_Reader "alike"
  N_Reader_kept : NoAttr K ad.c_Reader "kept"
  N_Reader_last : NoAttr K ad.c_Reader "last"
  N_Reader_latest : NoAttr K ad.c_Reader "latest"
  M_Reader_frame : Meth K ad.c_Reader "frame" ad.f_Reader_frame
  M_Reader_hear : Meth K ad.c_Reader "hear" ad.f_Reader_hear
  M_Reader_judged : Meth K ad.c_Reader "judged" ad.f_Reader_judged
  M_Reader_plain : Meth K ad.c_Reader "plain" ad.f_Reader_plain
  K_Reader : Mk K ad.c_Reader ad.f_Reader_init
  k_Reader : mg "Reader" = some (.ref ad.c_Reader)
section
variable {P : Program} {w : World} {K : PySem.W.Frag} {mg : Str → Option Value} {base : Heap}
def m__law_draw (script_1 : List Int) (k_3 : Int) (many_4 : Int) : Option (Int) :=
  bnd (ifB (decide ((0 : Int) < (List.length script_1 : Int))) (bnd (modG k_3 (List.length script_1 : Int)) fun t_5 =>
  bnd (atI script_1 t_5) fun e_7 => some e_7) ( some (0 : Int))) fun z_10 =>
  bnd (mulG ((31 : Int) * k_3) k_3) fun t_12 =>
  ltv ((((z_10 % (1000003 : Int)) + t_12) + (1 : Int))) fun seed_14 =>
  bnd (modG ((((seed_14 * (48271 : Int)) % (999983 : Int)) * (7919 : Int)) % (524287 : Int)) many_4) fun t_16 =>
  some t_16
def sp__law_draw (K : PySem.W.Frag) : Sp := fun vs H Q _ => ∃ (script_1 : List Int) (a_2 : Addr) (k_3 : Int) (many_4 : Int) (r : Int), vs = [.ref a_2, .int k_3, .int many_4] ∧ SqL K H a_2 (List.map V.int script_1) ∧ m__law_draw script_1 k_3 many_4 = some r ∧ RetV (.int r) H Q
abbrev N__law_draw : List Str := ["script", "k", "many", "cell", "seed"]
theorem sc__law_draw : FnScope N__law_draw ["script", "k", "many"] (defScope s__law_draw) := ⟨rfl, rfl, rfl, by decide +kernel, rfl, by decide +kernel, by decide +kernel⟩
theorem ok__law_draw {ad : Ad} (T : Txt K mg ad) : FnOk P w K mg base CX0 1 ad.f__law_draw ad.fd__law_draw ["script", "k", "many"] (sp__law_draw K) := by
  refine T.F__law_draw.ok sc__law_draw (fun vs H Q E h => ?_) (fun cdv A outer s H vs Q E hr h => ?_)
  · obtain ⟨_, _, _, _, _, rfl, _⟩ := h
    rfl
  · obtain ⟨script_1, a_2, k_3, many_4, r, rfl, hp_a_2, hm, k⟩ := h
    unfold m__law_draw at hm
    obtain ⟨H0, hH0⟩ : ∃ H0 : Hp, H0 = H := ⟨H, rfl⟩
    have O : Own H0 H [] := by rw [hH0]; exact Own.start H
    rw [← hH0] at k hp_a_2
    clear hH0
    refine ⟨_, (pss_cons (ps_set (i := 3) sc__law_draw.nd rfl (Or.inl rfl) (pe_ifExp (pt_cmpR op_gt (pe_callB (r := rLenQ K) call_lenQ (by rfl) T.z_len PySem.boot_len (pa_cons (pv 0) pa_nil)) pe_int (nomark _)) (pe_ix (r := rIxL K) ix_list (pv 0) (pe_op op_mod (pv 1) (pe_callB (r := rLenQ K) call_lenQ (by rfl) T.z_len PySem.boot_len (pa_cons (pv 0) pa_nil))) (fun _ _ => rfl)) pe_int)) (pss_cons (ps_set (i := 4) sc__law_draw.nd rfl (Or.inl rfl) (pe_op op_add (pe_op op_add (pe_op op_mod (pv 3) pe_int) (pe_op op_mulW (pe_op op_mul pe_int (pv 1)) (pv 1))) pe_int)) (pss_one (ps_ret (pe_op op_mod (pe_op op_mod (pe_op op_mul (pe_op op_mod (pe_op op_mul (pv 4) pe_int) pe_int) pe_int) pe_int) (pv 2)))))), ?_⟩
    -- 91
    refine o_seq ?_
    refine o_asg ?_
    obtain ⟨z_10, h11, hm⟩ := bndE hm
    refine x_if (c := decide ((0 : Int) < (List.length script_1 : Int))) (x := .int z_10) (y := .int z_10) (v := .int z_10) O (fun Q1 k1 => ?_) (fun h9 => ⟨rfl, fun H O Q2 k2 => ?_⟩) (fun h9 => ⟨rfl, fun H O Q2 k2 => ?_⟩) (fun H O => ?_)
    · refine ⟨_, rfl, ?_⟩
      refine x_nil ?_
      refine n_len (O.ex.l hp_a_2) ?_
      refine ⟨_, _, rfl, rfl, _, rfl, ?_⟩
      exact k1 _ O
    · replace hm := ifT h11 h9
      obtain ⟨t_5, h6, hm⟩ := bndE hm
      obtain ⟨e_7, h8, hm⟩ := bndE hm
      obtain rfl := Option.some.inj hm
      refine ⟨_, rfl, _, rfl, _, rfl, ?_⟩
      refine x_nil ?_
      refine n_len (O.ex.l hp_a_2) ?_
      refine k_mod h6 ?_
      refine k_ixL (f := V.int) (O.ex.l hp_a_2) h8 ?_
      exact k2 _ O
    · replace hm := ifF h11 h9
      obtain rfl := Option.some.inj hm
      refine o_c ?_
      exact k2 _ O
    -- 92
    refine o_seq ?_
    refine o_asg ?_
    obtain ⟨t_12, h13, hm⟩ := bndE hm
    refine ⟨_, rfl, _, _, rfl, rfl, (by show (0 : Int) < 1000003; decide), _, rfl, _, _, rfl, rfl, .inl ⟨by decide, by decide⟩, _, rfl, ?_⟩
    refine k_mul h13 ?_
    refine ⟨_, _, rfl, rfl, _, _, rfl, rfl, ?_⟩
    obtain ⟨seed_14, h15, hm⟩ := ltvE hm
    refine a_set (congrArg V.int h15) ?_
    -- 93
    refine o_ret ?_
    obtain ⟨t_16, h17, hm⟩ := bndE hm
    refine ⟨_, rfl, _, _, rfl, rfl, .inr ⟨by decide, by decide⟩, _, _, rfl, rfl, (by show (0 : Int) < 999983; decide), _, _, rfl, rfl, .inr ⟨by decide, by decide⟩, _, _, rfl, rfl, (by show (0 : Int) < 524287; decide), _, rfl, ?_⟩
    refine k_mod h17 ?_
    obtain rfl := Option.some.inj hm
    exact RetV.go k O
def m__law_wire_L0  (bit_10 : Int) (wire_4 : List Int) : Option ((List Int)) :=
  bnd (appG wire_4 bit_10) fun l_14 =>
  bnd (repG ([bit_10]) (5 : Int)) fun t_18 =>
  ifB (decide ((cutL l_14 (some (-(5 : Int))) none) = t_18)) (
    bnd (appG l_14 ((1 : Int) - bit_10)) fun l_22 =>
    some l_22) (
    some l_14)
def m__law_wire (plain_1 : List Int) : Option (List Int) :=
  bnd (loopM (fun bit_10 s => m__law_wire_L0 bit_10 s) plain_1 ([] : List Int)) fun wire_6 =>
  some wire_6
def sp__law_wire (K : PySem.W.Frag) : Sp := fun vs H Q _ => ∃ (plain_1 : List Int) (a_2 : Addr) (r : List Int), vs = [.ref a_2] ∧ H a_2 = some (.lst (List.map V.int plain_1)) ∧ m__law_wire plain_1 = some r ∧ RetL (List.map V.int r) H Q
abbrev N__law_wire : List Str := ["plain", "wire", "bit"]
theorem sc__law_wire : FnScope N__law_wire ["plain"] (defScope s__law_wire) := ⟨rfl, rfl, rfl, by decide +kernel, rfl, by decide +kernel, by decide +kernel⟩
theorem ok__law_wire {ad : Ad} (T : Txt K mg ad) : FnOk P w K mg base CX0 1 ad.f__law_wire ad.fd__law_wire ["plain"] (sp__law_wire K) := by
  refine T.F__law_wire.ok sc__law_wire (fun vs H Q E h => ?_) (fun cdv A outer s H vs Q E hr h => ?_)
  · obtain ⟨_, _, _, rfl, _⟩ := h
    rfl
  · obtain ⟨plain_1, a_2, r, rfl, hp_a_2, hm, k⟩ := h
    unfold m__law_wire at hm
    obtain ⟨H0, hH0⟩ : ∃ H0 : Hp, H0 = H := ⟨H, rfl⟩
    have O : Own H0 H [] := by rw [hH0]; exact Own.start H
    rw [← hH0] at k hp_a_2
    clear hH0
    refine ⟨_, (pss_cons (ps_set (i := 1) sc__law_wire.nd rfl (Or.inl rfl) (pe_lstQ (pe_lst pa_nil))) (pss_cons (ps_for PassesOwn.never rfl (pi_list (pv 0)) (pg_name (i := 2) sc__law_wire.nd rfl (Or.inl rfl)) (pss_cons (ps_expr (pe_bm PySem.F.plainAttrs_list PySem.F.slot_list_append PySem.F.type_list_append mt_append (pv 1) (pa_cons (pv 2) pa_nil))) (pss_one (ps_if (pt_cmpR (r := rEqD K) (op_eqD hr.units) (pe_slice (r := rSlL K) sl_list (pv 1) (po_some (pe_un un_neg pe_int)) po_none) (pe_op op_rep (pe_lstQ (pe_lst (pa_cons (pv 2) pa_nil))) pe_int) (nomark _)) (pss_one (ps_expr (pe_bm PySem.F.plainAttrs_list PySem.F.slot_list_append PySem.F.type_list_append mt_append (pv 1) (pa_cons (pe_op op_sub pe_int (pv 2)) pa_nil)))) pss_nil)))) (pss_one (ps_ret (pv 1))))), ?_⟩
    -- 112
    refine o_seq ?_
    refine o_asg ?_
    refine x_nil ?_
    refine n_lst (f := V.int) (xs := ([] : List Int)) O rfl (Nat.zero_le _) fun p_3 H O => ?_
    -- 113
    refine o_seq ?_
    refine o_for ?_
    refine ⟨_, rfl, ?_⟩
    obtain ⟨wire_6, h7, hm⟩ := bndE hm
    refine ⟨_, rfl, ⟨_, (SqL.of (O.ex _ _ hp_a_2))⟩, q_forL (f := V.int) (xs := plain_1) (fun r σ H => ∃ (wire_4 : List Int) (j_5 : Option V), σ = [some (.ref a_2), some (.ref p_3), j_5] ∧ Own H0 H [(p_3, .lst (List.map V.int wire_4))] ∧ loopM (fun bit_10 s => m__law_wire_L0 bit_10 s) r wire_4 = some wire_6) ⟨([] : List Int), _, rfl, O, h7⟩ (by rintro r σ H ⟨wire_4, j_5, rfl, O, hL⟩; exact (SqL.of (O.ex _ _ hp_a_2))) ?_ ?_⟩
    · rintro bit_10 r σ H ⟨wire_4, j_5, rfl, O, hL⟩
      obtain ⟨s_, hm, h9⟩ := loopM_cons hL
      replace hm : m__law_wire_L0 bit_10 wire_4 = some s_ := hm
      unfold m__law_wire_L0 at hm
      -- 114
      refine o_seq ?_
      refine o_drop ?_
      obtain ⟨l_14, h15, hm⟩ := bndE hm
      refine ⟨_, rfl, .inl ⟨rfl, _, (SqL.of (O.mem (List.Mem.head _)))⟩, _, rfl, ?_⟩
      refine x_nil ?_
      refine k_app (f := V.int) (O.mem (List.Mem.head _)) (fun _ => O.put0) h15 fun H O => ?_
      -- 115
      refine o_ifs ?_
      refine ⟨_, rfl, _, rfl, _, rfl, ?_⟩
      refine x_np ?_
      refine k_cut (f := V.int) O (SqL.of (O.mem (List.Mem.head _))) fun p_16 H O => ?_
      refine ⟨_, rfl, ?_⟩
      refine x_nil ?_
      refine n_lst (f := V.int) (xs := [bit_10]) O rfl (by show 1 ≤ sizeLine; decide) fun p_17 H O => ?_
      obtain ⟨t_18, h19, hm⟩ := bndE hm
      refine o_c ?_
      refine k_rep (f := V.int) O (O.mem (List.Mem.head _)) h19 fun p_20 H O => ?_
      refine k_eqLI (SqL.of (O.mem (List.Mem.tail _ (List.Mem.tail _ (List.Mem.head _))))) (SqL.of (O.mem (List.Mem.head _))) ?_
      refine ⟨_, rfl, ?_⟩
      replace O := O.tl.tl.tl
      refine iteS (c := (decide ((cutL l_14 (some (-(5 : Int))) none) = t_18))) (fun h21 => ?_) (fun h21 => ?_)
      · replace hm := ifT hm h21
        -- 116
        refine o_drop ?_
        obtain ⟨l_22, h23, hm⟩ := bndE hm
        refine ⟨_, rfl, .inl ⟨rfl, _, (SqL.of (O.mem (List.Mem.head _)))⟩, _, rfl, _, _, rfl, rfl, ?_⟩
        refine x_nil ?_
        refine k_app (f := V.int) (O.mem (List.Mem.head _)) (fun _ => O.put0) h23 fun H O => ?_
        have Oz := O
        obtain rfl := Option.some.inj hm
        exact ⟨_, _, rfl, Oz, h9⟩
      · replace hm := ifF hm h21
        refine o_next ?_
        have Oz := O
        obtain rfl := Option.some.inj hm
        exact ⟨_, _, rfl, Oz, h9⟩
    rintro σ H ⟨wire_4, j_5, rfl, O, hL⟩
    cases loopM_nil hL
    -- 117
    refine o_ret ?_
    refine ⟨_, rfl, ?_⟩
    obtain rfl := Option.some.inj hm
    exact RetL.go k O (List.Mem.head _)
def m_Reader_init : Option (S_Reader) :=
  ltv ((-(1 : Int))) fun last_5 =>
  ltv (("" : Str)) fun latest_7 =>
  some (S_Reader.mk ([] : List Int) last_5 (0 : Int) latest_7)
def sp_Reader_init (K : PySem.W.Frag) (ad : Ad) : Sp := fun vs H Q _ => ∃ (a_2 : Addr) (dx_3 : Addr) (R0 : Hp) (r : S_Reader), vs = [.ref a_2] ∧ Own R0 H ((a_2, .ins ad.c_Reader dx_3 []) :: (dx_3, .own a_2) :: []) ∧ m_Reader_init  = some r ∧ RetX R0 (hsub H ((a_2, .ins ad.c_Reader dx_3 []) :: (dx_3, .own a_2) :: [])) (dI (o_Reader ad) a_2 r) Q
abbrev N_Reader_init : List Str := ["self"]
theorem sc_Reader_init : FnScope N_Reader_init ["self"] (defScope s_Reader_init) := ⟨rfl, rfl, rfl, by decide +kernel, rfl, by decide +kernel, by decide +kernel⟩
theorem ok_Reader_init {ad : Ad} (T : Txt K mg ad) : FnOk P w K mg base CX0 1 ad.f_Reader_init ad.fd_Reader_init ["self"] (sp_Reader_init K ad) := by
  refine T.F_Reader_init.ok sc_Reader_init (fun vs H Q E h => ?_) (fun cdv A outer s H vs Q E hr h => ?_)
  · obtain ⟨_, _, _, _, rfl, _⟩ := h
    rfl
  · obtain ⟨a_2, dx_3, R0, r, rfl, OO, hm, k⟩ := h
    unfold m_Reader_init at hm
    obtain ⟨Hb, hHb⟩ : ∃ Hb : Hp, Hb = hsub H ((a_2, .ins ad.c_Reader dx_3 []) :: (dx_3, .own a_2) :: []) := ⟨_, rfl⟩
    obtain ⟨H0, hH0⟩ : ∃ H0 : Hp, H0 = Hb := ⟨Hb, rfl⟩
    have O : Own H0 H ((a_2, .ins ad.c_Reader dx_3 []) :: (dx_3, .own a_2) :: []) := by rw [hH0, hHb]; exact OO.startX
    have eR : Ex R0 Hb := by rw [hHb]; exact OO.subR
    rw [← hHb] at k
    have eB : Ex Hb H0 := by rw [hH0]; exact Ex.refl _
    have eS : Ex R0 (ovr R0 Hb H0) := by rw [hH0]; exact ovr_start eR
    clear hH0
    refine ⟨_, (pss_cons (ps_fld (pv 0) (pe_lstQ (pe_lst pa_nil)) rfl) (pss_cons (ps_fld (pv 0) (pe_un un_neg pe_int) rfl) (pss_cons (ps_fld (pv 0) pe_int rfl) (pss_one (ps_fld (pv 0) pe_str rfl))))), ?_⟩
    replace O : Own H0 H [(a_2, .ins ad.c_Reader dx_3 []), (dx_3, .own a_2)] := Own.cv O (by first | with_reducible rfl | simp only [List.map_nil, List.flatten_cons, List.flatten_nil, List.cons_append, List.nil_append, List.append_nil, List.append_assoc])
    -- 51
    refine o_seq ?_
    refine o_sfld ?_
    refine x_nil ?_
    refine n_lst (f := V.int) (xs := ([] : List Int)) O rfl (Nat.zero_le _) fun p_4 H O => ?_
    refine ⟨_, rfl, ?_⟩
    refine k_sfld (fs' := [("kept", .ref p_4)]) (O.mem (List.Mem.tail _ (List.Mem.head _))) T.C_Reader T.N_Reader_kept (by show (0 : Nat) < 1000; decide) rfl putF_nil (fun _ => O.put1) fun H O => ?_
    -- 52
    refine o_seq ?_
    refine o_sfld ?_
    refine ⟨_, rfl, _, rfl, ?_⟩
    obtain ⟨last_5, h6, hm⟩ := ltvE hm
    refine k_sfld (fs' := [("kept", .ref p_4), ("last", .int last_5)]) (O.mem (List.Mem.tail _ (List.Mem.head _))) T.C_Reader T.N_Reader_last (by show (1 : Nat) < 1000; decide) (congrArg V.int h6) (putF_skip (by decide) putF_nil) (fun _ => O.put1) fun H O => ?_
    -- 53
    refine o_seq ?_
    refine o_sfld ?_
    refine ⟨_, rfl, ?_⟩
    refine k_sfld (fs' := [("kept", .ref p_4), ("last", .int last_5), ("alike", .int (0 : Int))]) (O.mem (List.Mem.tail _ (List.Mem.head _))) T.C_Reader T.N_Reader_alike (by show (2 : Nat) < 1000; decide) rfl (putF_skip (by decide) (putF_skip (by decide) putF_nil)) (fun _ => O.put1) fun H O => ?_
    -- 54
    refine o_sfld ?_
    refine ⟨_, rfl, ?_⟩
    obtain ⟨latest_7, h8, hm⟩ := ltvE hm
    refine k_sfld (fs' := [("kept", .ref p_4), ("last", .int last_5), ("alike", .int (0 : Int)), ("latest", .str latest_7)]) (O.mem (List.Mem.tail _ (List.Mem.head _))) T.C_Reader T.N_Reader_latest (by show (3 : Nat) < 1000; decide) (congrArg V.str h8) (putF_skip (by decide) (putF_skip (by decide) (putF_skip (by decide) putF_nil))) (fun _ => O.put1) fun H O => ?_
    obtain rfl := Option.some.inj hm
    exact k _ _ H0 ((a_2, .ins ad.c_Reader dx_3 [("kept", .ref p_4), ("last", .int last_5), ("alike", .int (0 : Int)), ("latest", .str latest_7)]) :: (dx_3, .own a_2) :: ((p_4, .lst (List.map V.int ([] : List Int))) :: [])) eB (Own.cv (O.sel (L' := [(a_2, .ins ad.c_Reader dx_3 [("kept", .ref p_4), ("last", .int last_5), ("alike", .int (0 : Int)), ("latest", .str latest_7)]), (dx_3, .own a_2), (p_4, .lst (List.map V.int ([] : List Int)))]) [1, 2, 0] (by decide) rfl) (by first | with_reducible rfl | simp only [List.map_nil, List.flatten_cons, List.flatten_nil, List.cons_append, List.nil_append, List.append_nil, List.append_assoc])) ⟨rfl, ⟨dx_3, p_4, rfl⟩⟩
def m__law_alike_L0  (one_12 : Int) : Option (Fl (Unit) (Bool)) :=
  ifB ((!true) || false) (
    some (.rt false)) (
    some (.nx ()))
def m__law_alike (found_1 : List Int) (due_3 : List Int) : Option (Bool) :=
  ifB ((!true) || (!decide (found_1 = due_3))) (
    some false) (
    fin (loopF (fun one_12 (_ : Unit) => m__law_alike_L0 one_12) found_1 ()) fun _ =>
    some true)
def sp__law_alike (K : PySem.W.Frag) : Sp := fun vs H Q _ => ∃ (found_1 : List Int) (a_2 : Addr) (due_3 : List Int) (a_4 : Addr) (r : Bool), vs = [.ref a_2, .ref a_4] ∧ H a_2 = some (.lst (List.map V.int found_1)) ∧ H a_4 = some (.lst (List.map V.int due_3)) ∧ m__law_alike found_1 due_3 = some r ∧ RetV (.bl r) H Q
abbrev N__law_alike : List Str := ["found", "due", "one"]
theorem sc__law_alike : FnScope N__law_alike ["found", "due"] (defScope s__law_alike) := ⟨rfl, rfl, rfl, by decide +kernel, rfl, by decide +kernel, by decide +kernel⟩
theorem ok__law_alike {ad : Ad} (T : Txt K mg ad) : FnOk P w K mg base CX0 1 ad.f__law_alike ad.fd__law_alike ["found", "due"] (sp__law_alike K) := by
  refine T.F__law_alike.ok sc__law_alike (fun vs H Q E h => ?_) (fun cdv A outer s H vs Q E hr h => ?_)
  · obtain ⟨_, _, _, _, _, rfl, _⟩ := h
    rfl
  · obtain ⟨found_1, a_2, due_3, a_4, r, rfl, hp_a_2, hp_a_4, hm, k⟩ := h
    unfold m__law_alike at hm
    obtain ⟨H0, hH0⟩ : ∃ H0 : Hp, H0 = H := ⟨H, rfl⟩
    have O : Own H0 H [] := by rw [hH0]; exact Own.start H
    rw [← hH0] at k hp_a_2 hp_a_4
    clear hH0
    refine ⟨_, (pss_cons (ps_if (PW.pt (pw_or (pt_not (pt_val (pe_callB (r := rIsi K) call_isi (by rfl) T.z_isinstance (by decide +kernel) (pa_cons (pv 0) (pa_cons (pe_bltn (v := V.ty "list") (u := .type "list") (by rfl) T.z_list (by decide +kernel) rfl) pa_nil))))) (pw_or1 (pt_cmpR (r := rNeD K) (op_neD hr.units) (pv 0) (pv 1) (nomark _))))) (pss_one (ps_ret pe_bl)) pss_nil) (pss_cons (ps_for PassesOwn.never rfl (pi_list (pv 0)) (pg_name (i := 2) sc__law_alike.nd rfl (Or.inl rfl)) (pss_one (ps_if (PW.pt (pw_or (pt_not (pt_val (pe_callB (r := rIsi K) call_isi (by rfl) T.z_isinstance (by decide +kernel) (pa_cons (pv 2) (pa_cons (pe_bltn (v := V.ty "int") (u := .type "int") (by rfl) T.z_int (by decide +kernel) rfl) pa_nil))))) (pw_or1 (pt_val (pe_callB (r := rIsi K) call_isi (by rfl) T.z_isinstance (by decide +kernel) (pa_cons (pv 2) (pa_cons (pe_bltn (v := V.ty "bool") (u := .type "bool") (by rfl) T.z_bool (by decide +kernel) rfl) pa_nil))))))) (pss_one (ps_ret pe_bl)) pss_nil))) (pss_one (ps_ret pe_bl)))), ?_⟩
    -- 119
    refine o_seq ?_
    refine o_ifs ?_
    refine x_or (c := (!true)) (e := (!decide (found_1 = due_3))) (d := ((!true) || (!decide (found_1 = due_3)))) O (fun Q1 k1 => ?_) (fun h5 => ⟨by rw [h5]; rfl, fun H O Q2 k2 => ?_⟩) (fun h5 => by rw [h5]; rfl) (fun H O => ?_)
    · refine ⟨_, rfl, _, _, _, _, true, rfl, .ty _, .base (.lst (O.ex _ _ hp_a_2)), kit_ty (by decide +kernel), _, rfl, ?_⟩
      exact k1 _ O
    · refine ⟨_, rfl, _, rfl, ?_⟩
      refine k_neLI (SqL.of (O.ex _ _ hp_a_2)) (SqL.of (O.ex _ _ hp_a_4)) ?_
      refine ⟨_, rfl, ?_⟩
      exact k2 _ O
    refine iteS (c := ((!true) || (!decide (found_1 = due_3)))) (fun h6 => ?_) (fun h6 => ?_)
    · replace hm := ifT hm h6
      -- 120
      refine o_ret ?_
      refine o_c ?_
      obtain rfl := Option.some.inj hm
      exact RetV.go k O
    · replace hm := ifF hm h6
      refine o_next ?_
      -- 121
      refine o_seq ?_
      refine o_for ?_
      refine ⟨_, rfl, ?_⟩
      obtain ⟨out_13, h9, h10⟩ := bndE hm
      refine ⟨_, rfl, ⟨_, (SqL.of (O.ex _ _ hp_a_2))⟩, q_forL (f := V.int) (xs := found_1) (fun r σ H => ∃ (j_7 : Option V) (j_8 : Option V), σ = [some (.ref a_2), j_7, j_8] ∧ Own H0 H [] ∧ loopF (fun one_12 (_ : Unit) => m__law_alike_L0 one_12) r () = some out_13) ⟨_, _, rfl, O, h9⟩ (by rintro r σ H ⟨j_7, j_8, rfl, O, hL⟩; exact (SqL.of (O.ex _ _ hp_a_2))) ?_ ?_⟩
      · rintro one_12 r σ H ⟨j_7, j_8, rfl, O, hL⟩
        obtain ⟨s_, hm, h11⟩ := loopF_cons hL
        replace hm : m__law_alike_L0 one_12 = some s_ := hm
        unfold m__law_alike_L0 at hm
        -- 122
        refine o_ifs ?_
        refine x_or (c := (!true)) (e := false) (d := ((!true) || false)) O (fun Q1 k1 => ?_) (fun h16 => ⟨by rw [h16]; rfl, fun H O Q2 k2 => ?_⟩) (fun h16 => by rw [h16]; rfl) (fun H O => ?_)
        · refine ⟨_, rfl, _, _, _, _, true, rfl, .ty _, .base (.int _), kit_ty (by decide +kernel), _, rfl, ?_⟩
          exact k1 _ O
        · refine ⟨_, rfl, _, _, _, _, false, rfl, .ty _, .base (.int _), kit_ty (by decide +kernel), _, rfl, ?_⟩
          exact k2 _ O
        refine iteS (c := ((!true) || false)) (fun h17 => ?_) (fun h17 => ?_)
        · replace hm := ifT hm h17
          -- 123
          refine o_ret ?_
          refine o_c ?_
          obtain rfl := Option.some.inj hm
          obtain rfl := contRt h11
          obtain rfl := finRt h10
          exact RetV.go k O
        · replace hm := ifF hm h17
          refine o_next ?_
          have Oz := O
          obtain rfl := Option.some.inj hm
          exact ⟨_, _, rfl, Oz, h11⟩
      rintro σ H ⟨j_7, j_8, rfl, O, hL⟩
      obtain rfl := loopF_nil hL
      replace hm := finNx h10
      -- 124
      refine o_ret ?_
      refine o_c ?_
      obtain rfl := Option.some.inj hm
      exact RetV.go k O
def m__law_byte (script_1 : List Int) (k_3 : Int) : Option (Int) :=
  bnd (m__law_draw script_1 k_3 (256 : Int)) fun law_dr_4 =>
  bnd (m__law_draw script_1 (k_3 + (1 : Int)) (3 : Int)) fun law_dr_7 =>
  bnd (ifB (decide (law_dr_7 = (0 : Int))) (
    some ((law_dr_4 / (128 : Int)) * (255 : Int))) (
    some law_dr_4)) fun byte_13 =>
  some byte_13
def sp__law_byte (K : PySem.W.Frag) : Sp := fun vs H Q _ => ∃ (script_1 : List Int) (a_2 : Addr) (k_3 : Int) (r : Int), vs = [.ref a_2, .int k_3] ∧ SqL K H a_2 (List.map V.int script_1) ∧ m__law_byte script_1 k_3 = some r ∧ RetV (.int r) H Q
abbrev N__law_byte : List Str := ["script", "k", "byte"]
theorem sc__law_byte : FnScope N__law_byte ["script", "k"] (defScope s__law_byte) := ⟨rfl, rfl, rfl, by decide +kernel, rfl, by decide +kernel, by decide +kernel⟩
theorem ok__law_byte {ad : Ad} (T : Txt K mg ad) : FnOk P w K mg base CX0 2 ad.f__law_byte ad.fd__law_byte ["script", "k"] (sp__law_byte K) := by
  have G__law_draw := ok__law_draw (P := P) (w := w) (base := base) T
  refine T.F__law_byte.ok sc__law_byte (fun vs H Q E h => ?_) (fun cdv A outer s H vs Q E hr h => ?_)
  · obtain ⟨_, _, _, _, rfl, _⟩ := h
    rfl
  · obtain ⟨script_1, a_2, k_3, r, rfl, hp_a_2, hm, k⟩ := h
    unfold m__law_byte at hm
    obtain ⟨H0, hH0⟩ : ∃ H0 : Hp, H0 = H := ⟨H, rfl⟩
    have O : Own H0 H [] := by rw [hH0]; exact Own.start H
    rw [← hH0] at k hp_a_2
    clear hH0
    refine ⟨_, (pss_cons (ps_set (i := 2) sc__law_byte.nd rfl (Or.inl rfl) (pe_call G__law_draw (hr.mono (by decide)) (by rfl) T.g__law_draw T.F__law_draw.kp T.b__law_draw .nil pass0 (pa_cons (pv 0) (pa_cons (pv 1) (pa_cons pe_int pa_nil))))) (Evl.pss_cut (ps_if (pt_cmpR op_eq (pe_call G__law_draw (hr.mono (by decide)) (by rfl) T.g__law_draw T.F__law_draw.kp T.b__law_draw .nil pass0 (pa_cons (pv 0) (pa_cons (pe_op op_add (pv 1) pe_int) (pa_cons pe_int pa_nil)))) pe_int (nomark _)) (pss_one (ps_set (i := 2) sc__law_byte.nd rfl (Or.inl rfl) (pe_op op_mul (pe_op op_fdiv (pv 2) pe_int) pe_int))) pss_nil) (pss_one (ps_ret (pv 2))))), ?_⟩
    -- 97
    refine o_seq ?_
    refine o_asg ?_
    obtain ⟨law_dr_4, h5, hm⟩ := bndE hm
    refine ⟨_, rfl, _, rfl, ?_⟩
    refine o_cons ?_
    refine o_c ?_
    refine x_nil ?_
    refine ⟨_, _, _, _, law_dr_4, rfl, (O.ex.l hp_a_2), h5, ?_⟩
    refine O.retV fun H O => ?_
    -- 98
    obtain ⟨law_dr_7, h8, hm⟩ := bndE hm
    obtain ⟨byte_13, h10, hm⟩ := bndE hm
    refine o_cut (fun σ H => ∃ (j_11 : Option V) (j_12 : Option V), σ = [j_11, j_12, some (.int byte_13)] ∧ Own H0 H []) ?_ ?_
    · refine o_ifs ?_
      refine ⟨_, rfl, _, rfl, _, _, rfl, rfl, ?_⟩
      refine o_cons ?_
      refine o_c ?_
      refine x_nil ?_
      refine ⟨_, _, _, _, law_dr_7, rfl, (O.ex.l hp_a_2), h8, ?_⟩
      refine O.retV fun H O => ?_
      refine o_c ?_
      refine k_eqI ?_
      refine ⟨_, rfl, ?_⟩
      refine iteS (c := (decide (law_dr_7 = (0 : Int)))) (fun h9 => ?_) (fun h9 => ?_)
      · replace hm := ifT h10 h9
        -- 99
        refine o_asg ?_
        refine ⟨_, rfl, _, _, rfl, rfl, ⟨by decide, by decide⟩, _, _, rfl, rfl, .inr ⟨by decide, by decide⟩, ?_⟩
        have Oz := O
        have hq_ := Option.some.inj hm
        subst hq_
        exact ⟨_, _, rfl, Oz⟩
      · replace hm := ifF h10 h9
        refine o_next ?_
        have Oz := O
        have hq_ := Option.some.inj hm
        subst hq_
        exact ⟨_, _, rfl, Oz⟩
    rintro σ H ⟨j_11, j_12, rfl, O⟩
    -- 100
    refine o_ret ?_
    refine ⟨_, rfl, ?_⟩
    obtain rfl := Option.some.inj hm
    exact RetV.go k O
def m__law_bits_C0 (number_1 : Int) (many_2 : Int) (k_5 : Int) : Option Int :=
  bnd (shrG number_1 ((many_2 - (1 : Int)) - k_5)) fun t_10 =>
  some (Builtin.bitAnd t_10 (1 : Int))
def m__law_bits (number_1 : Int) (many_2 : Int) : Option (List Int) :=
  bnd (rng1 many_2) fun rg_3 =>
  bnd (compM (m__law_bits_C0 number_1 many_2) rg_3 []) fun l_7 =>
  some l_7
def sp__law_bits (K : PySem.W.Frag) : Sp := fun vs H Q _ => ∃ (number_1 : Int) (many_2 : Int) (r : List Int), vs = [.int number_1, .int many_2] ∧ m__law_bits number_1 many_2 = some r ∧ RetL (List.map V.int r) H Q
abbrev N__law_bits : List Str := ["number", "many", "k"]
theorem sc__law_bits : FnScope N__law_bits ["number", "many"] (defScope s__law_bits) := ⟨rfl, rfl, rfl, by decide +kernel, rfl, by decide +kernel, by decide +kernel⟩
theorem ok__law_bits {ad : Ad} (T : Txt K mg ad) : FnOk P w K mg base CX0 1 ad.f__law_bits ad.fd__law_bits ["number", "many"] (sp__law_bits K) := by
  refine T.F__law_bits.ok sc__law_bits (fun vs H Q E h => ?_) (fun cdv A outer s H vs Q E hr h => ?_)
  · obtain ⟨_, _, _, rfl, _⟩ := h
    rfl
  · obtain ⟨number_1, many_2, r, rfl, hm, k⟩ := h
    unfold m__law_bits at hm
    obtain ⟨H0, hH0⟩ : ∃ H0 : Hp, H0 = H := ⟨H, rfl⟩
    have O : Own H0 H [] := by rw [hH0]; exact Own.start H
    rw [← hH0] at k
    clear hH0
    refine ⟨_, (pss_one (ps_ret (pe_lc (own := [("k", 2)]) (g := gName 2) (tt := tYes) rfl sc__law_bits.nd (pi_range1 (by rfl) T.z_range (pa_cons (pv 1) pa_nil)) (blkOk_by (own := [("k", 2)]) (N := N__law_bits) (sc := defScope s__law_bits) (by decide +kernel)) (fun _ _ _ _ _ => pg_name (i := 2) sc__law_bits.nd rfl (Or.inl rfl)) (fun _ _ _ _ _ => pts_nil) (fun _ _ _ _ _ => (pe_op op_and (pe_op op_shr (pv 0) (pe_op op_sub (pe_op op_sub (pv 1) pe_int) (pv 2))) pe_int))))), ?_⟩
    -- 95
    refine o_ret ?_
    obtain ⟨rg_3, h4, hm⟩ := bndE hm
    refine ⟨_, rfl, ?_⟩
    refine x_nil ?_
    obtain ⟨c1, c2, rfl⟩ := rng1E h4
    obtain ⟨l_7, h8, hm⟩ := bndE hm
    refine ⟨_, rfl, c1, c2, fun p_9 hD => k_lcR (fun r H => ∃ acc : List Int, Own H0 H ((p_9, .lst (List.map V.int acc)) :: []) ∧ compM (m__law_bits_C0 number_1 many_2) r acc = some l_7) ⟨[], O.new hD, h8⟩ ?_ ?_⟩
    · rintro k_5 r H ⟨acc, O, hC⟩
      obtain ⟨y, hm, hz, hC⟩ := compM_cons hC
      refine ⟨rfl, ?_⟩
      unfold m__law_bits_C0 at hm
      obtain ⟨t_10, h11, hm⟩ := bndE hm
      refine ⟨_, rfl, _, rfl, _, _, rfl, rfl, _, rfl, _, _, rfl, rfl, ?_⟩
      refine k_shr h11 ?_
      refine ⟨_, _, rfl, rfl, ?_⟩
      obtain rfl := Option.some.inj hm
      refine ⟨_, O.mem (List.Mem.head _), (by rw [List.length_map]; exact hz), _, ?_, hC⟩
      rw [map_snoc]
      exact O.put0
    rintro H ⟨acc, O, hC⟩
    obtain rfl := compM_nil hC
    obtain rfl := Option.some.inj hm
    exact RetL.go k O (List.Mem.head _)
def m__law_plain_L0  (byte_40 : Int) (bits_33 : List Int) : Option ((List Int)) :=
  bnd (m__law_bits byte_40 (8 : Int)) fun law_bi_44 =>
  bnd (catG bits_33 law_bi_44) fun t_47 =>
  some t_47
def m__law_plain_L1  (bit_65 : Int) (rest_59 : Int) : Option (Int) :=
  ltv (((rest_59 * (2 : Int)) + bit_65)) fun rest_69 =>
  ifB (decide ((32768 : Int) ≤ rest_69)) (
    some (Builtin.bitXor rest_69 (64647 : Int))) (
    some rest_69)
def m__law_plain (frame_1 : Int × (List Int)) : Option (List Int) :=
  bnd (m__law_bits frame_1.1 (8 : Int)) fun law_bi_9 =>
  bnd (catG ([(0 : Int)]) law_bi_9) fun t_12 =>
  bnd (m__law_bits (List.length frame_1.2 : Int) (3 : Int)) fun law_bi_21 =>
  bnd (catG t_12 law_bi_21) fun t_24 =>
  bnd (loopM (fun byte_40 s => m__law_plain_L0 byte_40 s) frame_1.2 t_24) fun bits_36 =>
  bnd (repG ([(0 : Int)]) (15 : Int)) fun t_51 =>
  bnd (catG bits_36 t_51) fun t_54 =>
  bnd (loopM (fun bit_65 s => m__law_plain_L1 bit_65 s) t_54 (0 : Int)) fun rest_61 =>
  bnd (m__law_bits rest_61 (15 : Int)) fun law_bi_72 =>
  bnd (catG bits_36 law_bi_72) fun t_75 =>
  some t_75
def sp__law_plain (K : PySem.W.Frag) : Sp := fun vs H Q _ => ∃ (frame_1 : Int × (List Int)) (a_2 : Addr) (r : List Int), vs = [.ref a_2] ∧ (rT2 rI (rL rI)) H (.ref a_2) frame_1 ∧ m__law_plain frame_1 = some r ∧ RetL (List.map V.int r) H Q
abbrev N__law_plain : List Str := ["frame", "bits", "byte", "rest", "bit"]
theorem sc__law_plain : FnScope N__law_plain ["frame"] (defScope s__law_plain) := ⟨rfl, rfl, rfl, by decide +kernel, rfl, by decide +kernel, by decide +kernel⟩
theorem ok__law_plain {ad : Ad} (T : Txt K mg ad) : FnOk P w K mg base CX0 2 ad.f__law_plain ad.fd__law_plain ["frame"] (sp__law_plain K) := by
  have G__law_bits := ok__law_bits (P := P) (w := w) (base := base) T
  refine T.F__law_plain.ok sc__law_plain (fun vs H Q E h => ?_) (fun cdv A outer s H vs Q E hr h => ?_)
  · obtain ⟨_, _, _, rfl, _⟩ := h
    rfl
  · obtain ⟨frame_1, a_2, r, rfl, hn_a_2, hm, k⟩ := h
    unfold m__law_plain at hm
    obtain ⟨H0, hH0⟩ : ∃ H0 : Hp, H0 = H := ⟨H, rfl⟩
    have O : Own H0 H [] := by rw [hH0]; exact Own.start H
    rw [← hH0] at k hn_a_2
    clear hH0
    refine ⟨_, (pss_cons (ps_set (i := 1) sc__law_plain.nd rfl (Or.inl rfl) (pe_op op_cat (pe_op op_cat (pe_lstQ (pe_lst (pa_cons pe_int pa_nil))) (pe_call G__law_bits (hr.mono (by decide)) (by rfl) T.g__law_bits T.F__law_bits.kp T.b__law_bits .nil pass0 (pa_cons (pe_ix (r := rIxT K) ix_tup (pv 0) pe_int (fun _ _ => rfl)) (pa_cons pe_int pa_nil)))) (pe_call G__law_bits (hr.mono (by decide)) (by rfl) T.g__law_bits T.F__law_bits.kp T.b__law_bits .nil pass0 (pa_cons (pe_callB (r := rLenQ K) call_lenQ (by rfl) T.z_len PySem.boot_len (pa_cons (pe_ix (r := rIxT K) ix_tup (pv 0) pe_int (fun _ _ => rfl)) pa_nil)) (pa_cons pe_int pa_nil))))) (pss_cons (ps_for PassesOwn.never rfl (pi_list (pe_ix (r := rIxT K) ix_tup (pv 0) pe_int (fun _ _ => rfl))) (pg_name (i := 2) sc__law_plain.nd rfl (Or.inl rfl)) (pss_one (ps_set (i := 1) sc__law_plain.nd rfl (Or.inl rfl) (pe_op op_cat (pv 1) (pe_call G__law_bits (hr.mono (by decide)) (by rfl) T.g__law_bits T.F__law_bits.kp T.b__law_bits .nil pass0 (pa_cons (pv 2) (pa_cons pe_int pa_nil))))))) (pss_cons (ps_set (i := 3) sc__law_plain.nd rfl (Or.inl rfl) pe_int) (pss_cons (ps_for PassesOwn.never rfl (pi_list (pe_op op_cat (pv 1) (pe_op op_rep (pe_lstQ (pe_lst (pa_cons pe_int pa_nil))) pe_int))) (pg_name (i := 4) sc__law_plain.nd rfl (Or.inl rfl)) (pss_cons (ps_set (i := 3) sc__law_plain.nd rfl (Or.inl rfl) (pe_op op_add (pe_op op_mul (pv 3) pe_int) (pv 4))) (pss_one (ps_if (pt_cmpR op_ge (pv 3) pe_int (nomark _)) (pss_one (ps_set (i := 3) sc__law_plain.nd rfl (Or.inl rfl) (pe_op op_xor (pv 3) pe_int))) pss_nil)))) (pss_one (ps_ret (pe_op op_cat (pv 1) (pe_call G__law_bits (hr.mono (by decide)) (by rfl) T.g__law_bits T.F__law_bits.kp T.b__law_bits .nil pass0 (pa_cons (pv 3) (pa_cons pe_int pa_nil)))))))))), ?_⟩
    -- 102
    refine o_seq ?_
    refine o_asg ?_
    refine o_op ?_
    refine o_op ?_
    refine o_cons ?_
    refine o_c ?_
    refine x_nil ?_
    refine n_lst (f := V.int) (xs := [(0 : Int)]) O rfl (by show 1 ≤ sizeLine; decide) fun p_3 H O => ?_
    refine ⟨_, rfl, ?_⟩
    refine o_c ?_
    obtain ⟨w_4, w_5, h6, h7, h8⟩ := rT2_at hn_a_2
    refine k_ixT (xs := [w_4, w_5]) (SqT.of (O.ex _ _ h6)) rfl ?_
    obtain rfl := h7
    obtain ⟨law_bi_9, h10, hm⟩ := bndE hm
    refine o_cons ?_
    refine o_c ?_
    refine x_nil ?_
    refine ⟨_, _, law_bi_9, rfl, h10, ?_⟩
    refine O.retL fun p_11 H O => ?_
    obtain ⟨t_12, h13, hm⟩ := bndE hm
    refine k_cat (f := V.int) O (O.mem (List.Mem.tail _ (List.Mem.head _))) (O.mem (List.Mem.head _)) h13 fun p_14 H O => ?_
    refine ⟨_, rfl, ?_⟩
    refine o_c ?_
    obtain ⟨w_15, w_16, h17, h18, h19⟩ := rT2_at hn_a_2
    refine k_ixT (xs := [w_15, w_16]) (SqT.of (O.ex _ _ h17)) rfl ?_
    obtain ⟨p_20, rfl, hp_p_20⟩ := fI h19
    refine x_nil ?_
    refine n_len (SqL.of (O.ex _ _ hp_p_20)) ?_
    obtain ⟨law_bi_21, h22, hm⟩ := bndE hm
    refine o_cons ?_
    refine o_c ?_
    refine x_nil ?_
    refine ⟨_, _, law_bi_21, rfl, h22, ?_⟩
    refine O.retL fun p_23 H O => ?_
    obtain ⟨t_24, h25, hm⟩ := bndE hm
    refine k_cat (f := V.int) O (O.mem (List.Mem.tail _ (List.Mem.head _))) (O.mem (List.Mem.head _)) h25 fun p_26 H O => ?_
    -- 103
    refine o_seq ?_
    refine o_for ?_
    refine ⟨_, rfl, ?_⟩
    refine o_c ?_
    obtain ⟨w_27, w_28, h29, h30, h31⟩ := rT2_at hn_a_2
    refine k_ixT (xs := [w_27, w_28]) (SqT.of (O.ex _ _ h29)) rfl ?_
    obtain ⟨p_32, rfl, hp_p_32⟩ := fI h31
    obtain ⟨bits_36, h37, hm⟩ := bndE hm
    refine ⟨_, rfl, ⟨_, (SqL.of (O.ex _ _ hp_p_32))⟩, q_forL (f := V.int) (xs := frame_1.2) (fun r σ H => ∃ (p_34 : Addr) (bits_33 : List Int) (j_35 : Option V), σ = [some (.ref a_2), some (.ref p_34), j_35, none, none] ∧ Own H0 H [(p_34, .lst (List.map V.int bits_33))] ∧ loopM (fun byte_40 s => m__law_plain_L0 byte_40 s) r bits_33 = some bits_36) ⟨p_26, _, _, rfl, (O.sel (L' := [(p_26, .lst (List.map V.int t_24))]) [0] (by decide) rfl), h37⟩ (by rintro r σ H ⟨p_34, bits_33, j_35, rfl, O, hL⟩; exact (SqL.of (O.ex _ _ hp_p_32))) ?_ ?_⟩
    · rintro byte_40 r σ H ⟨p_34, bits_33, j_35, rfl, O, hL⟩
      obtain ⟨s_, hm, h39⟩ := loopM_cons hL
      replace hm : m__law_plain_L0 byte_40 bits_33 = some s_ := hm
      unfold m__law_plain_L0 at hm
      -- 104
      refine o_asg ?_
      obtain ⟨law_bi_44, h45, hm⟩ := bndE hm
      refine ⟨_, rfl, _, rfl, ?_⟩
      refine o_cons ?_
      refine o_c ?_
      refine x_nil ?_
      refine ⟨_, _, law_bi_44, rfl, h45, ?_⟩
      refine O.retL fun p_46 H O => ?_
      obtain ⟨t_47, h48, hm⟩ := bndE hm
      refine k_cat (f := V.int) O (O.mem (List.Mem.tail _ (List.Mem.head _))) (O.mem (List.Mem.head _)) h48 fun p_49 H O => ?_
      have Oz := O
      obtain rfl := Option.some.inj hm
      exact ⟨p_49, _, _, rfl, (Oz.sel (L' := [(p_49, .lst (List.map V.int t_47))]) [0] (by decide) rfl), h39⟩
    rintro σ H ⟨p_34, bits_33, j_35, rfl, O, hL⟩
    cases loopM_nil hL
    -- 105
    refine o_seq ?_
    refine o_asg ?_
    refine o_c ?_
    -- 106
    refine o_seq ?_
    refine o_for ?_
    refine ⟨_, rfl, ?_⟩
    refine o_op ?_
    refine o_cons ?_
    refine o_c ?_
    refine x_nil ?_
    refine n_lst (f := V.int) (xs := [(0 : Int)]) O rfl (by show 1 ≤ sizeLine; decide) fun p_50 H O => ?_
    obtain ⟨t_51, h52, hm⟩ := bndE hm
    refine o_c ?_
    refine k_rep (f := V.int) O (O.mem (List.Mem.head _)) h52 fun p_53 H O => ?_
    obtain ⟨t_54, h55, hm⟩ := bndE hm
    refine k_cat (f := V.int) O (O.mem (List.Mem.tail _ (List.Mem.tail _ (List.Mem.head _)))) (O.mem (List.Mem.head _)) h55 fun p_56 H O => ?_
    obtain ⟨rest_61, h62, hm⟩ := bndE hm
    refine ⟨_, rfl, ⟨_, (SqL.of (O.mem (List.Mem.head _)))⟩, q_forL (f := V.int) (xs := t_54) (fun r σ H => ∃ (rest_59 : Int) (j_57 : Option V) (j_58 : Option V) (j_60 : Option V), σ = [j_57, some (.ref p_34), j_58, some (.int rest_59), j_60] ∧ Own H0 H [(p_34, .lst (List.map V.int bits_36)), (p_56, .lst (List.map V.int t_54)), (p_53, .lst (List.map V.int t_51)), (p_50, .lst (List.map V.int ([(0 : Int)])))] ∧ loopM (fun bit_65 s => m__law_plain_L1 bit_65 s) r rest_59 = some rest_61) ⟨_, _, _, _, rfl, (O.sel (L' := [(p_34, .lst (List.map V.int bits_36)), (p_56, .lst (List.map V.int t_54)), (p_53, .lst (List.map V.int t_51)), (p_50, .lst (List.map V.int ([(0 : Int)])))]) [3, 0, 1, 2] (by decide) rfl), h62⟩ (by rintro r σ H ⟨rest_59, j_57, j_58, j_60, rfl, O, hL⟩; exact (SqL.of (O.mem (List.Mem.tail _ (List.Mem.head _))))) ?_ ?_⟩
    · rintro bit_65 r σ H ⟨rest_59, j_57, j_58, j_60, rfl, O, hL⟩
      obtain ⟨s_, hm, h64⟩ := loopM_cons hL
      replace hm : m__law_plain_L1 bit_65 rest_59 = some s_ := hm
      unfold m__law_plain_L1 at hm
      -- 107
      refine o_seq ?_
      refine o_asg ?_
      refine ⟨_, rfl, _, _, rfl, rfl, .inr ⟨by decide, by decide⟩, _, rfl, _, _, rfl, rfl, ?_⟩
      obtain ⟨rest_69, h70, hm⟩ := ltvE hm
      refine a_set (congrArg V.int h70) ?_
      -- 108
      refine o_ifs ?_
      refine ⟨_, rfl, _, _, rfl, rfl, _, rfl, ?_⟩
      refine iteS (c := decide ((32768 : Int) ≤ rest_69)) (fun h71 => ?_) (fun h71 => ?_)
      · replace hm := ifT hm h71
        -- 109
        refine o_asg ?_
        refine ⟨_, rfl, _, _, rfl, rfl, ?_⟩
        have Oz := O
        obtain rfl := Option.some.inj hm
        exact ⟨_, _, _, _, rfl, Oz, h64⟩
      · replace hm := ifF hm h71
        refine o_next ?_
        have Oz := O
        obtain rfl := Option.some.inj hm
        exact ⟨_, _, _, _, rfl, Oz, h64⟩
    rintro σ H ⟨rest_59, j_57, j_58, j_60, rfl, O, hL⟩
    cases loopM_nil hL
    replace O := (O.sel (L' := [(p_34, .lst (List.map V.int bits_36))]) [0] (by decide) rfl)
    -- 110
    refine o_ret ?_
    obtain ⟨law_bi_72, h73, hm⟩ := bndE hm
    refine ⟨_, rfl, _, rfl, ?_⟩
    refine o_cons ?_
    refine o_c ?_
    refine x_nil ?_
    refine ⟨_, _, law_bi_72, rfl, h73, ?_⟩
    refine O.retL fun p_74 H O => ?_
    obtain ⟨t_75, h76, hm⟩ := bndE hm
    refine k_cat (f := V.int) O (O.mem (List.Mem.tail _ (List.Mem.head _))) (O.mem (List.Mem.head _)) h76 fun p_77 H O => ?_
    obtain rfl := Option.some.inj hm
    exact RetL.go k O (List.Mem.head _)
def m_Reader_plain (self_1 : S_Reader) : Option (List Int) :=
  some self_1.kept
def sp_Reader_plain (K : PySem.W.Frag) (ad : Ad) : Sp := fun vs H Q _ => ∃ (self_1 : S_Reader) (a_2 : Addr) (L_3 : List Cell) (R0 : Hp) (r : List Int), vs = [.ref a_2] ∧ Own R0 H (L_3 ++ []) ∧ (o_Reader ad) R0 a_2 L_3 self_1 ∧ m_Reader_plain self_1 = some r ∧ RetX R0 (hsub H (L_3 ++ [])) (dK L_3 (dLs (List.map V.int r))) Q
abbrev N_Reader_plain : List Str := ["self"]
theorem sc_Reader_plain : FnScope N_Reader_plain ["self"] (defScope s_Reader_plain) := ⟨rfl, rfl, rfl, by decide +kernel, rfl, by decide +kernel, by decide +kernel⟩
theorem ok_Reader_plain {ad : Ad} (T : Txt K mg ad) : FnOk P w K mg base CX0 1 ad.f_Reader_plain ad.fd_Reader_plain ["self"] (sp_Reader_plain K ad) := by
  refine T.F_Reader_plain.ok sc_Reader_plain (fun vs H Q E h => ?_) (fun cdv A outer s H vs Q E hr h => ?_)
  · obtain ⟨_, _, _, _, _, rfl, _⟩ := h
    rfl
  · obtain ⟨self_1, a_2, L_3, R0, r, rfl, OO, hb_a_2, hm, k⟩ := h
    unfold m_Reader_plain at hm
    obtain ⟨Hb, hHb⟩ : ∃ Hb : Hp, Hb = hsub H (L_3 ++ []) := ⟨_, rfl⟩
    obtain ⟨H0, hH0⟩ : ∃ H0 : Hp, H0 = Hb := ⟨Hb, rfl⟩
    have O : Own H0 H (L_3 ++ []) := by rw [hH0, hHb]; exact OO.startX
    have eR : Ex R0 Hb := by rw [hHb]; exact OO.subR
    rw [← hHb] at k
    have eB : Ex Hb H0 := by rw [hH0]; exact Ex.refl _
    have eS : Ex R0 (ovr R0 Hb H0) := by rw [hH0]; exact ovr_start eR
    replace hb_a_2 := (mo_Reader ad) _ _ _ _ _ eS hb_a_2
    clear hH0
    refine ⟨_, (pss_one (ps_ret (pe_callTy (r := rListQ K) call_listQ (by rfl) T.z_list (by decide +kernel) (pa_cons (pe_fld (pv 0) rfl) pa_nil)))), ?_⟩
    obtain ⟨dx_4, p_5, rfl⟩ := hb_a_2
    replace O : Own H0 H [(a_2, .ins ad.c_Reader dx_4 [("kept", .ref p_5), ("last", .int self_1.last), ("alike", .int self_1.alike), ("latest", .str self_1.latest)]), (dx_4, .own a_2), (p_5, .lst (List.map V.int self_1.kept))] := Own.cv O (by first | with_reducible rfl | simp only [List.map_nil, List.flatten_cons, List.flatten_nil, List.cons_append, List.nil_append, List.append_nil, List.append_assoc])
    -- 83
    refine o_ret ?_
    refine ⟨_, rfl, a_2, ad.c_Reader, dx_4, [("kept", .ref p_5), ("last", .int self_1.last), ("alike", .int self_1.alike), ("latest", .str self_1.latest)], (.ref p_5), rfl, (O.mem (List.Mem.head _)), T.C_Reader, T.N_Reader_kept, lk_hit, ?_⟩
    refine x_nil ?_
    refine n_list O (SqL.of (O.mem (List.Mem.tail _ (List.Mem.tail _ (List.Mem.head _))))) fun p_6 H O => ?_
    obtain rfl := Option.some.inj hm
    exact k _ _ H0 (((a_2, .ins ad.c_Reader dx_4 [("kept", .ref p_5), ("last", .int self_1.last), ("alike", .int self_1.alike), ("latest", .str self_1.latest)]) :: (dx_4, .own a_2) :: ((p_5, .lst (List.map V.int self_1.kept)) :: [])) ++ [(p_6, .lst (List.map V.int self_1.kept))]) eB (Own.cv (O.sel (L' := [(a_2, .ins ad.c_Reader dx_4 [("kept", .ref p_5), ("last", .int self_1.last), ("alike", .int self_1.alike), ("latest", .str self_1.latest)]), (dx_4, .own a_2), (p_5, .lst (List.map V.int self_1.kept)), (p_6, .lst (List.map V.int self_1.kept))]) [1, 2, 3, 0] (by decide) rfl) (by first | with_reducible rfl | simp only [List.map_nil, List.flatten_cons, List.flatten_nil, List.cons_append, List.nil_append, List.append_nil, List.append_assoc])) ⟨_, rfl, ⟨_, rfl, rfl⟩⟩
def m_number_of_L0  (bit_9 : Int) (number_3 : Int) : Option (Int) :=
  bnd (shlG number_3 (1 : Int)) fun t_13 =>
  some (Builtin.bitOr t_13 bit_9)
def m_number_of (bits_1 : List Int) : Option (Int) :=
  bnd (loopM (fun bit_9 s => m_number_of_L0 bit_9 s) bits_1 (0 : Int)) fun number_5 =>
  some number_5
def sp_number_of (K : PySem.W.Frag) : Sp := fun vs H Q _ => ∃ (bits_1 : List Int) (a_2 : Addr) (r : Int), vs = [.ref a_2] ∧ H a_2 = some (.lst (List.map V.int bits_1)) ∧ m_number_of bits_1 = some r ∧ RetV (.int r) H Q
abbrev N_number_of : List Str := ["bits", "number", "bit"]
theorem sc_number_of : FnScope N_number_of ["bits"] (defScope s_number_of) := ⟨rfl, rfl, rfl, by decide +kernel, rfl, by decide +kernel, by decide +kernel⟩
theorem ok_number_of {ad : Ad} (T : Txt K mg ad) : FnOk P w K mg base CX0 1 ad.f_number_of ad.fd_number_of ["bits"] (sp_number_of K) := by
  refine T.F_number_of.ok sc_number_of (fun vs H Q E h => ?_) (fun cdv A outer s H vs Q E hr h => ?_)
  · obtain ⟨_, _, _, rfl, _⟩ := h
    rfl
  · obtain ⟨bits_1, a_2, r, rfl, hp_a_2, hm, k⟩ := h
    unfold m_number_of at hm
    obtain ⟨H0, hH0⟩ : ∃ H0 : Hp, H0 = H := ⟨H, rfl⟩
    have O : Own H0 H [] := by rw [hH0]; exact Own.start H
    rw [← hH0] at k hp_a_2
    clear hH0
    refine ⟨_, (pss_cons (ps_set (i := 1) sc_number_of.nd rfl (Or.inl rfl) pe_int) (pss_cons (ps_for PassesOwn.never rfl (pi_list (pv 0)) (pg_name (i := 2) sc_number_of.nd rfl (Or.inl rfl)) (pss_one (ps_set (i := 1) sc_number_of.nd rfl (Or.inl rfl) (pe_op op_or (pe_op op_shlW (pv 1) pe_int) (pv 2))))) (pss_one (ps_ret (pv 1))))), ?_⟩
    -- 13
    refine o_seq ?_
    refine o_asg ?_
    refine o_c ?_
    -- 14
    refine o_seq ?_
    refine o_for ?_
    refine ⟨_, rfl, ?_⟩
    obtain ⟨number_5, h6, hm⟩ := bndE hm
    refine ⟨_, rfl, ⟨_, (SqL.of (O.ex _ _ hp_a_2))⟩, q_forL (f := V.int) (xs := bits_1) (fun r σ H => ∃ (number_3 : Int) (j_4 : Option V), σ = [some (.ref a_2), some (.int number_3), j_4] ∧ Own H0 H [] ∧ loopM (fun bit_9 s => m_number_of_L0 bit_9 s) r number_3 = some number_5) ⟨_, _, rfl, O, h6⟩ (by rintro r σ H ⟨number_3, j_4, rfl, O, hL⟩; exact (SqL.of (O.ex _ _ hp_a_2))) ?_ ?_⟩
    · rintro bit_9 r σ H ⟨number_3, j_4, rfl, O, hL⟩
      obtain ⟨s_, hm, h8⟩ := loopM_cons hL
      replace hm : m_number_of_L0 bit_9 number_3 = some s_ := hm
      unfold m_number_of_L0 at hm
      -- 15
      refine o_asg ?_
      obtain ⟨t_13, h14, hm⟩ := bndE hm
      refine ⟨_, rfl, ?_⟩
      refine o_c ?_
      refine k_shl h14 ?_
      refine ⟨_, rfl, _, _, rfl, rfl, ?_⟩
      have Oz := O
      obtain rfl := Option.some.inj hm
      exact ⟨_, _, rfl, Oz, h8⟩
    rintro σ H ⟨number_3, j_4, rfl, O, hL⟩
    cases loopM_nil hL
    -- 16
    refine o_ret ?_
    refine ⟨_, rfl, ?_⟩
    obtain rfl := Option.some.inj hm
    exact RetV.go k O
def m_divided_W0c (key_2 : Int) (size_4 : Int) (number_6 : Int) (whole_7 : Int) : Option Bool :=
  some (decide (size_4 ≤ (Builtin.Int.intBits number_6 : Int)))
def m_divided_W0 (key_2 : Int) (size_4 : Int) (number_6 : Int) (whole_7 : Int) : Option (Int × Int) :=
  ltv (((Builtin.Int.intBits number_6 : Int) - size_4)) fun at_12 =>
  bnd (shlG (1 : Int) at_12) fun t_14 =>
  ltv ((Builtin.bitXor whole_7 t_14)) fun whole_16 =>
  bnd (shlG key_2 at_12) fun t_18 =>
  some ((Builtin.bitXor number_6 t_18), whole_16)
def m_divided (number_1 : Int) (key_2 : Int) : Option (Rs (Int × Int)) :=
  ifB (decide (key_2 = (0 : Int))) (
    some (.er .NoKey)) (
    ltv ((Builtin.Int.intBits key_2 : Int)) fun size_4 =>
    bnd (whileM (fun s => m_divided_W0c key_2 size_4 s.1 s.2) (fun s => m_divided_W0 key_2 size_4 s.1 s.2) FUEL (number_1, (0 : Int))) fun (number_9, whole_10) =>
    some (.ok (whole_10, number_9)))
def sp_divided (K : PySem.W.Frag) (d : Eds) : Sp := fun vs H Q E => ∃ (number_1 : Int) (key_2 : Int) (r : Rs (Int × Int)), vs = [.int number_1, .int key_2] ∧ m_divided number_1 key_2 = some r ∧ RetR (fun r => RetT [V.int r.1, V.int r.2] H Q) d r H E
abbrev N_divided : List Str := ["number", "key", "whole", "size", "at"]
theorem sc_divided : FnScope N_divided ["number", "key"] (defScope s_divided) := ⟨rfl, rfl, rfl, by decide +kernel, rfl, by decide +kernel, by decide +kernel⟩
theorem ok_divided {ad : Ad} (T : Txt K mg ad) : FnOk P w K mg base (L2N.CX P w) 1 ad.f_divided ad.fd_divided ["number", "key"] (sp_divided K ad.es) := by
  refine okN T.F_divided sc_divided (fun vs H Q E h => ?_) (fun cdv A outer s H vs Q E hr h => ?_)
  · obtain ⟨_, _, _, rfl, _⟩ := h
    rfl
  · obtain ⟨number_1, key_2, r, rfl, hm, k⟩ := h
    unfold m_divided at hm
    obtain ⟨H0, hH0⟩ : ∃ H0 : Hp, H0 = H := ⟨H, rfl⟩
    have O : Own H0 H [] := by rw [hH0]; exact Own.start H
    rw [← hH0] at k
    clear hH0
    refine ⟨_, (pss_cons (ps_if (pt_cmpR op_eq (pv 1) pe_int (nomark _)) (pss_one (ps_errN T.e_NoKey (L2N.takes_of rfl rfl rfl rfl) rfl rfl)) pss_nil) (pss_cons (ps_set (i := 2) sc_divided.nd rfl (Or.inl rfl) pe_int) (pss_cons (ps_set (i := 3) sc_divided.nd rfl (Or.inl rfl) (pe_bits (pv 1))) (pss_cons (ps_while (passes_of rfl) (pt_cmpR op_ge (pe_bits (pv 0)) (pv 3) (nomark _)) (pss_cons (ps_set (i := 4) sc_divided.nd rfl (Or.inl rfl) (pe_op op_sub (pe_bits (pv 0)) (pv 3))) (pss_cons (ps_set (i := 2) sc_divided.nd rfl (Or.inl rfl) (pe_op op_xor (pv 2) (pe_op op_shlW pe_int (pv 4)))) (pss_one (ps_set (i := 0) sc_divided.nd rfl (Or.inl rfl) (pe_op op_xor (pv 0) (pe_op op_shlW (pv 1) (pv 4)))))))) (pss_one (ps_ret (pe_tupQ (pe_tup (pa_cons (pv 2) (pa_cons (pv 0) pa_nil)))))))))), ?_⟩
    -- 19
    refine o_seq ?_
    refine o_ifs ?_
    refine ⟨_, rfl, ?_⟩
    refine o_c ?_
    refine k_eqI ?_
    refine ⟨_, rfl, ?_⟩
    refine iteS (c := (decide (key_2 = (0 : Int)))) (fun h3 => ?_) (fun h3 => ?_)
    · replace hm := ifT hm h3
      -- 20
      obtain rfl := Option.some.inj hm
      exact k _ O.ex
    · replace hm := ifF hm h3
      refine o_next ?_
      -- 21
      refine o_seq ?_
      refine o_asg ?_
      refine o_c ?_
      -- 22
      refine o_seq ?_
      refine o_asg ?_
      refine ⟨_, rfl, _, rfl, ?_⟩
      obtain ⟨size_4, h5, hm⟩ := ltvE hm
      refine a_set (congrArg V.int h5) ?_
      -- 23
      refine o_seq ?_
      obtain ⟨⟨number_9, whole_10⟩, h11, hm⟩ := bndE hm
      refine o_while (fun m σ H => ∃ (number_6 : Int) (whole_7 : Int) (j_8 : Option V), σ = [some (.int number_6), some (.int key_2), some (.int whole_7), some (.int size_4), j_8] ∧ Own H0 H [] ∧ whileM (fun s => m_divided_W0c key_2 size_4 s.1 s.2) (fun s => m_divided_W0 key_2 size_4 s.1 s.2) m (number_6, whole_7) = some (number_9, whole_10)) FUEL ⟨_, _, _, rfl, O, h11⟩ ?_ ?_
      · rintro σ H ⟨number_6, whole_7, j_8, rfl, O, hL⟩
        exact whileM_zero hL
      rintro m σ H ⟨number_6, whole_7, j_8, rfl, O, hL⟩
      have h21 := hm
      obtain ⟨b_, hm, hL⟩ := whileM_succ hL
      replace hm : m_divided_W0c key_2 size_4 number_6 whole_7 = some b_ := hm
      unfold m_divided_W0c at hm
      refine ⟨_, rfl, _, rfl, _, rfl, _, _, rfl, rfl, _, rfl, ?_⟩
      obtain rfl := Option.some.inj hm
      refine iteS (c := decide (size_4 ≤ (Builtin.Int.intBits number_6 : Int))) (fun h20 => ?_) (fun h20 => ?_)
      · obtain ⟨s_, hm, hL⟩ := bndE (ifT hL h20)
        replace hm : m_divided_W0 key_2 size_4 number_6 whole_7 = some s_ := hm
        unfold m_divided_W0 at hm
        refine o_turn ?_
        -- 24
        refine o_seq ?_
        refine o_asg ?_
        refine ⟨_, rfl, _, rfl, _, rfl, _, _, rfl, rfl, ?_⟩
        obtain ⟨at_12, h13, hm⟩ := ltvE hm
        refine a_set (congrArg V.int h13) ?_
        -- 25
        refine o_seq ?_
        refine o_asg ?_
        obtain ⟨t_14, h15, hm⟩ := bndE hm
        refine ⟨_, rfl, _, rfl, ?_⟩
        refine k_shl h15 ?_
        refine ⟨_, _, rfl, rfl, ?_⟩
        obtain ⟨whole_16, h17, hm⟩ := ltvE hm
        refine a_set (congrArg V.int h17) ?_
        -- 26
        refine o_asg ?_
        obtain ⟨t_18, h19, hm⟩ := bndE hm
        refine ⟨_, rfl, _, rfl, _, rfl, ?_⟩
        refine k_shl h19 ?_
        refine ⟨_, _, rfl, rfl, ?_⟩
        have Oz := O
        obtain rfl := Option.some.inj hm
        exact ⟨_, _, _, rfl, Oz, hL⟩
      cases whileM_end hL h20
      replace hm := h21
      -- 27
      refine o_ret ?_
      refine ⟨_, rfl, _, rfl, ?_⟩
      refine x_nil ?_
      refine n_tup O (by show 2 ≤ sizeLine; decide) fun p_22 H O => ?_
      obtain rfl := Option.some.inj hm
      exact RetT.go k O (List.Mem.head _)
def m_rest_of (bits_1 : List Int) : Option (Int) :=
  bnd (m_number_of bits_1) fun number_3 =>
  bndO (m_divided number_3 (64647 : Int)) fun divide_5 =>
  some divide_5.2
def sp_rest_of (K : PySem.W.Frag) : Sp := fun vs H Q _ => ∃ (bits_1 : List Int) (a_2 : Addr) (r : Int), vs = [.ref a_2] ∧ H a_2 = some (.lst (List.map V.int bits_1)) ∧ m_rest_of bits_1 = some r ∧ RetV (.int r) H Q
abbrev N_rest_of : List Str := ["bits"]
theorem sc_rest_of : FnScope N_rest_of ["bits"] (defScope s_rest_of) := ⟨rfl, rfl, rfl, by decide +kernel, rfl, by decide +kernel, by decide +kernel⟩
theorem ok_rest_of {ad : Ad} (T : Txt K mg ad) : FnOk P w K mg base CX0 2 ad.f_rest_of ad.fd_rest_of ["bits"] (sp_rest_of K) := by
  have G_divided := ok_divided (P := P) (w := w) (base := base) T
  have G_number_of := ok_number_of (P := P) (w := w) (base := base) T
  refine T.F_rest_of.ok sc_rest_of (fun vs H Q E h => ?_) (fun cdv A outer s H vs Q E hr h => ?_)
  · obtain ⟨_, _, _, rfl, _⟩ := h
    rfl
  · obtain ⟨bits_1, a_2, r, rfl, hp_a_2, hm, k⟩ := h
    unfold m_rest_of at hm
    obtain ⟨H0, hH0⟩ : ∃ H0 : Hp, H0 = H := ⟨H, rfl⟩
    have O : Own H0 H [] := by rw [hH0]; exact Own.start H
    rw [← hH0] at k hp_a_2
    clear hH0
    refine ⟨_, (pss_one (ps_ret (pe_ix (r := rIxT K) ix_tup (pe_call G_divided (hr.mono (by decide)) (by rfl) T.g_divided T.F_divided.kp T.b_divided .nil passN (pa_cons (pe_call G_number_of (hr.mono (by decide)) (by rfl) T.g_number_of T.F_number_of.kp T.b_number_of .nil pass0 (pa_cons (pv 0) pa_nil)) (pa_cons (pe_gv rfl T.g_KEY) pa_nil))) pe_int (fun _ _ => rfl)))), ?_⟩
    -- 31
    refine o_ret ?_
    obtain ⟨number_3, h4, hm⟩ := bndE hm
    refine ⟨_, rfl, ?_⟩
    refine x_nil ?_
    refine ⟨_, _, number_3, rfl, (O.ex _ _ hp_a_2), h4, ?_⟩
    refine O.retV fun H O => ?_
    obtain ⟨divide_5, h6, hm⟩ := bndOE hm
    refine o_cons ?_
    refine o_c ?_
    refine x_nil ?_
    refine ⟨_, _, .ok divide_5, rfl, h6, ?_⟩
    refine RetR.ok ?_
    refine O.retT fun p_7 H O => ?_
    refine o_c ?_
    refine k_ixT (SqT.of (O.mem (List.Mem.head _))) rfl ?_
    obtain rfl := Option.some.inj hm
    exact RetV.go k O
def m_read_frame_L0 (bits_1 : List Int) (k_29 : Int) (data_23 : List Int) : Option ((List Int)) :=
  bnd (m_number_of (cutL bits_1 (some ((12 : Int) + ((8 : Int) * k_29))) (some (((12 : Int) + ((8 : Int) * k_29)) + (8 : Int))))) fun number_34 =>
  bnd (appG data_23 number_34) fun l_36 =>
  some l_36
def m_read_frame (bits_1 : List Int) : Option (Rs (Int × (List Int))) :=
  bnd (ifB (decide ((List.length bits_1 : Int) < (27 : Int))) (some true) (bnd (atI bits_1 (0 : Int)) fun e_5 => some (decide (e_5 = (1 : Int))))) fun c_7 =>
  ifB c_7 (
    some (.er .NoFrame)) (
    bnd (m_number_of (cutL bits_1 (some (9 : Int)) (some (12 : Int)))) fun number_11 =>
    bnd (ifB (!decide ((List.length bits_1 : Int) = ((27 : Int) + ((8 : Int) * number_11)))) (some true) (bnd (m_rest_of bits_1) fun rest_o_15 => some (!decide (rest_o_15 = (0 : Int))))) fun c_17 =>
    ifB c_17 (
      some (.er .NoFrame)) (
      bnd (rng1 number_11) fun rg_21 =>
      bnd (loopM (fun k_29 s => m_read_frame_L0 bits_1 k_29 s) rg_21 ([] : List Int)) fun data_25 =>
      bnd (m_number_of (cutL bits_1 (some (1 : Int)) (some (9 : Int)))) fun number_39 =>
      some (.ok (number_39, data_25))))
def sp_read_frame (K : PySem.W.Frag) (ad : Ad) (d : Eds) : Sp := fun vs H Q E => ∃ (bits_1 : List Int) (a_2 : Addr) (R0 : Hp) (r : Rs (Int × (List Int))), vs = [.ref a_2] ∧ Own R0 H [] ∧ (hsub H []) a_2 = some (.lst (List.map V.int bits_1)) ∧ m_read_frame bits_1 = some r ∧ RetR (fun r => RetX R0 (hsub H []) (dP (rT2 rI (rL rI)) r) Q) d r H E
abbrev N_read_frame : List Str := ["bits", "many", "data", "k"]
theorem sc_read_frame : FnScope N_read_frame ["bits"] (defScope s_read_frame) := ⟨rfl, rfl, rfl, by decide +kernel, rfl, by decide +kernel, by decide +kernel⟩
theorem ok_read_frame {ad : Ad} (T : Txt K mg ad) : FnOk P w K mg base (L2N.CX P w) 3 ad.f_read_frame ad.fd_read_frame ["bits"] (sp_read_frame K ad ad.es) := by
  have G_number_of := ok_number_of (P := P) (w := w) (base := base) T
  have G_rest_of := ok_rest_of (P := P) (w := w) (base := base) T
  refine okN T.F_read_frame sc_read_frame (fun vs H Q E h => ?_) (fun cdv A outer s H vs Q E hr h => ?_)
  · obtain ⟨_, _, _, _, rfl, _⟩ := h
    rfl
  · obtain ⟨bits_1, a_2, R0, r, rfl, OO, hp_a_2, hm, k⟩ := h
    unfold m_read_frame at hm
    obtain ⟨Hb, hHb⟩ : ∃ Hb : Hp, Hb = hsub H [] := ⟨_, rfl⟩
    obtain ⟨H0, hH0⟩ : ∃ H0 : Hp, H0 = Hb := ⟨Hb, rfl⟩
    have O : Own H0 H [] := by rw [hH0, hHb]; exact OO.startX
    have eR : Ex R0 Hb := by rw [hHb]; exact OO.subR
    rw [← hHb] at k hp_a_2
    have eB : Ex Hb H0 := by rw [hH0]; exact Ex.refl _
    have eS : Ex R0 (ovr R0 Hb H0) := by rw [hH0]; exact ovr_start eR
    rw [← hH0] at hp_a_2
    clear hH0
    refine ⟨_, (pss_cons (ps_if (PW.pt (pw_or (pt_cmpR op_lt (pe_callB (r := rLenQ K) call_lenQ (by rfl) T.z_len PySem.boot_len (pa_cons (pv 0) pa_nil)) (pe_gv rfl T.g_BARE_frames) (nomark _)) (pw_or1 (pt_cmpR op_eq (pe_ix (r := rIxL K) ix_list (pv 0) pe_int (fun _ _ => rfl)) pe_int (nomark _))))) (pss_one (ps_errN T.e_NoFrame (L2N.takes_of rfl rfl rfl rfl) rfl rfl)) pss_nil) (pss_cons (ps_set (i := 1) sc_read_frame.nd rfl (Or.inl rfl) (pe_call G_number_of (hr.mono (by decide)) (by rfl) T.g_number_of T.F_number_of.kp T.b_number_of .nil pass0 (pa_cons (pe_slice (r := rSlL K) sl_list (pv 0) (po_some pe_int) (po_some (pe_gv rfl T.g_HEAD_frames))) pa_nil))) (pss_cons (ps_if (PW.pt (pw_or (pt_cmpR op_ne (pe_callB (r := rLenQ K) call_lenQ (by rfl) T.z_len PySem.boot_len (pa_cons (pv 0) pa_nil)) (pe_op op_add (pe_gv rfl T.g_BARE_frames) (pe_op op_mul pe_int (pv 1))) (nomark _)) (pw_or1 (pt_cmpR op_ne (pe_call G_rest_of (hr.mono (by decide)) (by rfl) T.g_rest_of T.F_rest_of.kp T.b_rest_of .nil pass0 (pa_cons (pv 0) pa_nil)) pe_int (nomark _))))) (pss_one (ps_errN T.e_NoFrame (L2N.takes_of rfl rfl rfl rfl) rfl rfl)) pss_nil) (pss_cons (ps_set (i := 2) sc_read_frame.nd rfl (Or.inl rfl) (pe_lstQ (pe_lst pa_nil))) (pss_cons (ps_for (passes_of rfl) rfl (pi_range1 (by rfl) T.z_range (pa_cons (pv 1) pa_nil)) (pg_name (i := 3) sc_read_frame.nd rfl (Or.inl rfl)) (pss_one (ps_expr (pe_bm PySem.F.plainAttrs_list PySem.F.slot_list_append PySem.F.type_list_append mt_append (pv 2) (pa_cons (pe_call G_number_of (hr.mono (by decide)) (by rfl) T.g_number_of T.F_number_of.kp T.b_number_of .nil pass0 (pa_cons (pe_slice (r := rSlL K) sl_list (pv 0) (po_some (pe_op op_add (pe_gv rfl T.g_HEAD_frames) (pe_op op_mul pe_int (pv 3)))) (po_some (pe_op op_add (pe_op op_add (pe_gv rfl T.g_HEAD_frames) (pe_op op_mul pe_int (pv 3))) pe_int))) pa_nil)) pa_nil))))) (pss_one (ps_ret (pe_tupQ (pe_tup (pa_cons (pe_call G_number_of (hr.mono (by decide)) (by rfl) T.g_number_of T.F_number_of.kp T.b_number_of .nil pass0 (pa_cons (pe_slice (r := rSlL K) sl_list (pv 0) (po_some pe_int) (po_some pe_int)) pa_nil)) (pa_cons (pv 2) pa_nil))))))))))), ?_⟩
    -- 36
    refine o_seq ?_
    refine o_ifs ?_
    obtain ⟨c_7, h8, hm⟩ := bndE hm
    refine x_orJ (c := decide ((List.length bits_1 : Int) < (27 : Int))) (e := c_7) (d := c_7) (fun H => ∃ (R_ : Hp), Ex H0 R_ ∧ Own R_ H []) (fun Q1 k1 => ?_) (fun h3 => ⟨rfl, fun H hJ Q2 k2 => ?_⟩) (fun h3 => Option.some.inj (ifT h8 h3)) (fun H hJ => ?_)
    · have eJ4 : Ex H0 H0 := Ex.refl _
      refine ⟨_, rfl, ?_⟩
      refine x_nil ?_
      refine n_len (SqL.of (O.ex _ _ hp_a_2)) ?_
      refine ⟨_, _, rfl, rfl, _, rfl, ?_⟩
      exact k1 _ ⟨H0, eJ4, O⟩
    · replace hm := ifF h8 h3
      obtain ⟨e_5, h6, hm⟩ := bndE hm
      obtain rfl := Option.some.inj hm
      obtain ⟨H0, eJ4, O⟩ := hJ
      replace hp_a_2 := eJ4 _ _ hp_a_2
      replace eB := eB.trans eJ4
      refine ⟨_, rfl, ?_⟩
      refine o_c ?_
      refine k_ixL (f := V.int) (SqL.of (O.ex _ _ hp_a_2)) h6 ?_
      refine o_c ?_
      refine k_eqI ?_
      refine ⟨_, rfl, ?_⟩
      exact k2 _ ⟨H0, eJ4, O⟩
    obtain ⟨H0, eJ4, O⟩ := hJ
    replace hp_a_2 := eJ4 _ _ hp_a_2
    replace eB := eB.trans eJ4
    refine iteS (c := c_7) (fun h9 => ?_) (fun h9 => ?_)
    · replace hm := ifT hm h9
      -- 37
      obtain rfl := Option.some.inj hm
      exact k _ (Own.whole OO hHb eB (Own.cv (L' := [] ++ []) O (by first | with_reducible rfl | simp only [List.map_nil, List.flatten_cons, List.flatten_nil, List.cons_append, List.nil_append, List.append_nil, List.append_assoc])))
    · replace hm := ifF hm h9
      refine o_next ?_
      -- 38
      refine o_seq ?_
      refine o_asg ?_
      refine ⟨_, rfl, _, rfl, _, rfl, ?_⟩
      refine k_cut (f := V.int) O (SqL.of (O.ex _ _ hp_a_2)) fun p_10 H O => ?_
      obtain ⟨number_11, h12, hm⟩ := bndE hm
      refine x_nil ?_
      refine ⟨_, _, number_11, rfl, (O.mem (List.Mem.head _)), h12, ?_⟩
      refine O.retV fun H O => ?_
      -- 39
      refine o_seq ?_
      refine o_ifs ?_
      obtain ⟨c_17, h18, hm⟩ := bndE hm
      refine x_orJ (c := (!decide ((List.length bits_1 : Int) = ((27 : Int) + ((8 : Int) * number_11))))) (e := c_17) (d := c_17) (fun H => ∃ (R_ : Hp), Ex H0 R_ ∧ Own R_ H [(p_10, .lst (List.map V.int (cutL bits_1 (some (9 : Int)) (some (12 : Int)))))]) (fun Q1 k1 => ?_) (fun h13 => ⟨rfl, fun H hJ Q2 k2 => ?_⟩) (fun h13 => Option.some.inj (ifT h18 h13)) (fun H hJ => ?_)
      · have eJ14 : Ex H0 H0 := Ex.refl _
        refine ⟨_, rfl, ?_⟩
        refine x_nil ?_
        refine n_len (SqL.of (O.ex _ _ hp_a_2)) ?_
        refine ⟨_, rfl, _, _, rfl, rfl, .inl ⟨by decide, by decide⟩, _, _, rfl, rfl, ?_⟩
        refine k_neI ?_
        refine ⟨_, rfl, ?_⟩
        exact k1 _ ⟨H0, eJ14, O⟩
      · replace hm := ifF h18 h13
        obtain ⟨rest_o_15, h16, hm⟩ := bndE hm
        obtain rfl := Option.some.inj hm
        obtain ⟨H0, eJ14, O⟩ := hJ
        replace hp_a_2 := eJ14 _ _ hp_a_2
        replace eB := eB.trans eJ14
        refine ⟨_, rfl, ?_⟩
        refine x_nil ?_
        refine ⟨_, _, rest_o_15, rfl, (O.ex _ _ hp_a_2), h16, ?_⟩
        refine O.retV fun H O => ?_
        refine o_c ?_
        refine k_neI ?_
        refine ⟨_, rfl, ?_⟩
        exact k2 _ ⟨H0, eJ14, O⟩
      obtain ⟨H0, eJ14, O⟩ := hJ
      replace hp_a_2 := eJ14 _ _ hp_a_2
      replace eB := eB.trans eJ14
      refine iteS (c := c_17) (fun h19 => ?_) (fun h19 => ?_)
      · replace hm := ifT hm h19
        -- 40
        obtain rfl := Option.some.inj hm
        exact k _ (Own.whole OO hHb eB (Own.cv (L' := [] ++ [(p_10, .lst (List.map V.int (cutL bits_1 (some (9 : Int)) (some (12 : Int)))))]) O (by first | with_reducible rfl | simp only [List.map_nil, List.flatten_cons, List.flatten_nil, List.cons_append, List.nil_append, List.append_nil, List.append_assoc])))
      · replace hm := ifF hm h19
        refine o_next ?_
        -- 41
        refine o_seq ?_
        refine o_asg ?_
        refine x_nil ?_
        refine n_lst (f := V.int) (xs := ([] : List Int)) O rfl (Nat.zero_le _) fun p_20 H O => ?_
        -- 42
        refine o_seq ?_
        refine o_for ?_
        obtain ⟨rg_21, h22, hm⟩ := bndE hm
        refine ⟨_, rfl, ?_⟩
        refine x_nil ?_
        obtain ⟨c1, c2, rfl⟩ := rng1E h22
        obtain ⟨data_25, h26, hm⟩ := bndE hm
        refine ⟨_, rfl, c1, c2, q_forR (fun r σ H => ∃ (R_ : Hp) (data_23 : List Int) (j_24 : Option V), σ = [some (.ref a_2), some (.int number_11), some (.ref p_20), j_24] ∧ Ex H0 R_ ∧ Own R_ H [(p_20, .lst (List.map V.int data_23))] ∧ loopM (fun k_29 s => m_read_frame_L0 bits_1 k_29 s) r data_23 = some data_25) ⟨H0, ([] : List Int), _, rfl, Ex.refl _, (O.sel (L' := [(p_20, .lst (List.map V.int ([] : List Int)))]) [0] (by decide) rfl), h26⟩ ?_ ?_⟩
        · rintro k_29 r σ H ⟨H0, data_23, j_24, rfl, eL30, O, hL⟩
          replace hp_a_2 := eL30 _ _ hp_a_2
          replace eB := eB.trans eL30
          obtain ⟨s_, hm, h28⟩ := loopM_cons hL
          replace hm : m_read_frame_L0 bits_1 k_29 data_23 = some s_ := hm
          unfold m_read_frame_L0 at hm
          -- 43
          refine o_drop ?_
          refine ⟨_, rfl, .inl ⟨rfl, _, (SqL.of (O.mem (List.Mem.head _)))⟩, _, rfl, _, rfl, _, _, rfl, rfl, .inl ⟨by decide, by decide⟩, _, _, rfl, rfl, _, rfl, _, rfl, _, _, rfl, rfl, .inl ⟨by decide, by decide⟩, _, _, rfl, rfl, _, _, rfl, rfl, _, rfl, ?_⟩
          refine k_cut (f := V.int) O (SqL.of (O.ex _ _ hp_a_2)) fun p_33 H O => ?_
          obtain ⟨number_34, h35, hm⟩ := bndE hm
          refine x_nil ?_
          refine ⟨_, _, number_34, rfl, (O.mem (List.Mem.head _)), h35, ?_⟩
          refine O.retV fun H O => ?_
          obtain ⟨l_36, h37, hm⟩ := bndE hm
          refine x_nil ?_
          refine k_app (f := V.int) (O.mem (List.Mem.tail _ (List.Mem.head _))) (fun _ => O.put1) h37 fun H O => ?_
          replace O := O.tl
          have Oz := O
          obtain rfl := Option.some.inj hm
          exact ⟨H0, _, _, rfl, eL30, Oz, h28⟩
        rintro σ H ⟨H0, data_23, j_24, rfl, eJ_, O, hL⟩
        replace hp_a_2 := eJ_ _ _ hp_a_2
        replace eB := eB.trans eJ_
        cases loopM_nil hL
        -- 44
        refine o_ret ?_
        refine ⟨_, rfl, _, rfl, _, rfl, ?_⟩
        refine k_cut (f := V.int) O (SqL.of (O.ex _ _ hp_a_2)) fun p_38 H O => ?_
        obtain ⟨number_39, h40, hm⟩ := bndE hm
        refine x_nil ?_
        refine ⟨_, _, number_39, rfl, (O.mem (List.Mem.head _)), h40, ?_⟩
        refine O.retV fun H O => ?_
        refine ⟨_, rfl, ?_⟩
        refine x_nil ?_
        replace O := (O.sel (L' := [(p_20, .lst (List.map V.int data_25)), (p_38, .lst (List.map V.int (cutL bits_1 (some (1 : Int)) (some (9 : Int)))))]) [1, 0] (by decide) rfl)
        obtain ⟨H0, O, e_, hp_p_20⟩ := O.frzO (R0 := R0) eB
        replace hp_a_2 := e_ _ _ hp_a_2
        replace eB := eB.trans e_
        refine n_tup O (by show 2 ≤ sizeLine; decide) fun p_41 H O => ?_
        obtain ⟨H0, O, e_, hp_p_41⟩ := O.frzO (R0 := R0) eB
        replace hp_a_2 := e_ _ _ hp_a_2
        replace hp_p_20 := (ovr_mono e_) _ _ hp_p_20
        replace eB := eB.trans e_
        have hn_p_41 : (rT2 rI (rL rI)) (ovr R0 Hb H0) (.ref p_41) ((number_39, data_25) : Int × (List Int)) := ⟨_, _, _, rfl, hp_p_41, rfl, (gI hp_p_20)⟩
        obtain rfl := Option.some.inj hm
        exact k _ _ H0 [] eB (Own.cv (O.sel (L' := []) [] (by decide) rfl) (by first | with_reducible rfl | simp only [List.map_nil, List.flatten_cons, List.flatten_nil, List.cons_append, List.nil_append, List.append_nil, List.append_assoc])) ⟨rfl, hn_p_41⟩
def m_Reader_frame (self_1 : S_Reader) : Option (Rs (Option (Int × (List Int)))) :=
  ifB (decide (self_1.latest = ("whole" : Str))) (
    bndR (m_read_frame self_1.kept) fun read_f_7 =>
    some (.ok (some read_f_7))) (
    some (.ok none))
def sp_Reader_frame (K : PySem.W.Frag) (ad : Ad) (d : Eds) : Sp := fun vs H Q E => ∃ (self_1 : S_Reader) (a_2 : Addr) (L_3 : List Cell) (R0 : Hp) (r : Rs (Option (Int × (List Int)))), vs = [.ref a_2] ∧ Own R0 H (L_3 ++ []) ∧ (o_Reader ad) R0 a_2 L_3 self_1 ∧ m_Reader_frame self_1 = some r ∧ RetR (fun r => RetX R0 (hsub H (L_3 ++ [])) (dK L_3 (dP (rO (rT2 rI (rL rI))) r)) Q) d r H E
abbrev N_Reader_frame : List Str := ["self"]
theorem sc_Reader_frame : FnScope N_Reader_frame ["self"] (defScope s_Reader_frame) := ⟨rfl, rfl, rfl, by decide +kernel, rfl, by decide +kernel, by decide +kernel⟩
theorem ok_Reader_frame {ad : Ad} (T : Txt K mg ad) : FnOk P w K mg base (L2N.CX P w) 4 ad.f_Reader_frame ad.fd_Reader_frame ["self"] (sp_Reader_frame K ad ad.es) := by
  have G_read_frame := ok_read_frame (P := P) (w := w) (base := base) T
  refine okN T.F_Reader_frame sc_Reader_frame (fun vs H Q E h => ?_) (fun cdv A outer s H vs Q E hr h => ?_)
  · obtain ⟨_, _, _, _, _, rfl, _⟩ := h
    rfl
  · obtain ⟨self_1, a_2, L_3, R0, r, rfl, OO, hb_a_2, hm, k⟩ := h
    unfold m_Reader_frame at hm
    obtain ⟨Hb, hHb⟩ : ∃ Hb : Hp, Hb = hsub H (L_3 ++ []) := ⟨_, rfl⟩
    obtain ⟨H0, hH0⟩ : ∃ H0 : Hp, H0 = Hb := ⟨Hb, rfl⟩
    have O : Own H0 H (L_3 ++ []) := by rw [hH0, hHb]; exact OO.startX
    have eR : Ex R0 Hb := by rw [hHb]; exact OO.subR
    rw [← hHb] at k
    have eB : Ex Hb H0 := by rw [hH0]; exact Ex.refl _
    have eS : Ex R0 (ovr R0 Hb H0) := by rw [hH0]; exact ovr_start eR
    replace hb_a_2 := (mo_Reader ad) _ _ _ _ _ eS hb_a_2
    clear hH0
    refine ⟨_, (pss_cons (ps_if (pt_cmpR op_eq (pe_fld (pv 0) rfl) pe_str (nomark _)) (pss_one (ps_ret (pe_call G_read_frame (hr.mono (by decide)) (by rfl) T.g_read_frame T.F_read_frame.kp T.b_read_frame .nil (E := E) (L2N.passes_call (L2N.takes_of rfl rfl rfl rfl) fun _ _ _ _ h => h) (pa_cons (pe_fld (pv 0) rfl) pa_nil)))) pss_nil) (pss_one (ps_ret pe_non))), ?_⟩
    obtain ⟨dx_4, p_5, rfl⟩ := hb_a_2
    replace O : Own H0 H [(a_2, .ins ad.c_Reader dx_4 [("kept", .ref p_5), ("last", .int self_1.last), ("alike", .int self_1.alike), ("latest", .str self_1.latest)]), (dx_4, .own a_2), (p_5, .lst (List.map V.int self_1.kept))] := Own.cv O (by first | with_reducible rfl | simp only [List.map_nil, List.flatten_cons, List.flatten_nil, List.cons_append, List.nil_append, List.append_nil, List.append_assoc])
    -- 86
    refine o_seq ?_
    refine o_ifs ?_
    refine ⟨_, rfl, a_2, ad.c_Reader, dx_4, [("kept", .ref p_5), ("last", .int self_1.last), ("alike", .int self_1.alike), ("latest", .str self_1.latest)], (.str self_1.latest), rfl, (O.mem (List.Mem.head _)), T.C_Reader, T.N_Reader_latest, (lk_skip (by decide) (lk_skip (by decide) (lk_skip (by decide) lk_hit))), ?_⟩
    refine o_c ?_
    refine k_eqS ?_
    refine ⟨_, rfl, ?_⟩
    refine iteS (c := (decide (self_1.latest = ("whole" : Str)))) (fun h6 => ?_) (fun h6 => ?_)
    · replace hm := ifT hm h6
      -- 87
      refine o_ret ?_
      obtain ⟨x_9, h8, hm⟩ := bndRE hm
      refine ⟨_, rfl, a_2, ad.c_Reader, dx_4, [("kept", .ref p_5), ("last", .int self_1.last), ("alike", .int self_1.alike), ("latest", .str self_1.latest)], (.ref p_5), rfl, (O.mem (List.Mem.head _)), T.C_Reader, T.N_Reader_kept, lk_hit, ?_⟩
      refine x_nil ?_
      have Oc : Own H0 H ([] ++ [(a_2, .ins ad.c_Reader dx_4 [("kept", .ref p_5), ("last", .int self_1.last), ("alike", .int self_1.alike), ("latest", .str self_1.latest)]), (dx_4, .own a_2), (p_5, .lst (List.map V.int self_1.kept))]) := Own.cv O (by first | with_reducible rfl | simp only [List.map_nil, List.flatten_cons, List.flatten_nil, List.cons_append, List.nil_append, List.append_nil, List.append_assoc])
      refine ⟨self_1.kept, p_5, ovr R0 Hb H0, x_9, rfl, (Own.shrink Oc.left ovr_ex), (Own.inC Oc (List.Mem.tail _ (List.Mem.tail _ (List.Mem.head _)))), h8, ?_⟩
      refine RetR.split (fun e_ h10 => ?_) ?_
      · subst h10
        obtain rfl := erR hm
        exact RetE.up k (Own.whole OO hHb eB (Own.cv (L' := (((a_2, .ins ad.c_Reader dx_4 [("kept", .ref p_5), ("last", .int self_1.last), ("alike", .int self_1.alike), ("latest", .str self_1.latest)]) :: (dx_4, .own a_2) :: ((p_5, .lst (List.map V.int self_1.kept)) :: [])) ++ []) ++ []) O (by first | with_reducible rfl | simp only [List.map_nil, List.flatten_cons, List.flatten_nil, List.cons_append, List.nil_append, List.append_nil, List.append_assoc])))
      rintro read_f_7 h10
      subst h10
      replace hm := okR hm
      refine Oc.retXO (mdP (mT2 mI (mL mI))) eB fun w_11 H H0 L_12 O e_ d_ => ?_
      replace eB := eB.trans e_
      obtain ⟨rfl, h13⟩ := d_
      replace O : Own H0 H [(a_2, .ins ad.c_Reader dx_4 [("kept", .ref p_5), ("last", .int self_1.last), ("alike", .int self_1.alike), ("latest", .str self_1.latest)]), (dx_4, .own a_2), (p_5, .lst (List.map V.int self_1.kept))] := Own.cv O (by first | with_reducible rfl | simp only [List.map_nil, List.flatten_cons, List.flatten_nil, List.cons_append, List.nil_append, List.append_nil, List.append_assoc])
      obtain ⟨p_14, rfl⟩ := rT2_ref h13
      have hn_p_14 := h13
      obtain rfl := Option.some.inj hm
      exact k _ _ H0 (((a_2, .ins ad.c_Reader dx_4 [("kept", .ref p_5), ("last", .int self_1.last), ("alike", .int self_1.alike), ("latest", .str self_1.latest)]) :: (dx_4, .own a_2) :: ((p_5, .lst (List.map V.int self_1.kept)) :: [])) ++ []) eB (Own.cv O (by first | with_reducible rfl | simp only [List.map_nil, List.flatten_cons, List.flatten_nil, List.cons_append, List.nil_append, List.append_nil, List.append_assoc])) ⟨_, rfl, ⟨rfl, hn_p_14⟩⟩
    · replace hm := ifF hm h6
      refine o_next ?_
      -- 88
      refine o_ret ?_
      refine o_c ?_
      obtain rfl := Option.some.inj hm
      exact k _ _ H0 (((a_2, .ins ad.c_Reader dx_4 [("kept", .ref p_5), ("last", .int self_1.last), ("alike", .int self_1.alike), ("latest", .str self_1.latest)]) :: (dx_4, .own a_2) :: ((p_5, .lst (List.map V.int self_1.kept)) :: [])) ++ []) eB (Own.cv O (by first | with_reducible rfl | simp only [List.map_nil, List.flatten_cons, List.flatten_nil, List.cons_append, List.nil_append, List.append_nil, List.append_assoc])) ⟨_, rfl, ⟨rfl, rfl⟩⟩
def m__law_framed (reader_1 : S_Reader) (frame_4 : Int × (List Int)) : Option (Bool) :=
  bndO (m_Reader_frame reader_1) fun frame_8 =>
  bnd (frame_8) fun y_17 =>
  bnd (ifB (!true) (some true) (bnd (frame_8) fun y_24 =>
  bnd (ifB (!decide (((2 : Nat) : Int) = (2 : Int))) (some true) (bnd (frame_8) fun y_29 =>
  bnd (m__law_alike y_29.2 frame_4.2) fun law_al_45 => some (!law_al_45))) fun c_47 => some c_47)) fun c_49 =>
  ifB c_49 (
    some false) (
    bnd (frame_8) fun y_52 =>
    bnd (m__law_alike ([y_52.1]) ([frame_4.1])) fun law_al_68 =>
    bnd (frame_8) fun y_70 =>
    bnd (appG y_70.2 (7 : Int)) fun l_80 =>
    some law_al_68)
def sp__law_framed (K : PySem.W.Frag) (ad : Ad) : Sp := fun vs H Q _ => ∃ (reader_1 : S_Reader) (a_2 : Addr) (L_3 : List Cell) (frame_4 : Int × (List Int)) (a_5 : Addr) (R0 : Hp) (r : Bool), vs = [.ref a_2, .ref a_5] ∧ Own R0 H (L_3 ++ []) ∧ (o_Reader ad) R0 a_2 L_3 reader_1 ∧ (rT2 rI (rL rI)) (hsub H (L_3 ++ [])) (.ref a_5) frame_4 ∧ m__law_framed reader_1 frame_4 = some r ∧ RetX R0 (hsub H (L_3 ++ [])) (dK L_3 (dV (.bl r))) Q
abbrev N__law_framed : List Str := ["reader", "frame", "found", "good"]
theorem sc__law_framed : FnScope N__law_framed ["reader", "frame"] (defScope s__law_framed) := ⟨rfl, rfl, rfl, by decide +kernel, rfl, by decide +kernel, by decide +kernel⟩
theorem ok__law_framed {ad : Ad} (T : Txt K mg ad) : FnOk P w K mg base CX0 5 ad.f__law_framed ad.fd__law_framed ["reader", "frame"] (sp__law_framed K ad) := by
  have G_Reader_frame := ok_Reader_frame (P := P) (w := w) (base := base) T
  have G__law_alike := ok__law_alike (P := P) (w := w) (base := base) T
  refine T.F__law_framed.ok sc__law_framed (fun vs H Q E h => ?_) (fun cdv A outer s H vs Q E hr h => ?_)
  · obtain ⟨_, _, _, _, _, _, _, rfl, _⟩ := h
    rfl
  · obtain ⟨reader_1, a_2, L_3, frame_4, a_5, R0, r, rfl, OO, hb_a_2, hn_a_5, hm, k⟩ := h
    unfold m__law_framed at hm
    obtain ⟨Hb, hHb⟩ : ∃ Hb : Hp, Hb = hsub H (L_3 ++ []) := ⟨_, rfl⟩
    obtain ⟨H0, hH0⟩ : ∃ H0 : Hp, H0 = Hb := ⟨Hb, rfl⟩
    have O : Own H0 H (L_3 ++ []) := by rw [hH0, hHb]; exact OO.startX
    have eR : Ex R0 Hb := by rw [hHb]; exact OO.subR
    rw [← hHb] at k hn_a_5
    have eB : Ex Hb H0 := by rw [hH0]; exact Ex.refl _
    have eS : Ex R0 (ovr R0 Hb H0) := by rw [hH0]; exact ovr_start eR
    replace hb_a_2 := (mo_Reader ad) _ _ _ _ _ eS hb_a_2
    rw [← hH0] at hn_a_5
    clear hH0
    refine ⟨_, (pss_cons (ps_set (i := 2) sc__law_framed.nd rfl (Or.inl rfl) (pe_meth0 (pv 0) T.C_Reader T.M_Reader_frame G_Reader_frame (hr.mono (by decide)) T.b_Reader_frame .nil passN)) (pss_cons (ps_if (PW.pt (pw_or (pt_not (pt_val (pe_callB (r := rIsi K) call_isi (by rfl) T.z_isinstance (by decide +kernel) (pa_cons (pv 2) (pa_cons (pe_bltn (v := V.ty "tuple") (u := .type "tuple") (by rfl) T.z_tuple (by decide +kernel) rfl) pa_nil))))) (pw_or (pt_cmpR op_ne (pe_callB (r := rLenQ K) call_lenQ (by rfl) T.z_len PySem.boot_len (pa_cons (pv 2) pa_nil)) pe_int (nomark _)) (pw_or1 (pt_not (pt_val (pe_call G__law_alike (hr.mono (by decide)) (by rfl) T.g__law_alike T.F__law_alike.kp T.b__law_alike .nil pass0 (pa_cons (pe_ix (r := rIxT K) ix_tup (pv 2) pe_int (fun _ _ => rfl)) (pa_cons (pe_ix (r := rIxT K) ix_tup (pv 1) pe_int (fun _ _ => rfl)) pa_nil))))))))) (pss_one (ps_ret pe_bl)) pss_nil) (pss_cons (ps_set (i := 3) sc__law_framed.nd rfl (Or.inl rfl) (pe_call G__law_alike (hr.mono (by decide)) (by rfl) T.g__law_alike T.F__law_alike.kp T.b__law_alike .nil pass0 (pa_cons (pe_lstQ (pe_lst (pa_cons (pe_ix (r := rIxT K) ix_tup (pv 2) pe_int (fun _ _ => rfl)) pa_nil))) (pa_cons (pe_lstQ (pe_lst (pa_cons (pe_ix (r := rIxT K) ix_tup (pv 1) pe_int (fun _ _ => rfl)) pa_nil))) pa_nil)))) (pss_cons (ps_expr (pe_bm PySem.F.plainAttrs_list PySem.F.slot_list_append PySem.F.type_list_append mt_append (pe_ix (r := rIxT K) ix_tup (pv 2) pe_int (fun _ _ => rfl)) (pa_cons pe_int pa_nil))) (pss_one (ps_ret (pv 3))))))), ?_⟩
    obtain ⟨dx_6, p_7, rfl⟩ := hb_a_2
    replace O : Own H0 H [(a_2, .ins ad.c_Reader dx_6 [("kept", .ref p_7), ("last", .int reader_1.last), ("alike", .int reader_1.alike), ("latest", .str reader_1.latest)]), (dx_6, .own a_2), (p_7, .lst (List.map V.int reader_1.kept))] := Own.cv O (by first | with_reducible rfl | simp only [List.map_nil, List.flatten_cons, List.flatten_nil, List.cons_append, List.nil_append, List.append_nil, List.append_assoc])
    -- 126
    refine o_seq ?_
    refine o_asg ?_
    refine ⟨_, rfl, a_2, dx_6, [("kept", .ref p_7), ("last", .int reader_1.last), ("alike", .int reader_1.alike), ("latest", .str reader_1.latest)], rfl, (O.mem (List.Mem.head _)), (lk_skip (by decide) (lk_skip (by decide) (lk_skip (by decide) (lk_skip (by decide) lk_nil)))), ?_⟩
    refine x_nil ?_
    obtain ⟨frame_8, h9, hm⟩ := bndOE hm
    obtain ⟨Hs_10, hHs_10⟩ : ∃ Hs : Hp, Hs = H0 := ⟨_, rfl⟩
    have eS_10 : Ex Hs_10 H0 := by rw [hHs_10]; exact Ex.refl _
    have s10_hn_a_5 := hn_a_5
    have s10_eB := eB
    rw [← hHs_10] at s10_hn_a_5
    rw [← hHs_10] at s10_eB
    have Oc : Own H0 H ((((a_2, .ins ad.c_Reader dx_6 [("kept", .ref p_7), ("last", .int reader_1.last), ("alike", .int reader_1.alike), ("latest", .str reader_1.latest)]) :: (dx_6, .own a_2) :: ((p_7, .lst (List.map V.int reader_1.kept)) :: [])) ++ []) ++ []) := Own.cv O (by first | with_reducible rfl | simp only [List.map_nil, List.flatten_cons, List.flatten_nil, List.cons_append, List.nil_append, List.append_nil, List.append_assoc])
    refine ⟨reader_1, a_2, ((a_2, .ins ad.c_Reader dx_6 [("kept", .ref p_7), ("last", .int reader_1.last), ("alike", .int reader_1.alike), ("latest", .str reader_1.latest)]) :: (dx_6, .own a_2) :: ((p_7, .lst (List.map V.int reader_1.kept)) :: [])), (fun _ => none), (.ok frame_8), rfl, (Own.shrink Oc.left exE), ⟨dx_6, p_7, rfl⟩, h9, ?_⟩
    refine RetR.ok ?_
    have eH_10 : Ex Hs_10 (hsub H (((a_2, .ins ad.c_Reader dx_6 [("kept", .ref p_7), ("last", .int reader_1.last), ("alike", .int reader_1.alike), ("latest", .str reader_1.latest)]) :: (dx_6, .own a_2) :: ((p_7, .lst (List.map V.int reader_1.kept)) :: [])) ++ [])) := eS_10.trans Oc.left.subR
    obtain ⟨Hc_10, hHc_⟩ : ∃ Hc : Hp, Hc = hsub H (((a_2, .ins ad.c_Reader dx_6 [("kept", .ref p_7), ("last", .int reader_1.last), ("alike", .int reader_1.alike), ("latest", .str reader_1.latest)]) :: (dx_6, .own a_2) :: ((p_7, .lst (List.map V.int reader_1.kept)) :: [])) ++ []) := ⟨_, rfl⟩
    rw [← hHc_] at eH_10
    have eC_ : Ex Hb Hc_10 := by rw [hHc_]; exact eB.trans Oc.left.subR
    refine Oc.retX0 (mdK (mdP (mO (mT2 mI (mL mI))))) hHc_ fun w_11 H H0 L_12 O e_ d_ => ?_
    replace hn_a_5 := (mT2 mI (mL mI)) _ _ _ _ e_ hn_a_5
    replace eB := eB.trans e_
    replace eS_10 := eS_10.trans e_
    obtain ⟨L_14, rfl, ⟨rfl, h13⟩⟩ := d_
    replace O : Own H0 H [(a_2, .ins ad.c_Reader dx_6 [("kept", .ref p_7), ("last", .int reader_1.last), ("alike", .int reader_1.alike), ("latest", .str reader_1.latest)]), (dx_6, .own a_2), (p_7, .lst (List.map V.int reader_1.kept))] := Own.cv O (by first | with_reducible rfl | simp only [List.map_nil, List.flatten_cons, List.flatten_nil, List.cons_append, List.nil_append, List.append_nil, List.append_assoc])
    have hfr_10 := h13
    replace h13 := (mO (mT2 mI (mL mI))) _ _ _ _ (ovr_fr (R0 := R0) eC_) h13
    have hn_w_11 := h13
    -- 127
    refine o_seq ?_
    refine o_ifs ?_
    obtain ⟨y_17, h18, hm⟩ := bndE hm
    obtain ⟨c_49, h50, hm⟩ := bndE hm
    refine x_orJ (c := (!true)) (e := c_49) (d := c_49) (fun H => ∃ (R_ : Hp), Ex H0 R_ ∧ Own R_ H [(a_2, .ins ad.c_Reader dx_6 [("kept", .ref p_7), ("last", .int reader_1.last), ("alike", .int reader_1.alike), ("latest", .str reader_1.latest)]), (dx_6, .own a_2), (p_7, .lst (List.map V.int reader_1.kept))]) (fun Q1 k1 => ?_) (fun h15 => ⟨rfl, fun H hJ Q2 k2 => ?_⟩) (fun h15 => Option.some.inj (ifT h50 h15)) (fun H hJ => ?_)
    · have eJ16 : Ex H0 H0 := Ex.refl _
      refine ⟨_, rfl, ?_⟩
      have h19 := rO_some hn_w_11 h18
      obtain ⟨p_20, rfl⟩ := rT2_ref h19
      have hn_p_20 := h19
      obtain ⟨_, _, h21, _⟩ := rT2_at hn_p_20
      refine ⟨_, _, _, _, true, rfl, .ty _, .base (.tup ((ovr_ex.trans O.ex) _ _ h21)), kit_ty (by decide +kernel), _, rfl, ?_⟩
      exact k1 _ ⟨H0, eJ16, O⟩
    · replace hm := ifF h50 h15
      obtain ⟨y_24, h25, hm⟩ := bndE hm
      obtain ⟨c_47, h48, hm⟩ := bndE hm
      obtain rfl := Option.some.inj hm
      obtain ⟨H0, eJ16, O⟩ := hJ
      replace hn_a_5 := (mT2 mI (mL mI)) _ _ _ _ eJ16 hn_a_5
      replace hfr_10 := (mO (mT2 mI (mL mI))) _ _ _ _ (ovr_mono eJ16) hfr_10
      replace hn_w_11 := (mO (mT2 mI (mL mI))) _ _ _ _ (ovr_mono eJ16) hn_w_11
      replace eB := eB.trans eJ16
      replace eS_10 := eS_10.trans eJ16
      refine x_orJ (c := (!decide (((2 : Nat) : Int) = (2 : Int)))) (e := c_47) (d := c_47) (fun H => ∃ (R_ : Hp), Ex H0 R_ ∧ Own R_ H [(a_2, .ins ad.c_Reader dx_6 [("kept", .ref p_7), ("last", .int reader_1.last), ("alike", .int reader_1.alike), ("latest", .str reader_1.latest)]), (dx_6, .own a_2), (p_7, .lst (List.map V.int reader_1.kept))]) (fun Q1 k1 => ?_) (fun h22 => ⟨rfl, fun H hJ Q2 k2 => ?_⟩) (fun h22 => Option.some.inj (ifT h48 h22)) (fun H hJ => ?_)
      · have eJ23 : Ex H0 H0 := Ex.refl _
        refine ⟨_, rfl, ?_⟩
        refine x_nil ?_
        have h26 := rO_some hn_w_11 h25
        obtain ⟨p_27, rfl⟩ := rT2_ref h26
        have hn_p_27 := h26
        obtain ⟨_, _, h28, _⟩ := rT2_at hn_p_27
        refine n_lenT (SqT.of ((ovr_ex.trans O.ex) _ _ h28)) (n := 2) rfl ?_
        refine o_c ?_
        refine k_neI ?_
        refine ⟨_, rfl, ?_⟩
        exact k1 _ ⟨H0, eJ23, O⟩
      · replace hm := ifF h48 h22
        obtain ⟨y_29, h30, hm⟩ := bndE hm
        obtain ⟨law_al_45, h46, hm⟩ := bndE hm
        obtain rfl := Option.some.inj hm
        obtain ⟨H0, eJ23, O⟩ := hJ
        replace hn_a_5 := (mT2 mI (mL mI)) _ _ _ _ eJ23 hn_a_5
        replace hfr_10 := (mO (mT2 mI (mL mI))) _ _ _ _ (ovr_mono eJ23) hfr_10
        replace hn_w_11 := (mO (mT2 mI (mL mI))) _ _ _ _ (ovr_mono eJ23) hn_w_11
        replace eB := eB.trans eJ23
        replace eS_10 := eS_10.trans eJ23
        replace eJ16 := eJ16.trans eJ23
        refine ⟨_, rfl, ?_⟩
        have h31 := rO_some hn_w_11 h30
        obtain ⟨p_32, rfl⟩ := rT2_ref h31
        have hn_p_32 := h31
        refine o_c ?_
        obtain ⟨w_33, w_34, h35, h36, h37⟩ := rT2_at hn_p_32
        refine k_ixT (xs := [w_33, w_34]) (SqT.of ((ovr_ex.trans O.ex) _ _ h35)) rfl ?_
        obtain ⟨p_38, rfl, hp_p_38⟩ := fI h37
        refine ⟨_, rfl, ?_⟩
        refine o_c ?_
        obtain ⟨w_39, w_40, h41, h42, h43⟩ := rT2_at hn_a_5
        refine k_ixT (xs := [w_39, w_40]) (SqT.of (O.ex _ _ h41)) rfl ?_
        obtain ⟨p_44, rfl, hp_p_44⟩ := fI h43
        refine x_nil ?_
        refine ⟨_, _, _, _, law_al_45, rfl, (O.ex _ _ (ovr_ex _ _ hp_p_38)), (O.ex _ _ hp_p_44), h46, ?_⟩
        refine O.retV fun H O => ?_
        refine ⟨_, rfl, ?_⟩
        exact k2 _ ⟨H0, eJ23, O⟩
      obtain ⟨H0, eJ23, O⟩ := hJ
      replace hn_a_5 := (mT2 mI (mL mI)) _ _ _ _ eJ23 hn_a_5
      replace hfr_10 := (mO (mT2 mI (mL mI))) _ _ _ _ (ovr_mono eJ23) hfr_10
      replace hn_w_11 := (mO (mT2 mI (mL mI))) _ _ _ _ (ovr_mono eJ23) hn_w_11
      replace eB := eB.trans eJ23
      replace eS_10 := eS_10.trans eJ23
      replace eJ16 := eJ16.trans eJ23
      exact k2 _ ⟨H0, eJ16, O⟩
    obtain ⟨H0, eJ16, O⟩ := hJ
    replace hn_a_5 := (mT2 mI (mL mI)) _ _ _ _ eJ16 hn_a_5
    replace hfr_10 := (mO (mT2 mI (mL mI))) _ _ _ _ (ovr_mono eJ16) hfr_10
    replace hn_w_11 := (mO (mT2 mI (mL mI))) _ _ _ _ (ovr_mono eJ16) hn_w_11
    replace eB := eB.trans eJ16
    replace eS_10 := eS_10.trans eJ16
    refine iteS (c := c_49) (fun h51 => ?_) (fun h51 => ?_)
    · replace hm := ifT hm h51
      -- 128
      refine o_ret ?_
      refine o_c ?_
      obtain rfl := Option.some.inj hm
      exact k _ _ H0 (((a_2, .ins ad.c_Reader dx_6 [("kept", .ref p_7), ("last", .int reader_1.last), ("alike", .int reader_1.alike), ("latest", .str reader_1.latest)]) :: (dx_6, .own a_2) :: ((p_7, .lst (List.map V.int reader_1.kept)) :: [])) ++ []) eB (Own.cv O (by first | with_reducible rfl | simp only [List.map_nil, List.flatten_cons, List.flatten_nil, List.cons_append, List.nil_append, List.append_nil, List.append_assoc])) ⟨_, rfl, ⟨rfl, rfl⟩⟩
    · replace hm := ifF hm h51
      refine o_next ?_
      -- 129
      refine o_seq ?_
      refine o_asg ?_
      obtain ⟨y_52, h53, hm⟩ := bndE hm
      refine ⟨_, rfl, ?_⟩
      have h54 := rO_some hn_w_11 h53
      obtain ⟨p_55, rfl⟩ := rT2_ref h54
      have hn_p_55 := h54
      refine o_c ?_
      obtain ⟨w_56, w_57, h58, h59, h60⟩ := rT2_at hn_p_55
      refine k_ixT (xs := [w_56, w_57]) (SqT.of ((ovr_ex.trans O.ex) _ _ h58)) rfl ?_
      obtain rfl := h59
      refine x_nil ?_
      refine n_lst (f := V.int) (xs := [y_52.1]) O rfl (by show 1 ≤ sizeLine; decide) fun p_61 H O => ?_
      refine ⟨_, rfl, ?_⟩
      refine o_c ?_
      obtain ⟨w_62, w_63, h64, h65, h66⟩ := rT2_at hn_a_5
      refine k_ixT (xs := [w_62, w_63]) (SqT.of (O.ex _ _ h64)) rfl ?_
      obtain rfl := h65
      refine x_nil ?_
      refine n_lst (f := V.int) (xs := [frame_4.1]) O rfl (by show 1 ≤ sizeLine; decide) fun p_67 H O => ?_
      obtain ⟨law_al_68, h69, hm⟩ := bndE hm
      refine x_nil ?_
      refine ⟨_, _, _, _, law_al_68, rfl, (O.mem (List.Mem.tail _ (List.Mem.head _))), (O.mem (List.Mem.head _)), h69, ?_⟩
      refine O.retV fun H O => ?_
      -- 130
      refine o_seq ?_
      refine o_drop ?_
      have hn_f_10 := hfr_10
      obtain ⟨y_70, h71, hm⟩ := bndE hm
      refine ⟨_, rfl, ?_⟩
      have h72 := rO_some hn_f_10 h71
      have hn_q_73 := h72
      refine o_c ?_
      obtain ⟨w_74, w_75, h76, h77, h78⟩ := rT2_at hn_q_73
      refine k_ixT (xs := [w_74, w_75]) (SqT.of ((ovr_ex.trans O.ex) _ _ h76)) rfl ?_
      obtain ⟨p_79, rfl, hp_p_79⟩ := fI h78
      refine ⟨.inl ⟨rfl, _, (SqL.of (O.ex _ _ (ovr_ex _ _ hp_p_79)))⟩, ?_⟩
      refine o_cons ?_
      refine o_c ?_
      refine x_nil ?_
      obtain ⟨l_80, h81, hm⟩ := bndE hm
      refine k_app (f := V.int) (O.ex _ _ (ovr_ex _ _ hp_p_79)) (fun o_ => Own.poke (o' := o_) O eS_10 eH_10 hp_p_79) h81 fun H O => ?_
      obtain ⟨H0, hZ_⟩ : ∃ H0 : Hp, H0 = Hs_10 := ⟨_, rfl⟩
      rw [← hZ_] at O s10_eB
      have eB := s10_eB
      -- 131
      refine o_ret ?_
      refine ⟨_, rfl, ?_⟩
      obtain rfl := Option.some.inj hm
      exact k _ _ H0 (((a_2, .ins ad.c_Reader dx_6 [("kept", .ref p_7), ("last", .int reader_1.last), ("alike", .int reader_1.alike), ("latest", .str reader_1.latest)]) :: (dx_6, .own a_2) :: ((p_7, .lst (List.map V.int reader_1.kept)) :: [])) ++ []) eB (Own.cv (O.sel (L' := [(a_2, .ins ad.c_Reader dx_6 [("kept", .ref p_7), ("last", .int reader_1.last), ("alike", .int reader_1.alike), ("latest", .str reader_1.latest)]), (dx_6, .own a_2), (p_7, .lst (List.map V.int reader_1.kept))]) [2, 3, 4] (by decide) rfl) (by first | with_reducible rfl | simp only [List.map_nil, List.flatten_cons, List.flatten_nil, List.cons_append, List.nil_append, List.append_nil, List.append_assoc])) ⟨_, rfl, ⟨rfl, rfl⟩⟩
def m_Reader_judged (self_1 : S_Reader) : Option (Str) :=
  ifB (decide (self_1.alike = (6 : Int))) (
    some ("six" : Str)) (
    ifB (decide ((List.length self_1.kept : Int) < (12 : Int)) || (decide (self_1.alike = (5 : Int)))) (
      some ("more" : Str)) (
      bnd (m_number_of (cutL self_1.kept (some (9 : Int)) (some (12 : Int)))) fun number_11 =>
      ifB (decide ((List.length self_1.kept : Int) < ((27 : Int) + ((8 : Int) * number_11)))) (
        some ("more" : Str)) (
        bnd (m_rest_of self_1.kept) fun rest_o_14 =>
        ifB (decide (rest_o_14 = (0 : Int))) (
          some ("whole" : Str)) (
          some ("bad" : Str)))))
def sp_Reader_judged (K : PySem.W.Frag) (ad : Ad) : Sp := fun vs H Q _ => ∃ (self_1 : S_Reader) (a_2 : Addr) (L_3 : List Cell) (R0 : Hp) (r : Str), vs = [.ref a_2] ∧ Own R0 H (L_3 ++ []) ∧ (o_Reader ad) R0 a_2 L_3 self_1 ∧ m_Reader_judged self_1 = some r ∧ RetX R0 (hsub H (L_3 ++ [])) (dK L_3 (dV (.str r))) Q
abbrev N_Reader_judged : List Str := ["self"]
theorem sc_Reader_judged : FnScope N_Reader_judged ["self"] (defScope s_Reader_judged) := ⟨rfl, rfl, rfl, by decide +kernel, rfl, by decide +kernel, by decide +kernel⟩
theorem ok_Reader_judged {ad : Ad} (T : Txt K mg ad) : FnOk P w K mg base CX0 3 ad.f_Reader_judged ad.fd_Reader_judged ["self"] (sp_Reader_judged K ad) := by
  have G_number_of := ok_number_of (P := P) (w := w) (base := base) T
  have G_rest_of := ok_rest_of (P := P) (w := w) (base := base) T
  refine T.F_Reader_judged.ok sc_Reader_judged (fun vs H Q E h => ?_) (fun cdv A outer s H vs Q E hr h => ?_)
  · obtain ⟨_, _, _, _, _, rfl, _⟩ := h
    rfl
  · obtain ⟨self_1, a_2, L_3, R0, r, rfl, OO, hb_a_2, hm, k⟩ := h
    unfold m_Reader_judged at hm
    obtain ⟨Hb, hHb⟩ : ∃ Hb : Hp, Hb = hsub H (L_3 ++ []) := ⟨_, rfl⟩
    obtain ⟨H0, hH0⟩ : ∃ H0 : Hp, H0 = Hb := ⟨Hb, rfl⟩
    have O : Own H0 H (L_3 ++ []) := by rw [hH0, hHb]; exact OO.startX
    have eR : Ex R0 Hb := by rw [hHb]; exact OO.subR
    rw [← hHb] at k
    have eB : Ex Hb H0 := by rw [hH0]; exact Ex.refl _
    have eS : Ex R0 (ovr R0 Hb H0) := by rw [hH0]; exact ovr_start eR
    replace hb_a_2 := (mo_Reader ad) _ _ _ _ _ eS hb_a_2
    clear hH0
    refine ⟨_, (pss_cons (ps_if (pt_cmpR op_eq (pe_fld (pv 0) rfl) pe_int (nomark _)) (pss_one (ps_ret pe_str)) pss_nil) (pss_cons (ps_if (PW.pt (pw_or (pt_cmpR op_lt (pe_callB (r := rLenQ K) call_lenQ (by rfl) T.z_len PySem.boot_len (pa_cons (pe_fld (pv 0) rfl) pa_nil)) (pe_gv rfl T.g_HEAD_readers) (nomark _)) (pw_or1 (pt_cmpR op_eq (pe_fld (pv 0) rfl) pe_int (nomark _))))) (pss_one (ps_ret pe_str)) pss_nil) (pss_cons (ps_if (pt_cmpR op_lt (pe_callB (r := rLenQ K) call_lenQ (by rfl) T.z_len PySem.boot_len (pa_cons (pe_fld (pv 0) rfl) pa_nil)) (pe_op op_add (pe_gv rfl T.g_BARE_readers) (pe_op op_mul pe_int (pe_call G_number_of (hr.mono (by decide)) (by rfl) T.g_number_of T.F_number_of.kp T.b_number_of .nil pass0 (pa_cons (pe_slice (r := rSlL K) sl_list (pe_fld (pv 0) rfl) (po_some pe_int) (po_some (pe_gv rfl T.g_HEAD_readers))) pa_nil)))) (nomark _)) (pss_one (ps_ret pe_str)) pss_nil) (pss_cons (ps_if (pt_cmpR op_eq (pe_call G_rest_of (hr.mono (by decide)) (by rfl) T.g_rest_of T.F_rest_of.kp T.b_rest_of .nil pass0 (pa_cons (pe_fld (pv 0) rfl) pa_nil)) pe_int (nomark _)) (pss_one (ps_ret pe_str)) pss_nil) (pss_one (ps_ret pe_str)))))), ?_⟩
    obtain ⟨dx_4, p_5, rfl⟩ := hb_a_2
    replace O : Own H0 H [(a_2, .ins ad.c_Reader dx_4 [("kept", .ref p_5), ("last", .int self_1.last), ("alike", .int self_1.alike), ("latest", .str self_1.latest)]), (dx_4, .own a_2), (p_5, .lst (List.map V.int self_1.kept))] := Own.cv O (by first | with_reducible rfl | simp only [List.map_nil, List.flatten_cons, List.flatten_nil, List.cons_append, List.nil_append, List.append_nil, List.append_assoc])
    -- 69
    refine o_seq ?_
    refine o_ifs ?_
    refine ⟨_, rfl, a_2, ad.c_Reader, dx_4, [("kept", .ref p_5), ("last", .int self_1.last), ("alike", .int self_1.alike), ("latest", .str self_1.latest)], (.int self_1.alike), rfl, (O.mem (List.Mem.head _)), T.C_Reader, T.N_Reader_alike, (lk_skip (by decide) (lk_skip (by decide) lk_hit)), ?_⟩
    refine o_c ?_
    refine k_eqI ?_
    refine ⟨_, rfl, ?_⟩
    refine iteS (c := (decide (self_1.alike = (6 : Int)))) (fun h6 => ?_) (fun h6 => ?_)
    · replace hm := ifT hm h6
      -- 70
      refine o_ret ?_
      refine o_c ?_
      obtain rfl := Option.some.inj hm
      exact k _ _ H0 (((a_2, .ins ad.c_Reader dx_4 [("kept", .ref p_5), ("last", .int self_1.last), ("alike", .int self_1.alike), ("latest", .str self_1.latest)]) :: (dx_4, .own a_2) :: ((p_5, .lst (List.map V.int self_1.kept)) :: [])) ++ []) eB (Own.cv O (by first | with_reducible rfl | simp only [List.map_nil, List.flatten_cons, List.flatten_nil, List.cons_append, List.nil_append, List.append_nil, List.append_assoc])) ⟨_, rfl, ⟨rfl, rfl⟩⟩
    · replace hm := ifF hm h6
      refine o_next ?_
      -- 71
      refine o_seq ?_
      refine o_ifs ?_
      refine x_orJ (c := decide ((List.length self_1.kept : Int) < (12 : Int))) (e := (decide (self_1.alike = (5 : Int)))) (d := (decide ((List.length self_1.kept : Int) < (12 : Int)) || (decide (self_1.alike = (5 : Int))))) (fun H => ∃ (R_ : Hp), Ex H0 R_ ∧ Own R_ H [(a_2, .ins ad.c_Reader dx_4 [("kept", .ref p_5), ("last", .int self_1.last), ("alike", .int self_1.alike), ("latest", .str self_1.latest)]), (dx_4, .own a_2), (p_5, .lst (List.map V.int self_1.kept))]) (fun Q1 k1 => ?_) (fun h7 => ⟨by rw [h7]; rfl, fun H hJ Q2 k2 => ?_⟩) (fun h7 => by rw [h7]; rfl) (fun H hJ => ?_)
      · have eJ8 : Ex H0 H0 := Ex.refl _
        refine ⟨_, rfl, a_2, ad.c_Reader, dx_4, [("kept", .ref p_5), ("last", .int self_1.last), ("alike", .int self_1.alike), ("latest", .str self_1.latest)], (.ref p_5), rfl, (O.mem (List.Mem.head _)), T.C_Reader, T.N_Reader_kept, lk_hit, ?_⟩
        refine x_nil ?_
        refine n_len (SqL.of (O.mem (List.Mem.tail _ (List.Mem.tail _ (List.Mem.head _))))) ?_
        refine ⟨_, _, rfl, rfl, _, rfl, ?_⟩
        exact k1 _ ⟨H0, eJ8, O⟩
      · obtain ⟨H0, eJ8, O⟩ := hJ
        replace eB := eB.trans eJ8
        refine ⟨_, rfl, a_2, ad.c_Reader, dx_4, [("kept", .ref p_5), ("last", .int self_1.last), ("alike", .int self_1.alike), ("latest", .str self_1.latest)], (.int self_1.alike), rfl, (O.mem (List.Mem.head _)), T.C_Reader, T.N_Reader_alike, (lk_skip (by decide) (lk_skip (by decide) lk_hit)), ?_⟩
        refine o_c ?_
        refine k_eqI ?_
        refine ⟨_, rfl, ?_⟩
        exact k2 _ ⟨H0, eJ8, O⟩
      obtain ⟨H0, eJ8, O⟩ := hJ
      replace eB := eB.trans eJ8
      refine iteS (c := (decide ((List.length self_1.kept : Int) < (12 : Int)) || (decide (self_1.alike = (5 : Int))))) (fun h9 => ?_) (fun h9 => ?_)
      · replace hm := ifT hm h9
        -- 72
        refine o_ret ?_
        refine o_c ?_
        obtain rfl := Option.some.inj hm
        exact k _ _ H0 (((a_2, .ins ad.c_Reader dx_4 [("kept", .ref p_5), ("last", .int self_1.last), ("alike", .int self_1.alike), ("latest", .str self_1.latest)]) :: (dx_4, .own a_2) :: ((p_5, .lst (List.map V.int self_1.kept)) :: [])) ++ []) eB (Own.cv O (by first | with_reducible rfl | simp only [List.map_nil, List.flatten_cons, List.flatten_nil, List.cons_append, List.nil_append, List.append_nil, List.append_assoc])) ⟨_, rfl, ⟨rfl, rfl⟩⟩
      · replace hm := ifF hm h9
        refine o_next ?_
        -- 73
        refine o_seq ?_
        refine o_ifs ?_
        refine ⟨_, rfl, a_2, ad.c_Reader, dx_4, [("kept", .ref p_5), ("last", .int self_1.last), ("alike", .int self_1.alike), ("latest", .str self_1.latest)], (.ref p_5), rfl, (O.mem (List.Mem.head _)), T.C_Reader, T.N_Reader_kept, lk_hit, ?_⟩
        refine x_nil ?_
        refine n_len (SqL.of (O.mem (List.Mem.tail _ (List.Mem.tail _ (List.Mem.head _))))) ?_
        refine ⟨_, rfl, a_2, ad.c_Reader, dx_4, [("kept", .ref p_5), ("last", .int self_1.last), ("alike", .int self_1.alike), ("latest", .str self_1.latest)], (.ref p_5), rfl, (O.mem (List.Mem.head _)), T.C_Reader, T.N_Reader_kept, lk_hit, _, rfl, _, rfl, ?_⟩
        refine k_cut (f := V.int) O (SqL.of (O.mem (List.Mem.tail _ (List.Mem.tail _ (List.Mem.head _))))) fun p_10 H O => ?_
        obtain ⟨number_11, h12, hm⟩ := bndE hm
        refine x_nil ?_
        refine ⟨_, _, number_11, rfl, (O.mem (List.Mem.head _)), h12, ?_⟩
        refine O.retV fun H O => ?_
        refine ⟨_, _, rfl, rfl, .inl ⟨by decide, by decide⟩, _, _, rfl, rfl, _, _, rfl, rfl, _, rfl, ?_⟩
        replace O := O.tl
        refine iteS (c := decide ((List.length self_1.kept : Int) < ((27 : Int) + ((8 : Int) * number_11)))) (fun h13 => ?_) (fun h13 => ?_)
        · replace hm := ifT hm h13
          -- 74
          refine o_ret ?_
          refine o_c ?_
          obtain rfl := Option.some.inj hm
          exact k _ _ H0 (((a_2, .ins ad.c_Reader dx_4 [("kept", .ref p_5), ("last", .int self_1.last), ("alike", .int self_1.alike), ("latest", .str self_1.latest)]) :: (dx_4, .own a_2) :: ((p_5, .lst (List.map V.int self_1.kept)) :: [])) ++ []) eB (Own.cv O (by first | with_reducible rfl | simp only [List.map_nil, List.flatten_cons, List.flatten_nil, List.cons_append, List.nil_append, List.append_nil, List.append_assoc])) ⟨_, rfl, ⟨rfl, rfl⟩⟩
        · replace hm := ifF hm h13
          refine o_next ?_
          -- 75
          refine o_seq ?_
          refine o_ifs ?_
          obtain ⟨rest_o_14, h15, hm⟩ := bndE hm
          refine ⟨_, rfl, a_2, ad.c_Reader, dx_4, [("kept", .ref p_5), ("last", .int self_1.last), ("alike", .int self_1.alike), ("latest", .str self_1.latest)], (.ref p_5), rfl, (O.mem (List.Mem.head _)), T.C_Reader, T.N_Reader_kept, lk_hit, ?_⟩
          refine x_nil ?_
          refine ⟨_, _, rest_o_14, rfl, (O.mem (List.Mem.tail _ (List.Mem.tail _ (List.Mem.head _)))), h15, ?_⟩
          refine O.retV fun H O => ?_
          refine o_c ?_
          refine k_eqI ?_
          refine ⟨_, rfl, ?_⟩
          refine iteS (c := (decide (rest_o_14 = (0 : Int)))) (fun h16 => ?_) (fun h16 => ?_)
          · replace hm := ifT hm h16
            -- 76
            refine o_ret ?_
            refine o_c ?_
            obtain rfl := Option.some.inj hm
            exact k _ _ H0 (((a_2, .ins ad.c_Reader dx_4 [("kept", .ref p_5), ("last", .int self_1.last), ("alike", .int self_1.alike), ("latest", .str self_1.latest)]) :: (dx_4, .own a_2) :: ((p_5, .lst (List.map V.int self_1.kept)) :: [])) ++ []) eB (Own.cv O (by first | with_reducible rfl | simp only [List.map_nil, List.flatten_cons, List.flatten_nil, List.cons_append, List.nil_append, List.append_nil, List.append_assoc])) ⟨_, rfl, ⟨rfl, rfl⟩⟩
          · replace hm := ifF hm h16
            refine o_next ?_
            -- 77
            refine o_ret ?_
            refine o_c ?_
            obtain rfl := Option.some.inj hm
            exact k _ _ H0 (((a_2, .ins ad.c_Reader dx_4 [("kept", .ref p_5), ("last", .int self_1.last), ("alike", .int self_1.alike), ("latest", .str self_1.latest)]) :: (dx_4, .own a_2) :: ((p_5, .lst (List.map V.int self_1.kept)) :: [])) ++ []) eB (Own.cv O (by first | with_reducible rfl | simp only [List.map_nil, List.flatten_cons, List.flatten_nil, List.cons_append, List.nil_append, List.append_nil, List.append_assoc])) ⟨_, rfl, ⟨rfl, rfl⟩⟩
def m_Reader_hear (self_1 : S_Reader) (bit_4 : Int) : Option (S_Reader × Str) :=
  ltv ((decide (self_1.alike = (5 : Int)))) fun put_7 =>
  bnd (ifB (decide (bit_4 = self_1.last)) (
    ltv ((self_1.alike + (1 : Int))) fun alike_12 =>
    some (S_Reader.mk self_1.kept self_1.last alike_12 self_1.latest)) (
    some (S_Reader.mk self_1.kept self_1.last (1 : Int) self_1.latest))) fun self_14 =>
  bnd (ifB (!put_7) (
    bnd (appG self_14.kept bit_4) fun l_22 =>
    some (S_Reader.mk l_22 bit_4 self_14.alike self_14.latest)) (
    some (S_Reader.mk self_14.kept bit_4 self_14.alike self_14.latest))) fun self_24 =>
  bnd (m_Reader_judged self_24) fun judged_31 =>
  some ((S_Reader.mk self_24.kept self_24.last self_24.alike judged_31), judged_31)
def sp_Reader_hear (K : PySem.W.Frag) (ad : Ad) : Sp := fun vs H Q _ => ∃ (self_1 : S_Reader) (a_2 : Addr) (L_3 : List Cell) (bit_4 : Int) (R0 : Hp) (r : S_Reader × Str), vs = [.ref a_2, .int bit_4] ∧ Own R0 H (L_3 ++ []) ∧ (o_Reader ad) R0 a_2 L_3 self_1 ∧ m_Reader_hear self_1 bit_4 = some r ∧ RetX R0 (hsub H (L_3 ++ [])) (dX (o_Reader ad) a_2 r.1 (dV (.str r.2))) Q
abbrev N_Reader_hear : List Str := ["self", "bit", "put"]
theorem sc_Reader_hear : FnScope N_Reader_hear ["self", "bit"] (defScope s_Reader_hear) := ⟨rfl, rfl, rfl, by decide +kernel, rfl, by decide +kernel, by decide +kernel⟩
theorem ok_Reader_hear {ad : Ad} (T : Txt K mg ad) : FnOk P w K mg base CX0 4 ad.f_Reader_hear ad.fd_Reader_hear ["self", "bit"] (sp_Reader_hear K ad) := by
  have G_Reader_judged := ok_Reader_judged (P := P) (w := w) (base := base) T
  refine T.F_Reader_hear.ok sc_Reader_hear (fun vs H Q E h => ?_) (fun cdv A outer s H vs Q E hr h => ?_)
  · obtain ⟨_, _, _, _, _, _, rfl, _⟩ := h
    rfl
  · obtain ⟨self_1, a_2, L_3, bit_4, R0, r, rfl, OO, hb_a_2, hm, k⟩ := h
    unfold m_Reader_hear at hm
    obtain ⟨Hb, hHb⟩ : ∃ Hb : Hp, Hb = hsub H (L_3 ++ []) := ⟨_, rfl⟩
    obtain ⟨H0, hH0⟩ : ∃ H0 : Hp, H0 = Hb := ⟨Hb, rfl⟩
    have O : Own H0 H (L_3 ++ []) := by rw [hH0, hHb]; exact OO.startX
    have eR : Ex R0 Hb := by rw [hHb]; exact OO.subR
    rw [← hHb] at k
    have eB : Ex Hb H0 := by rw [hH0]; exact Ex.refl _
    have eS : Ex R0 (ovr R0 Hb H0) := by rw [hH0]; exact ovr_start eR
    replace hb_a_2 := (mo_Reader ad) _ _ _ _ _ eS hb_a_2
    clear hH0
    refine ⟨_, (pss_cons (ps_set (i := 2) sc_Reader_hear.nd rfl (Or.inl rfl) (pe_cmpR op_eq (pe_fld (pv 0) rfl) pe_int (nomark _))) (Evl.pss_cut (ps_if (pt_cmpR op_eq (pv 1) (pe_fld (pv 0) rfl) (nomark _)) (pss_one (ps_fld (pv 0) (pe_op op_add (pe_fld (pv 0) rfl) pe_int) rfl)) (pss_one (ps_fld (pv 0) pe_int rfl))) (pss_cons (ps_fld (pv 0) (pv 1) rfl) (Evl.pss_cut (ps_if (pt_not (pt_val (pv 2))) (pss_one (ps_expr (pe_bm PySem.F.plainAttrs_list PySem.F.slot_list_append PySem.F.type_list_append mt_append (pe_fld (pv 0) rfl) (pa_cons (pv 1) pa_nil)))) pss_nil) (pss_cons (ps_fld (pv 0) (pe_meth0 (pv 0) T.C_Reader T.M_Reader_judged G_Reader_judged (hr.mono (by decide)) T.b_Reader_judged .nil pass0) rfl) (pss_one (ps_ret (pe_fld (pv 0) rfl)))))))), ?_⟩
    obtain ⟨dx_5, p_6, rfl⟩ := hb_a_2
    replace O : Own H0 H [(a_2, .ins ad.c_Reader dx_5 [("kept", .ref p_6), ("last", .int self_1.last), ("alike", .int self_1.alike), ("latest", .str self_1.latest)]), (dx_5, .own a_2), (p_6, .lst (List.map V.int self_1.kept))] := Own.cv O (by first | with_reducible rfl | simp only [List.map_nil, List.flatten_cons, List.flatten_nil, List.cons_append, List.nil_append, List.append_nil, List.append_assoc])
    -- 57
    refine o_seq ?_
    refine o_asg ?_
    refine ⟨_, rfl, a_2, ad.c_Reader, dx_5, [("kept", .ref p_6), ("last", .int self_1.last), ("alike", .int self_1.alike), ("latest", .str self_1.latest)], (.int self_1.alike), rfl, (O.mem (List.Mem.head _)), T.C_Reader, T.N_Reader_alike, (lk_skip (by decide) (lk_skip (by decide) lk_hit)), ?_⟩
    refine o_c ?_
    refine k_eqI ?_
    obtain ⟨put_7, h8, hm⟩ := ltvE hm
    refine a_set (congrArg V.bl h8) ?_
    -- 58
    obtain ⟨self_14, h11, hm⟩ := bndE hm
    refine o_cut (fun σ H => ∃ (R_ : Hp) (B_15 : List Cell), σ = [some (.ref a_2), some (.int bit_4), some (.bl put_7)] ∧ Ex H0 R_ ∧ Own R_ H (B_15 ++ []) ∧ (o_Reader ad) (ovr R0 Hb R_) a_2 B_15 self_14) ?_ ?_
    · have eJ9 : Ex H0 H0 := Ex.refl _
      refine o_ifs ?_
      refine ⟨_, rfl, _, rfl, a_2, ad.c_Reader, dx_5, [("kept", .ref p_6), ("last", .int self_1.last), ("alike", .int self_1.alike), ("latest", .str self_1.latest)], (.int self_1.last), rfl, (O.mem (List.Mem.head _)), T.C_Reader, T.N_Reader_last, (lk_skip (by decide) lk_hit), ?_⟩
      refine k_eqI ?_
      refine ⟨_, rfl, ?_⟩
      refine iteS (c := (decide (bit_4 = self_1.last))) (fun h10 => ?_) (fun h10 => ?_)
      · replace hm := ifT h11 h10
        -- 59
        refine o_sfld ?_
        refine ⟨_, rfl, a_2, ad.c_Reader, dx_5, [("kept", .ref p_6), ("last", .int self_1.last), ("alike", .int self_1.alike), ("latest", .str self_1.latest)], (.int self_1.alike), rfl, (O.mem (List.Mem.head _)), T.C_Reader, T.N_Reader_alike, (lk_skip (by decide) (lk_skip (by decide) lk_hit)), _, _, rfl, rfl, _, rfl, ?_⟩
        obtain ⟨alike_12, h13, hm⟩ := ltvE hm
        refine k_sfld (fs' := [("kept", .ref p_6), ("last", .int self_1.last), ("alike", .int alike_12), ("latest", .str self_1.latest)]) (O.mem (List.Mem.head _)) T.C_Reader T.N_Reader_alike (by show (4 : Nat) < 1000; decide) (congrArg V.int h13) (putF_skip (by decide) (putF_skip (by decide) putF_hit)) (fun _ => O.put0) fun H O => ?_
        have Oz := O
        have hq_ := Option.some.inj hm
        subst hq_
        exact ⟨H0, ((a_2, .ins ad.c_Reader dx_5 [("kept", .ref p_6), ("last", .int self_1.last), ("alike", .int alike_12), ("latest", .str self_1.latest)]) :: (dx_5, .own a_2) :: ((p_6, .lst (List.map V.int self_1.kept)) :: [])), rfl, eJ9, (Own.cv Oz (by first | with_reducible rfl | simp only [List.map_nil, List.flatten_cons, List.flatten_nil, List.cons_append, List.nil_append, List.append_nil, List.append_assoc])), ⟨dx_5, p_6, rfl⟩⟩
      · replace hm := ifF h11 h10
        -- 61
        refine o_sfld ?_
        refine ⟨_, rfl, ?_⟩
        refine k_sfld (fs' := [("kept", .ref p_6), ("last", .int self_1.last), ("alike", .int (1 : Int)), ("latest", .str self_1.latest)]) (O.mem (List.Mem.head _)) T.C_Reader T.N_Reader_alike (by show (4 : Nat) < 1000; decide) rfl (putF_skip (by decide) (putF_skip (by decide) putF_hit)) (fun _ => O.put0) fun H O => ?_
        have Oz := O
        have hq_ := Option.some.inj hm
        subst hq_
        exact ⟨H0, ((a_2, .ins ad.c_Reader dx_5 [("kept", .ref p_6), ("last", .int self_1.last), ("alike", .int (1 : Int)), ("latest", .str self_1.latest)]) :: (dx_5, .own a_2) :: ((p_6, .lst (List.map V.int self_1.kept)) :: [])), rfl, eJ9, (Own.cv Oz (by first | with_reducible rfl | simp only [List.map_nil, List.flatten_cons, List.flatten_nil, List.cons_append, List.nil_append, List.append_nil, List.append_assoc])), ⟨dx_5, p_6, rfl⟩⟩
    rintro σ H ⟨H0, B_15, rfl, eJ_, O, h16⟩
    replace eB := eB.trans eJ_
    obtain ⟨dx_17, p_18, rfl⟩ := h16
    replace O : Own H0 H [(a_2, .ins ad.c_Reader dx_17 [("kept", .ref p_18), ("last", .int self_14.last), ("alike", .int self_14.alike), ("latest", .str self_14.latest)]), (dx_17, .own a_2), (p_18, .lst (List.map V.int self_14.kept))] := Own.cv O (by first | with_reducible rfl | simp only [List.map_nil, List.flatten_cons, List.flatten_nil, List.cons_append, List.nil_append, List.append_nil, List.append_assoc])
    -- 62
    refine o_seq ?_
    refine o_sfld ?_
    refine ⟨_, rfl, _, rfl, ?_⟩
    refine k_sfld (fs' := [("kept", .ref p_18), ("last", .int bit_4), ("alike", .int self_14.alike), ("latest", .str self_14.latest)]) (O.mem (List.Mem.head _)) T.C_Reader T.N_Reader_last (by show (4 : Nat) < 1000; decide) rfl (putF_skip (by decide) putF_hit) (fun _ => O.put0) fun H O => ?_
    -- 63
    obtain ⟨self_24, h21, hm⟩ := bndE hm
    refine o_cut (fun σ H => ∃ (R_ : Hp) (B_25 : List Cell) (j_27 : Option V) (j_28 : Option V), σ = [some (.ref a_2), j_27, j_28] ∧ Ex H0 R_ ∧ Own R_ H (B_25 ++ []) ∧ (o_Reader ad) (ovr R0 Hb R_) a_2 B_25 self_24) ?_ ?_
    · have eJ19 : Ex H0 H0 := Ex.refl _
      refine o_ifs ?_
      refine ⟨_, rfl, _, rfl, ?_⟩
      refine iteS (c := (!put_7)) (fun h20 => ?_) (fun h20 => ?_)
      · replace hm := ifT h21 h20
        -- 64
        refine o_drop ?_
        obtain ⟨l_22, h23, hm⟩ := bndE hm
        refine ⟨_, rfl, a_2, ad.c_Reader, dx_17, [("kept", .ref p_18), ("last", .int bit_4), ("alike", .int self_14.alike), ("latest", .str self_14.latest)], (.ref p_18), rfl, (O.mem (List.Mem.head _)), T.C_Reader, T.N_Reader_kept, lk_hit, .inl ⟨rfl, _, (SqL.of (O.mem (List.Mem.tail _ (List.Mem.tail _ (List.Mem.head _)))))⟩, _, rfl, ?_⟩
        refine x_nil ?_
        refine k_app (f := V.int) (O.mem (List.Mem.tail _ (List.Mem.tail _ (List.Mem.head _)))) (fun _ => O.put2) h23 fun H O => ?_
        have Oz := O
        have hq_ := Option.some.inj hm
        subst hq_
        exact ⟨H0, ((a_2, .ins ad.c_Reader dx_17 [("kept", .ref p_18), ("last", .int bit_4), ("alike", .int self_14.alike), ("latest", .str self_14.latest)]) :: (dx_17, .own a_2) :: ((p_18, .lst (List.map V.int l_22)) :: [])), _, _, rfl, eJ19, (Own.cv Oz (by first | with_reducible rfl | simp only [List.map_nil, List.flatten_cons, List.flatten_nil, List.cons_append, List.nil_append, List.append_nil, List.append_assoc])), ⟨dx_17, p_18, rfl⟩⟩
      · replace hm := ifF h21 h20
        refine o_next ?_
        have Oz := O
        have hq_ := Option.some.inj hm
        subst hq_
        exact ⟨H0, ((a_2, .ins ad.c_Reader dx_17 [("kept", .ref p_18), ("last", .int bit_4), ("alike", .int self_14.alike), ("latest", .str self_14.latest)]) :: (dx_17, .own a_2) :: ((p_18, .lst (List.map V.int self_14.kept)) :: [])), _, _, rfl, eJ19, (Own.cv Oz (by first | with_reducible rfl | simp only [List.map_nil, List.flatten_cons, List.flatten_nil, List.cons_append, List.nil_append, List.append_nil, List.append_assoc])), ⟨dx_17, p_18, rfl⟩⟩
    rintro σ H ⟨H0, B_25, j_27, j_28, rfl, eJ_, O, h26⟩
    replace eB := eB.trans eJ_
    obtain ⟨dx_29, p_30, rfl⟩ := h26
    replace O : Own H0 H [(a_2, .ins ad.c_Reader dx_29 [("kept", .ref p_30), ("last", .int self_24.last), ("alike", .int self_24.alike), ("latest", .str self_24.latest)]), (dx_29, .own a_2), (p_30, .lst (List.map V.int self_24.kept))] := Own.cv O (by first | with_reducible rfl | simp only [List.map_nil, List.flatten_cons, List.flatten_nil, List.cons_append, List.nil_append, List.append_nil, List.append_assoc])
    -- 65
    refine o_seq ?_
    refine o_sfld ?_
    refine ⟨_, rfl, a_2, dx_29, [("kept", .ref p_30), ("last", .int self_24.last), ("alike", .int self_24.alike), ("latest", .str self_24.latest)], rfl, (O.mem (List.Mem.head _)), (lk_skip (by decide) (lk_skip (by decide) (lk_skip (by decide) (lk_skip (by decide) lk_nil)))), ?_⟩
    refine x_nil ?_
    obtain ⟨judged_31, h32, hm⟩ := bndE hm
    have Oc : Own H0 H ((((a_2, .ins ad.c_Reader dx_29 [("kept", .ref p_30), ("last", .int self_24.last), ("alike", .int self_24.alike), ("latest", .str self_24.latest)]) :: (dx_29, .own a_2) :: ((p_30, .lst (List.map V.int self_24.kept)) :: [])) ++ []) ++ []) := Own.cv O (by first | with_reducible rfl | simp only [List.map_nil, List.flatten_cons, List.flatten_nil, List.cons_append, List.nil_append, List.append_nil, List.append_assoc])
    refine ⟨self_24, a_2, ((a_2, .ins ad.c_Reader dx_29 [("kept", .ref p_30), ("last", .int self_24.last), ("alike", .int self_24.alike), ("latest", .str self_24.latest)]) :: (dx_29, .own a_2) :: ((p_30, .lst (List.map V.int self_24.kept)) :: [])), ovr R0 Hb H0, judged_31, rfl, (Own.shrink Oc.left ovr_ex), ⟨dx_29, p_30, rfl⟩, h32, ?_⟩
    refine Oc.retXO (mdK mdV) eB fun w_33 H H0 L_34 O e_ d_ => ?_
    replace eB := eB.trans e_
    obtain ⟨L_35, rfl, ⟨rfl, rfl⟩⟩ := d_
    replace O : Own H0 H [(a_2, .ins ad.c_Reader dx_29 [("kept", .ref p_30), ("last", .int self_24.last), ("alike", .int self_24.alike), ("latest", .str self_24.latest)]), (dx_29, .own a_2), (p_30, .lst (List.map V.int self_24.kept))] := Own.cv O (by first | with_reducible rfl | simp only [List.map_nil, List.flatten_cons, List.flatten_nil, List.cons_append, List.nil_append, List.append_nil, List.append_assoc])
    refine ⟨_, rfl, ?_⟩
    refine k_sfld (fs' := [("kept", .ref p_30), ("last", .int self_24.last), ("alike", .int self_24.alike), ("latest", .str judged_31)]) (O.mem (List.Mem.head _)) T.C_Reader T.N_Reader_latest (by show (4 : Nat) < 1000; decide) rfl (putF_skip (by decide) (putF_skip (by decide) (putF_skip (by decide) putF_hit))) (fun _ => O.put0) fun H O => ?_
    -- 66
    refine o_ret ?_
    refine ⟨_, rfl, a_2, ad.c_Reader, dx_29, [("kept", .ref p_30), ("last", .int self_24.last), ("alike", .int self_24.alike), ("latest", .str judged_31)], (.str judged_31), rfl, (O.mem (List.Mem.head _)), T.C_Reader, T.N_Reader_latest, (lk_skip (by decide) (lk_skip (by decide) (lk_skip (by decide) lk_hit))), ?_⟩
    obtain rfl := Option.some.inj hm
    exact k _ _ H0 (((a_2, .ins ad.c_Reader dx_29 [("kept", .ref p_30), ("last", .int self_24.last), ("alike", .int self_24.alike), ("latest", .str judged_31)]) :: (dx_29, .own a_2) :: ((p_30, .lst (List.map V.int self_24.kept)) :: [])) ++ []) eB (Own.cv O (by first | with_reducible rfl | simp only [List.map_nil, List.flatten_cons, List.flatten_nil, List.cons_append, List.nil_append, List.append_nil, List.append_assoc])) ⟨_, _, rfl, ⟨dx_29, p_30, rfl⟩, ⟨rfl, rfl⟩⟩
def m__law_told (reader_1 : S_Reader) (wire_4 : List Int) (k_6 : Int) (plain_7 : List Int) (held_10 : List ((List Int) × (List Int))) : Option (S_Reader × (List Int) × (List ((List Int) × (List Int))) × Bool) :=
  bnd (atI wire_4 k_6) fun e_16 =>
  bnd (m_Reader_hear reader_1 e_16) fun (self_18, hear_19) =>
  ltv (("more" : Str)) fun due_28 =>
  bnd (ifB (decide (k_6 = ((List.length wire_4 : Int) - (1 : Int)))) (
    some ("whole" : Str)) (
    some due_28)) fun due_33 =>
  ifB ((!true) || (!decide (hear_19 = due_33))) (
    some (self_18, plain_7, held_10, false)) (
    bnd (ifB (decide (k_6 < (5 : Int))) (some true) (bnd (atI wire_4 k_6) fun e_41 =>
    bnd (repG ([((1 : Int) - e_41)]) (5 : Int)) fun t_44 => some (!decide ((cutL wire_4 (some (k_6 - (5 : Int))) (some k_6)) = t_44)))) fun c_47 =>
    bnd (ifB c_47 (
      bnd (atI wire_4 k_6) fun e_51 =>
      bnd (appG plain_7 e_51) fun l_53 =>
      some l_53) (
      some plain_7)) fun plain_56 =>
    ifB ((decide ((k_6 % (7 : Int)) = (3 : Int))) || (decide (due_33 = ("whole" : Str)))) (
      bnd (m_Reader_plain self_18) fun plain_60 =>
      bnd (m__law_alike plain_60 plain_56) fun law_al_66 =>
      ifB (!law_al_66) (
        some (self_18, plain_56, held_10, false)) (
        bnd (ifB (decide ((k_6 % (2 : Int)) = (0 : Int))) (
          bnd (appG plain_60 (1 : Int)) fun l_72 =>
          some l_72) (
          some plain_60)) fun found_77 =>
        bnd (appG held_10 (found_77, found_77)) fun l_80 =>
        bnd (ifB (decide (due_33 = ("whole" : Str))) (some true) (bndO (m_Reader_frame self_18) fun frame_84 => some (Option.isNone frame_84))) fun c_90 =>
        some (self_18, plain_56, l_80, c_90))) (
      bnd (ifB (decide (due_33 = ("whole" : Str))) (some true) (bndO (m_Reader_frame self_18) fun frame_94 => some (Option.isNone frame_94))) fun c_100 =>
      some (self_18, plain_56, held_10, c_100)))
def sp__law_told (K : PySem.W.Frag) (ad : Ad) : Sp := fun vs H Q _ => ∃ (reader_1 : S_Reader) (a_2 : Addr) (L_3 : List Cell) (wire_4 : List Int) (a_5 : Addr) (k_6 : Int) (plain_7 : List Int) (a_8 : Addr) (L_9 : List Cell) (held_10 : List ((List Int) × (List Int))) (a_11 : Addr) (L_12 : List Cell) (R0 : Hp) (r : S_Reader × (List Int) × (List ((List Int) × (List Int))) × Bool), vs = [.ref a_2, .ref a_5, .int k_6, .ref a_8, .ref a_11] ∧ Own R0 H (L_3 ++ (L_9 ++ (L_12 ++ []))) ∧ (o_Reader ad) R0 a_2 L_3 reader_1 ∧ (hsub H (L_3 ++ (L_9 ++ (L_12 ++ [])))) a_5 = some (.lst (List.map V.int wire_4)) ∧ (oRow V.int) R0 a_8 L_9 plain_7 ∧ (oRowD (rT2 (rL rI) (rL rI))) R0 a_11 L_12 held_10 ∧ m__law_told reader_1 wire_4 k_6 plain_7 held_10 = some r ∧ RetX R0 (hsub H (L_3 ++ (L_9 ++ (L_12 ++ [])))) (dX (o_Reader ad) a_2 r.1 (dX (oRow V.int) a_8 r.2.1 (dX (oRowD (rT2 (rL rI) (rL rI))) a_11 r.2.2.1 (dV (.bl r.2.2.2))))) Q
abbrev N__law_told : List Str := ["reader", "wire", "k", "plain", "held", "word", "due", "found"]
theorem sc__law_told : FnScope N__law_told ["reader", "wire", "k", "plain", "held"] (defScope s__law_told) := ⟨rfl, rfl, rfl, by decide +kernel, rfl, by decide +kernel, by decide +kernel⟩
theorem ok__law_told {ad : Ad} (T : Txt K mg ad) : FnOk P w K mg base CX0 5 ad.f__law_told ad.fd__law_told ["reader", "wire", "k", "plain", "held"] (sp__law_told K ad) := by
  have G_Reader_frame := ok_Reader_frame (P := P) (w := w) (base := base) T
  have G_Reader_hear := ok_Reader_hear (P := P) (w := w) (base := base) T
  have G_Reader_plain := ok_Reader_plain (P := P) (w := w) (base := base) T
  have G__law_alike := ok__law_alike (P := P) (w := w) (base := base) T
  refine T.F__law_told.ok sc__law_told (fun vs H Q E h => ?_) (fun cdv A outer s H vs Q E hr h => ?_)
  · obtain ⟨_, _, _, _, _, _, _, _, _, _, _, _, _, _, rfl, _⟩ := h
    rfl
  · obtain ⟨reader_1, a_2, L_3, wire_4, a_5, k_6, plain_7, a_8, L_9, held_10, a_11, L_12, R0, r, rfl, OO, hb_a_2, hp_a_5, hb_a_8, hb_a_11, hm, k⟩ := h
    unfold m__law_told at hm
    obtain ⟨Hb, hHb⟩ : ∃ Hb : Hp, Hb = hsub H (L_3 ++ (L_9 ++ (L_12 ++ []))) := ⟨_, rfl⟩
    obtain ⟨H0, hH0⟩ : ∃ H0 : Hp, H0 = Hb := ⟨Hb, rfl⟩
    have O : Own H0 H (L_3 ++ (L_9 ++ (L_12 ++ []))) := by rw [hH0, hHb]; exact OO.startX
    have eR : Ex R0 Hb := by rw [hHb]; exact OO.subR
    rw [← hHb] at k hp_a_5
    have eB : Ex Hb H0 := by rw [hH0]; exact Ex.refl _
    have eS : Ex R0 (ovr R0 Hb H0) := by rw [hH0]; exact ovr_start eR
    replace hb_a_2 := (mo_Reader ad) _ _ _ _ _ eS hb_a_2
    rw [← hH0] at hp_a_5
    replace hb_a_8 := moRow _ _ _ _ _ eS hb_a_8
    replace hb_a_11 := (moRowD (mT2 (mL mI) (mL mI))) _ _ _ _ _ eS hb_a_11
    clear hH0
    refine ⟨_, (pss_cons (ps_set (i := 5) sc__law_told.nd rfl (Or.inl rfl) (pe_meth (pv 0) T.C_Reader T.M_Reader_hear G_Reader_hear (hr.mono (by decide)) T.b_Reader_hear .nil pass0 (pa_cons (pe_ix (r := rIxL K) ix_list (pv 1) (pv 2) (fun _ _ => rfl)) pa_nil))) (pss_cons (ps_set (i := 6) sc__law_told.nd rfl (Or.inl rfl) pe_str) (Evl.pss_cut (ps_if (pt_cmpR op_eq (pv 2) (pe_op op_sub (pe_callB (r := rLenQ K) call_lenQ (by rfl) T.z_len PySem.boot_len (pa_cons (pv 1) pa_nil)) pe_int) (nomark _)) (pss_one (ps_set (i := 6) sc__law_told.nd rfl (Or.inl rfl) pe_str)) pss_nil) (pss_cons (ps_if (PW.pt (pw_or (pt_not (pt_val (pe_callB (r := rIsi K) call_isi (by rfl) T.z_isinstance (by decide +kernel) (pa_cons (pv 5) (pa_cons (pe_bltn (v := V.ty "str") (u := .type "str") (by rfl) T.z_str (by decide +kernel) rfl) pa_nil))))) (pw_or1 (pt_cmpR op_ne (pv 5) (pv 6) (nomark _))))) (pss_one (ps_ret pe_bl)) pss_nil) (Evl.pss_cut (ps_if (PW.pt (pw_or (pt_cmpR op_lt (pv 2) pe_int (nomark _)) (pw_or1 (pt_cmpR (r := rNeD K) (op_neD hr.units) (pe_slice (r := rSlL K) sl_list (pv 1) (po_some (pe_op op_sub (pv 2) pe_int)) (po_some (pv 2))) (pe_op op_rep (pe_lstQ (pe_lst (pa_cons (pe_op op_sub pe_int (pe_ix (r := rIxL K) ix_list (pv 1) (pv 2) (fun _ _ => rfl))) pa_nil))) pe_int) (nomark _))))) (pss_one (ps_expr (pe_bm PySem.F.plainAttrs_list PySem.F.slot_list_append PySem.F.type_list_append mt_append (pv 3) (pa_cons (pe_ix (r := rIxL K) ix_list (pv 1) (pv 2) (fun _ _ => rfl)) pa_nil)))) pss_nil) (pss_cons (ps_if (PW.pt (pw_or (pt_cmpR op_eq (pe_op op_mod (pv 2) pe_int) pe_int (nomark _)) (pw_or1 (pt_cmpR op_eq (pv 6) pe_str (nomark _))))) (pss_cons (ps_set (i := 7) sc__law_told.nd rfl (Or.inl rfl) (pe_meth0 (pv 0) T.C_Reader T.M_Reader_plain G_Reader_plain (hr.mono (by decide)) T.b_Reader_plain .nil pass0)) (pss_cons (ps_if (pt_not (pt_val (pe_call G__law_alike (hr.mono (by decide)) (by rfl) T.g__law_alike T.F__law_alike.kp T.b__law_alike .nil pass0 (pa_cons (pv 7) (pa_cons (pv 3) pa_nil))))) (pss_one (ps_ret pe_bl)) pss_nil) (Evl.pss_cut (ps_if (pt_cmpR op_eq (pe_op op_mod (pv 2) pe_int) pe_int (nomark _)) (pss_one (ps_expr (pe_bm PySem.F.plainAttrs_list PySem.F.slot_list_append PySem.F.type_list_append mt_append (pv 7) (pa_cons pe_int pa_nil)))) pss_nil) (pss_one (ps_expr (pe_bm PySem.F.plainAttrs_list PySem.F.slot_list_append PySem.F.type_list_append mt_append (pv 4) (pa_cons (pe_tupQ (pe_tup (pa_cons (pv 7) (pa_cons (pe_callTy (r := rListQ K) call_listQ (by rfl) T.z_list (by decide +kernel) (pa_cons (pv 7) pa_nil)) pa_nil)))) pa_nil))))))) pss_nil) (pss_one (ps_ret (pe_or (pe_cmpR op_eq (pv 6) pe_str (nomark _)) (pe_one (pe_cmpR (r := rIsN) op_isNq (pe_meth0 (pv 0) T.C_Reader T.M_Reader_frame G_Reader_frame (hr.mono (by decide)) T.b_Reader_frame .nil passN) pe_non (nomark _)))))))))))), ?_⟩
    obtain ⟨dx_13, p_14, rfl⟩ := hb_a_2
    obtain rfl := (show L_9 = _ from hb_a_8)
    obtain ⟨vs_15, rfl, ha_a_11⟩ := hb_a_11
    replace O : Own H0 H [(a_2, .ins ad.c_Reader dx_13 [("kept", .ref p_14), ("last", .int reader_1.last), ("alike", .int reader_1.alike), ("latest", .str reader_1.latest)]), (dx_13, .own a_2), (p_14, .lst (List.map V.int reader_1.kept)), (a_8, .lst (List.map V.int plain_7)), (a_11, .lst vs_15)] := Own.cv O (by first | with_reducible rfl | simp only [List.map_nil, List.flatten_cons, List.flatten_nil, List.cons_append, List.nil_append, List.append_nil, List.append_assoc])
    -- 133
    refine o_seq ?_
    refine o_asg ?_
    obtain ⟨e_16, h17, hm⟩ := bndE hm
    refine ⟨_, rfl, a_2, dx_13, [("kept", .ref p_14), ("last", .int reader_1.last), ("alike", .int reader_1.alike), ("latest", .str reader_1.latest)], rfl, (O.mem (List.Mem.head _)), (lk_skip (by decide) (lk_skip (by decide) (lk_skip (by decide) (lk_skip (by decide) lk_nil)))), _, rfl, _, rfl, ?_⟩
    refine k_ixL (f := V.int) (SqL.of (O.ex _ _ hp_a_5)) h17 ?_
    refine x_nil ?_
    obtain ⟨⟨self_18, hear_19⟩, h20, hm⟩ := bndE hm
    have Oc : Own H0 H ((((a_2, .ins ad.c_Reader dx_13 [("kept", .ref p_14), ("last", .int reader_1.last), ("alike", .int reader_1.alike), ("latest", .str reader_1.latest)]) :: (dx_13, .own a_2) :: ((p_14, .lst (List.map V.int reader_1.kept)) :: [])) ++ []) ++ [(a_8, .lst (List.map V.int plain_7)), (a_11, .lst vs_15)]) := Own.cv O (by first | with_reducible rfl | simp only [List.map_nil, List.flatten_cons, List.flatten_nil, List.cons_append, List.nil_append, List.append_nil, List.append_assoc])
    refine ⟨reader_1, a_2, ((a_2, .ins ad.c_Reader dx_13 [("kept", .ref p_14), ("last", .int reader_1.last), ("alike", .int reader_1.alike), ("latest", .str reader_1.latest)]) :: (dx_13, .own a_2) :: ((p_14, .lst (List.map V.int reader_1.kept)) :: [])), e_16, ovr R0 Hb H0, (self_18, hear_19), rfl, (Own.shrink Oc.left ovr_ex), ⟨dx_13, p_14, rfl⟩, h20, ?_⟩
    refine Oc.retXO (mdX (mo_Reader ad) mdV) eB fun w_21 H H0 L_22 O e_ d_ => ?_
    replace hp_a_5 := e_ _ _ hp_a_5
    replace ha_a_11 := mA (mT2 (mL mI) (mL mI)) (ovr_mono e_) ha_a_11
    replace eB := eB.trans e_
    obtain ⟨L_23, L_25, rfl, h24, ⟨rfl, rfl⟩⟩ := d_
    obtain ⟨dx_26, p_27, rfl⟩ := h24
    replace O : Own H0 H [(a_2, .ins ad.c_Reader dx_26 [("kept", .ref p_27), ("last", .int self_18.last), ("alike", .int self_18.alike), ("latest", .str self_18.latest)]), (dx_26, .own a_2), (p_27, .lst (List.map V.int self_18.kept)), (a_8, .lst (List.map V.int plain_7)), (a_11, .lst vs_15)] := Own.cv O (by first | with_reducible rfl | simp only [List.map_nil, List.flatten_cons, List.flatten_nil, List.cons_append, List.nil_append, List.append_nil, List.append_assoc])
    -- 134
    refine o_seq ?_
    refine o_asg ?_
    refine o_c ?_
    obtain ⟨due_28, h29, hm⟩ := ltvE hm
    refine a_set (congrArg V.str h29) ?_
    -- 135
    obtain ⟨due_33, h32, hm⟩ := bndE hm
    refine o_cut (fun σ H => ∃ (R_ : Hp), σ = [some (.ref a_2), some (.ref a_5), some (.int k_6), some (.ref a_8), some (.ref a_11), some (.str hear_19), some (.str due_33), none] ∧ Ex H0 R_ ∧ Own R_ H [(a_8, .lst (List.map V.int plain_7)), (a_11, .lst vs_15), (a_2, .ins ad.c_Reader dx_26 [("kept", .ref p_27), ("last", .int self_18.last), ("alike", .int self_18.alike), ("latest", .str self_18.latest)]), (dx_26, .own a_2), (p_27, .lst (List.map V.int self_18.kept))]) ?_ ?_
    · have eJ30 : Ex H0 H0 := Ex.refl _
      refine o_ifs ?_
      refine ⟨_, rfl, _, rfl, ?_⟩
      refine x_nil ?_
      refine n_len (SqL.of (O.ex _ _ hp_a_5)) ?_
      refine ⟨_, _, rfl, rfl, ?_⟩
      refine k_eqI ?_
      refine ⟨_, rfl, ?_⟩
      refine iteS (c := (decide (k_6 = ((List.length wire_4 : Int) - (1 : Int))))) (fun h31 => ?_) (fun h31 => ?_)
      · replace hm := ifT h32 h31
        -- 136
        refine o_asg ?_
        refine o_c ?_
        have Oz := O
        have hq_ := Option.some.inj hm
        subst hq_
        exact ⟨H0, rfl, eJ30, (Oz.sel (L' := [(a_8, .lst (List.map V.int plain_7)), (a_11, .lst vs_15), (a_2, .ins ad.c_Reader dx_26 [("kept", .ref p_27), ("last", .int self_18.last), ("alike", .int self_18.alike), ("latest", .str self_18.latest)]), (dx_26, .own a_2), (p_27, .lst (List.map V.int self_18.kept))]) [3, 4, 0, 1, 2] (by decide) rfl)⟩
      · replace hm := ifF h32 h31
        refine o_next ?_
        have Oz := O
        have hq_ := Option.some.inj hm
        subst hq_
        exact ⟨H0, rfl, eJ30, (Oz.sel (L' := [(a_8, .lst (List.map V.int plain_7)), (a_11, .lst vs_15), (a_2, .ins ad.c_Reader dx_26 [("kept", .ref p_27), ("last", .int self_18.last), ("alike", .int self_18.alike), ("latest", .str self_18.latest)]), (dx_26, .own a_2), (p_27, .lst (List.map V.int self_18.kept))]) [3, 4, 0, 1, 2] (by decide) rfl)⟩
    rintro σ H ⟨H0, rfl, eJ_, O⟩
    replace hp_a_5 := eJ_ _ _ hp_a_5
    replace ha_a_11 := mA (mT2 (mL mI) (mL mI)) (ovr_mono eJ_) ha_a_11
    replace eB := eB.trans eJ_
    -- 137
    refine o_seq ?_
    refine o_ifs ?_
    refine x_orJ (c := (!true)) (e := (!decide (hear_19 = due_33))) (d := ((!true) || (!decide (hear_19 = due_33)))) (fun H => ∃ (R_ : Hp), Ex H0 R_ ∧ Own R_ H [(a_8, .lst (List.map V.int plain_7)), (a_11, .lst vs_15), (a_2, .ins ad.c_Reader dx_26 [("kept", .ref p_27), ("last", .int self_18.last), ("alike", .int self_18.alike), ("latest", .str self_18.latest)]), (dx_26, .own a_2), (p_27, .lst (List.map V.int self_18.kept))]) (fun Q1 k1 => ?_) (fun h34 => ⟨by rw [h34]; rfl, fun H hJ Q2 k2 => ?_⟩) (fun h34 => by rw [h34]; rfl) (fun H hJ => ?_)
    · have eJ35 : Ex H0 H0 := Ex.refl _
      refine ⟨_, rfl, _, _, _, _, true, rfl, .ty _, .base (.str _), kit_ty (by decide +kernel), _, rfl, ?_⟩
      exact k1 _ ⟨H0, eJ35, O⟩
    · obtain ⟨H0, eJ35, O⟩ := hJ
      replace hp_a_5 := eJ35 _ _ hp_a_5
      replace ha_a_11 := mA (mT2 (mL mI) (mL mI)) (ovr_mono eJ35) ha_a_11
      replace eB := eB.trans eJ35
      refine ⟨_, rfl, _, rfl, ?_⟩
      refine k_neS ?_
      refine ⟨_, rfl, ?_⟩
      exact k2 _ ⟨H0, eJ35, O⟩
    obtain ⟨H0, eJ35, O⟩ := hJ
    replace hp_a_5 := eJ35 _ _ hp_a_5
    replace ha_a_11 := mA (mT2 (mL mI) (mL mI)) (ovr_mono eJ35) ha_a_11
    replace eB := eB.trans eJ35
    refine iteS (c := ((!true) || (!decide (hear_19 = due_33)))) (fun h36 => ?_) (fun h36 => ?_)
    · replace hm := ifT hm h36
      -- 138
      refine o_ret ?_
      refine o_c ?_
      obtain rfl := Option.some.inj hm
      exact k _ _ H0 (((a_2, .ins ad.c_Reader dx_26 [("kept", .ref p_27), ("last", .int self_18.last), ("alike", .int self_18.alike), ("latest", .str self_18.latest)]) :: (dx_26, .own a_2) :: ((p_27, .lst (List.map V.int self_18.kept)) :: [])) ++ ([(a_8, .lst (List.map V.int plain_7))] ++ ([(a_11, .lst vs_15)] ++ []))) eB (Own.cv (O.sel (L' := [(a_2, .ins ad.c_Reader dx_26 [("kept", .ref p_27), ("last", .int self_18.last), ("alike", .int self_18.alike), ("latest", .str self_18.latest)]), (dx_26, .own a_2), (p_27, .lst (List.map V.int self_18.kept)), (a_8, .lst (List.map V.int plain_7)), (a_11, .lst vs_15)]) [2, 3, 4, 0, 1] (by decide) rfl) (by first | with_reducible rfl | simp only [List.map_nil, List.flatten_cons, List.flatten_nil, List.cons_append, List.nil_append, List.append_nil, List.append_assoc])) ⟨_, _, rfl, ⟨dx_26, p_27, rfl⟩, ⟨_, _, rfl, (oRow_mk (f := V.int) (a := a_8) (xs := plain_7)), ⟨_, _, rfl, ⟨_, rfl, ha_a_11⟩, ⟨rfl, rfl⟩⟩⟩⟩
    · replace hm := ifF hm h36
      refine o_next ?_
      -- 139
      obtain ⟨c_47, h48, hm⟩ := bndE hm
      obtain ⟨plain_56, h50, hm⟩ := bndE hm
      refine o_cut (fun σ H => ∃ (R_ : Hp) (j_55 : Option V) (j_57 : Option V), σ = [some (.ref a_2), j_55, some (.int k_6), some (.ref a_8), some (.ref a_11), j_57, some (.str due_33), none] ∧ Ex H0 R_ ∧ Own R_ H [(a_8, .lst (List.map V.int plain_56)), (a_11, .lst vs_15), (a_2, .ins ad.c_Reader dx_26 [("kept", .ref p_27), ("last", .int self_18.last), ("alike", .int self_18.alike), ("latest", .str self_18.latest)]), (dx_26, .own a_2), (p_27, .lst (List.map V.int self_18.kept))]) ?_ ?_
      · have eJ37 : Ex H0 H0 := Ex.refl _
        refine o_ifs ?_
        refine x_orJ (c := decide (k_6 < (5 : Int))) (e := c_47) (d := c_47) (fun H => ∃ (R_ : Hp), Ex H0 R_ ∧ Own R_ H [(a_8, .lst (List.map V.int plain_7)), (a_11, .lst vs_15), (a_2, .ins ad.c_Reader dx_26 [("kept", .ref p_27), ("last", .int self_18.last), ("alike", .int self_18.alike), ("latest", .str self_18.latest)]), (dx_26, .own a_2), (p_27, .lst (List.map V.int self_18.kept))]) (fun Q1 k1 => ?_) (fun h38 => ⟨rfl, fun H hJ Q2 k2 => ?_⟩) (fun h38 => Option.some.inj (ifT h48 h38)) (fun H hJ => ?_)
        · have eJ39 : Ex H0 H0 := Ex.refl _
          refine ⟨_, rfl, _, _, rfl, rfl, _, rfl, ?_⟩
          exact k1 _ ⟨H0, eJ39, O⟩
        · replace hm := ifF h48 h38
          obtain ⟨e_41, h42, hm⟩ := bndE hm
          obtain ⟨t_44, h45, hm⟩ := bndE hm
          obtain rfl := Option.some.inj hm
          obtain ⟨H0, eJ39, O⟩ := hJ
          replace hp_a_5 := eJ39 _ _ hp_a_5
          replace ha_a_11 := mA (mT2 (mL mI) (mL mI)) (ovr_mono eJ39) ha_a_11
          replace eB := eB.trans eJ39
          replace eJ37 := eJ37.trans eJ39
          refine ⟨_, rfl, _, rfl, _, _, rfl, rfl, _, rfl, _, rfl, _, rfl, ?_⟩
          refine k_cut (f := V.int) O (SqL.of (O.ex _ _ hp_a_5)) fun p_40 H O => ?_
          refine ⟨_, rfl, _, rfl, ?_⟩
          refine k_ixL (f := V.int) (SqL.of (O.ex _ _ hp_a_5)) h42 ?_
          refine ⟨_, _, rfl, rfl, ?_⟩
          refine x_nil ?_
          refine n_lst (f := V.int) (xs := [((1 : Int) - e_41)]) O rfl (by show 1 ≤ sizeLine; decide) fun p_43 H O => ?_
          refine o_c ?_
          refine k_rep (f := V.int) O (O.mem (List.Mem.head _)) h45 fun p_46 H O => ?_
          refine k_neLI (SqL.of (O.mem (List.Mem.tail _ (List.Mem.tail _ (List.Mem.head _))))) (SqL.of (O.mem (List.Mem.head _))) ?_
          refine ⟨_, rfl, ?_⟩
          replace O := O.tl.tl.tl
          exact k2 _ ⟨H0, eJ39, O⟩
        obtain ⟨H0, eJ39, O⟩ := hJ
        replace hp_a_5 := eJ39 _ _ hp_a_5
        replace ha_a_11 := mA (mT2 (mL mI) (mL mI)) (ovr_mono eJ39) ha_a_11
        replace eB := eB.trans eJ39
        replace eJ37 := eJ37.trans eJ39
        refine iteS (c := c_47) (fun h49 => ?_) (fun h49 => ?_)
        · replace hm := ifT h50 h49
          -- 140
          refine o_drop ?_
          obtain ⟨e_51, h52, hm⟩ := bndE hm
          refine ⟨_, rfl, .inl ⟨rfl, _, (SqL.of (O.mem (List.Mem.head _)))⟩, _, rfl, _, rfl, ?_⟩
          refine k_ixL (f := V.int) (SqL.of (O.ex _ _ hp_a_5)) h52 ?_
          obtain ⟨l_53, h54, hm⟩ := bndE hm
          refine x_nil ?_
          refine k_app (f := V.int) (O.mem (List.Mem.head _)) (fun _ => O.put0) h54 fun H O => ?_
          have Oz := O
          have hq_ := Option.some.inj hm
          subst hq_
          exact ⟨H0, _, _, rfl, eJ37, Oz⟩
        · replace hm := ifF h50 h49
          refine o_next ?_
          have Oz := O
          have hq_ := Option.some.inj hm
          subst hq_
          exact ⟨H0, _, _, rfl, eJ37, Oz⟩
      rintro σ H ⟨H0, j_55, j_57, rfl, eJ_, O⟩
      replace ha_a_11 := mA (mT2 (mL mI) (mL mI)) (ovr_mono eJ_) ha_a_11
      replace eB := eB.trans eJ_
      -- 141
      refine o_seq ?_
      refine o_ifs ?_
      refine x_or (c := (decide ((k_6 % (7 : Int)) = (3 : Int)))) (e := (decide (due_33 = ("whole" : Str)))) (d := ((decide ((k_6 % (7 : Int)) = (3 : Int))) || (decide (due_33 = ("whole" : Str))))) O (fun Q1 k1 => ?_) (fun h58 => ⟨by rw [h58]; rfl, fun H O Q2 k2 => ?_⟩) (fun h58 => by rw [h58]; rfl) (fun H O => ?_)
      · refine ⟨_, rfl, _, _, rfl, rfl, (by show (0 : Int) < 7; decide), ?_⟩
        refine o_c ?_
        refine k_eqI ?_
        refine ⟨_, rfl, ?_⟩
        exact k1 _ O
      · refine ⟨_, rfl, ?_⟩
        refine o_c ?_
        refine k_eqS ?_
        refine ⟨_, rfl, ?_⟩
        exact k2 _ O
      refine iteS (c := ((decide ((k_6 % (7 : Int)) = (3 : Int))) || (decide (due_33 = ("whole" : Str))))) (fun h59 => ?_) (fun h59 => ?_)
      · replace hm := ifT hm h59
        -- 142
        refine o_seq ?_
        refine o_asg ?_
        refine ⟨_, rfl, a_2, dx_26, [("kept", .ref p_27), ("last", .int self_18.last), ("alike", .int self_18.alike), ("latest", .str self_18.latest)], rfl, (O.mem (List.Mem.tail _ (List.Mem.tail _ (List.Mem.head _)))), (lk_skip (by decide) (lk_skip (by decide) (lk_skip (by decide) (lk_skip (by decide) lk_nil)))), ?_⟩
        refine x_nil ?_
        obtain ⟨plain_60, h61, hm⟩ := bndE hm
        have Oc : Own H0 H ((((a_2, .ins ad.c_Reader dx_26 [("kept", .ref p_27), ("last", .int self_18.last), ("alike", .int self_18.alike), ("latest", .str self_18.latest)]) :: (dx_26, .own a_2) :: ((p_27, .lst (List.map V.int self_18.kept)) :: [])) ++ []) ++ [(a_8, .lst (List.map V.int plain_56)), (a_11, .lst vs_15)]) := Own.cv (O.sel (L' := [(a_2, .ins ad.c_Reader dx_26 [("kept", .ref p_27), ("last", .int self_18.last), ("alike", .int self_18.alike), ("latest", .str self_18.latest)]), (dx_26, .own a_2), (p_27, .lst (List.map V.int self_18.kept)), (a_8, .lst (List.map V.int plain_56)), (a_11, .lst vs_15)]) [2, 3, 4, 0, 1] (by decide) rfl) (by first | with_reducible rfl | simp only [List.map_nil, List.flatten_cons, List.flatten_nil, List.cons_append, List.nil_append, List.append_nil, List.append_assoc])
        refine ⟨self_18, a_2, ((a_2, .ins ad.c_Reader dx_26 [("kept", .ref p_27), ("last", .int self_18.last), ("alike", .int self_18.alike), ("latest", .str self_18.latest)]) :: (dx_26, .own a_2) :: ((p_27, .lst (List.map V.int self_18.kept)) :: [])), ovr R0 Hb H0, plain_60, rfl, (Own.shrink Oc.left ovr_ex), ⟨dx_26, p_27, rfl⟩, h61, ?_⟩
        refine Oc.retXO (mdK mdLs) eB fun w_62 H H0 L_63 O e_ d_ => ?_
        replace ha_a_11 := mA (mT2 (mL mI) (mL mI)) (ovr_mono e_) ha_a_11
        replace eB := eB.trans e_
        obtain ⟨L_65, rfl, ⟨p_64, rfl, rfl⟩⟩ := d_
        replace O : Own H0 H [(a_2, .ins ad.c_Reader dx_26 [("kept", .ref p_27), ("last", .int self_18.last), ("alike", .int self_18.alike), ("latest", .str self_18.latest)]), (dx_26, .own a_2), (p_27, .lst (List.map V.int self_18.kept)), (p_64, .lst (List.map V.int plain_60)), (a_8, .lst (List.map V.int plain_56)), (a_11, .lst vs_15)] := Own.cv O (by first | with_reducible rfl | simp only [List.map_nil, List.flatten_cons, List.flatten_nil, List.cons_append, List.nil_append, List.append_nil, List.append_assoc])
        -- 143
        refine o_seq ?_
        refine o_ifs ?_
        obtain ⟨law_al_66, h67, hm⟩ := bndE hm
        refine ⟨_, rfl, _, rfl, ?_⟩
        refine x_nil ?_
        refine ⟨_, _, _, _, law_al_66, rfl, (O.mem (List.Mem.tail _ (List.Mem.tail _ (List.Mem.tail _ (List.Mem.head _))))), (O.mem (List.Mem.tail _ (List.Mem.tail _ (List.Mem.tail _ (List.Mem.tail _ (List.Mem.head _)))))), h67, ?_⟩
        refine O.retV fun H O => ?_
        refine ⟨_, rfl, ?_⟩
        refine iteS (c := (!law_al_66)) (fun h68 => ?_) (fun h68 => ?_)
        · replace hm := ifT hm h68
          -- 144
          refine o_ret ?_
          refine o_c ?_
          obtain rfl := Option.some.inj hm
          exact k _ _ H0 (((a_2, .ins ad.c_Reader dx_26 [("kept", .ref p_27), ("last", .int self_18.last), ("alike", .int self_18.alike), ("latest", .str self_18.latest)]) :: (dx_26, .own a_2) :: ((p_27, .lst (List.map V.int self_18.kept)) :: [])) ++ ([(a_8, .lst (List.map V.int plain_56))] ++ ([(a_11, .lst vs_15)] ++ []))) eB (Own.cv (O.sel (L' := [(a_2, .ins ad.c_Reader dx_26 [("kept", .ref p_27), ("last", .int self_18.last), ("alike", .int self_18.alike), ("latest", .str self_18.latest)]), (dx_26, .own a_2), (p_27, .lst (List.map V.int self_18.kept)), (a_8, .lst (List.map V.int plain_56)), (a_11, .lst vs_15)]) [0, 1, 2, 4, 5] (by decide) rfl) (by first | with_reducible rfl | simp only [List.map_nil, List.flatten_cons, List.flatten_nil, List.cons_append, List.nil_append, List.append_nil, List.append_assoc])) ⟨_, _, rfl, ⟨dx_26, p_27, rfl⟩, ⟨_, _, rfl, (oRow_mk (f := V.int) (a := a_8) (xs := plain_56)), ⟨_, _, rfl, ⟨_, rfl, ha_a_11⟩, ⟨rfl, rfl⟩⟩⟩⟩
        · replace hm := ifF hm h68
          refine o_next ?_
          -- 145
          obtain ⟨found_77, h71, hm⟩ := bndE hm
          refine o_cut (fun σ H => ∃ (R_ : Hp) (j_74 : Option V) (j_75 : Option V) (j_76 : Option V), σ = [some (.ref a_2), j_74, j_75, some (.ref a_8), some (.ref a_11), j_76, some (.str due_33), some (.ref p_64)] ∧ Ex H0 R_ ∧ Own R_ H [(a_8, .lst (List.map V.int plain_56)), (a_11, .lst vs_15), (p_64, .lst (List.map V.int found_77)), (a_2, .ins ad.c_Reader dx_26 [("kept", .ref p_27), ("last", .int self_18.last), ("alike", .int self_18.alike), ("latest", .str self_18.latest)]), (dx_26, .own a_2), (p_27, .lst (List.map V.int self_18.kept))]) ?_ ?_
          · have eJ69 : Ex H0 H0 := Ex.refl _
            refine o_ifs ?_
            refine ⟨_, rfl, _, _, rfl, rfl, (by show (0 : Int) < 2; decide), ?_⟩
            refine o_c ?_
            refine k_eqI ?_
            refine ⟨_, rfl, ?_⟩
            refine iteS (c := (decide ((k_6 % (2 : Int)) = (0 : Int)))) (fun h70 => ?_) (fun h70 => ?_)
            · replace hm := ifT h71 h70
              -- 146
              refine o_drop ?_
              obtain ⟨l_72, h73, hm⟩ := bndE hm
              refine ⟨_, rfl, .inl ⟨rfl, _, (SqL.of (O.mem (List.Mem.tail _ (List.Mem.tail _ (List.Mem.tail _ (List.Mem.head _))))))⟩, ?_⟩
              refine o_cons ?_
              refine o_c ?_
              refine x_nil ?_
              refine k_app (f := V.int) (O.mem (List.Mem.tail _ (List.Mem.tail _ (List.Mem.tail _ (List.Mem.head _))))) (fun _ => O.put3) h73 fun H O => ?_
              have Oz := O
              have hq_ := Option.some.inj hm
              subst hq_
              exact ⟨H0, _, _, _, rfl, eJ69, (Oz.sel (L' := [(a_8, .lst (List.map V.int plain_56)), (a_11, .lst vs_15), (p_64, .lst (List.map V.int l_72)), (a_2, .ins ad.c_Reader dx_26 [("kept", .ref p_27), ("last", .int self_18.last), ("alike", .int self_18.alike), ("latest", .str self_18.latest)]), (dx_26, .own a_2), (p_27, .lst (List.map V.int self_18.kept))]) [4, 5, 3, 0, 1, 2] (by decide) rfl)⟩
            · replace hm := ifF h71 h70
              refine o_next ?_
              have Oz := O
              have hq_ := Option.some.inj hm
              subst hq_
              exact ⟨H0, _, _, _, rfl, eJ69, (Oz.sel (L' := [(a_8, .lst (List.map V.int plain_56)), (a_11, .lst vs_15), (p_64, .lst (List.map V.int plain_60)), (a_2, .ins ad.c_Reader dx_26 [("kept", .ref p_27), ("last", .int self_18.last), ("alike", .int self_18.alike), ("latest", .str self_18.latest)]), (dx_26, .own a_2), (p_27, .lst (List.map V.int self_18.kept))]) [4, 5, 3, 0, 1, 2] (by decide) rfl)⟩
          rintro σ H ⟨H0, j_74, j_75, j_76, rfl, eJ_, O⟩
          replace ha_a_11 := mA (mT2 (mL mI) (mL mI)) (ovr_mono eJ_) ha_a_11
          replace eB := eB.trans eJ_
          -- 147
          refine o_drop ?_
          refine ⟨_, rfl, .inl ⟨rfl, _, (SqL.of (O.mem (List.Mem.tail _ (List.Mem.head _))))⟩, _, rfl, _, rfl, ?_⟩
          refine x_nil ?_
          refine n_list O (SqL.of (O.mem (List.Mem.tail _ (List.Mem.tail _ (List.Mem.head _))))) fun p_78 H O => ?_
          refine x_nil ?_
          replace O := (O.sel (L' := [(p_64, .lst (List.map V.int found_77)), (p_78, .lst (List.map V.int found_77)), (a_8, .lst (List.map V.int plain_56)), (a_11, .lst vs_15), (a_2, .ins ad.c_Reader dx_26 [("kept", .ref p_27), ("last", .int self_18.last), ("alike", .int self_18.alike), ("latest", .str self_18.latest)]), (dx_26, .own a_2), (p_27, .lst (List.map V.int self_18.kept))]) [3, 0, 1, 2, 4, 5, 6] (by decide) rfl)
          obtain ⟨H0, O, e_, hp_p_64⟩ := O.frzO (R0 := R0) eB
          replace ha_a_11 := mA (mT2 (mL mI) (mL mI)) (ovr_mono e_) ha_a_11
          replace eB := eB.trans e_
          obtain ⟨H0, O, e_, hp_p_78⟩ := O.frzO (R0 := R0) eB
          replace ha_a_11 := mA (mT2 (mL mI) (mL mI)) (ovr_mono e_) ha_a_11
          replace hp_p_64 := (ovr_mono e_) _ _ hp_p_64
          replace eB := eB.trans e_
          refine n_tup O (by show 2 ≤ sizeLine; decide) fun p_79 H O => ?_
          obtain ⟨H0, O, e_, hp_p_79⟩ := O.frzO (R0 := R0) eB
          replace ha_a_11 := mA (mT2 (mL mI) (mL mI)) (ovr_mono e_) ha_a_11
          replace hp_p_64 := (ovr_mono e_) _ _ hp_p_64
          replace hp_p_78 := (ovr_mono e_) _ _ hp_p_78
          replace eB := eB.trans e_
          have hn_p_79 : (rT2 (rL rI) (rL rI)) (ovr R0 Hb H0) (.ref p_79) ((found_77, found_77) : (List Int) × (List Int)) := ⟨_, _, _, rfl, hp_p_79, (gI hp_p_64), (gI hp_p_78)⟩
          refine x_nil ?_
          obtain ⟨l_80, h81, hm⟩ := bndE hm
          refine k_appA (O.mem (List.Mem.tail _ (List.Mem.head _))) ha_a_11 (fun _ => O.put1) h81 hn_p_79 fun H O ha_a_11 => ?_
          -- 148
          refine o_ret ?_
          obtain ⟨c_90, h91, hm⟩ := bndE hm
          refine x_orVJ (c := (decide (due_33 = ("whole" : Str)))) (e := c_90) (d := c_90) (fun H => ∃ (R_ : Hp), Ex H0 R_ ∧ Own R_ H [(a_8, .lst (List.map V.int plain_56)), (a_11, .lst (vs_15 ++ [.ref p_79])), (a_2, .ins ad.c_Reader dx_26 [("kept", .ref p_27), ("last", .int self_18.last), ("alike", .int self_18.alike), ("latest", .str self_18.latest)]), (dx_26, .own a_2), (p_27, .lst (List.map V.int self_18.kept))]) (fun Q1 k1 => ?_) (fun h82 => ⟨rfl, fun H hJ Q2 k2 => ?_⟩) (fun h82 => Option.some.inj (ifT h91 h82)) (fun H hJ => ?_)
          · have eJ83 : Ex H0 H0 := Ex.refl _
            refine ⟨_, rfl, ?_⟩
            refine o_c ?_
            refine k_eqS ?_
            exact k1 _ ⟨H0, eJ83, O⟩
          · replace hm := ifF h91 h82
            obtain ⟨frame_84, h85, hm⟩ := bndOE hm
            obtain rfl := Option.some.inj hm
            obtain ⟨H0, eJ83, O⟩ := hJ
            replace ha_a_11 := mA (mT2 (mL mI) (mL mI)) (ovr_mono eJ83) ha_a_11
            replace hp_p_64 := (ovr_mono eJ83) _ _ hp_p_64
            replace hp_p_78 := (ovr_mono eJ83) _ _ hp_p_78
            replace hp_p_79 := (ovr_mono eJ83) _ _ hp_p_79
            replace hn_p_79 := (mT2 (mL mI) (mL mI)) _ _ _ _ (ovr_mono eJ83) hn_p_79
            replace eB := eB.trans eJ83
            refine ⟨_, rfl, a_2, dx_26, [("kept", .ref p_27), ("last", .int self_18.last), ("alike", .int self_18.alike), ("latest", .str self_18.latest)], rfl, (O.mem (List.Mem.tail _ (List.Mem.tail _ (List.Mem.head _)))), (lk_skip (by decide) (lk_skip (by decide) (lk_skip (by decide) (lk_skip (by decide) lk_nil)))), ?_⟩
            refine x_nil ?_
            have Oc : Own H0 H ((((a_2, .ins ad.c_Reader dx_26 [("kept", .ref p_27), ("last", .int self_18.last), ("alike", .int self_18.alike), ("latest", .str self_18.latest)]) :: (dx_26, .own a_2) :: ((p_27, .lst (List.map V.int self_18.kept)) :: [])) ++ []) ++ [(a_8, .lst (List.map V.int plain_56)), (a_11, .lst (vs_15 ++ [.ref p_79]))]) := Own.cv (O.sel (L' := [(a_2, .ins ad.c_Reader dx_26 [("kept", .ref p_27), ("last", .int self_18.last), ("alike", .int self_18.alike), ("latest", .str self_18.latest)]), (dx_26, .own a_2), (p_27, .lst (List.map V.int self_18.kept)), (a_8, .lst (List.map V.int plain_56)), (a_11, .lst (vs_15 ++ [.ref p_79]))]) [2, 3, 4, 0, 1] (by decide) rfl) (by first | with_reducible rfl | simp only [List.map_nil, List.flatten_cons, List.flatten_nil, List.cons_append, List.nil_append, List.append_nil, List.append_assoc])
            refine ⟨self_18, a_2, ((a_2, .ins ad.c_Reader dx_26 [("kept", .ref p_27), ("last", .int self_18.last), ("alike", .int self_18.alike), ("latest", .str self_18.latest)]) :: (dx_26, .own a_2) :: ((p_27, .lst (List.map V.int self_18.kept)) :: [])), ovr R0 Hb H0, (.ok frame_84), rfl, (Own.shrink Oc.left ovr_ex), ⟨dx_26, p_27, rfl⟩, h85, ?_⟩
            refine RetR.ok ?_
            refine Oc.retXO (mdK (mdP (mO (mT2 mI (mL mI))))) eB fun w_86 H H0 L_87 O e_ d_ => ?_
            replace ha_a_11 := mA (mT2 (mL mI) (mL mI)) (ovr_mono e_) ha_a_11
            replace hp_p_64 := (ovr_mono e_) _ _ hp_p_64
            replace hp_p_78 := (ovr_mono e_) _ _ hp_p_78
            replace hp_p_79 := (ovr_mono e_) _ _ hp_p_79
            replace hn_p_79 := (mT2 (mL mI) (mL mI)) _ _ _ _ (ovr_mono e_) hn_p_79
            replace eB := eB.trans e_
            replace eJ83 := eJ83.trans e_
            obtain ⟨L_89, rfl, ⟨rfl, h88⟩⟩ := d_
            replace O : Own H0 H [(a_2, .ins ad.c_Reader dx_26 [("kept", .ref p_27), ("last", .int self_18.last), ("alike", .int self_18.alike), ("latest", .str self_18.latest)]), (dx_26, .own a_2), (p_27, .lst (List.map V.int self_18.kept)), (a_8, .lst (List.map V.int plain_56)), (a_11, .lst (vs_15 ++ [.ref p_79]))] := Own.cv O (by first | with_reducible rfl | simp only [List.map_nil, List.flatten_cons, List.flatten_nil, List.cons_append, List.nil_append, List.append_nil, List.append_assoc])
            have hn_w_86 := h88
            refine o_c ?_
            refine k_isN nnT2 hn_w_86 ?_
            exact k2 _ ⟨H0, eJ83, (O.sel (L' := [(a_8, .lst (List.map V.int plain_56)), (a_11, .lst (vs_15 ++ [.ref p_79])), (a_2, .ins ad.c_Reader dx_26 [("kept", .ref p_27), ("last", .int self_18.last), ("alike", .int self_18.alike), ("latest", .str self_18.latest)]), (dx_26, .own a_2), (p_27, .lst (List.map V.int self_18.kept))]) [3, 4, 0, 1, 2] (by decide) rfl)⟩
          obtain ⟨H0, eJ83, O⟩ := hJ
          replace ha_a_11 := mA (mT2 (mL mI) (mL mI)) (ovr_mono eJ83) ha_a_11
          replace hp_p_64 := (ovr_mono eJ83) _ _ hp_p_64
          replace hp_p_78 := (ovr_mono eJ83) _ _ hp_p_78
          replace hp_p_79 := (ovr_mono eJ83) _ _ hp_p_79
          replace hn_p_79 := (mT2 (mL mI) (mL mI)) _ _ _ _ (ovr_mono eJ83) hn_p_79
          replace eB := eB.trans eJ83
          obtain rfl := Option.some.inj hm
          exact k _ _ H0 (((a_2, .ins ad.c_Reader dx_26 [("kept", .ref p_27), ("last", .int self_18.last), ("alike", .int self_18.alike), ("latest", .str self_18.latest)]) :: (dx_26, .own a_2) :: ((p_27, .lst (List.map V.int self_18.kept)) :: [])) ++ ([(a_8, .lst (List.map V.int plain_56))] ++ ([(a_11, .lst (vs_15 ++ [.ref p_79]))] ++ []))) eB (Own.cv (O.sel (L' := [(a_2, .ins ad.c_Reader dx_26 [("kept", .ref p_27), ("last", .int self_18.last), ("alike", .int self_18.alike), ("latest", .str self_18.latest)]), (dx_26, .own a_2), (p_27, .lst (List.map V.int self_18.kept)), (a_8, .lst (List.map V.int plain_56)), (a_11, .lst (vs_15 ++ [.ref p_79]))]) [2, 3, 4, 0, 1] (by decide) rfl) (by first | with_reducible rfl | simp only [List.map_nil, List.flatten_cons, List.flatten_nil, List.cons_append, List.nil_append, List.append_nil, List.append_assoc])) ⟨_, _, rfl, ⟨dx_26, p_27, rfl⟩, ⟨_, _, rfl, (oRow_mk (f := V.int) (a := a_8) (xs := plain_56)), ⟨_, _, rfl, ⟨_, rfl, ha_a_11⟩, ⟨rfl, rfl⟩⟩⟩⟩
      · replace hm := ifF hm h59
        refine o_next ?_
        -- 148
        refine o_ret ?_
        obtain ⟨c_100, h101, hm⟩ := bndE hm
        refine x_orVJ (c := (decide (due_33 = ("whole" : Str)))) (e := c_100) (d := c_100) (fun H => ∃ (R_ : Hp), Ex H0 R_ ∧ Own R_ H [(a_8, .lst (List.map V.int plain_56)), (a_11, .lst vs_15), (a_2, .ins ad.c_Reader dx_26 [("kept", .ref p_27), ("last", .int self_18.last), ("alike", .int self_18.alike), ("latest", .str self_18.latest)]), (dx_26, .own a_2), (p_27, .lst (List.map V.int self_18.kept))]) (fun Q1 k1 => ?_) (fun h92 => ⟨rfl, fun H hJ Q2 k2 => ?_⟩) (fun h92 => Option.some.inj (ifT h101 h92)) (fun H hJ => ?_)
        · have eJ93 : Ex H0 H0 := Ex.refl _
          refine ⟨_, rfl, ?_⟩
          refine o_c ?_
          refine k_eqS ?_
          exact k1 _ ⟨H0, eJ93, O⟩
        · replace hm := ifF h101 h92
          obtain ⟨frame_94, h95, hm⟩ := bndOE hm
          obtain rfl := Option.some.inj hm
          obtain ⟨H0, eJ93, O⟩ := hJ
          replace ha_a_11 := mA (mT2 (mL mI) (mL mI)) (ovr_mono eJ93) ha_a_11
          replace eB := eB.trans eJ93
          refine ⟨_, rfl, a_2, dx_26, [("kept", .ref p_27), ("last", .int self_18.last), ("alike", .int self_18.alike), ("latest", .str self_18.latest)], rfl, (O.mem (List.Mem.tail _ (List.Mem.tail _ (List.Mem.head _)))), (lk_skip (by decide) (lk_skip (by decide) (lk_skip (by decide) (lk_skip (by decide) lk_nil)))), ?_⟩
          refine x_nil ?_
          have Oc : Own H0 H ((((a_2, .ins ad.c_Reader dx_26 [("kept", .ref p_27), ("last", .int self_18.last), ("alike", .int self_18.alike), ("latest", .str self_18.latest)]) :: (dx_26, .own a_2) :: ((p_27, .lst (List.map V.int self_18.kept)) :: [])) ++ []) ++ [(a_8, .lst (List.map V.int plain_56)), (a_11, .lst vs_15)]) := Own.cv (O.sel (L' := [(a_2, .ins ad.c_Reader dx_26 [("kept", .ref p_27), ("last", .int self_18.last), ("alike", .int self_18.alike), ("latest", .str self_18.latest)]), (dx_26, .own a_2), (p_27, .lst (List.map V.int self_18.kept)), (a_8, .lst (List.map V.int plain_56)), (a_11, .lst vs_15)]) [2, 3, 4, 0, 1] (by decide) rfl) (by first | with_reducible rfl | simp only [List.map_nil, List.flatten_cons, List.flatten_nil, List.cons_append, List.nil_append, List.append_nil, List.append_assoc])
          refine ⟨self_18, a_2, ((a_2, .ins ad.c_Reader dx_26 [("kept", .ref p_27), ("last", .int self_18.last), ("alike", .int self_18.alike), ("latest", .str self_18.latest)]) :: (dx_26, .own a_2) :: ((p_27, .lst (List.map V.int self_18.kept)) :: [])), ovr R0 Hb H0, (.ok frame_94), rfl, (Own.shrink Oc.left ovr_ex), ⟨dx_26, p_27, rfl⟩, h95, ?_⟩
          refine RetR.ok ?_
          refine Oc.retXO (mdK (mdP (mO (mT2 mI (mL mI))))) eB fun w_96 H H0 L_97 O e_ d_ => ?_
          replace ha_a_11 := mA (mT2 (mL mI) (mL mI)) (ovr_mono e_) ha_a_11
          replace eB := eB.trans e_
          replace eJ93 := eJ93.trans e_
          obtain ⟨L_99, rfl, ⟨rfl, h98⟩⟩ := d_
          replace O : Own H0 H [(a_2, .ins ad.c_Reader dx_26 [("kept", .ref p_27), ("last", .int self_18.last), ("alike", .int self_18.alike), ("latest", .str self_18.latest)]), (dx_26, .own a_2), (p_27, .lst (List.map V.int self_18.kept)), (a_8, .lst (List.map V.int plain_56)), (a_11, .lst vs_15)] := Own.cv O (by first | with_reducible rfl | simp only [List.map_nil, List.flatten_cons, List.flatten_nil, List.cons_append, List.nil_append, List.append_nil, List.append_assoc])
          have hn_w_96 := h98
          refine o_c ?_
          refine k_isN nnT2 hn_w_96 ?_
          exact k2 _ ⟨H0, eJ93, (O.sel (L' := [(a_8, .lst (List.map V.int plain_56)), (a_11, .lst vs_15), (a_2, .ins ad.c_Reader dx_26 [("kept", .ref p_27), ("last", .int self_18.last), ("alike", .int self_18.alike), ("latest", .str self_18.latest)]), (dx_26, .own a_2), (p_27, .lst (List.map V.int self_18.kept))]) [3, 4, 0, 1, 2] (by decide) rfl)⟩
        obtain ⟨H0, eJ93, O⟩ := hJ
        replace ha_a_11 := mA (mT2 (mL mI) (mL mI)) (ovr_mono eJ93) ha_a_11
        replace eB := eB.trans eJ93
        obtain rfl := Option.some.inj hm
        exact k _ _ H0 (((a_2, .ins ad.c_Reader dx_26 [("kept", .ref p_27), ("last", .int self_18.last), ("alike", .int self_18.alike), ("latest", .str self_18.latest)]) :: (dx_26, .own a_2) :: ((p_27, .lst (List.map V.int self_18.kept)) :: [])) ++ ([(a_8, .lst (List.map V.int plain_56))] ++ ([(a_11, .lst vs_15)] ++ []))) eB (Own.cv (O.sel (L' := [(a_2, .ins ad.c_Reader dx_26 [("kept", .ref p_27), ("last", .int self_18.last), ("alike", .int self_18.alike), ("latest", .str self_18.latest)]), (dx_26, .own a_2), (p_27, .lst (List.map V.int self_18.kept)), (a_8, .lst (List.map V.int plain_56)), (a_11, .lst vs_15)]) [2, 3, 4, 0, 1] (by decide) rfl) (by first | with_reducible rfl | simp only [List.map_nil, List.flatten_cons, List.flatten_nil, List.cons_append, List.nil_append, List.append_nil, List.append_assoc])) ⟨_, _, rfl, ⟨dx_26, p_27, rfl⟩, ⟨_, _, rfl, (oRow_mk (f := V.int) (a := a_8) (xs := plain_56)), ⟨_, _, rfl, ⟨_, rfl, ha_a_11⟩, ⟨rfl, rfl⟩⟩⟩⟩
def m_law_C1 (script_1 : List Int) (side_15 : Int) (k_23 : Int) : Option Int :=
  bnd (m__law_byte script_1 ((((50 : Int) * side_15) + (4 : Int)) + ((3 : Int) * k_23))) fun law_by_31 =>
  some law_by_31
def m_law_L0 (script_1 : List Int) (side_15 : Int) (frames_6 : List (Int × (List Int))) : Option ((List (Int × (List Int)))) :=
  bnd (m__law_draw script_1 ((50 : Int) * side_15) (8 : Int)) fun law_dr_19 =>
  bnd (rng1 law_dr_19) fun rg_21 =>
  bnd (compM (m_law_C1 script_1 side_15) rg_21 []) fun l_24 =>
  bnd (m__law_byte script_1 (((50 : Int) * side_15) + (1 : Int))) fun law_by_33 =>
  bnd (appG frames_6 (law_by_33, l_24)) fun l_36 =>
  some l_36
def m_law_C2  (frame_38 : Int × (List Int)) : Option (List Int) :=
  bnd (m__law_plain frame_38) fun law_pl_47 =>
  bnd (m__law_wire law_pl_47) fun law_wi_50 =>
  some law_wi_50
def m_law_L4 (l_39 : List (List Int)) (k_149 : Int) (side_173 : Int) (readers_157 : List S_Reader) (plains_160 : List (List Int)) (held_163 : List ((List Int) × (List Int))) : Option (Fl ((List S_Reader) × (List (List Int)) × (List ((List Int) × (List Int)))) (Bool)) :=
  bnd (atI l_39 side_173) fun e_177 =>
  ifB (decide ((List.length e_177 : Int) ≤ k_149)) (
    some (.nx (readers_157, plains_160, held_163))) (
    bnd (atI readers_157 side_173) fun o_183 =>
    bnd (atI l_39 side_173) fun e_192 =>
    bnd (atI plains_160 side_173) fun o_197 =>
    bnd (m__law_told o_183 e_192 k_149 o_197 held_163) fun (reader_206, plain_207, held_208, law_to_209) =>
    bnd (setG readers_157 side_173 reader_206) fun ys_221 =>
    bnd (setG plains_160 side_173 plain_207) fun ys_225 =>
    ifB (!law_to_209) (
      some (.rt false)) (
      some (.nx (ys_221, ys_225, held_208))))
def m_law_L3 (l_39 : List (List Int)) (k_149 : Int) (readers_132 : List S_Reader) (plains_135 : List (List Int)) (held_138 : List ((List Int) × (List Int))) : Option (Fl ((List S_Reader) × (List (List Int)) × (List ((List Int) × (List Int)))) (Bool)) :=
  bnd (rng1 (2 : Int)) fun rg_153 =>
  flo (loopF (fun side_173 s => m_law_L4 l_39 k_149 side_173 s.1 s.2.1 s.2.2) rg_153 (readers_132, plains_135, held_138)) fun (readers_157, plains_160, held_163) =>
  some (.nx (readers_157, plains_160, held_163))
def m_law_L5 (frames_11 : List (Int × (List Int))) (readers_132 : List S_Reader) (k_241 : Int) : Option (Fl (Unit) (Bool)) :=
  bnd (atI readers_132 (k_241 % (2 : Int))) fun o_245 =>
  bnd (atI frames_11 (k_241 % (2 : Int))) fun e_254 =>
  bnd (m__law_framed o_245 e_254) fun law_fr_259 =>
  ifB (!law_fr_259) (
    some (.rt false)) (
    some (.nx ()))
def m_law_L6  (pair_276 : (List Int) × (List Int)) : Option (Fl (Unit) (Bool)) :=
  ifB (!decide (pair_276.1 = pair_276.2)) (
    some (.rt false)) (
    some (.nx ()))
def m_law (script_1 : List Int) : Option (Bool) :=
  bnd (rng1 (2 : Int)) fun rg_4 =>
  bnd (loopM (fun side_15 s => m_law_L0 script_1 side_15 s) rg_4 ([] : List (Int × (List Int)))) fun frames_11 =>
  bnd (compM (m_law_C2) frames_11 []) fun l_39 =>
  bnd (m_Reader_init ) fun reader_55 =>
  bnd (m_Reader_init ) fun reader_63 =>
  bnd (atI ([reader_55, reader_63]) (0 : Int)) fun o_80 =>
  bnd (m_Reader_plain o_80) fun plain_91 =>
  bnd (ifB (!decide (plain_91 = ([] : List Int))) (some true) (bnd (atI ([reader_55, reader_63]) (1 : Int)) fun o_98 =>
  bndO (m_Reader_frame o_98) fun frame_109 => some (!Option.isNone frame_109))) fun c_115 =>
  ifB c_115 (
    some false) (
    bnd (atI l_39 (0 : Int)) fun e_118 =>
    bnd (atI l_39 (1 : Int)) fun e_123 =>
    bnd (rng1 (if (List.length e_123 : Int) > (List.length e_118 : Int) then (List.length e_123 : Int) else (List.length e_118 : Int))) fun rg_128 =>
    fin (loopF (fun k_149 s => m_law_L3 l_39 k_149 s.1 s.2.1 s.2.2) rg_128 ([reader_55, reader_63], ([([] : List Int), ([] : List Int)] : List (List Int)), ([] : List ((List Int) × (List Int))))) fun (readers_132, plains_135, held_138) =>
    bnd (rng1 (4 : Int)) fun rg_230 =>
    fin (loopF (fun k_241 (_ : Unit) => m_law_L5 frames_11 readers_132 k_241) rg_230 ()) fun _ =>
    fin (loopF (fun pair_276 (_ : Unit) => m_law_L6 pair_276) held_138 ()) fun _ =>
    bnd (atI readers_132 (0 : Int)) fun o_296 =>
    bnd (m_Reader_plain o_296) fun plain_307 =>
    bnd (atI plains_135 (0 : Int)) fun o_313 =>
    bnd (m__law_alike plain_307 o_313) fun law_al_322 =>
    bnd (ifB law_al_322 (bnd (atI readers_132 (1 : Int)) fun o_324 =>
    bnd (m_Reader_plain o_324) fun plain_335 =>
    bnd (atI plains_135 (1 : Int)) fun o_341 =>
    bnd (m__law_alike plain_335 o_341) fun law_al_350 => some law_al_350) (some false)) fun c_352 =>
    some c_352)
def sp_law (K : PySem.W.Frag) : Sp := fun vs H Q _ => ∃ (script_1 : List Int) (a_2 : Addr) (r : Bool), vs = [.ref a_2] ∧ SqL K H a_2 (List.map V.int script_1) ∧ m_law script_1 = some r ∧ RetV (.bl r) H Q
abbrev N_law : List Str := ["script", "frames", "side", "wires", "readers", "plains", "held", "k", "pair", "many", "data", "frame"]
theorem sc_law : FnScope N_law ["script"] (defScope s_law) := ⟨rfl, rfl, rfl, by decide +kernel, rfl, by decide +kernel, by decide +kernel⟩
theorem ok_law {ad : Ad} (T : Txt K mg ad) : FnOk P w K mg base CX0 6 ad.f_law ad.fd_law ["script"] (sp_law K) := by
  have G_Reader_init := ok_Reader_init (P := P) (w := w) (base := base) T
  have G_Reader_frame := ok_Reader_frame (P := P) (w := w) (base := base) T
  have G_Reader_plain := ok_Reader_plain (P := P) (w := w) (base := base) T
  have G__law_alike := ok__law_alike (P := P) (w := w) (base := base) T
  have G__law_byte := ok__law_byte (P := P) (w := w) (base := base) T
  have G__law_draw := ok__law_draw (P := P) (w := w) (base := base) T
  have G__law_framed := ok__law_framed (P := P) (w := w) (base := base) T
  have G__law_plain := ok__law_plain (P := P) (w := w) (base := base) T
  have G__law_told := ok__law_told (P := P) (w := w) (base := base) T
  have G__law_wire := ok__law_wire (P := P) (w := w) (base := base) T
  refine T.F_law.ok sc_law (fun vs H Q E h => ?_) (fun cdv A outer s H vs Q E hr h => ?_)
  · obtain ⟨_, _, _, rfl, _⟩ := h
    rfl
  · obtain ⟨script_1, a_2, r, rfl, hp_a_2, hm, k⟩ := h
    unfold m_law at hm
    obtain ⟨Hb, hHb⟩ : ∃ Hb : Hp, Hb = H := ⟨H, rfl⟩
    obtain ⟨H0, hH0⟩ : ∃ H0 : Hp, H0 = Hb := ⟨Hb, rfl⟩
    have O : Own H0 H [] := by rw [hH0, hHb]; exact Own.start H
    rw [← hHb] at k hp_a_2
    rw [← hH0] at hp_a_2
    have eB : Ex Hb H0 := by rw [hH0]; exact Ex.refl _
    clear hH0 hHb
    refine ⟨_, (pss_cons (ps_set (i := 1) sc_law.nd rfl (Or.inl rfl) (pe_lstQ (pe_lst pa_nil))) (pss_cons (ps_for PassesOwn.never rfl (pi_range1 (by rfl) T.z_range (pa_cons pe_int pa_nil)) (pg_name (i := 2) sc_law.nd rfl (Or.inr rfl)) (pss_cons (ps_set (i := 9) sc_law.nd rfl (Or.inl rfl) (pe_call G__law_draw (hr.mono (by decide)) (by rfl) T.g__law_draw T.F__law_draw.kp T.b__law_draw .nil pass0 (pa_cons (pv 0) (pa_cons (pe_op op_mul pe_int (pv 2)) (pa_cons pe_int pa_nil))))) (pss_cons (ps_setLc (i := 10) (own := [("k", 7)]) (g := gName 7) (tt := tYes) rfl sc_law.nd rfl rfl (sw_true rfl rfl rfl (by decide +kernel)) (pi_range1 (by rfl) T.z_range (pa_cons (pv 9) pa_nil)) (blkOk_by (own := [("k", 7)]) (N := N_law) (sc := defScope s_law) (by decide +kernel)) (fun _ _ _ _ _ => pg_name (i := 7) sc_law.nd rfl (Or.inl rfl)) (fun _ _ _ _ _ => pts_nil) (fun _ _ _ _ _ => (pe_call G__law_byte (hr.mono (by decide)) (by rfl) T.g__law_byte T.F__law_byte.kp T.b__law_byte .nil pass0 (pa_cons (pv 0) (pa_cons (pe_op op_add (pe_op op_add (pe_op op_mul pe_int (pv 2)) pe_int) (pe_op op_mul pe_int (pv 7))) pa_nil))))) (pss_one (ps_expr (pe_bm PySem.F.plainAttrs_list PySem.F.slot_list_append PySem.F.type_list_append mt_append (pv 1) (pa_cons (pe_tupQ (pe_tup (pa_cons (pe_call G__law_byte (hr.mono (by decide)) (by rfl) T.g__law_byte T.F__law_byte.kp T.b__law_byte .nil pass0 (pa_cons (pv 0) (pa_cons (pe_op op_add (pe_op op_mul pe_int (pv 2)) pe_int) pa_nil))) (pa_cons (pv 10) pa_nil)))) pa_nil))))))) (pss_cons (ps_setLc (i := 3) (own := [("frame", 11)]) (g := gName 11) (tt := tYes) rfl sc_law.nd rfl rfl (sw_true rfl rfl rfl (by decide +kernel)) (pi_list (pv 1)) (blkOk_by (own := [("frame", 11)]) (N := N_law) (sc := defScope s_law) (by decide +kernel)) (fun _ _ _ _ _ => pg_name (i := 11) sc_law.nd rfl (Or.inl rfl)) (fun _ _ _ _ _ => pts_nil) (fun _ _ _ _ _ => (pe_call G__law_wire (hr.mono (by decide)) (by rfl) T.g__law_wire T.F__law_wire.kp T.b__law_wire .nil pass0 (pa_cons (pe_call G__law_plain (hr.mono (by decide)) (by rfl) T.g__law_plain T.F__law_plain.kp T.b__law_plain .nil pass0 (pa_cons (pv 11) pa_nil)) pa_nil)))) (pss_cons (ps_set (i := 4) sc_law.nd rfl (Or.inl rfl) (pe_lstQ (pe_lst (pa_cons (pe_make0 T.K_Reader G_Reader_init (hr.mono (by decide)) (by rfl) T.k_Reader T.b_Reader_init .nil pass0) (pa_cons (pe_make0 T.K_Reader G_Reader_init (hr.mono (by decide)) (by rfl) T.k_Reader T.b_Reader_init .nil pass0) pa_nil))))) (pss_cons (ps_set (i := 5) sc_law.nd rfl (Or.inl rfl) (pe_lstQ (pe_lst (pa_cons (pe_lstQ (pe_lst pa_nil)) (pa_cons (pe_lstQ (pe_lst pa_nil)) pa_nil))))) (pss_cons (ps_set (i := 6) sc_law.nd rfl (Or.inl rfl) (pe_lstQ (pe_lst pa_nil))) (pss_cons (ps_if (PW.pt (pw_or (pt_cmpR (r := rNeD K) (op_neD hr.units) (pe_meth0 (pe_ix (r := rIxL K) ix_list (pv 4) pe_int (fun _ _ => rfl)) T.C_Reader T.M_Reader_plain G_Reader_plain (hr.mono (by decide)) T.b_Reader_plain .nil pass0) (pe_lstQ (pe_lst pa_nil)) (nomark _)) (pw_or1 (pt_cmpR (r := rNotN) op_notNq (pe_meth0 (pe_ix (r := rIxL K) ix_list (pv 4) pe_int (fun _ _ => rfl)) T.C_Reader T.M_Reader_frame G_Reader_frame (hr.mono (by decide)) T.b_Reader_frame .nil passN) pe_non (nomark _))))) (pss_one (ps_ret pe_bl)) pss_nil) (pss_cons (ps_for PassesOwn.never rfl (pi_range1 (by rfl) T.z_range (pa_cons (pe_callB (call_max2 rfl) (by rfl) T.z_max (by decide +kernel) (pa_cons (pe_callB (r := rLenQ K) call_lenQ (by rfl) T.z_len PySem.boot_len (pa_cons (pe_ix (r := rIxL K) ix_list (pv 3) pe_int (fun _ _ => rfl)) pa_nil)) (pa_cons (pe_callB (r := rLenQ K) call_lenQ (by rfl) T.z_len PySem.boot_len (pa_cons (pe_ix (r := rIxL K) ix_list (pv 3) pe_int (fun _ _ => rfl)) pa_nil)) pa_nil))) pa_nil)) (pg_name (i := 7) sc_law.nd rfl (Or.inl rfl)) (pss_one (ps_for PassesOwn.never rfl (pi_range1 (by rfl) T.z_range (pa_cons pe_int pa_nil)) (pg_name (i := 2) sc_law.nd rfl (Or.inr rfl)) (pss_cons (ps_if (pt_cmpR op_ge (pv 7) (pe_callB (r := rLenQ K) call_lenQ (by rfl) T.z_len PySem.boot_len (pa_cons (pe_ix (r := rIxL K) ix_list (pv 3) (pv 2) (fun _ _ => rfl)) pa_nil)) (nomark _)) (pss_one ps_continue) pss_nil) (pss_one (ps_if (pt_not (pt_val (pe_call G__law_told (hr.mono (by decide)) (by rfl) T.g__law_told T.F__law_told.kp T.b__law_told .nil pass0 (pa_cons (pe_ix (r := rIxL K) ix_list (pv 4) (pv 2) (fun _ _ => rfl)) (pa_cons (pe_ix (r := rIxL K) ix_list (pv 3) (pv 2) (fun _ _ => rfl)) (pa_cons (pv 7) (pa_cons (pe_ix (r := rIxL K) ix_list (pv 5) (pv 2) (fun _ _ => rfl)) (pa_cons (pv 6) pa_nil)))))))) (pss_one (ps_ret pe_bl)) pss_nil)))))) (pss_cons (ps_for PassesOwn.never rfl (pi_range1 (by rfl) T.z_range (pa_cons pe_int pa_nil)) (pg_name (i := 7) sc_law.nd rfl (Or.inl rfl)) (pss_one (ps_if (pt_not (pt_val (pe_call G__law_framed (hr.mono (by decide)) (by rfl) T.g__law_framed T.F__law_framed.kp T.b__law_framed .nil pass0 (pa_cons (pe_ix (r := rIxL K) ix_list (pv 4) (pe_op op_mod (pv 7) pe_int) (fun _ _ => rfl)) (pa_cons (pe_ix (r := rIxL K) ix_list (pv 1) (pe_op op_mod (pv 7) pe_int) (fun _ _ => rfl)) pa_nil))))) (pss_one (ps_ret pe_bl)) pss_nil))) (pss_cons (ps_for PassesOwn.never rfl (pi_list (pv 6)) (pg_name (i := 8) sc_law.nd rfl (Or.inl rfl)) (pss_one (ps_if (pt_cmpR (r := rNeD K) (op_neD hr.units) (pe_ix (r := rIxT K) ix_tup (pv 8) pe_int (fun _ _ => rfl)) (pe_ix (r := rIxT K) ix_tup (pv 8) pe_int (fun _ _ => rfl)) (nomark _)) (pss_one (ps_ret pe_bl)) pss_nil))) (pss_one (ps_ret (pe_and (pe_call G__law_alike (hr.mono (by decide)) (by rfl) T.g__law_alike T.F__law_alike.kp T.b__law_alike .nil pass0 (pa_cons (pe_meth0 (pe_ix (r := rIxL K) ix_list (pv 4) pe_int (fun _ _ => rfl)) T.C_Reader T.M_Reader_plain G_Reader_plain (hr.mono (by decide)) T.b_Reader_plain .nil pass0) (pa_cons (pe_ix (r := rIxL K) ix_list (pv 5) pe_int (fun _ _ => rfl)) pa_nil))) (pe_one (pe_call G__law_alike (hr.mono (by decide)) (by rfl) T.g__law_alike T.F__law_alike.kp T.b__law_alike .nil pass0 (pa_cons (pe_meth0 (pe_ix (r := rIxL K) ix_list (pv 4) pe_int (fun _ _ => rfl)) T.C_Reader T.M_Reader_plain G_Reader_plain (hr.mono (by decide)) T.b_Reader_plain .nil pass0) (pa_cons (pe_ix (r := rIxL K) ix_list (pv 5) pe_int (fun _ _ => rfl)) pa_nil))))))))))))))))), ?_⟩
    -- 150
    refine o_seq ?_
    refine o_asg ?_
    refine x_nil ?_
    refine n_lst (f := V.int) (xs := ([] : List Int)) O rfl (Nat.zero_le _) fun p_3 H O => ?_
    -- 151
    refine o_seq ?_
    refine o_for ?_
    obtain ⟨rg_4, h5, hm⟩ := bndE hm
    refine o_ir1 ?_
    refine o_cons ?_
    refine o_c ?_
    refine x_nil ?_
    obtain ⟨c1, c2, rfl⟩ := rng1E h5
    obtain ⟨frames_11, h12, hm⟩ := bndE hm
    refine ⟨_, rfl, c1, c2, q_forR (fun r σ H => ∃ (R_ : Hp) (frames_6 : List (Int × (List Int))) (vs_7 : List V) (j_8 : Option V) (j_9 : Option V) (j_10 : Option V), σ = [some (.ref a_2), some (.ref p_3), j_8, none, none, none, none, none, none, j_9, j_10, none] ∧ Ex H0 R_ ∧ Own R_ H [(p_3, .lst vs_7)] ∧ All2 ((rT2 rI (rL rI)) (R_)) vs_7 frames_6 ∧ loopM (fun side_15 s => m_law_L0 script_1 side_15 s) r frames_6 = some frames_11) ⟨H0, ([] : List (Int × (List Int))), ([] : List V), _, _, _, rfl, Ex.refl _, O, .nil, h12⟩ ?_ ?_⟩
    · rintro side_15 r σ H ⟨H0, frames_6, vs_7, j_8, j_9, j_10, rfl, eL16, O, ha_p_3, hL⟩
      replace hp_a_2 := eL16.l hp_a_2
      replace eB := eB.trans eL16
      obtain ⟨s_, hm, h14⟩ := loopM_cons hL
      replace hm : m_law_L0 script_1 side_15 frames_6 = some s_ := hm
      unfold m_law_L0 at hm
      -- 152
      refine o_seq ?_
      refine o_asg ?_
      obtain ⟨law_dr_19, h20, hm⟩ := bndE hm
      refine ⟨_, rfl, _, rfl, _, _, rfl, rfl, .inl ⟨by decide, by decide⟩, ?_⟩
      refine o_cons ?_
      refine o_c ?_
      refine x_nil ?_
      refine ⟨_, _, _, _, law_dr_19, rfl, (O.ex.l hp_a_2), h20, ?_⟩
      refine O.retV fun H O => ?_
      -- 153
      refine o_seq ?_
      refine o_asg ?_
      obtain ⟨rg_21, h22, hm⟩ := bndE hm
      refine ⟨_, rfl, ?_⟩
      refine x_nil ?_
      obtain ⟨c1, c2, rfl⟩ := rng1E h22
      obtain ⟨l_24, h25, hm⟩ := bndE hm
      refine ⟨_, rfl, c1, c2, fun p_26 hD => k_lcR (fun r H => ∃ (R_ : Hp) (acc : List Int), Ex H0 R_ ∧ Own R_ H [(p_26, .lst (List.map V.int acc)), (p_3, .lst vs_7)] ∧ compM (m_law_C1 script_1 side_15) r acc = some l_24) ⟨H0, [], Ex.refl _, O.new hD, h25⟩ ?_ ?_⟩
      · rintro k_23 r H ⟨H0, acc, eC26, O, hC⟩
        replace hp_a_2 := eC26.l hp_a_2
        replace ha_p_3 := mA (mT2 mI (mL mI)) eC26 ha_p_3
        replace eB := eB.trans eC26
        replace eL16 := eL16.trans eC26
        obtain ⟨y, hm, hz, hC⟩ := compM_cons hC
        refine ⟨rfl, ?_⟩
        unfold m_law_C1 at hm
        obtain ⟨law_by_31, h32, hm⟩ := bndE hm
        refine ⟨_, rfl, _, rfl, _, _, rfl, rfl, .inl ⟨by decide, by decide⟩, _, _, rfl, rfl, _, rfl, _, _, rfl, rfl, .inl ⟨by decide, by decide⟩, _, _, rfl, rfl, ?_⟩
        refine x_nil ?_
        refine ⟨_, _, _, law_by_31, rfl, (O.ex.l hp_a_2), h32, ?_⟩
        refine O.retV fun H O => ?_
        obtain rfl := Option.some.inj hm
        refine ⟨_, O.mem (List.Mem.head _), (by rw [List.length_map]; exact hz), H0, _, eC26, ?_, hC⟩
        rw [map_snoc]
        exact O.put0
      rintro H ⟨H0, acc, eC26, O, hC⟩
      replace hp_a_2 := eC26.l hp_a_2
      replace ha_p_3 := mA (mT2 mI (mL mI)) eC26 ha_p_3
      replace eB := eB.trans eC26
      replace eL16 := eL16.trans eC26
      obtain rfl := compM_nil hC
      -- 154
      refine o_drop ?_
      obtain ⟨law_by_33, h34, hm⟩ := bndE hm
      refine ⟨_, rfl, .inl ⟨rfl, _, (SqL.of (O.mem (List.Mem.tail _ (List.Mem.head _))))⟩, _, rfl, _, rfl, _, _, rfl, rfl, .inl ⟨by decide, by decide⟩, _, _, rfl, rfl, ?_⟩
      refine x_nil ?_
      refine ⟨_, _, _, law_by_33, rfl, (O.ex.l hp_a_2), h34, ?_⟩
      refine O.retV fun H O => ?_
      refine ⟨_, rfl, ?_⟩
      refine x_nil ?_
      obtain ⟨H0, O, e_, hp_p_26⟩ := O.frz
      replace hp_a_2 := e_.l hp_a_2
      replace ha_p_3 := mA (mT2 mI (mL mI)) e_ ha_p_3
      replace eB := eB.trans e_
      replace eL16 := eL16.trans e_
      refine n_tup O (by show 2 ≤ sizeLine; decide) fun p_35 H O => ?_
      obtain ⟨H0, O, e_, hp_p_35⟩ := O.frz
      replace hp_a_2 := e_.l hp_a_2
      replace ha_p_3 := mA (mT2 mI (mL mI)) e_ ha_p_3
      replace hp_p_26 := e_ _ _ hp_p_26
      replace eB := eB.trans e_
      replace eL16 := eL16.trans e_
      have hn_p_35 : (rT2 rI (rL rI)) (H0) (.ref p_35) ((law_by_33, l_24) : Int × (List Int)) := ⟨_, _, _, rfl, hp_p_35, rfl, (gI hp_p_26)⟩
      refine x_nil ?_
      obtain ⟨l_36, h37, hm⟩ := bndE hm
      refine k_appA (O.mem (List.Mem.head _)) ha_p_3 (fun _ => O.put0) h37 hn_p_35 fun H O ha_p_3 => ?_
      have Oz := O
      obtain rfl := Option.some.inj hm
      exact ⟨H0, _, ((vs_7 ++ [.ref p_35])), _, _, _, rfl, eL16, Oz, ha_p_3, h14⟩
    rintro σ H ⟨H0, frames_6, vs_7, j_8, j_9, j_10, rfl, eJ_, O, ha_p_3, hL⟩
    replace hp_a_2 := eJ_.l hp_a_2
    replace eB := eB.trans eJ_
    cases loopM_nil hL
    -- 155
    refine o_seq ?_
    refine o_asg ?_
    refine ⟨_, rfl, ?_⟩
    obtain ⟨l_39, h40, hm⟩ := bndE hm
    refine ⟨_, rfl, ⟨_, (SqL.of (O.mem (List.Mem.head _)))⟩, fun p_41 hD => k_lcA ha_p_3 (fun r H => ∃ (R_ : Hp) (vs_42 : List V) (acc : List (List Int)), Ex H0 R_ ∧ Own R_ H [(p_41, .lst vs_42), (p_3, .lst vs_7)] ∧ All2 ((rL rI) (R_)) vs_42 acc ∧ compM (m_law_C2) r acc = some l_39) ⟨H0, ([] : List V), [], Ex.refl _, O.new hD, .nil, h40⟩ (by rintro r H ⟨H0, vs_42, acc, eC41, O, ha_p_41, hC⟩; exact (SqL.of (O.mem (List.Mem.tail _ (List.Mem.head _))))) ?_ ?_⟩
    · rintro frame_38 w_44 r H h45 ⟨H0, vs_42, acc, eC41, O, ha_p_41, hC⟩
      replace hp_a_2 := eC41.l hp_a_2
      replace ha_p_3 := mA (mT2 mI (mL mI)) eC41 ha_p_3
      replace eB := eB.trans eC41
      obtain ⟨y, hm, hz, hC⟩ := compM_cons hC
      refine ⟨rfl, ?_⟩
      refine o_yes ?_
      unfold m_law_C2 at hm
      replace h45 := (mT2 mI (mL mI)) _ _ _ _ eC41 h45
      obtain ⟨p_46, rfl⟩ := rT2_ref h45
      have hn_p_46 := h45
      obtain ⟨law_pl_47, h48, hm⟩ := bndE hm
      refine ⟨_, rfl, ?_⟩
      refine x_nil ?_
      refine ⟨frame_38, _, law_pl_47, rfl, ((mT2 mI (mL mI)) _ _ _ _ O.ex hn_p_46), h48, ?_⟩
      refine O.retL fun p_49 H O => ?_
      obtain ⟨law_wi_50, h51, hm⟩ := bndE hm
      refine x_nil ?_
      refine ⟨_, _, law_wi_50, rfl, (O.mem (List.Mem.head _)), h51, ?_⟩
      refine O.retL fun p_52 H O => ?_
      obtain ⟨H0, O, e_, hp_p_52⟩ := O.frz
      replace hp_a_2 := e_.l hp_a_2
      replace ha_p_3 := mA (mT2 mI (mL mI)) e_ ha_p_3
      replace ha_p_41 := mA (mL mI) e_ ha_p_41
      replace hn_p_46 := (mT2 mI (mL mI)) _ _ _ _ e_ hn_p_46
      replace eB := eB.trans e_
      replace eC41 := eC41.trans e_
      replace O := (O.sel (L' := [(p_41, .lst vs_42), (p_3, .lst vs_7)]) [1, 2] (by decide) rfl)
      obtain rfl := Option.some.inj hm
      exact ⟨_, O.mem (List.Mem.head _), (by rw [ha_p_41.len]; exact hz), H0, _, _, eC41, O.put0, ha_p_41.snoc (gI hp_p_52), hC⟩
    rintro H ⟨H0, vs_42, acc, eC41, O, ha_p_41, hC⟩
    replace hp_a_2 := eC41.l hp_a_2
    replace ha_p_3 := mA (mT2 mI (mL mI)) eC41 ha_p_3
    replace eB := eB.trans eC41
    obtain rfl := compM_nil hC
    -- 156
    refine o_seq ?_
    refine o_asg ?_
    refine o_cons ?_
    refine o_make ?_
    refine x_nil ?_
    refine k_make O fun a_53 dx_54 H O => ?_
    obtain ⟨reader_55, h56, hm⟩ := bndE hm
    have Oc : Own H0 H (((a_53, .ins ad.c_Reader dx_54 []) :: (dx_54, .own a_53) :: []) ++ [(p_41, .lst vs_42), (p_3, .lst vs_7)]) := Own.cv O (by first | with_reducible rfl | simp only [List.map_nil, List.flatten_cons, List.flatten_nil, List.cons_append, List.nil_append, List.append_nil, List.append_assoc])
    refine ⟨a_53, dx_54, H0, reader_55, rfl, Oc.left, h56, ?_⟩
    refine Oc.retX (mdI (mo_Reader ad)) fun v_ H H0 L_58 O e_ d_ => ?_
    replace hp_a_2 := e_.l hp_a_2
    replace ha_p_3 := mA (mT2 mI (mL mI)) e_ ha_p_3
    replace ha_p_41 := mA (mL mI) e_ ha_p_41
    replace eB := eB.trans e_
    obtain ⟨rfl, h57⟩ := d_
    refine ⟨rfl, ?_⟩
    obtain ⟨dx_59, p_60, rfl⟩ := h57
    replace O : Own H0 H [(a_53, .ins ad.c_Reader dx_59 [("kept", .ref p_60), ("last", .int reader_55.last), ("alike", .int reader_55.alike), ("latest", .str reader_55.latest)]), (dx_59, .own a_53), (p_60, .lst (List.map V.int reader_55.kept)), (p_41, .lst vs_42), (p_3, .lst vs_7)] := Own.cv O (by first | with_reducible rfl | simp only [List.map_nil, List.flatten_cons, List.flatten_nil, List.cons_append, List.nil_append, List.append_nil, List.append_assoc])
    refine o_cons ?_
    refine o_make ?_
    refine x_nil ?_
    refine k_make O fun a_61 dx_62 H O => ?_
    obtain ⟨reader_63, h64, hm⟩ := bndE hm
    have Oc : Own H0 H (((a_61, .ins ad.c_Reader dx_62 []) :: (dx_62, .own a_61) :: []) ++ [(a_53, .ins ad.c_Reader dx_59 [("kept", .ref p_60), ("last", .int reader_55.last), ("alike", .int reader_55.alike), ("latest", .str reader_55.latest)]), (dx_59, .own a_53), (p_60, .lst (List.map V.int reader_55.kept)), (p_41, .lst vs_42), (p_3, .lst vs_7)]) := Own.cv O (by first | with_reducible rfl | simp only [List.map_nil, List.flatten_cons, List.flatten_nil, List.cons_append, List.nil_append, List.append_nil, List.append_assoc])
    refine ⟨a_61, dx_62, H0, reader_63, rfl, Oc.left, h64, ?_⟩
    refine Oc.retX (mdI (mo_Reader ad)) fun v_ H H0 L_66 O e_ d_ => ?_
    replace hp_a_2 := e_.l hp_a_2
    replace ha_p_3 := mA (mT2 mI (mL mI)) e_ ha_p_3
    replace ha_p_41 := mA (mL mI) e_ ha_p_41
    replace eB := eB.trans e_
    obtain ⟨rfl, h65⟩ := d_
    refine ⟨rfl, ?_⟩
    obtain ⟨dx_67, p_68, rfl⟩ := h65
    replace O : Own H0 H [(a_61, .ins ad.c_Reader dx_67 [("kept", .ref p_68), ("last", .int reader_63.last), ("alike", .int reader_63.alike), ("latest", .str reader_63.latest)]), (dx_67, .own a_61), (p_68, .lst (List.map V.int reader_63.kept)), (a_53, .ins ad.c_Reader dx_59 [("kept", .ref p_60), ("last", .int reader_55.last), ("alike", .int reader_55.alike), ("latest", .str reader_55.latest)]), (dx_59, .own a_53), (p_60, .lst (List.map V.int reader_55.kept)), (p_41, .lst vs_42), (p_3, .lst vs_7)] := Own.cv O (by first | with_reducible rfl | simp only [List.map_nil, List.flatten_cons, List.flatten_nil, List.cons_append, List.nil_append, List.append_nil, List.append_assoc])
    refine x_nil ?_
    refine n_lstV O (by show 2 ≤ sizeLine; decide) fun p_69 H O => ?_
    have h70 : (oLs (o_Reader ad)) (H0) p_69 ((p_69, .lst ([.ref a_53, .ref a_61] : List V)) :: (((a_53, .ins ad.c_Reader dx_59 [("kept", .ref p_60), ("last", .int reader_55.last), ("alike", .int reader_55.alike), ("latest", .str reader_55.latest)]) :: (dx_59, .own a_53) :: ((p_60, .lst (List.map V.int reader_55.kept)) :: [])) ++ (((a_61, .ins ad.c_Reader dx_67 [("kept", .ref p_68), ("last", .int reader_63.last), ("alike", .int reader_63.alike), ("latest", .str reader_63.latest)]) :: (dx_67, .own a_61) :: ((p_68, .lst (List.map V.int reader_63.kept)) :: [])) ++ []))) [reader_55, reader_63] := ⟨[a_53, a_61], [((a_53, .ins ad.c_Reader dx_59 [("kept", .ref p_60), ("last", .int reader_55.last), ("alike", .int reader_55.alike), ("latest", .str reader_55.latest)]) :: (dx_59, .own a_53) :: ((p_60, .lst (List.map V.int reader_55.kept)) :: [])), ((a_61, .ins ad.c_Reader dx_67 [("kept", .ref p_68), ("last", .int reader_63.last), ("alike", .int reader_63.alike), ("latest", .str reader_63.latest)]) :: (dx_67, .own a_61) :: ((p_68, .lst (List.map V.int reader_63.kept)) :: []))], List.Perm.refl _, (.cons ⟨dx_59, p_60, rfl⟩ (.cons ⟨dx_67, p_68, rfl⟩ .nil))⟩
    replace O := (O.sel (L' := [(p_69, .lst ([.ref a_53, .ref a_61] : List V)), (a_53, .ins ad.c_Reader dx_59 [("kept", .ref p_60), ("last", .int reader_55.last), ("alike", .int reader_55.alike), ("latest", .str reader_55.latest)]), (dx_59, .own a_53), (p_60, .lst (List.map V.int reader_55.kept)), (a_61, .ins ad.c_Reader dx_67 [("kept", .ref p_68), ("last", .int reader_63.last), ("alike", .int reader_63.alike), ("latest", .str reader_63.latest)]), (dx_67, .own a_61), (p_68, .lst (List.map V.int reader_63.kept)), (p_41, .lst vs_42), (p_3, .lst vs_7)]) [0, 4, 5, 6, 1, 2, 3, 7, 8] (by decide) rfl)
    obtain ⟨L_71, hLb_⟩ : ∃ L_ : List Cell, L_ = ((p_69, .lst ([.ref a_53, .ref a_61] : List V)) :: (((a_53, .ins ad.c_Reader dx_59 [("kept", .ref p_60), ("last", .int reader_55.last), ("alike", .int reader_55.alike), ("latest", .str reader_55.latest)]) :: (dx_59, .own a_53) :: ((p_60, .lst (List.map V.int reader_55.kept)) :: [])) ++ (((a_61, .ins ad.c_Reader dx_67 [("kept", .ref p_68), ("last", .int reader_63.last), ("alike", .int reader_63.alike), ("latest", .str reader_63.latest)]) :: (dx_67, .own a_61) :: ((p_68, .lst (List.map V.int reader_63.kept)) :: [])) ++ []))) := ⟨_, rfl⟩
    rw [← hLb_] at h70
    replace O : Own H0 H (L_71 ++ [(p_41, .lst vs_42), (p_3, .lst vs_7)]) := by rw [hLb_]; exact Own.cv O (by first | with_reducible rfl | simp only [List.map_nil, List.flatten_cons, List.flatten_nil, List.cons_append, List.nil_append, List.append_nil, List.append_assoc])
    clear hLb_
    replace O := Own.cv (L' := (L_71 ++ ((p_41, .lst vs_42) :: ((p_3, .lst vs_7) :: [])))) O (by first | with_reducible rfl | simp only [List.map_nil, List.flatten_cons, List.flatten_nil, List.cons_append, List.nil_append, List.append_nil, List.append_assoc])
    replace O := (Own.cv (L' := ((p_41, .lst vs_42) :: ((p_3, .lst vs_7) :: (L_71 ++ [])))) (Own.selB (Bs := [L_71, [(p_41, .lst vs_42)], [(p_3, .lst vs_7)]]) (Bs' := [[(p_41, .lst vs_42)], [(p_3, .lst vs_7)], L_71]) (Own.cv O (by first | with_reducible rfl | simp only [List.map_nil, List.flatten_cons, List.flatten_nil, List.cons_append, List.nil_append, List.append_nil, List.append_assoc])) [1, 2, 0] (by decide) rfl) (by first | with_reducible rfl | simp only [List.map_nil, List.flatten_cons, List.flatten_nil, List.cons_append, List.nil_append, List.append_nil, List.append_assoc]))
    -- 157
    refine o_seq ?_
    refine o_asg ?_
    refine o_cons ?_
    refine x_nil ?_
    refine n_lst (f := V.int) (xs := ([] : List Int)) O rfl (Nat.zero_le _) fun p_72 H O => ?_
    refine o_cons ?_
    refine x_nil ?_
    refine n_lst (f := V.int) (xs := ([] : List Int)) O rfl (Nat.zero_le _) fun p_73 H O => ?_
    refine x_nil ?_
    refine n_lstV O (by show 2 ≤ sizeLine; decide) fun p_74 H O => ?_
    have h75 : (oLs (oRow V.int)) (H0) p_74 ((p_74, .lst ([.ref p_72, .ref p_73] : List V)) :: ([(p_72, .lst (List.map V.int ([] : List Int)))] ++ ([(p_73, .lst (List.map V.int ([] : List Int)))] ++ []))) ([([] : List Int), ([] : List Int)] : List (List Int)) := ⟨[p_72, p_73], [[(p_72, .lst (List.map V.int ([] : List Int)))], [(p_73, .lst (List.map V.int ([] : List Int)))]], List.Perm.refl _, (.cons (oRow_mk (f := V.int) (a := p_72) (xs := ([] : List Int))) (.cons (oRow_mk (f := V.int) (a := p_73) (xs := ([] : List Int))) .nil))⟩
    replace O := (Own.cv (L' := ((p_74, .lst ([.ref p_72, .ref p_73] : List V)) :: ((p_72, .lst (List.map V.int ([] : List Int))) :: ((p_73, .lst (List.map V.int ([] : List Int))) :: ((p_41, .lst vs_42) :: ((p_3, .lst vs_7) :: (L_71 ++ []))))))) (Own.selB (Bs := [[(p_74, .lst ([.ref p_72, .ref p_73] : List V))], [(p_73, .lst (List.map V.int ([] : List Int)))], [(p_72, .lst (List.map V.int ([] : List Int)))], [(p_41, .lst vs_42)], [(p_3, .lst vs_7)], L_71]) (Bs' := [[(p_74, .lst ([.ref p_72, .ref p_73] : List V))], [(p_72, .lst (List.map V.int ([] : List Int)))], [(p_73, .lst (List.map V.int ([] : List Int)))], [(p_41, .lst vs_42)], [(p_3, .lst vs_7)], L_71]) (Own.cv O (by first | with_reducible rfl | simp only [List.map_nil, List.flatten_cons, List.flatten_nil, List.cons_append, List.nil_append, List.append_nil, List.append_assoc])) [0, 2, 1, 3, 4, 5] (by decide) rfl) (by first | with_reducible rfl | simp only [List.map_nil, List.flatten_cons, List.flatten_nil, List.cons_append, List.nil_append, List.append_nil, List.append_assoc]))
    obtain ⟨L_76, hLb_⟩ : ∃ L_ : List Cell, L_ = ((p_74, .lst ([.ref p_72, .ref p_73] : List V)) :: ([(p_72, .lst (List.map V.int ([] : List Int)))] ++ ([(p_73, .lst (List.map V.int ([] : List Int)))] ++ []))) := ⟨_, rfl⟩
    rw [← hLb_] at h75
    replace O : Own H0 H (L_76 ++ ((p_41, .lst vs_42) :: ((p_3, .lst vs_7) :: (L_71 ++ [])))) := by rw [hLb_]; exact Own.cv O (by first | with_reducible rfl | simp only [List.map_nil, List.flatten_cons, List.flatten_nil, List.cons_append, List.nil_append, List.append_nil, List.append_assoc])
    clear hLb_
    replace O := Own.cv (L' := (L_76 ++ ((p_41, .lst vs_42) :: ((p_3, .lst vs_7) :: (L_71 ++ []))))) O (by first | with_reducible rfl | simp only [List.map_nil, List.flatten_cons, List.flatten_nil, List.cons_append, List.nil_append, List.append_nil, List.append_assoc])
    replace O := (Own.cv (L' := ((p_41, .lst vs_42) :: ((p_3, .lst vs_7) :: (L_76 ++ (L_71 ++ []))))) (Own.selB (Bs := [L_76, [(p_41, .lst vs_42)], [(p_3, .lst vs_7)], L_71]) (Bs' := [[(p_41, .lst vs_42)], [(p_3, .lst vs_7)], L_76, L_71]) (Own.cv O (by first | with_reducible rfl | simp only [List.map_nil, List.flatten_cons, List.flatten_nil, List.cons_append, List.nil_append, List.append_nil, List.append_assoc])) [1, 2, 0, 3] (by decide) rfl) (by first | with_reducible rfl | simp only [List.map_nil, List.flatten_cons, List.flatten_nil, List.cons_append, List.nil_append, List.append_nil, List.append_assoc]))
    -- 158
    refine o_seq ?_
    refine o_asg ?_
    refine x_nil ?_
    refine n_lst (f := V.int) (xs := ([] : List Int)) O rfl (Nat.zero_le _) fun p_77 H O => ?_
    -- 159
    refine o_seq ?_
    refine o_ifs ?_
    obtain ⟨o_80, h81, hm⟩ := bndE hm
    obtain ⟨plain_91, h92, hm⟩ := bndE hm
    obtain ⟨c_115, h116, hm⟩ := bndE hm
    refine x_orJ (c := (!decide (plain_91 = ([] : List Int)))) (e := c_115) (d := c_115) (fun H => ∃ (R_ : Hp), Ex H0 R_ ∧ Own R_ H ((p_77, .lst (List.map V.int ([] : List Int))) :: ((p_41, .lst vs_42) :: ((p_3, .lst vs_7) :: (L_76 ++ (L_71 ++ [])))))) (fun Q1 k1 => ?_) (fun h78 => ⟨rfl, fun H hJ Q2 k2 => ?_⟩) (fun h78 => Option.some.inj (ifT h116 h78)) (fun H hJ => ?_)
    · have eJ79 : Ex H0 H0 := Ex.refl _
      refine ⟨_, rfl, ?_⟩
      refine o_c ?_
      replace O := (Own.cv (L' := (L_71 ++ ((p_77, .lst (List.map V.int ([] : List Int))) :: ((p_41, .lst vs_42) :: ((p_3, .lst vs_7) :: (L_76 ++ [])))))) (Own.selB (Bs := [[(p_77, .lst (List.map V.int ([] : List Int)))], [(p_41, .lst vs_42)], [(p_3, .lst vs_7)], L_76, L_71]) (Bs' := [L_71, [(p_77, .lst (List.map V.int ([] : List Int)))], [(p_41, .lst vs_42)], [(p_3, .lst vs_7)], L_76]) (Own.cv O (by first | with_reducible rfl | simp only [List.map_nil, List.flatten_cons, List.flatten_nil, List.cons_append, List.nil_append, List.append_nil, List.append_assoc])) [4, 0, 1, 2, 3] (by decide) rfl) (by first | with_reducible rfl | simp only [List.map_nil, List.flatten_cons, List.flatten_nil, List.cons_append, List.nil_append, List.append_nil, List.append_assoc]))
      obtain ⟨vs_, a_82, L_83, L_84, hl_, hat_, _, h85, h88, O, h86, h87⟩ := Own.lsAt (A := []) (mo_Reader ad) O h70 h81
      refine ⟨_, vs_, _, _, rfl, rfl, SqL.of hl_, hat_, ?_⟩
      replace O := Own.cv (L' := (L_83 ++ (L_84 ++ ((p_77, .lst (List.map V.int ([] : List Int))) :: ((p_41, .lst vs_42) :: ((p_3, .lst vs_7) :: (L_76 ++ []))))))) O (by first | with_reducible rfl | simp only [List.map_nil, List.flatten_cons, List.flatten_nil, List.cons_append, List.nil_append, List.append_nil, List.append_assoc])
      replace O := (Own.cv (L' := ((p_77, .lst (List.map V.int ([] : List Int))) :: ((p_41, .lst vs_42) :: ((p_3, .lst vs_7) :: (L_83 ++ (L_84 ++ (L_76 ++ []))))))) (Own.selB (Bs := [L_83, L_84, [(p_77, .lst (List.map V.int ([] : List Int)))], [(p_41, .lst vs_42)], [(p_3, .lst vs_7)], L_76]) (Bs' := [[(p_77, .lst (List.map V.int ([] : List Int)))], [(p_41, .lst vs_42)], [(p_3, .lst vs_7)], L_83, L_84, L_76]) (Own.cv O (by first | with_reducible rfl | simp only [List.map_nil, List.flatten_cons, List.flatten_nil, List.cons_append, List.nil_append, List.append_nil, List.append_assoc])) [2, 3, 4, 0, 1, 5] (by decide) rfl) (by first | with_reducible rfl | simp only [List.map_nil, List.flatten_cons, List.flatten_nil, List.cons_append, List.nil_append, List.append_nil, List.append_assoc]))
      obtain ⟨dx_89, p_90, rfl⟩ := h85
      replace O := Own.cv (L' := ((p_77, .lst (List.map V.int ([] : List Int))) :: ((p_41, .lst vs_42) :: ((p_3, .lst vs_7) :: ((a_82, .ins ad.c_Reader dx_89 [("kept", .ref p_90), ("last", .int o_80.last), ("alike", .int o_80.alike), ("latest", .str o_80.latest)]) :: ((dx_89, .own a_82) :: ((p_90, .lst (List.map V.int o_80.kept)) :: (L_84 ++ (L_76 ++ []))))))))) O (by first | with_reducible rfl | simp only [List.map_nil, List.flatten_cons, List.flatten_nil, List.cons_append, List.nil_append, List.append_nil, List.append_assoc])
      refine ⟨a_82, dx_89, [("kept", .ref p_90), ("last", .int o_80.last), ("alike", .int o_80.alike), ("latest", .str o_80.latest)], rfl, (O.mem (List.Mem.tail _ (List.Mem.tail _ (List.Mem.tail _ (List.Mem.head _))))), (lk_skip (by decide) (lk_skip (by decide) (lk_skip (by decide) (lk_skip (by decide) lk_nil)))), ?_⟩
      refine x_nil ?_
      have Oc : Own H0 H ((((a_82, .ins ad.c_Reader dx_89 [("kept", .ref p_90), ("last", .int o_80.last), ("alike", .int o_80.alike), ("latest", .str o_80.latest)]) :: (dx_89, .own a_82) :: ((p_90, .lst (List.map V.int o_80.kept)) :: [])) ++ []) ++ ((p_77, .lst (List.map V.int ([] : List Int))) :: ((p_41, .lst vs_42) :: ((p_3, .lst vs_7) :: (L_84 ++ (L_76 ++ [])))))) := Own.cv (Own.cv (L' := ((a_82, .ins ad.c_Reader dx_89 [("kept", .ref p_90), ("last", .int o_80.last), ("alike", .int o_80.alike), ("latest", .str o_80.latest)]) :: ((dx_89, .own a_82) :: ((p_90, .lst (List.map V.int o_80.kept)) :: ((p_77, .lst (List.map V.int ([] : List Int))) :: ((p_41, .lst vs_42) :: ((p_3, .lst vs_7) :: (L_84 ++ (L_76 ++ []))))))))) (Own.selB (Bs := [[(p_77, .lst (List.map V.int ([] : List Int)))], [(p_41, .lst vs_42)], [(p_3, .lst vs_7)], [(a_82, .ins ad.c_Reader dx_89 [("kept", .ref p_90), ("last", .int o_80.last), ("alike", .int o_80.alike), ("latest", .str o_80.latest)])], [(dx_89, .own a_82)], [(p_90, .lst (List.map V.int o_80.kept))], L_84, L_76]) (Bs' := [[(a_82, .ins ad.c_Reader dx_89 [("kept", .ref p_90), ("last", .int o_80.last), ("alike", .int o_80.alike), ("latest", .str o_80.latest)])], [(dx_89, .own a_82)], [(p_90, .lst (List.map V.int o_80.kept))], [(p_77, .lst (List.map V.int ([] : List Int)))], [(p_41, .lst vs_42)], [(p_3, .lst vs_7)], L_84, L_76]) (Own.cv O (by first | with_reducible rfl | simp only [List.map_nil, List.flatten_cons, List.flatten_nil, List.cons_append, List.nil_append, List.append_nil, List.append_assoc])) [3, 4, 5, 0, 1, 2, 6, 7] (by decide) rfl) (by first | with_reducible rfl | simp only [List.map_nil, List.flatten_cons, List.flatten_nil, List.cons_append, List.nil_append, List.append_nil, List.append_assoc])) (by first | with_reducible rfl | simp only [List.map_nil, List.flatten_cons, List.flatten_nil, List.cons_append, List.nil_append, List.append_nil, List.append_assoc])
      refine ⟨o_80, a_82, ((a_82, .ins ad.c_Reader dx_89 [("kept", .ref p_90), ("last", .int o_80.last), ("alike", .int o_80.alike), ("latest", .str o_80.latest)]) :: (dx_89, .own a_82) :: ((p_90, .lst (List.map V.int o_80.kept)) :: [])), H0, plain_91, rfl, Oc.left, ⟨dx_89, p_90, rfl⟩, h92, ?_⟩
      refine Oc.retX (mdK mdLs) fun w_93 H H0 L_94 O e_ d_ => ?_
      replace hp_a_2 := e_.l hp_a_2
      replace ha_p_3 := mA (mT2 mI (mL mI)) e_ ha_p_3
      replace ha_p_41 := mA (mL mI) e_ ha_p_41
      replace h70 := (moLs (mo_Reader ad)) _ _ _ _ _ e_ h70
      replace h75 := (moLs moRow) _ _ _ _ _ e_ h75
      replace h86 := fun F_ L_ x_ q_ => h86 F_ L_ x_ (e_.trans q_)
      replace h87 := fun F_ L_ q_ => h87 F_ L_ (e_.trans q_)
      replace eB := eB.trans e_
      replace eJ79 := eJ79.trans e_
      obtain ⟨L_96, rfl, ⟨p_95, rfl, rfl⟩⟩ := d_
      replace O := Own.cv (L' := ((a_82, .ins ad.c_Reader dx_89 [("kept", .ref p_90), ("last", .int o_80.last), ("alike", .int o_80.alike), ("latest", .str o_80.latest)]) :: ((dx_89, .own a_82) :: ((p_90, .lst (List.map V.int o_80.kept)) :: ((p_95, .lst (List.map V.int plain_91)) :: ((p_77, .lst (List.map V.int ([] : List Int))) :: ((p_41, .lst vs_42) :: ((p_3, .lst vs_7) :: (L_84 ++ (L_76 ++ [])))))))))) O (by first | with_reducible rfl | simp only [List.map_nil, List.flatten_cons, List.flatten_nil, List.cons_append, List.nil_append, List.append_nil, List.append_assoc])
      replace O := (Own.cv (L' := ((a_82, .ins ad.c_Reader dx_89 [("kept", .ref p_90), ("last", .int o_80.last), ("alike", .int o_80.alike), ("latest", .str o_80.latest)]) :: ((dx_89, .own a_82) :: ((p_90, .lst (List.map V.int o_80.kept)) :: (L_84 ++ ((p_95, .lst (List.map V.int plain_91)) :: ((p_77, .lst (List.map V.int ([] : List Int))) :: ((p_41, .lst vs_42) :: ((p_3, .lst vs_7) :: (L_76 ++ [])))))))))) (Own.selB (Bs := [[(a_82, .ins ad.c_Reader dx_89 [("kept", .ref p_90), ("last", .int o_80.last), ("alike", .int o_80.alike), ("latest", .str o_80.latest)])], [(dx_89, .own a_82)], [(p_90, .lst (List.map V.int o_80.kept))], [(p_95, .lst (List.map V.int plain_91))], [(p_77, .lst (List.map V.int ([] : List Int)))], [(p_41, .lst vs_42)], [(p_3, .lst vs_7)], L_84, L_76]) (Bs' := [[(a_82, .ins ad.c_Reader dx_89 [("kept", .ref p_90), ("last", .int o_80.last), ("alike", .int o_80.alike), ("latest", .str o_80.latest)])], [(dx_89, .own a_82)], [(p_90, .lst (List.map V.int o_80.kept))], L_84, [(p_95, .lst (List.map V.int plain_91))], [(p_77, .lst (List.map V.int ([] : List Int)))], [(p_41, .lst vs_42)], [(p_3, .lst vs_7)], L_76]) (Own.cv O (by first | with_reducible rfl | simp only [List.map_nil, List.flatten_cons, List.flatten_nil, List.cons_append, List.nil_append, List.append_nil, List.append_assoc])) [0, 1, 2, 7, 3, 4, 5, 6, 8] (by decide) rfl) (by first | with_reducible rfl | simp only [List.map_nil, List.flatten_cons, List.flatten_nil, List.cons_append, List.nil_append, List.append_nil, List.append_assoc]))
      replace O : Own H0 H (L_71 ++ ((p_95, .lst (List.map V.int plain_91)) :: ((p_77, .lst (List.map V.int ([] : List Int))) :: ((p_41, .lst vs_42) :: ((p_3, .lst vs_7) :: (L_76 ++ [])))))) := Own.unls (A := []) (Own.cv (L' := [] ++ (((a_82, .ins ad.c_Reader dx_89 [("kept", .ref p_90), ("last", .int o_80.last), ("alike", .int o_80.alike), ("latest", .str o_80.latest)]) :: (dx_89, .own a_82) :: ((p_90, .lst (List.map V.int o_80.kept)) :: [])) ++ (L_84 ++ ((p_95, .lst (List.map V.int plain_91)) :: ((p_77, .lst (List.map V.int ([] : List Int))) :: ((p_41, .lst vs_42) :: ((p_3, .lst vs_7) :: (L_76 ++ [])))))))) O (by first | with_reducible rfl | simp only [List.map_nil, List.flatten_cons, List.flatten_nil, List.cons_append, List.nil_append, List.append_nil, List.append_assoc])) h88
      replace O := Own.cv (L' := (L_71 ++ ((p_95, .lst (List.map V.int plain_91)) :: ((p_77, .lst (List.map V.int ([] : List Int))) :: ((p_41, .lst vs_42) :: ((p_3, .lst vs_7) :: (L_76 ++ []))))))) O (by first | with_reducible rfl | simp only [List.map_nil, List.flatten_cons, List.flatten_nil, List.cons_append, List.nil_append, List.append_nil, List.append_assoc])
      replace O := (Own.cv (L' := ((p_95, .lst (List.map V.int plain_91)) :: ((p_77, .lst (List.map V.int ([] : List Int))) :: ((p_41, .lst vs_42) :: ((p_3, .lst vs_7) :: (L_71 ++ (L_76 ++ []))))))) (Own.selB (Bs := [L_71, [(p_95, .lst (List.map V.int plain_91))], [(p_77, .lst (List.map V.int ([] : List Int)))], [(p_41, .lst vs_42)], [(p_3, .lst vs_7)], L_76]) (Bs' := [[(p_95, .lst (List.map V.int plain_91))], [(p_77, .lst (List.map V.int ([] : List Int)))], [(p_41, .lst vs_42)], [(p_3, .lst vs_7)], L_71, L_76]) (Own.cv O (by first | with_reducible rfl | simp only [List.map_nil, List.flatten_cons, List.flatten_nil, List.cons_append, List.nil_append, List.append_nil, List.append_assoc])) [1, 2, 3, 4, 0, 5] (by decide) rfl) (by first | with_reducible rfl | simp only [List.map_nil, List.flatten_cons, List.flatten_nil, List.cons_append, List.nil_append, List.append_nil, List.append_assoc]))
      replace O := Own.cv (L' := ((p_95, .lst (List.map V.int plain_91)) :: ((p_77, .lst (List.map V.int ([] : List Int))) :: ((p_41, .lst vs_42) :: ((p_3, .lst vs_7) :: (L_71 ++ (L_76 ++ []))))))) O (by first | with_reducible rfl | simp only [List.map_nil, List.flatten_cons, List.flatten_nil, List.cons_append, List.nil_append, List.append_nil, List.append_assoc])
      refine x_nil ?_
      refine n_lst (f := V.int) (xs := ([] : List Int)) O rfl (Nat.zero_le _) fun p_97 H O => ?_
      refine k_neLI (SqL.of (O.mem (List.Mem.tail _ (List.Mem.head _)))) (SqL.of (O.mem (List.Mem.head _))) ?_
      refine ⟨_, rfl, ?_⟩
      replace O := (Own.cv (L' := ((p_77, .lst (List.map V.int ([] : List Int))) :: ((p_41, .lst vs_42) :: ((p_3, .lst vs_7) :: (L_71 ++ (L_76 ++ [])))))) (Own.selB (Bs := [[(p_97, .lst (List.map V.int ([] : List Int)))], [(p_95, .lst (List.map V.int plain_91))], [(p_77, .lst (List.map V.int ([] : List Int)))], [(p_41, .lst vs_42)], [(p_3, .lst vs_7)], L_71, L_76]) (Bs' := [[(p_77, .lst (List.map V.int ([] : List Int)))], [(p_41, .lst vs_42)], [(p_3, .lst vs_7)], L_71, L_76]) (Own.cv O (by first | with_reducible rfl | simp only [List.map_nil, List.flatten_cons, List.flatten_nil, List.cons_append, List.nil_append, List.append_nil, List.append_assoc])) [2, 3, 4, 5, 6] (by decide) rfl) (by first | with_reducible rfl | simp only [List.map_nil, List.flatten_cons, List.flatten_nil, List.cons_append, List.nil_append, List.append_nil, List.append_assoc]))
      exact k1 _ ⟨H0, eJ79, (Own.cv (L' := ((p_77, .lst (List.map V.int ([] : List Int))) :: ((p_41, .lst vs_42) :: ((p_3, .lst vs_7) :: (L_76 ++ (L_71 ++ [])))))) (Own.selB (Bs := [[(p_77, .lst (List.map V.int ([] : List Int)))], [(p_41, .lst vs_42)], [(p_3, .lst vs_7)], L_71, L_76]) (Bs' := [[(p_77, .lst (List.map V.int ([] : List Int)))], [(p_41, .lst vs_42)], [(p_3, .lst vs_7)], L_76, L_71]) (Own.cv O (by first | with_reducible rfl | simp only [List.map_nil, List.flatten_cons, List.flatten_nil, List.cons_append, List.nil_append, List.append_nil, List.append_assoc])) [0, 1, 2, 4, 3] (by decide) rfl) (by first | with_reducible rfl | simp only [List.map_nil, List.flatten_cons, List.flatten_nil, List.cons_append, List.nil_append, List.append_nil, List.append_assoc]))⟩
    · replace hm := ifF h116 h78
      obtain ⟨o_98, h99, hm⟩ := bndE hm
      obtain ⟨frame_109, h110, hm⟩ := bndOE hm
      obtain rfl := Option.some.inj hm
      obtain ⟨H0, eJ79, O⟩ := hJ
      replace hp_a_2 := eJ79.l hp_a_2
      replace ha_p_3 := mA (mT2 mI (mL mI)) eJ79 ha_p_3
      replace ha_p_41 := mA (mL mI) eJ79 ha_p_41
      replace h70 := (moLs (mo_Reader ad)) _ _ _ _ _ eJ79 h70
      replace h75 := (moLs moRow) _ _ _ _ _ eJ79 h75
      replace eB := eB.trans eJ79
      refine ⟨_, rfl, ?_⟩
      refine o_c ?_
      replace O := (Own.cv (L' := (L_71 ++ ((p_77, .lst (List.map V.int ([] : List Int))) :: ((p_41, .lst vs_42) :: ((p_3, .lst vs_7) :: (L_76 ++ [])))))) (Own.selB (Bs := [[(p_77, .lst (List.map V.int ([] : List Int)))], [(p_41, .lst vs_42)], [(p_3, .lst vs_7)], L_76, L_71]) (Bs' := [L_71, [(p_77, .lst (List.map V.int ([] : List Int)))], [(p_41, .lst vs_42)], [(p_3, .lst vs_7)], L_76]) (Own.cv O (by first | with_reducible rfl | simp only [List.map_nil, List.flatten_cons, List.flatten_nil, List.cons_append, List.nil_append, List.append_nil, List.append_assoc])) [4, 0, 1, 2, 3] (by decide) rfl) (by first | with_reducible rfl | simp only [List.map_nil, List.flatten_cons, List.flatten_nil, List.cons_append, List.nil_append, List.append_nil, List.append_assoc]))
      obtain ⟨vs_, a_100, L_101, L_102, hl_, hat_, _, h103, h106, O, h104, h105⟩ := Own.lsAt (A := []) (mo_Reader ad) O h70 h99
      refine ⟨_, vs_, _, _, rfl, rfl, SqL.of hl_, hat_, ?_⟩
      replace O := Own.cv (L' := (L_101 ++ (L_102 ++ ((p_77, .lst (List.map V.int ([] : List Int))) :: ((p_41, .lst vs_42) :: ((p_3, .lst vs_7) :: (L_76 ++ []))))))) O (by first | with_reducible rfl | simp only [List.map_nil, List.flatten_cons, List.flatten_nil, List.cons_append, List.nil_append, List.append_nil, List.append_assoc])
      replace O := (Own.cv (L' := ((p_77, .lst (List.map V.int ([] : List Int))) :: ((p_41, .lst vs_42) :: ((p_3, .lst vs_7) :: (L_101 ++ (L_102 ++ (L_76 ++ []))))))) (Own.selB (Bs := [L_101, L_102, [(p_77, .lst (List.map V.int ([] : List Int)))], [(p_41, .lst vs_42)], [(p_3, .lst vs_7)], L_76]) (Bs' := [[(p_77, .lst (List.map V.int ([] : List Int)))], [(p_41, .lst vs_42)], [(p_3, .lst vs_7)], L_101, L_102, L_76]) (Own.cv O (by first | with_reducible rfl | simp only [List.map_nil, List.flatten_cons, List.flatten_nil, List.cons_append, List.nil_append, List.append_nil, List.append_assoc])) [2, 3, 4, 0, 1, 5] (by decide) rfl) (by first | with_reducible rfl | simp only [List.map_nil, List.flatten_cons, List.flatten_nil, List.cons_append, List.nil_append, List.append_nil, List.append_assoc]))
      obtain ⟨dx_107, p_108, rfl⟩ := h103
      replace O := Own.cv (L' := ((p_77, .lst (List.map V.int ([] : List Int))) :: ((p_41, .lst vs_42) :: ((p_3, .lst vs_7) :: ((a_100, .ins ad.c_Reader dx_107 [("kept", .ref p_108), ("last", .int o_98.last), ("alike", .int o_98.alike), ("latest", .str o_98.latest)]) :: ((dx_107, .own a_100) :: ((p_108, .lst (List.map V.int o_98.kept)) :: (L_102 ++ (L_76 ++ []))))))))) O (by first | with_reducible rfl | simp only [List.map_nil, List.flatten_cons, List.flatten_nil, List.cons_append, List.nil_append, List.append_nil, List.append_assoc])
      refine ⟨a_100, dx_107, [("kept", .ref p_108), ("last", .int o_98.last), ("alike", .int o_98.alike), ("latest", .str o_98.latest)], rfl, (O.mem (List.Mem.tail _ (List.Mem.tail _ (List.Mem.tail _ (List.Mem.head _))))), (lk_skip (by decide) (lk_skip (by decide) (lk_skip (by decide) (lk_skip (by decide) lk_nil)))), ?_⟩
      refine x_nil ?_
      have Oc : Own H0 H ((((a_100, .ins ad.c_Reader dx_107 [("kept", .ref p_108), ("last", .int o_98.last), ("alike", .int o_98.alike), ("latest", .str o_98.latest)]) :: (dx_107, .own a_100) :: ((p_108, .lst (List.map V.int o_98.kept)) :: [])) ++ []) ++ ((p_77, .lst (List.map V.int ([] : List Int))) :: ((p_41, .lst vs_42) :: ((p_3, .lst vs_7) :: (L_102 ++ (L_76 ++ [])))))) := Own.cv (Own.cv (L' := ((a_100, .ins ad.c_Reader dx_107 [("kept", .ref p_108), ("last", .int o_98.last), ("alike", .int o_98.alike), ("latest", .str o_98.latest)]) :: ((dx_107, .own a_100) :: ((p_108, .lst (List.map V.int o_98.kept)) :: ((p_77, .lst (List.map V.int ([] : List Int))) :: ((p_41, .lst vs_42) :: ((p_3, .lst vs_7) :: (L_102 ++ (L_76 ++ []))))))))) (Own.selB (Bs := [[(p_77, .lst (List.map V.int ([] : List Int)))], [(p_41, .lst vs_42)], [(p_3, .lst vs_7)], [(a_100, .ins ad.c_Reader dx_107 [("kept", .ref p_108), ("last", .int o_98.last), ("alike", .int o_98.alike), ("latest", .str o_98.latest)])], [(dx_107, .own a_100)], [(p_108, .lst (List.map V.int o_98.kept))], L_102, L_76]) (Bs' := [[(a_100, .ins ad.c_Reader dx_107 [("kept", .ref p_108), ("last", .int o_98.last), ("alike", .int o_98.alike), ("latest", .str o_98.latest)])], [(dx_107, .own a_100)], [(p_108, .lst (List.map V.int o_98.kept))], [(p_77, .lst (List.map V.int ([] : List Int)))], [(p_41, .lst vs_42)], [(p_3, .lst vs_7)], L_102, L_76]) (Own.cv O (by first | with_reducible rfl | simp only [List.map_nil, List.flatten_cons, List.flatten_nil, List.cons_append, List.nil_append, List.append_nil, List.append_assoc])) [3, 4, 5, 0, 1, 2, 6, 7] (by decide) rfl) (by first | with_reducible rfl | simp only [List.map_nil, List.flatten_cons, List.flatten_nil, List.cons_append, List.nil_append, List.append_nil, List.append_assoc])) (by first | with_reducible rfl | simp only [List.map_nil, List.flatten_cons, List.flatten_nil, List.cons_append, List.nil_append, List.append_nil, List.append_assoc])
      refine ⟨o_98, a_100, ((a_100, .ins ad.c_Reader dx_107 [("kept", .ref p_108), ("last", .int o_98.last), ("alike", .int o_98.alike), ("latest", .str o_98.latest)]) :: (dx_107, .own a_100) :: ((p_108, .lst (List.map V.int o_98.kept)) :: [])), H0, (.ok frame_109), rfl, Oc.left, ⟨dx_107, p_108, rfl⟩, h110, ?_⟩
      refine RetR.ok ?_
      refine Oc.retX (mdK (mdP (mO (mT2 mI (mL mI))))) fun w_111 H H0 L_112 O e_ d_ => ?_
      replace hp_a_2 := e_.l hp_a_2
      replace ha_p_3 := mA (mT2 mI (mL mI)) e_ ha_p_3
      replace ha_p_41 := mA (mL mI) e_ ha_p_41
      replace h70 := (moLs (mo_Reader ad)) _ _ _ _ _ e_ h70
      replace h75 := (moLs moRow) _ _ _ _ _ e_ h75
      replace h104 := fun F_ L_ x_ q_ => h104 F_ L_ x_ (e_.trans q_)
      replace h105 := fun F_ L_ q_ => h105 F_ L_ (e_.trans q_)
      replace eB := eB.trans e_
      replace eJ79 := eJ79.trans e_
      obtain ⟨L_114, rfl, ⟨rfl, h113⟩⟩ := d_
      replace O := Own.cv (L' := ((a_100, .ins ad.c_Reader dx_107 [("kept", .ref p_108), ("last", .int o_98.last), ("alike", .int o_98.alike), ("latest", .str o_98.latest)]) :: ((dx_107, .own a_100) :: ((p_108, .lst (List.map V.int o_98.kept)) :: ((p_77, .lst (List.map V.int ([] : List Int))) :: ((p_41, .lst vs_42) :: ((p_3, .lst vs_7) :: (L_102 ++ (L_76 ++ []))))))))) O (by first | with_reducible rfl | simp only [List.map_nil, List.flatten_cons, List.flatten_nil, List.cons_append, List.nil_append, List.append_nil, List.append_assoc])
      replace O := (Own.cv (L' := ((a_100, .ins ad.c_Reader dx_107 [("kept", .ref p_108), ("last", .int o_98.last), ("alike", .int o_98.alike), ("latest", .str o_98.latest)]) :: ((dx_107, .own a_100) :: ((p_108, .lst (List.map V.int o_98.kept)) :: (L_102 ++ ((p_77, .lst (List.map V.int ([] : List Int))) :: ((p_41, .lst vs_42) :: ((p_3, .lst vs_7) :: (L_76 ++ []))))))))) (Own.selB (Bs := [[(a_100, .ins ad.c_Reader dx_107 [("kept", .ref p_108), ("last", .int o_98.last), ("alike", .int o_98.alike), ("latest", .str o_98.latest)])], [(dx_107, .own a_100)], [(p_108, .lst (List.map V.int o_98.kept))], [(p_77, .lst (List.map V.int ([] : List Int)))], [(p_41, .lst vs_42)], [(p_3, .lst vs_7)], L_102, L_76]) (Bs' := [[(a_100, .ins ad.c_Reader dx_107 [("kept", .ref p_108), ("last", .int o_98.last), ("alike", .int o_98.alike), ("latest", .str o_98.latest)])], [(dx_107, .own a_100)], [(p_108, .lst (List.map V.int o_98.kept))], L_102, [(p_77, .lst (List.map V.int ([] : List Int)))], [(p_41, .lst vs_42)], [(p_3, .lst vs_7)], L_76]) (Own.cv O (by first | with_reducible rfl | simp only [List.map_nil, List.flatten_cons, List.flatten_nil, List.cons_append, List.nil_append, List.append_nil, List.append_assoc])) [0, 1, 2, 6, 3, 4, 5, 7] (by decide) rfl) (by first | with_reducible rfl | simp only [List.map_nil, List.flatten_cons, List.flatten_nil, List.cons_append, List.nil_append, List.append_nil, List.append_assoc]))
      replace O : Own H0 H (L_71 ++ ((p_77, .lst (List.map V.int ([] : List Int))) :: ((p_41, .lst vs_42) :: ((p_3, .lst vs_7) :: (L_76 ++ []))))) := Own.unls (A := []) (Own.cv (L' := [] ++ (((a_100, .ins ad.c_Reader dx_107 [("kept", .ref p_108), ("last", .int o_98.last), ("alike", .int o_98.alike), ("latest", .str o_98.latest)]) :: (dx_107, .own a_100) :: ((p_108, .lst (List.map V.int o_98.kept)) :: [])) ++ (L_102 ++ ((p_77, .lst (List.map V.int ([] : List Int))) :: ((p_41, .lst vs_42) :: ((p_3, .lst vs_7) :: (L_76 ++ []))))))) O (by first | with_reducible rfl | simp only [List.map_nil, List.flatten_cons, List.flatten_nil, List.cons_append, List.nil_append, List.append_nil, List.append_assoc])) h106
      replace O := Own.cv (L' := (L_71 ++ ((p_77, .lst (List.map V.int ([] : List Int))) :: ((p_41, .lst vs_42) :: ((p_3, .lst vs_7) :: (L_76 ++ [])))))) O (by first | with_reducible rfl | simp only [List.map_nil, List.flatten_cons, List.flatten_nil, List.cons_append, List.nil_append, List.append_nil, List.append_assoc])
      replace O := (Own.cv (L' := ((p_77, .lst (List.map V.int ([] : List Int))) :: ((p_41, .lst vs_42) :: ((p_3, .lst vs_7) :: (L_71 ++ (L_76 ++ [])))))) (Own.selB (Bs := [L_71, [(p_77, .lst (List.map V.int ([] : List Int)))], [(p_41, .lst vs_42)], [(p_3, .lst vs_7)], L_76]) (Bs' := [[(p_77, .lst (List.map V.int ([] : List Int)))], [(p_41, .lst vs_42)], [(p_3, .lst vs_7)], L_71, L_76]) (Own.cv O (by first | with_reducible rfl | simp only [List.map_nil, List.flatten_cons, List.flatten_nil, List.cons_append, List.nil_append, List.append_nil, List.append_assoc])) [1, 2, 3, 0, 4] (by decide) rfl) (by first | with_reducible rfl | simp only [List.map_nil, List.flatten_cons, List.flatten_nil, List.cons_append, List.nil_append, List.append_nil, List.append_assoc]))
      replace O := Own.cv (L' := ((p_77, .lst (List.map V.int ([] : List Int))) :: ((p_41, .lst vs_42) :: ((p_3, .lst vs_7) :: (L_71 ++ (L_76 ++ [])))))) O (by first | with_reducible rfl | simp only [List.map_nil, List.flatten_cons, List.flatten_nil, List.cons_append, List.nil_append, List.append_nil, List.append_assoc])
      have hn_w_111 := h113
      refine o_c ?_
      refine k_notN nnT2 hn_w_111 ?_
      refine ⟨_, rfl, ?_⟩
      exact k2 _ ⟨H0, eJ79, (Own.cv (L' := ((p_77, .lst (List.map V.int ([] : List Int))) :: ((p_41, .lst vs_42) :: ((p_3, .lst vs_7) :: (L_76 ++ (L_71 ++ [])))))) (Own.selB (Bs := [[(p_77, .lst (List.map V.int ([] : List Int)))], [(p_41, .lst vs_42)], [(p_3, .lst vs_7)], L_71, L_76]) (Bs' := [[(p_77, .lst (List.map V.int ([] : List Int)))], [(p_41, .lst vs_42)], [(p_3, .lst vs_7)], L_76, L_71]) (Own.cv O (by first | with_reducible rfl | simp only [List.map_nil, List.flatten_cons, List.flatten_nil, List.cons_append, List.nil_append, List.append_nil, List.append_assoc])) [0, 1, 2, 4, 3] (by decide) rfl) (by first | with_reducible rfl | simp only [List.map_nil, List.flatten_cons, List.flatten_nil, List.cons_append, List.nil_append, List.append_nil, List.append_assoc]))⟩
    obtain ⟨H0, eJ79, O⟩ := hJ
    replace hp_a_2 := eJ79.l hp_a_2
    replace ha_p_3 := mA (mT2 mI (mL mI)) eJ79 ha_p_3
    replace ha_p_41 := mA (mL mI) eJ79 ha_p_41
    replace h70 := (moLs (mo_Reader ad)) _ _ _ _ _ eJ79 h70
    replace h75 := (moLs moRow) _ _ _ _ _ eJ79 h75
    replace eB := eB.trans eJ79
    refine iteS (c := c_115) (fun h117 => ?_) (fun h117 => ?_)
    · replace hm := ifT hm h117
      -- 160
      refine o_ret ?_
      refine o_c ?_
      obtain rfl := Option.some.inj hm
      exact RetV.goR k O eB
    · replace hm := ifF hm h117
      refine o_next ?_
      -- 161
      refine o_seq ?_
      refine o_for ?_
      obtain ⟨e_118, h119, hm⟩ := bndE hm
      refine ⟨_, rfl, ?_⟩
      refine o_c ?_
      refine k_ixA (SqL.of (O.mem (List.Mem.tail _ (List.Mem.head _)))) ha_p_41 h119 fun w_120 h121 => ?_
      obtain ⟨p_122, rfl, hp_p_122⟩ := fI h121
      refine x_nil ?_
      refine n_len (SqL.of (O.ex _ _ hp_p_122)) ?_
      obtain ⟨e_123, h124, hm⟩ := bndE hm
      refine ⟨_, rfl, ?_⟩
      refine o_c ?_
      refine k_ixA (SqL.of (O.mem (List.Mem.tail _ (List.Mem.head _)))) ha_p_41 h124 fun w_125 h126 => ?_
      obtain ⟨p_127, rfl, hp_p_127⟩ := fI h126
      refine x_nil ?_
      refine n_len (SqL.of (O.ex _ _ hp_p_127)) ?_
      obtain ⟨rg_128, h129, hm⟩ := bndE hm
      refine ⟨_, _, rfl, ?_⟩
      refine x_nil ?_
      obtain ⟨c1, c2, rfl⟩ := rng1E h129
      obtain ⟨out_150, h146, h147⟩ := bndE hm
      refine ⟨_, rfl, c1, c2, q_forR (fun r σ H => ∃ (R_ : Hp) (readers_132 : List S_Reader) (plains_135 : List (List Int)) (held_138 : List ((List Int) × (List Int))) (vs_139 : List V) (B_133 : List Cell) (B_136 : List Cell) (j_130 : Option V) (j_131 : Option V) (j_140 : Option V) (j_141 : Option V) (j_142 : Option V), σ = [j_130, some (.ref p_3), j_131, some (.ref p_41), some (.ref p_69), some (.ref p_74), some (.ref p_77), j_140, none, j_141, j_142, none] ∧ Ex H0 R_ ∧ Own R_ H ((p_3, .lst vs_7) :: ((p_41, .lst vs_42) :: ((p_77, .lst vs_139) :: (B_133 ++ (B_136 ++ []))))) ∧ All2 ((rT2 (rL rI) (rL rI)) (R_)) vs_139 held_138 ∧ (oLs (o_Reader ad)) (R_) p_69 B_133 readers_132 ∧ (oLs (oRow V.int)) (R_) p_74 B_136 plains_135 ∧ loopF (fun k_149 s => m_law_L3 l_39 k_149 s.1 s.2.1 s.2.2) r (readers_132, plains_135, held_138) = some out_150) ⟨H0, _, _, ([] : List ((List Int) × (List Int))), ([] : List V), L_71, L_76, _, _, _, _, _, rfl, Ex.refl _, (Own.cv (Own.cv (L' := ((p_3, .lst vs_7) :: ((p_41, .lst vs_42) :: ((p_77, .lst (List.map V.int ([] : List Int))) :: (L_71 ++ (L_76 ++ [])))))) (Own.selB (Bs := [[(p_77, .lst (List.map V.int ([] : List Int)))], [(p_41, .lst vs_42)], [(p_3, .lst vs_7)], L_76, L_71]) (Bs' := [[(p_3, .lst vs_7)], [(p_41, .lst vs_42)], [(p_77, .lst (List.map V.int ([] : List Int)))], L_71, L_76]) (Own.cv O (by first | with_reducible rfl | simp only [List.map_nil, List.flatten_cons, List.flatten_nil, List.cons_append, List.nil_append, List.append_nil, List.append_assoc])) [2, 1, 0, 4, 3] (by decide) rfl) (by first | with_reducible rfl | simp only [List.map_nil, List.flatten_cons, List.flatten_nil, List.cons_append, List.nil_append, List.append_nil, List.append_assoc])) (by first | with_reducible rfl | simp only [List.map_nil, List.flatten_cons, List.flatten_nil, List.cons_append, List.nil_append, List.append_nil, List.append_assoc])), .nil, h70, h75, h146⟩ ?_ ?_⟩
      · rintro k_149 r σ H ⟨H0, readers_132, plains_135, held_138, vs_139, B_133, B_136, j_130, j_131, j_140, j_141, j_142, rfl, eL150, O, ha_p_77, h134, h137, hL⟩
        replace ha_p_3 := mA (mT2 mI (mL mI)) eL150 ha_p_3
        replace ha_p_41 := mA (mL mI) eL150 ha_p_41
        replace eB := eB.trans eL150
        obtain ⟨s_, hm, h148⟩ := loopF_cons hL
        replace hm : m_law_L3 l_39 k_149 readers_132 plains_135 held_138 = some s_ := hm
        unfold m_law_L3 at hm
        -- 162
        refine o_for ?_
        obtain ⟨rg_153, h154, hm⟩ := bndE hm
        refine o_ir1 ?_
        refine o_cons ?_
        refine o_c ?_
        refine x_nil ?_
        obtain ⟨c1, c2, rfl⟩ := rng1E h154
        obtain ⟨out_174, h170, h171⟩ := bndE hm
        refine ⟨_, rfl, c1, c2, q_forR (fun r σ H => ∃ (R_ : Hp) (readers_157 : List S_Reader) (plains_160 : List (List Int)) (held_163 : List ((List Int) × (List Int))) (vs_164 : List V) (B_158 : List Cell) (B_161 : List Cell) (j_155 : Option V) (j_156 : Option V) (j_165 : Option V) (j_166 : Option V), σ = [j_155, some (.ref p_3), j_156, some (.ref p_41), some (.ref p_69), some (.ref p_74), some (.ref p_77), some (.int k_149), none, j_165, j_166, none] ∧ Ex H0 R_ ∧ Own R_ H ((p_3, .lst vs_7) :: ((p_41, .lst vs_42) :: ((p_77, .lst vs_164) :: (B_158 ++ (B_161 ++ []))))) ∧ All2 ((rT2 (rL rI) (rL rI)) (R_)) vs_164 held_163 ∧ (oLs (o_Reader ad)) (R_) p_69 B_158 readers_157 ∧ (oLs (oRow V.int)) (R_) p_74 B_161 plains_160 ∧ loopF (fun side_173 s => m_law_L4 l_39 k_149 side_173 s.1 s.2.1 s.2.2) r (readers_157, plains_160, held_163) = some out_174) ⟨H0, _, _, _, (vs_139), B_133, B_136, _, _, _, _, rfl, Ex.refl _, (Own.cv (Own.cv (L' := ((p_3, .lst vs_7) :: ((p_41, .lst vs_42) :: ((p_77, .lst vs_139) :: (B_133 ++ (B_136 ++ [])))))) (Own.selB (Bs := [[(p_3, .lst vs_7)], [(p_41, .lst vs_42)], [(p_77, .lst vs_139)], B_133, B_136]) (Bs' := [[(p_3, .lst vs_7)], [(p_41, .lst vs_42)], [(p_77, .lst vs_139)], B_133, B_136]) (Own.cv O (by first | with_reducible rfl | simp only [List.map_nil, List.flatten_cons, List.flatten_nil, List.cons_append, List.nil_append, List.append_nil, List.append_assoc])) [0, 1, 2, 3, 4] (by decide) rfl) (by first | with_reducible rfl | simp only [List.map_nil, List.flatten_cons, List.flatten_nil, List.cons_append, List.nil_append, List.append_nil, List.append_assoc])) (by first | with_reducible rfl | simp only [List.map_nil, List.flatten_cons, List.flatten_nil, List.cons_append, List.nil_append, List.append_nil, List.append_assoc])), ha_p_77, h134, h137, h170⟩ ?_ ?_⟩
        · rintro side_173 r σ H ⟨H0, readers_157, plains_160, held_163, vs_164, B_158, B_161, j_155, j_156, j_165, j_166, rfl, eL174, O, ha_p_77, h159, h162, hL⟩
          replace ha_p_3 := mA (mT2 mI (mL mI)) eL174 ha_p_3
          replace ha_p_41 := mA (mL mI) eL174 ha_p_41
          replace eB := eB.trans eL174
          replace eL150 := eL150.trans eL174
          obtain ⟨s_, hm, h172⟩ := loopF_cons hL
          replace hm : m_law_L4 l_39 k_149 side_173 readers_157 plains_160 held_163 = some s_ := hm
          unfold m_law_L4 at hm
          -- 163
          refine o_seq ?_
          refine o_ifs ?_
          obtain ⟨e_177, h178, hm⟩ := bndE hm
          refine ⟨_, rfl, _, rfl, _, rfl, ?_⟩
          refine k_ixA (SqL.of (O.mem (List.Mem.tail _ (List.Mem.head _)))) ha_p_41 h178 fun w_179 h180 => ?_
          obtain ⟨p_181, rfl, hp_p_181⟩ := fI h180
          refine x_nil ?_
          refine n_len (SqL.of (O.ex _ _ hp_p_181)) ?_
          refine ⟨_, _, rfl, rfl, _, rfl, ?_⟩
          refine iteS (c := decide ((List.length e_177 : Int) ≤ k_149)) (fun h182 => ?_) (fun h182 => ?_)
          · replace hm := ifT hm h182
            -- 164
            have Oz := O
            obtain rfl := Option.some.inj hm
            exact ⟨H0, _, _, _, (vs_164), B_158, B_161, _, _, _, _, rfl, eL174, (Own.cv (Own.cv (L' := ((p_3, .lst vs_7) :: ((p_41, .lst vs_42) :: ((p_77, .lst vs_164) :: (B_158 ++ (B_161 ++ [])))))) (Own.selB (Bs := [[(p_3, .lst vs_7)], [(p_41, .lst vs_42)], [(p_77, .lst vs_164)], B_158, B_161]) (Bs' := [[(p_3, .lst vs_7)], [(p_41, .lst vs_42)], [(p_77, .lst vs_164)], B_158, B_161]) (Own.cv Oz (by first | with_reducible rfl | simp only [List.map_nil, List.flatten_cons, List.flatten_nil, List.cons_append, List.nil_append, List.append_nil, List.append_assoc])) [0, 1, 2, 3, 4] (by decide) rfl) (by first | with_reducible rfl | simp only [List.map_nil, List.flatten_cons, List.flatten_nil, List.cons_append, List.nil_append, List.append_nil, List.append_assoc])) (by first | with_reducible rfl | simp only [List.map_nil, List.flatten_cons, List.flatten_nil, List.cons_append, List.nil_append, List.append_nil, List.append_assoc])), ha_p_77, h159, h162, h172⟩
          · replace hm := ifF hm h182
            refine o_next ?_
            -- 165
            refine o_ifs ?_
            obtain ⟨o_183, h184, hm⟩ := bndE hm
            refine ⟨_, rfl, _, rfl, ?_⟩
            replace O := (Own.cv (L' := (B_158 ++ ((p_3, .lst vs_7) :: ((p_41, .lst vs_42) :: ((p_77, .lst vs_164) :: (B_161 ++ [])))))) (Own.selB (Bs := [[(p_3, .lst vs_7)], [(p_41, .lst vs_42)], [(p_77, .lst vs_164)], B_158, B_161]) (Bs' := [B_158, [(p_3, .lst vs_7)], [(p_41, .lst vs_42)], [(p_77, .lst vs_164)], B_161]) (Own.cv O (by first | with_reducible rfl | simp only [List.map_nil, List.flatten_cons, List.flatten_nil, List.cons_append, List.nil_append, List.append_nil, List.append_assoc])) [3, 0, 1, 2, 4] (by decide) rfl) (by first | with_reducible rfl | simp only [List.map_nil, List.flatten_cons, List.flatten_nil, List.cons_append, List.nil_append, List.append_nil, List.append_assoc]))
            obtain ⟨vs_, a_185, L_186, L_187, hl_, hat_, _, h188, h191, O, h189, h190⟩ := Own.lsAt (A := []) (mo_Reader ad) O h159 h184
            refine ⟨_, vs_, _, _, rfl, rfl, SqL.of hl_, hat_, ?_⟩
            replace O := Own.cv (L' := (L_186 ++ (L_187 ++ ((p_3, .lst vs_7) :: ((p_41, .lst vs_42) :: ((p_77, .lst vs_164) :: (B_161 ++ []))))))) O (by first | with_reducible rfl | simp only [List.map_nil, List.flatten_cons, List.flatten_nil, List.cons_append, List.nil_append, List.append_nil, List.append_assoc])
            replace O := (Own.cv (L' := ((p_3, .lst vs_7) :: ((p_41, .lst vs_42) :: ((p_77, .lst vs_164) :: (L_186 ++ (L_187 ++ (B_161 ++ []))))))) (Own.selB (Bs := [L_186, L_187, [(p_3, .lst vs_7)], [(p_41, .lst vs_42)], [(p_77, .lst vs_164)], B_161]) (Bs' := [[(p_3, .lst vs_7)], [(p_41, .lst vs_42)], [(p_77, .lst vs_164)], L_186, L_187, B_161]) (Own.cv O (by first | with_reducible rfl | simp only [List.map_nil, List.flatten_cons, List.flatten_nil, List.cons_append, List.nil_append, List.append_nil, List.append_assoc])) [2, 3, 4, 0, 1, 5] (by decide) rfl) (by first | with_reducible rfl | simp only [List.map_nil, List.flatten_cons, List.flatten_nil, List.cons_append, List.nil_append, List.append_nil, List.append_assoc]))
            obtain ⟨e_192, h193, hm⟩ := bndE hm
            refine ⟨_, rfl, _, rfl, ?_⟩
            refine k_ixA (SqL.of (O.mem (List.Mem.tail _ (List.Mem.head _)))) ha_p_41 h193 fun w_194 h195 => ?_
            obtain ⟨p_196, rfl, hp_p_196⟩ := fI h195
            obtain ⟨o_197, h198, hm⟩ := bndE hm
            refine ⟨_, rfl, _, rfl, _, rfl, ?_⟩
            replace O := (Own.cv (L' := (B_161 ++ ((p_3, .lst vs_7) :: ((p_41, .lst vs_42) :: ((p_77, .lst vs_164) :: (L_186 ++ (L_187 ++ []))))))) (Own.selB (Bs := [[(p_3, .lst vs_7)], [(p_41, .lst vs_42)], [(p_77, .lst vs_164)], L_186, L_187, B_161]) (Bs' := [B_161, [(p_3, .lst vs_7)], [(p_41, .lst vs_42)], [(p_77, .lst vs_164)], L_186, L_187]) (Own.cv O (by first | with_reducible rfl | simp only [List.map_nil, List.flatten_cons, List.flatten_nil, List.cons_append, List.nil_append, List.append_nil, List.append_assoc])) [5, 0, 1, 2, 3, 4] (by decide) rfl) (by first | with_reducible rfl | simp only [List.map_nil, List.flatten_cons, List.flatten_nil, List.cons_append, List.nil_append, List.append_nil, List.append_assoc]))
            obtain ⟨vs_, a_199, L_200, L_201, hl_, hat_, _, h202, h205, O, h203, h204⟩ := Own.lsAt (A := []) moRow O h162 h198
            refine ⟨_, vs_, _, _, rfl, rfl, SqL.of hl_, hat_, ?_⟩
            replace O := Own.cv (L' := (L_200 ++ (L_201 ++ ((p_3, .lst vs_7) :: ((p_41, .lst vs_42) :: ((p_77, .lst vs_164) :: (L_186 ++ (L_187 ++ [])))))))) O (by first | with_reducible rfl | simp only [List.map_nil, List.flatten_cons, List.flatten_nil, List.cons_append, List.nil_append, List.append_nil, List.append_assoc])
            replace O := (Own.cv (L' := ((p_3, .lst vs_7) :: ((p_41, .lst vs_42) :: ((p_77, .lst vs_164) :: (L_200 ++ (L_201 ++ (L_186 ++ (L_187 ++ [])))))))) (Own.selB (Bs := [L_200, L_201, [(p_3, .lst vs_7)], [(p_41, .lst vs_42)], [(p_77, .lst vs_164)], L_186, L_187]) (Bs' := [[(p_3, .lst vs_7)], [(p_41, .lst vs_42)], [(p_77, .lst vs_164)], L_200, L_201, L_186, L_187]) (Own.cv O (by first | with_reducible rfl | simp only [List.map_nil, List.flatten_cons, List.flatten_nil, List.cons_append, List.nil_append, List.append_nil, List.append_assoc])) [2, 3, 4, 0, 1, 5, 6] (by decide) rfl) (by first | with_reducible rfl | simp only [List.map_nil, List.flatten_cons, List.flatten_nil, List.cons_append, List.nil_append, List.append_nil, List.append_assoc]))
            obtain ⟨⟨reader_206, plain_207, held_208, law_to_209⟩, h210, hm⟩ := bndE hm
            refine ⟨_, rfl, ?_⟩
            refine x_nil ?_
            have Oc : Own H0 H ((L_186 ++ (L_200 ++ ([(p_77, .lst vs_164)] ++ []))) ++ ((p_3, .lst vs_7) :: ((p_41, .lst vs_42) :: (L_201 ++ (L_187 ++ []))))) := Own.cv (Own.cv (L' := (L_186 ++ (L_200 ++ ((p_77, .lst vs_164) :: ((p_3, .lst vs_7) :: ((p_41, .lst vs_42) :: (L_201 ++ (L_187 ++ [])))))))) (Own.selB (Bs := [[(p_3, .lst vs_7)], [(p_41, .lst vs_42)], [(p_77, .lst vs_164)], L_200, L_201, L_186, L_187]) (Bs' := [L_186, L_200, [(p_77, .lst vs_164)], [(p_3, .lst vs_7)], [(p_41, .lst vs_42)], L_201, L_187]) (Own.cv O (by first | with_reducible rfl | simp only [List.map_nil, List.flatten_cons, List.flatten_nil, List.cons_append, List.nil_append, List.append_nil, List.append_assoc])) [5, 3, 2, 0, 1, 4, 6] (by decide) rfl) (by first | with_reducible rfl | simp only [List.map_nil, List.flatten_cons, List.flatten_nil, List.cons_append, List.nil_append, List.append_nil, List.append_assoc])) (by first | with_reducible rfl | simp only [List.map_nil, List.flatten_cons, List.flatten_nil, List.cons_append, List.nil_append, List.append_nil, List.append_assoc])
            refine ⟨o_183, a_185, L_186, e_192, p_196, k_149, o_197, a_199, L_200, held_163, p_77, [(p_77, .lst vs_164)], H0, (reader_206, plain_207, held_208, law_to_209), rfl, Oc.left, h188, (Oc.left.subR _ _ hp_p_196), h202, ⟨_, rfl, ha_p_77⟩, h210, ?_⟩
            refine Oc.retX (mdX (mo_Reader ad) (mdX moRow (mdX (moRowD (mT2 (mL mI) (mL mI))) mdV))) fun w_211 H H0 L_212 O e_ d_ => ?_
            replace ha_p_3 := mA (mT2 mI (mL mI)) e_ ha_p_3
            replace ha_p_41 := mA (mL mI) e_ ha_p_41
            replace ha_p_77 := mA (mT2 (mL mI) (mL mI)) e_ ha_p_77
            replace h159 := (moLs (mo_Reader ad)) _ _ _ _ _ e_ h159
            replace h162 := (moLs moRow) _ _ _ _ _ e_ h162
            replace hp_p_181 := e_ _ _ hp_p_181
            replace h188 := (mo_Reader ad) _ _ _ _ _ e_ h188
            replace h189 := fun F_ L_ x_ q_ => h189 F_ L_ x_ (e_.trans q_)
            replace h190 := fun F_ L_ q_ => h190 F_ L_ (e_.trans q_)
            replace hp_p_196 := e_ _ _ hp_p_196
            replace h202 := moRow _ _ _ _ _ e_ h202
            replace h203 := fun F_ L_ x_ q_ => h203 F_ L_ x_ (e_.trans q_)
            replace h204 := fun F_ L_ q_ => h204 F_ L_ (e_.trans q_)
            replace eB := eB.trans e_
            replace eL150 := eL150.trans e_
            replace eL174 := eL174.trans e_
            obtain ⟨L_213, _, rfl, h214, ⟨L_215, _, rfl, h216, ⟨L_217, L_219, rfl, h218, ⟨rfl, rfl⟩⟩⟩⟩ := d_
            replace O := Own.cv (L' := (L_213 ++ (L_215 ++ (L_217 ++ ((p_3, .lst vs_7) :: ((p_41, .lst vs_42) :: (L_201 ++ (L_187 ++ [])))))))) O (by first | with_reducible rfl | simp only [List.map_nil, List.flatten_cons, List.flatten_nil, List.cons_append, List.nil_append, List.append_nil, List.append_assoc])
            replace O := (Own.cv (L' := ((p_3, .lst vs_7) :: ((p_41, .lst vs_42) :: (L_213 ++ (L_215 ++ (L_217 ++ (L_201 ++ (L_187 ++ [])))))))) (Own.selB (Bs := [L_213, L_215, L_217, [(p_3, .lst vs_7)], [(p_41, .lst vs_42)], L_201, L_187]) (Bs' := [[(p_3, .lst vs_7)], [(p_41, .lst vs_42)], L_213, L_215, L_217, L_201, L_187]) (Own.cv O (by first | with_reducible rfl | simp only [List.map_nil, List.flatten_cons, List.flatten_nil, List.cons_append, List.nil_append, List.append_nil, List.append_assoc])) [3, 4, 0, 1, 2, 5, 6] (by decide) rfl) (by first | with_reducible rfl | simp only [List.map_nil, List.flatten_cons, List.flatten_nil, List.cons_append, List.nil_append, List.append_nil, List.append_assoc]))
            replace O := (Own.cv (L' := (L_213 ++ (L_187 ++ ((p_3, .lst vs_7) :: ((p_41, .lst vs_42) :: (L_215 ++ (L_217 ++ (L_201 ++ [])))))))) (Own.selB (Bs := [[(p_3, .lst vs_7)], [(p_41, .lst vs_42)], L_213, L_215, L_217, L_201, L_187]) (Bs' := [L_213, L_187, [(p_3, .lst vs_7)], [(p_41, .lst vs_42)], L_215, L_217, L_201]) (Own.cv O (by first | with_reducible rfl | simp only [List.map_nil, List.flatten_cons, List.flatten_nil, List.cons_append, List.nil_append, List.append_nil, List.append_assoc])) [2, 6, 0, 1, 3, 4, 5] (by decide) rfl) (by first | with_reducible rfl | simp only [List.map_nil, List.flatten_cons, List.flatten_nil, List.cons_append, List.nil_append, List.append_nil, List.append_assoc]))
            obtain ⟨ys_221, h222, hm⟩ := bndE hm
            have h220 := h189 _ _ _ (Ex.refl _) h214 _ h222
            obtain ⟨L_223, hLb_⟩ : ∃ L_ : List Cell, L_ = (L_213 ++ L_187) := ⟨_, rfl⟩
            rw [← hLb_] at h220
            replace O : Own H0 H (L_223 ++ ((p_3, .lst vs_7) :: ((p_41, .lst vs_42) :: (L_215 ++ (L_217 ++ (L_201 ++ [])))))) := by rw [hLb_]; exact Own.cv O (by first | with_reducible rfl | simp only [List.map_nil, List.flatten_cons, List.flatten_nil, List.cons_append, List.nil_append, List.append_nil, List.append_assoc])
            clear hLb_
            replace O := Own.cv (L' := (L_223 ++ ((p_3, .lst vs_7) :: ((p_41, .lst vs_42) :: (L_215 ++ (L_217 ++ (L_201 ++ []))))))) O (by first | with_reducible rfl | simp only [List.map_nil, List.flatten_cons, List.flatten_nil, List.cons_append, List.nil_append, List.append_nil, List.append_assoc])
            replace O := (Own.cv (L' := ((p_3, .lst vs_7) :: ((p_41, .lst vs_42) :: (L_223 ++ (L_215 ++ (L_217 ++ (L_201 ++ []))))))) (Own.selB (Bs := [L_223, [(p_3, .lst vs_7)], [(p_41, .lst vs_42)], L_215, L_217, L_201]) (Bs' := [[(p_3, .lst vs_7)], [(p_41, .lst vs_42)], L_223, L_215, L_217, L_201]) (Own.cv O (by first | with_reducible rfl | simp only [List.map_nil, List.flatten_cons, List.flatten_nil, List.cons_append, List.nil_append, List.append_nil, List.append_assoc])) [1, 2, 0, 3, 4, 5] (by decide) rfl) (by first | with_reducible rfl | simp only [List.map_nil, List.flatten_cons, List.flatten_nil, List.cons_append, List.nil_append, List.append_nil, List.append_assoc]))
            replace O := (Own.cv (L' := (L_215 ++ (L_201 ++ ((p_3, .lst vs_7) :: ((p_41, .lst vs_42) :: (L_223 ++ (L_217 ++ []))))))) (Own.selB (Bs := [[(p_3, .lst vs_7)], [(p_41, .lst vs_42)], L_223, L_215, L_217, L_201]) (Bs' := [L_215, L_201, [(p_3, .lst vs_7)], [(p_41, .lst vs_42)], L_223, L_217]) (Own.cv O (by first | with_reducible rfl | simp only [List.map_nil, List.flatten_cons, List.flatten_nil, List.cons_append, List.nil_append, List.append_nil, List.append_assoc])) [3, 5, 0, 1, 2, 4] (by decide) rfl) (by first | with_reducible rfl | simp only [List.map_nil, List.flatten_cons, List.flatten_nil, List.cons_append, List.nil_append, List.append_nil, List.append_assoc]))
            obtain ⟨ys_225, h226, hm⟩ := bndE hm
            have h224 := h203 _ _ _ (Ex.refl _) h216 _ h226
            obtain ⟨L_227, hLb_⟩ : ∃ L_ : List Cell, L_ = (L_215 ++ L_201) := ⟨_, rfl⟩
            rw [← hLb_] at h224
            replace O : Own H0 H (L_227 ++ ((p_3, .lst vs_7) :: ((p_41, .lst vs_42) :: (L_223 ++ (L_217 ++ []))))) := by rw [hLb_]; exact Own.cv O (by first | with_reducible rfl | simp only [List.map_nil, List.flatten_cons, List.flatten_nil, List.cons_append, List.nil_append, List.append_nil, List.append_assoc])
            clear hLb_
            obtain ⟨vs_228, rfl, ha_p_77⟩ := h218
            replace O := Own.cv (L' := (L_227 ++ ((p_3, .lst vs_7) :: ((p_41, .lst vs_42) :: (L_223 ++ ((p_77, .lst vs_228) :: [])))))) O (by first | with_reducible rfl | simp only [List.map_nil, List.flatten_cons, List.flatten_nil, List.cons_append, List.nil_append, List.append_nil, List.append_assoc])
            replace O := (Own.cv (L' := ((p_3, .lst vs_7) :: ((p_41, .lst vs_42) :: ((p_77, .lst vs_228) :: (L_227 ++ (L_223 ++ [])))))) (Own.selB (Bs := [L_227, [(p_3, .lst vs_7)], [(p_41, .lst vs_42)], L_223, [(p_77, .lst vs_228)]]) (Bs' := [[(p_3, .lst vs_7)], [(p_41, .lst vs_42)], [(p_77, .lst vs_228)], L_227, L_223]) (Own.cv O (by first | with_reducible rfl | simp only [List.map_nil, List.flatten_cons, List.flatten_nil, List.cons_append, List.nil_append, List.append_nil, List.append_assoc])) [1, 2, 4, 0, 3] (by decide) rfl) (by first | with_reducible rfl | simp only [List.map_nil, List.flatten_cons, List.flatten_nil, List.cons_append, List.nil_append, List.append_nil, List.append_assoc]))
            refine ⟨_, rfl, ?_⟩
            refine iteS (c := (!law_to_209)) (fun h229 => ?_) (fun h229 => ?_)
            · replace hm := ifT hm h229
              -- 166
              refine o_ret ?_
              refine o_c ?_
              obtain rfl := Option.some.inj hm
              obtain rfl := contRt h172
              obtain rfl := floRt h171
              obtain rfl := contRt h148
              obtain rfl := finRt h147
              exact RetV.goR k O eB
            · replace hm := ifF hm h229
              refine o_next ?_
              have Oz := O
              obtain rfl := Option.some.inj hm
              exact ⟨H0, _, _, _, (vs_228), L_223, L_227, _, _, _, _, rfl, eL174, (Own.cv (Own.cv (L' := ((p_3, .lst vs_7) :: ((p_41, .lst vs_42) :: ((p_77, .lst vs_228) :: (L_223 ++ (L_227 ++ [])))))) (Own.selB (Bs := [[(p_3, .lst vs_7)], [(p_41, .lst vs_42)], [(p_77, .lst vs_228)], L_227, L_223]) (Bs' := [[(p_3, .lst vs_7)], [(p_41, .lst vs_42)], [(p_77, .lst vs_228)], L_223, L_227]) (Own.cv Oz (by first | with_reducible rfl | simp only [List.map_nil, List.flatten_cons, List.flatten_nil, List.cons_append, List.nil_append, List.append_nil, List.append_assoc])) [0, 1, 2, 4, 3] (by decide) rfl) (by first | with_reducible rfl | simp only [List.map_nil, List.flatten_cons, List.flatten_nil, List.cons_append, List.nil_append, List.append_nil, List.append_assoc])) (by first | with_reducible rfl | simp only [List.map_nil, List.flatten_cons, List.flatten_nil, List.cons_append, List.nil_append, List.append_nil, List.append_assoc])), ha_p_77, h220, h224, h172⟩
        rintro σ H ⟨H0, readers_157, plains_160, held_163, vs_164, B_158, B_161, j_155, j_156, j_165, j_166, rfl, eJ_, O, ha_p_77, h159, h162, hL⟩
        replace ha_p_3 := mA (mT2 mI (mL mI)) eJ_ ha_p_3
        replace ha_p_41 := mA (mL mI) eJ_ ha_p_41
        replace eB := eB.trans eJ_
        replace eL150 := eL150.trans eJ_
        obtain rfl := loopF_nil hL
        replace hm := floNx h171
        have Oz := O
        obtain rfl := Option.some.inj hm
        exact ⟨H0, _, _, _, (vs_164), B_158, B_161, _, _, _, _, _, rfl, eL150, (Own.cv (Own.cv (L' := ((p_3, .lst vs_7) :: ((p_41, .lst vs_42) :: ((p_77, .lst vs_164) :: (B_158 ++ (B_161 ++ [])))))) (Own.selB (Bs := [[(p_3, .lst vs_7)], [(p_41, .lst vs_42)], [(p_77, .lst vs_164)], B_158, B_161]) (Bs' := [[(p_3, .lst vs_7)], [(p_41, .lst vs_42)], [(p_77, .lst vs_164)], B_158, B_161]) (Own.cv Oz (by first | with_reducible rfl | simp only [List.map_nil, List.flatten_cons, List.flatten_nil, List.cons_append, List.nil_append, List.append_nil, List.append_assoc])) [0, 1, 2, 3, 4] (by decide) rfl) (by first | with_reducible rfl | simp only [List.map_nil, List.flatten_cons, List.flatten_nil, List.cons_append, List.nil_append, List.append_nil, List.append_assoc])) (by first | with_reducible rfl | simp only [List.map_nil, List.flatten_cons, List.flatten_nil, List.cons_append, List.nil_append, List.append_nil, List.append_assoc])), ha_p_77, h159, h162, h148⟩
      rintro σ H ⟨H0, readers_132, plains_135, held_138, vs_139, B_133, B_136, j_130, j_131, j_140, j_141, j_142, rfl, eJ_, O, ha_p_77, h134, h137, hL⟩
      replace ha_p_3 := mA (mT2 mI (mL mI)) eJ_ ha_p_3
      replace ha_p_41 := mA (mL mI) eJ_ ha_p_41
      replace eB := eB.trans eJ_
      obtain rfl := loopF_nil hL
      replace hm := finNx h147
      -- 167
      refine o_seq ?_
      refine o_for ?_
      obtain ⟨rg_230, h231, hm⟩ := bndE hm
      refine o_ir1 ?_
      refine o_cons ?_
      refine o_c ?_
      refine x_nil ?_
      obtain ⟨c1, c2, rfl⟩ := rng1E h231
      obtain ⟨out_242, h238, h239⟩ := bndE hm
      refine ⟨_, rfl, c1, c2, q_forR (fun r σ H => ∃ (R_ : Hp) (j_232 : Option V) (j_233 : Option V) (j_234 : Option V) (j_235 : Option V) (j_236 : Option V) (j_237 : Option V), σ = [j_232, some (.ref p_3), j_233, j_234, some (.ref p_69), some (.ref p_74), some (.ref p_77), j_235, none, j_236, j_237, none] ∧ Ex H0 R_ ∧ Own R_ H ((p_3, .lst vs_7) :: ((p_77, .lst vs_139) :: (B_133 ++ (B_136 ++ [])))) ∧ loopF (fun k_241 (_ : Unit) => m_law_L5 frames_11 readers_132 k_241) r () = some out_242) ⟨H0, _, _, _, _, _, _, rfl, Ex.refl _, (Own.cv (L' := ((p_3, .lst vs_7) :: ((p_77, .lst vs_139) :: (B_133 ++ (B_136 ++ []))))) (Own.selB (Bs := [[(p_3, .lst vs_7)], [(p_41, .lst vs_42)], [(p_77, .lst vs_139)], B_133, B_136]) (Bs' := [[(p_3, .lst vs_7)], [(p_77, .lst vs_139)], B_133, B_136]) (Own.cv O (by first | with_reducible rfl | simp only [List.map_nil, List.flatten_cons, List.flatten_nil, List.cons_append, List.nil_append, List.append_nil, List.append_assoc])) [0, 2, 3, 4] (by decide) rfl) (by first | with_reducible rfl | simp only [List.map_nil, List.flatten_cons, List.flatten_nil, List.cons_append, List.nil_append, List.append_nil, List.append_assoc])), h238⟩ ?_ ?_⟩
      · rintro k_241 r σ H ⟨H0, j_232, j_233, j_234, j_235, j_236, j_237, rfl, eL242, O, hL⟩
        replace ha_p_3 := mA (mT2 mI (mL mI)) eL242 ha_p_3
        replace ha_p_77 := mA (mT2 (mL mI) (mL mI)) eL242 ha_p_77
        replace h134 := (moLs (mo_Reader ad)) _ _ _ _ _ eL242 h134
        replace h137 := (moLs moRow) _ _ _ _ _ eL242 h137
        replace eB := eB.trans eL242
        obtain ⟨s_, hm, h240⟩ := loopF_cons hL
        replace hm : m_law_L5 frames_11 readers_132 k_241 = some s_ := hm
        unfold m_law_L5 at hm
        -- 168
        refine o_ifs ?_
        obtain ⟨o_245, h246, hm⟩ := bndE hm
        refine ⟨_, rfl, _, rfl, _, _, rfl, rfl, (by show (0 : Int) < 2; decide), ?_⟩
        replace O := (Own.cv (L' := (B_133 ++ ((p_3, .lst vs_7) :: ((p_77, .lst vs_139) :: (B_136 ++ []))))) (Own.selB (Bs := [[(p_3, .lst vs_7)], [(p_77, .lst vs_139)], B_133, B_136]) (Bs' := [B_133, [(p_3, .lst vs_7)], [(p_77, .lst vs_139)], B_136]) (Own.cv O (by first | with_reducible rfl | simp only [List.map_nil, List.flatten_cons, List.flatten_nil, List.cons_append, List.nil_append, List.append_nil, List.append_assoc])) [2, 0, 1, 3] (by decide) rfl) (by first | with_reducible rfl | simp only [List.map_nil, List.flatten_cons, List.flatten_nil, List.cons_append, List.nil_append, List.append_nil, List.append_assoc]))
        obtain ⟨vs_, a_247, L_248, L_249, hl_, hat_, _, h250, h253, O, h251, h252⟩ := Own.lsAt (A := []) (mo_Reader ad) O h134 h246
        refine ⟨_, vs_, _, _, rfl, rfl, SqL.of hl_, hat_, ?_⟩
        replace O := Own.cv (L' := (L_248 ++ (L_249 ++ ((p_3, .lst vs_7) :: ((p_77, .lst vs_139) :: (B_136 ++ [])))))) O (by first | with_reducible rfl | simp only [List.map_nil, List.flatten_cons, List.flatten_nil, List.cons_append, List.nil_append, List.append_nil, List.append_assoc])
        replace O := (Own.cv (L' := ((p_3, .lst vs_7) :: ((p_77, .lst vs_139) :: (L_248 ++ (L_249 ++ (B_136 ++ [])))))) (Own.selB (Bs := [L_248, L_249, [(p_3, .lst vs_7)], [(p_77, .lst vs_139)], B_136]) (Bs' := [[(p_3, .lst vs_7)], [(p_77, .lst vs_139)], L_248, L_249, B_136]) (Own.cv O (by first | with_reducible rfl | simp only [List.map_nil, List.flatten_cons, List.flatten_nil, List.cons_append, List.nil_append, List.append_nil, List.append_assoc])) [2, 3, 0, 1, 4] (by decide) rfl) (by first | with_reducible rfl | simp only [List.map_nil, List.flatten_cons, List.flatten_nil, List.cons_append, List.nil_append, List.append_nil, List.append_assoc]))
        obtain ⟨e_254, h255, hm⟩ := bndE hm
        refine ⟨_, rfl, _, rfl, _, _, rfl, rfl, (by show (0 : Int) < 2; decide), ?_⟩
        refine k_ixA (SqL.of (O.mem (List.Mem.head _))) ha_p_3 h255 fun w_256 h257 => ?_
        obtain ⟨p_258, rfl⟩ := rT2_ref h257
        have hn_p_258 := h257
        obtain ⟨law_fr_259, h260, hm⟩ := bndE hm
        refine x_nil ?_
        have Oc : Own H0 H ((L_248 ++ []) ++ ((p_3, .lst vs_7) :: ((p_77, .lst vs_139) :: (L_249 ++ (B_136 ++ []))))) := Own.cv (Own.cv (L' := (L_248 ++ ((p_3, .lst vs_7) :: ((p_77, .lst vs_139) :: (L_249 ++ (B_136 ++ [])))))) (Own.selB (Bs := [[(p_3, .lst vs_7)], [(p_77, .lst vs_139)], L_248, L_249, B_136]) (Bs' := [L_248, [(p_3, .lst vs_7)], [(p_77, .lst vs_139)], L_249, B_136]) (Own.cv O (by first | with_reducible rfl | simp only [List.map_nil, List.flatten_cons, List.flatten_nil, List.cons_append, List.nil_append, List.append_nil, List.append_assoc])) [2, 0, 1, 3, 4] (by decide) rfl) (by first | with_reducible rfl | simp only [List.map_nil, List.flatten_cons, List.flatten_nil, List.cons_append, List.nil_append, List.append_nil, List.append_assoc])) (by first | with_reducible rfl | simp only [List.map_nil, List.flatten_cons, List.flatten_nil, List.cons_append, List.nil_append, List.append_nil, List.append_assoc])
        refine ⟨o_245, a_247, L_248, e_254, _, H0, law_fr_259, rfl, Oc.left, h250, ((mT2 mI (mL mI)) _ _ _ _ Oc.left.subR hn_p_258), h260, ?_⟩
        refine Oc.retX (mdK mdV) fun w_261 H H0 L_262 O e_ d_ => ?_
        replace ha_p_3 := mA (mT2 mI (mL mI)) e_ ha_p_3
        replace ha_p_77 := mA (mT2 (mL mI) (mL mI)) e_ ha_p_77
        replace h134 := (moLs (mo_Reader ad)) _ _ _ _ _ e_ h134
        replace h137 := (moLs moRow) _ _ _ _ _ e_ h137
        replace h250 := (mo_Reader ad) _ _ _ _ _ e_ h250
        replace h251 := fun F_ L_ x_ q_ => h251 F_ L_ x_ (e_.trans q_)
        replace h252 := fun F_ L_ q_ => h252 F_ L_ (e_.trans q_)
        replace hn_p_258 := (mT2 mI (mL mI)) _ _ _ _ e_ hn_p_258
        replace eB := eB.trans e_
        replace eL242 := eL242.trans e_
        obtain ⟨L_263, rfl, ⟨rfl, rfl⟩⟩ := d_
        replace O := Own.cv (L' := (L_248 ++ ((p_3, .lst vs_7) :: ((p_77, .lst vs_139) :: (L_249 ++ (B_136 ++ [])))))) O (by first | with_reducible rfl | simp only [List.map_nil, List.flatten_cons, List.flatten_nil, List.cons_append, List.nil_append, List.append_nil, List.append_assoc])
        replace O := (Own.cv (L' := ((p_3, .lst vs_7) :: ((p_77, .lst vs_139) :: (L_248 ++ (L_249 ++ (B_136 ++ [])))))) (Own.selB (Bs := [L_248, [(p_3, .lst vs_7)], [(p_77, .lst vs_139)], L_249, B_136]) (Bs' := [[(p_3, .lst vs_7)], [(p_77, .lst vs_139)], L_248, L_249, B_136]) (Own.cv O (by first | with_reducible rfl | simp only [List.map_nil, List.flatten_cons, List.flatten_nil, List.cons_append, List.nil_append, List.append_nil, List.append_assoc])) [1, 2, 0, 3, 4] (by decide) rfl) (by first | with_reducible rfl | simp only [List.map_nil, List.flatten_cons, List.flatten_nil, List.cons_append, List.nil_append, List.append_nil, List.append_assoc]))
        replace O := (Own.cv (L' := (L_248 ++ (L_249 ++ ((p_3, .lst vs_7) :: ((p_77, .lst vs_139) :: (B_136 ++ [])))))) (Own.selB (Bs := [[(p_3, .lst vs_7)], [(p_77, .lst vs_139)], L_248, L_249, B_136]) (Bs' := [L_248, L_249, [(p_3, .lst vs_7)], [(p_77, .lst vs_139)], B_136]) (Own.cv O (by first | with_reducible rfl | simp only [List.map_nil, List.flatten_cons, List.flatten_nil, List.cons_append, List.nil_append, List.append_nil, List.append_assoc])) [2, 3, 0, 1, 4] (by decide) rfl) (by first | with_reducible rfl | simp only [List.map_nil, List.flatten_cons, List.flatten_nil, List.cons_append, List.nil_append, List.append_nil, List.append_assoc]))
        replace O : Own H0 H (B_133 ++ ((p_3, .lst vs_7) :: ((p_77, .lst vs_139) :: (B_136 ++ [])))) := Own.unls (A := []) (Own.cv (L' := [] ++ (L_248 ++ (L_249 ++ ((p_3, .lst vs_7) :: ((p_77, .lst vs_139) :: (B_136 ++ [])))))) O (by first | with_reducible rfl | simp only [List.map_nil, List.flatten_cons, List.flatten_nil, List.cons_append, List.nil_append, List.append_nil, List.append_assoc])) h253
        replace O := Own.cv (L' := (B_133 ++ ((p_3, .lst vs_7) :: ((p_77, .lst vs_139) :: (B_136 ++ []))))) O (by first | with_reducible rfl | simp only [List.map_nil, List.flatten_cons, List.flatten_nil, List.cons_append, List.nil_append, List.append_nil, List.append_assoc])
        replace O := (Own.cv (L' := ((p_3, .lst vs_7) :: ((p_77, .lst vs_139) :: (B_133 ++ (B_136 ++ []))))) (Own.selB (Bs := [B_133, [(p_3, .lst vs_7)], [(p_77, .lst vs_139)], B_136]) (Bs' := [[(p_3, .lst vs_7)], [(p_77, .lst vs_139)], B_133, B_136]) (Own.cv O (by first | with_reducible rfl | simp only [List.map_nil, List.flatten_cons, List.flatten_nil, List.cons_append, List.nil_append, List.append_nil, List.append_assoc])) [1, 2, 0, 3] (by decide) rfl) (by first | with_reducible rfl | simp only [List.map_nil, List.flatten_cons, List.flatten_nil, List.cons_append, List.nil_append, List.append_nil, List.append_assoc]))
        replace O := Own.cv (L' := ((p_3, .lst vs_7) :: ((p_77, .lst vs_139) :: (B_133 ++ (B_136 ++ []))))) O (by first | with_reducible rfl | simp only [List.map_nil, List.flatten_cons, List.flatten_nil, List.cons_append, List.nil_append, List.append_nil, List.append_assoc])
        refine ⟨_, rfl, ?_⟩
        refine iteS (c := (!law_fr_259)) (fun h264 => ?_) (fun h264 => ?_)
        · replace hm := ifT hm h264
          -- 169
          refine o_ret ?_
          refine o_c ?_
          obtain rfl := Option.some.inj hm
          obtain rfl := contRt h240
          obtain rfl := finRt h239
          exact RetV.goR k O eB
        · replace hm := ifF hm h264
          refine o_next ?_
          have Oz := O
          obtain rfl := Option.some.inj hm
          exact ⟨H0, _, _, _, _, _, _, rfl, eL242, (Own.cv (L' := ((p_3, .lst vs_7) :: ((p_77, .lst vs_139) :: (B_133 ++ (B_136 ++ []))))) (Own.selB (Bs := [[(p_3, .lst vs_7)], [(p_77, .lst vs_139)], B_133, B_136]) (Bs' := [[(p_3, .lst vs_7)], [(p_77, .lst vs_139)], B_133, B_136]) (Own.cv Oz (by first | with_reducible rfl | simp only [List.map_nil, List.flatten_cons, List.flatten_nil, List.cons_append, List.nil_append, List.append_nil, List.append_assoc])) [0, 1, 2, 3] (by decide) rfl) (by first | with_reducible rfl | simp only [List.map_nil, List.flatten_cons, List.flatten_nil, List.cons_append, List.nil_append, List.append_nil, List.append_assoc])), h240⟩
      rintro σ H ⟨H0, j_232, j_233, j_234, j_235, j_236, j_237, rfl, eJ_, O, hL⟩
      replace ha_p_3 := mA (mT2 mI (mL mI)) eJ_ ha_p_3
      replace ha_p_77 := mA (mT2 (mL mI) (mL mI)) eJ_ ha_p_77
      replace h134 := (moLs (mo_Reader ad)) _ _ _ _ _ eJ_ h134
      replace h137 := (moLs moRow) _ _ _ _ _ eJ_ h137
      replace eB := eB.trans eJ_
      obtain rfl := loopF_nil hL
      replace hm := finNx h239
      -- 170
      refine o_seq ?_
      refine o_for ?_
      refine ⟨_, rfl, ?_⟩
      obtain ⟨out_277, h273, h274⟩ := bndE hm
      refine ⟨_, rfl, ⟨_, (SqL.of (O.mem (List.Mem.tail _ (List.Mem.head _))))⟩, q_forA (b := fun _ _ => False) (k := fun _ _ => False) ha_p_77 (fun r σ H => ∃ (R_ : Hp) (j_265 : Option V) (j_266 : Option V) (j_267 : Option V) (j_268 : Option V) (j_269 : Option V) (j_270 : Option V) (j_271 : Option V) (j_272 : Option V), σ = [j_265, j_266, j_267, j_268, some (.ref p_69), some (.ref p_74), some (.ref p_77), j_269, j_270, j_271, j_272, none] ∧ Ex H0 R_ ∧ Own R_ H ((p_77, .lst vs_139) :: (B_133 ++ (B_136 ++ []))) ∧ loopF (fun pair_276 (_ : Unit) => m_law_L6 pair_276) r () = some out_277) ⟨H0, _, _, _, _, _, _, _, _, rfl, Ex.refl _, (Own.cv (L' := ((p_77, .lst vs_139) :: (B_133 ++ (B_136 ++ [])))) (Own.selB (Bs := [[(p_3, .lst vs_7)], [(p_77, .lst vs_139)], B_133, B_136]) (Bs' := [[(p_77, .lst vs_139)], B_133, B_136]) (Own.cv O (by first | with_reducible rfl | simp only [List.map_nil, List.flatten_cons, List.flatten_nil, List.cons_append, List.nil_append, List.append_nil, List.append_assoc])) [1, 2, 3] (by decide) rfl) (by first | with_reducible rfl | simp only [List.map_nil, List.flatten_cons, List.flatten_nil, List.cons_append, List.nil_append, List.append_nil, List.append_assoc])), h273⟩ (by rintro r σ H ⟨H0, j_265, j_266, j_267, j_268, j_269, j_270, j_271, j_272, rfl, eJ_, O, hL⟩; exact (SqL.of (O.mem (List.Mem.head _)))) ?_ ?_⟩
      · rintro pair_276 w_278 r σ H h279 ⟨H0, j_265, j_266, j_267, j_268, j_269, j_270, j_271, j_272, rfl, eL277, O, hL⟩
        replace ha_p_77 := mA (mT2 (mL mI) (mL mI)) eL277 ha_p_77
        replace h134 := (moLs (mo_Reader ad)) _ _ _ _ _ eL277 h134
        replace h137 := (moLs moRow) _ _ _ _ _ eL277 h137
        replace eB := eB.trans eL277
        obtain ⟨s_, hm, h275⟩ := loopF_cons hL
        replace hm : m_law_L6 pair_276 = some s_ := hm
        unfold m_law_L6 at hm
        replace h279 := (mT2 (mL mI) (mL mI)) _ _ _ _ eL277 h279
        obtain ⟨p_280, rfl⟩ := rT2_ref h279
        have hn_p_280 := h279
        -- 171
        refine o_ifs ?_
        refine ⟨_, rfl, ?_⟩
        refine o_c ?_
        obtain ⟨w_281, w_282, h283, h284, h285⟩ := rT2_at hn_p_280
        refine k_ixT (xs := [w_281, w_282]) (SqT.of (O.ex _ _ h283)) rfl ?_
        obtain ⟨p_286, rfl, hp_p_286⟩ := fI h284
        refine ⟨_, rfl, ?_⟩
        refine o_c ?_
        obtain ⟨w_287, w_288, h289, h290, h291⟩ := rT2_at hn_p_280
        refine k_ixT (xs := [w_287, w_288]) (SqT.of (O.ex _ _ h289)) rfl ?_
        obtain ⟨p_292, rfl, hp_p_292⟩ := fI h291
        refine k_neLI (SqL.of (O.ex _ _ hp_p_286)) (SqL.of (O.ex _ _ hp_p_292)) ?_
        refine ⟨_, rfl, ?_⟩
        refine iteS (c := (!decide (pair_276.1 = pair_276.2))) (fun h293 => ?_) (fun h293 => ?_)
        · replace hm := ifT hm h293
          -- 172
          refine o_ret ?_
          refine o_c ?_
          obtain rfl := Option.some.inj hm
          obtain rfl := contRt h275
          obtain rfl := finRt h274
          exact RetV.goR k O eB
        · replace hm := ifF hm h293
          refine o_next ?_
          have Oz := O
          obtain rfl := Option.some.inj hm
          exact ⟨H0, _, _, _, _, _, _, _, _, rfl, eL277, (Own.cv (L' := ((p_77, .lst vs_139) :: (B_133 ++ (B_136 ++ [])))) (Own.selB (Bs := [[(p_77, .lst vs_139)], B_133, B_136]) (Bs' := [[(p_77, .lst vs_139)], B_133, B_136]) (Own.cv Oz (by first | with_reducible rfl | simp only [List.map_nil, List.flatten_cons, List.flatten_nil, List.cons_append, List.nil_append, List.append_nil, List.append_assoc])) [0, 1, 2] (by decide) rfl) (by first | with_reducible rfl | simp only [List.map_nil, List.flatten_cons, List.flatten_nil, List.cons_append, List.nil_append, List.append_nil, List.append_assoc])), h275⟩
      rintro σ H ⟨H0, j_265, j_266, j_267, j_268, j_269, j_270, j_271, j_272, rfl, eJ_, O, hL⟩
      replace ha_p_77 := mA (mT2 (mL mI) (mL mI)) eJ_ ha_p_77
      replace h134 := (moLs (mo_Reader ad)) _ _ _ _ _ eJ_ h134
      replace h137 := (moLs moRow) _ _ _ _ _ eJ_ h137
      replace eB := eB.trans eJ_
      obtain rfl := loopF_nil hL
      replace hm := finNx h274
      -- 173
      refine o_ret ?_
      obtain ⟨o_296, h297, hm⟩ := bndE hm
      obtain ⟨plain_307, h308, hm⟩ := bndE hm
      obtain ⟨o_313, h314, hm⟩ := bndE hm
      obtain ⟨law_al_322, h323, hm⟩ := bndE hm
      obtain ⟨c_352, h353, hm⟩ := bndE hm
      refine x_andVJ (c := law_al_322) (e := c_352) (d := c_352) (fun H => ∃ (R_ : Hp), Ex H0 R_ ∧ Own R_ H ((p_77, .lst vs_139) :: (B_133 ++ (B_136 ++ [])))) (fun Q1 k1 => ?_) (fun h294 => ⟨rfl, fun H hJ Q2 k2 => ?_⟩) (fun h294 => Option.some.inj (ifF h353 h294)) (fun H hJ => ?_)
      · have eJ295 : Ex H0 H0 := Ex.refl _
        refine ⟨_, rfl, ?_⟩
        refine o_c ?_
        replace O := (Own.cv (L' := (B_133 ++ ((p_77, .lst vs_139) :: (B_136 ++ [])))) (Own.selB (Bs := [[(p_77, .lst vs_139)], B_133, B_136]) (Bs' := [B_133, [(p_77, .lst vs_139)], B_136]) (Own.cv O (by first | with_reducible rfl | simp only [List.map_nil, List.flatten_cons, List.flatten_nil, List.cons_append, List.nil_append, List.append_nil, List.append_assoc])) [1, 0, 2] (by decide) rfl) (by first | with_reducible rfl | simp only [List.map_nil, List.flatten_cons, List.flatten_nil, List.cons_append, List.nil_append, List.append_nil, List.append_assoc]))
        obtain ⟨vs_, a_298, L_299, L_300, hl_, hat_, _, h301, h304, O, h302, h303⟩ := Own.lsAt (A := []) (mo_Reader ad) O h134 h297
        refine ⟨_, vs_, _, _, rfl, rfl, SqL.of hl_, hat_, ?_⟩
        replace O := Own.cv (L' := (L_299 ++ (L_300 ++ ((p_77, .lst vs_139) :: (B_136 ++ []))))) O (by first | with_reducible rfl | simp only [List.map_nil, List.flatten_cons, List.flatten_nil, List.cons_append, List.nil_append, List.append_nil, List.append_assoc])
        replace O := (Own.cv (L' := ((p_77, .lst vs_139) :: (L_299 ++ (L_300 ++ (B_136 ++ []))))) (Own.selB (Bs := [L_299, L_300, [(p_77, .lst vs_139)], B_136]) (Bs' := [[(p_77, .lst vs_139)], L_299, L_300, B_136]) (Own.cv O (by first | with_reducible rfl | simp only [List.map_nil, List.flatten_cons, List.flatten_nil, List.cons_append, List.nil_append, List.append_nil, List.append_assoc])) [2, 0, 1, 3] (by decide) rfl) (by first | with_reducible rfl | simp only [List.map_nil, List.flatten_cons, List.flatten_nil, List.cons_append, List.nil_append, List.append_nil, List.append_assoc]))
        obtain ⟨dx_305, p_306, rfl⟩ := h301
        replace O := Own.cv (L' := ((p_77, .lst vs_139) :: ((a_298, .ins ad.c_Reader dx_305 [("kept", .ref p_306), ("last", .int o_296.last), ("alike", .int o_296.alike), ("latest", .str o_296.latest)]) :: ((dx_305, .own a_298) :: ((p_306, .lst (List.map V.int o_296.kept)) :: (L_300 ++ (B_136 ++ []))))))) O (by first | with_reducible rfl | simp only [List.map_nil, List.flatten_cons, List.flatten_nil, List.cons_append, List.nil_append, List.append_nil, List.append_assoc])
        refine ⟨a_298, dx_305, [("kept", .ref p_306), ("last", .int o_296.last), ("alike", .int o_296.alike), ("latest", .str o_296.latest)], rfl, (O.mem (List.Mem.tail _ (List.Mem.head _))), (lk_skip (by decide) (lk_skip (by decide) (lk_skip (by decide) (lk_skip (by decide) lk_nil)))), ?_⟩
        refine x_nil ?_
        have Oc : Own H0 H ((((a_298, .ins ad.c_Reader dx_305 [("kept", .ref p_306), ("last", .int o_296.last), ("alike", .int o_296.alike), ("latest", .str o_296.latest)]) :: (dx_305, .own a_298) :: ((p_306, .lst (List.map V.int o_296.kept)) :: [])) ++ []) ++ ((p_77, .lst vs_139) :: (L_300 ++ (B_136 ++ [])))) := Own.cv (Own.cv (L' := ((a_298, .ins ad.c_Reader dx_305 [("kept", .ref p_306), ("last", .int o_296.last), ("alike", .int o_296.alike), ("latest", .str o_296.latest)]) :: ((dx_305, .own a_298) :: ((p_306, .lst (List.map V.int o_296.kept)) :: ((p_77, .lst vs_139) :: (L_300 ++ (B_136 ++ []))))))) (Own.selB (Bs := [[(p_77, .lst vs_139)], [(a_298, .ins ad.c_Reader dx_305 [("kept", .ref p_306), ("last", .int o_296.last), ("alike", .int o_296.alike), ("latest", .str o_296.latest)])], [(dx_305, .own a_298)], [(p_306, .lst (List.map V.int o_296.kept))], L_300, B_136]) (Bs' := [[(a_298, .ins ad.c_Reader dx_305 [("kept", .ref p_306), ("last", .int o_296.last), ("alike", .int o_296.alike), ("latest", .str o_296.latest)])], [(dx_305, .own a_298)], [(p_306, .lst (List.map V.int o_296.kept))], [(p_77, .lst vs_139)], L_300, B_136]) (Own.cv O (by first | with_reducible rfl | simp only [List.map_nil, List.flatten_cons, List.flatten_nil, List.cons_append, List.nil_append, List.append_nil, List.append_assoc])) [1, 2, 3, 0, 4, 5] (by decide) rfl) (by first | with_reducible rfl | simp only [List.map_nil, List.flatten_cons, List.flatten_nil, List.cons_append, List.nil_append, List.append_nil, List.append_assoc])) (by first | with_reducible rfl | simp only [List.map_nil, List.flatten_cons, List.flatten_nil, List.cons_append, List.nil_append, List.append_nil, List.append_assoc])
        refine ⟨o_296, a_298, ((a_298, .ins ad.c_Reader dx_305 [("kept", .ref p_306), ("last", .int o_296.last), ("alike", .int o_296.alike), ("latest", .str o_296.latest)]) :: (dx_305, .own a_298) :: ((p_306, .lst (List.map V.int o_296.kept)) :: [])), H0, plain_307, rfl, Oc.left, ⟨dx_305, p_306, rfl⟩, h308, ?_⟩
        refine Oc.retX (mdK mdLs) fun w_309 H H0 L_310 O e_ d_ => ?_
        replace ha_p_77 := mA (mT2 (mL mI) (mL mI)) e_ ha_p_77
        replace h134 := (moLs (mo_Reader ad)) _ _ _ _ _ e_ h134
        replace h137 := (moLs moRow) _ _ _ _ _ e_ h137
        replace h302 := fun F_ L_ x_ q_ => h302 F_ L_ x_ (e_.trans q_)
        replace h303 := fun F_ L_ q_ => h303 F_ L_ (e_.trans q_)
        replace eB := eB.trans e_
        replace eJ295 := eJ295.trans e_
        obtain ⟨L_312, rfl, ⟨p_311, rfl, rfl⟩⟩ := d_
        replace O := Own.cv (L' := ((a_298, .ins ad.c_Reader dx_305 [("kept", .ref p_306), ("last", .int o_296.last), ("alike", .int o_296.alike), ("latest", .str o_296.latest)]) :: ((dx_305, .own a_298) :: ((p_306, .lst (List.map V.int o_296.kept)) :: ((p_311, .lst (List.map V.int plain_307)) :: ((p_77, .lst vs_139) :: (L_300 ++ (B_136 ++ [])))))))) O (by first | with_reducible rfl | simp only [List.map_nil, List.flatten_cons, List.flatten_nil, List.cons_append, List.nil_append, List.append_nil, List.append_assoc])
        replace O := (Own.cv (L' := ((a_298, .ins ad.c_Reader dx_305 [("kept", .ref p_306), ("last", .int o_296.last), ("alike", .int o_296.alike), ("latest", .str o_296.latest)]) :: ((dx_305, .own a_298) :: ((p_306, .lst (List.map V.int o_296.kept)) :: (L_300 ++ ((p_311, .lst (List.map V.int plain_307)) :: ((p_77, .lst vs_139) :: (B_136 ++ [])))))))) (Own.selB (Bs := [[(a_298, .ins ad.c_Reader dx_305 [("kept", .ref p_306), ("last", .int o_296.last), ("alike", .int o_296.alike), ("latest", .str o_296.latest)])], [(dx_305, .own a_298)], [(p_306, .lst (List.map V.int o_296.kept))], [(p_311, .lst (List.map V.int plain_307))], [(p_77, .lst vs_139)], L_300, B_136]) (Bs' := [[(a_298, .ins ad.c_Reader dx_305 [("kept", .ref p_306), ("last", .int o_296.last), ("alike", .int o_296.alike), ("latest", .str o_296.latest)])], [(dx_305, .own a_298)], [(p_306, .lst (List.map V.int o_296.kept))], L_300, [(p_311, .lst (List.map V.int plain_307))], [(p_77, .lst vs_139)], B_136]) (Own.cv O (by first | with_reducible rfl | simp only [List.map_nil, List.flatten_cons, List.flatten_nil, List.cons_append, List.nil_append, List.append_nil, List.append_assoc])) [0, 1, 2, 5, 3, 4, 6] (by decide) rfl) (by first | with_reducible rfl | simp only [List.map_nil, List.flatten_cons, List.flatten_nil, List.cons_append, List.nil_append, List.append_nil, List.append_assoc]))
        replace O : Own H0 H (B_133 ++ ((p_311, .lst (List.map V.int plain_307)) :: ((p_77, .lst vs_139) :: (B_136 ++ [])))) := Own.unls (A := []) (Own.cv (L' := [] ++ (((a_298, .ins ad.c_Reader dx_305 [("kept", .ref p_306), ("last", .int o_296.last), ("alike", .int o_296.alike), ("latest", .str o_296.latest)]) :: (dx_305, .own a_298) :: ((p_306, .lst (List.map V.int o_296.kept)) :: [])) ++ (L_300 ++ ((p_311, .lst (List.map V.int plain_307)) :: ((p_77, .lst vs_139) :: (B_136 ++ [])))))) O (by first | with_reducible rfl | simp only [List.map_nil, List.flatten_cons, List.flatten_nil, List.cons_append, List.nil_append, List.append_nil, List.append_assoc])) h304
        replace O := Own.cv (L' := (B_133 ++ ((p_311, .lst (List.map V.int plain_307)) :: ((p_77, .lst vs_139) :: (B_136 ++ []))))) O (by first | with_reducible rfl | simp only [List.map_nil, List.flatten_cons, List.flatten_nil, List.cons_append, List.nil_append, List.append_nil, List.append_assoc])
        replace O := (Own.cv (L' := ((p_311, .lst (List.map V.int plain_307)) :: ((p_77, .lst vs_139) :: (B_133 ++ (B_136 ++ []))))) (Own.selB (Bs := [B_133, [(p_311, .lst (List.map V.int plain_307))], [(p_77, .lst vs_139)], B_136]) (Bs' := [[(p_311, .lst (List.map V.int plain_307))], [(p_77, .lst vs_139)], B_133, B_136]) (Own.cv O (by first | with_reducible rfl | simp only [List.map_nil, List.flatten_cons, List.flatten_nil, List.cons_append, List.nil_append, List.append_nil, List.append_assoc])) [1, 2, 0, 3] (by decide) rfl) (by first | with_reducible rfl | simp only [List.map_nil, List.flatten_cons, List.flatten_nil, List.cons_append, List.nil_append, List.append_nil, List.append_assoc]))
        replace O := Own.cv (L' := ((p_311, .lst (List.map V.int plain_307)) :: ((p_77, .lst vs_139) :: (B_133 ++ (B_136 ++ []))))) O (by first | with_reducible rfl | simp only [List.map_nil, List.flatten_cons, List.flatten_nil, List.cons_append, List.nil_append, List.append_nil, List.append_assoc])
        refine ⟨_, rfl, ?_⟩
        refine o_c ?_
        replace O := (Own.cv (L' := (B_136 ++ ((p_311, .lst (List.map V.int plain_307)) :: ((p_77, .lst vs_139) :: (B_133 ++ []))))) (Own.selB (Bs := [[(p_311, .lst (List.map V.int plain_307))], [(p_77, .lst vs_139)], B_133, B_136]) (Bs' := [B_136, [(p_311, .lst (List.map V.int plain_307))], [(p_77, .lst vs_139)], B_133]) (Own.cv O (by first | with_reducible rfl | simp only [List.map_nil, List.flatten_cons, List.flatten_nil, List.cons_append, List.nil_append, List.append_nil, List.append_assoc])) [3, 0, 1, 2] (by decide) rfl) (by first | with_reducible rfl | simp only [List.map_nil, List.flatten_cons, List.flatten_nil, List.cons_append, List.nil_append, List.append_nil, List.append_assoc]))
        obtain ⟨vs_, a_315, L_316, L_317, hl_, hat_, _, h318, h321, O, h319, h320⟩ := Own.lsAt (A := []) moRow O h137 h314
        refine ⟨_, vs_, _, _, rfl, rfl, SqL.of hl_, hat_, ?_⟩
        replace O := Own.cv (L' := (L_316 ++ (L_317 ++ ((p_311, .lst (List.map V.int plain_307)) :: ((p_77, .lst vs_139) :: (B_133 ++ [])))))) O (by first | with_reducible rfl | simp only [List.map_nil, List.flatten_cons, List.flatten_nil, List.cons_append, List.nil_append, List.append_nil, List.append_assoc])
        replace O := (Own.cv (L' := ((p_311, .lst (List.map V.int plain_307)) :: ((p_77, .lst vs_139) :: (L_316 ++ (L_317 ++ (B_133 ++ [])))))) (Own.selB (Bs := [L_316, L_317, [(p_311, .lst (List.map V.int plain_307))], [(p_77, .lst vs_139)], B_133]) (Bs' := [[(p_311, .lst (List.map V.int plain_307))], [(p_77, .lst vs_139)], L_316, L_317, B_133]) (Own.cv O (by first | with_reducible rfl | simp only [List.map_nil, List.flatten_cons, List.flatten_nil, List.cons_append, List.nil_append, List.append_nil, List.append_assoc])) [2, 3, 0, 1, 4] (by decide) rfl) (by first | with_reducible rfl | simp only [List.map_nil, List.flatten_cons, List.flatten_nil, List.cons_append, List.nil_append, List.append_nil, List.append_assoc]))
        refine x_nil ?_
        obtain rfl := (show L_316 = _ from h318)
        replace O := Own.cv (L' := ((p_311, .lst (List.map V.int plain_307)) :: ((p_77, .lst vs_139) :: ((a_315, .lst (List.map V.int o_313)) :: (L_317 ++ (B_133 ++ [])))))) O (by first | with_reducible rfl | simp only [List.map_nil, List.flatten_cons, List.flatten_nil, List.cons_append, List.nil_append, List.append_nil, List.append_assoc])
        refine ⟨_, _, _, _, law_al_322, rfl, (O.mem (List.Mem.head _)), (O.mem (List.Mem.tail _ (List.Mem.tail _ (List.Mem.head _)))), h323, ?_⟩
        refine O.retV fun H O => ?_
        replace O := Own.cv (L' := ((p_311, .lst (List.map V.int plain_307)) :: ((p_77, .lst vs_139) :: ((a_315, .lst (List.map V.int o_313)) :: (L_317 ++ (B_133 ++ [])))))) O (by first | with_reducible rfl | simp only [List.map_nil, List.flatten_cons, List.flatten_nil, List.cons_append, List.nil_append, List.append_nil, List.append_assoc])
        replace O := (Own.cv (L' := ((a_315, .lst (List.map V.int o_313)) :: (L_317 ++ ((p_311, .lst (List.map V.int plain_307)) :: ((p_77, .lst vs_139) :: (B_133 ++ [])))))) (Own.selB (Bs := [[(p_311, .lst (List.map V.int plain_307))], [(p_77, .lst vs_139)], [(a_315, .lst (List.map V.int o_313))], L_317, B_133]) (Bs' := [[(a_315, .lst (List.map V.int o_313))], L_317, [(p_311, .lst (List.map V.int plain_307))], [(p_77, .lst vs_139)], B_133]) (Own.cv O (by first | with_reducible rfl | simp only [List.map_nil, List.flatten_cons, List.flatten_nil, List.cons_append, List.nil_append, List.append_nil, List.append_assoc])) [2, 3, 0, 1, 4] (by decide) rfl) (by first | with_reducible rfl | simp only [List.map_nil, List.flatten_cons, List.flatten_nil, List.cons_append, List.nil_append, List.append_nil, List.append_assoc]))
        replace O : Own H0 H (B_136 ++ ((p_311, .lst (List.map V.int plain_307)) :: ((p_77, .lst vs_139) :: (B_133 ++ [])))) := Own.unls (A := []) (Own.cv (L' := [] ++ ([(a_315, .lst (List.map V.int o_313))] ++ (L_317 ++ ((p_311, .lst (List.map V.int plain_307)) :: ((p_77, .lst vs_139) :: (B_133 ++ [])))))) O (by first | with_reducible rfl | simp only [List.map_nil, List.flatten_cons, List.flatten_nil, List.cons_append, List.nil_append, List.append_nil, List.append_assoc])) h321
        replace O := Own.cv (L' := (B_136 ++ ((p_311, .lst (List.map V.int plain_307)) :: ((p_77, .lst vs_139) :: (B_133 ++ []))))) O (by first | with_reducible rfl | simp only [List.map_nil, List.flatten_cons, List.flatten_nil, List.cons_append, List.nil_append, List.append_nil, List.append_assoc])
        replace O := (Own.cv (L' := ((p_311, .lst (List.map V.int plain_307)) :: ((p_77, .lst vs_139) :: (B_136 ++ (B_133 ++ []))))) (Own.selB (Bs := [B_136, [(p_311, .lst (List.map V.int plain_307))], [(p_77, .lst vs_139)], B_133]) (Bs' := [[(p_311, .lst (List.map V.int plain_307))], [(p_77, .lst vs_139)], B_136, B_133]) (Own.cv O (by first | with_reducible rfl | simp only [List.map_nil, List.flatten_cons, List.flatten_nil, List.cons_append, List.nil_append, List.append_nil, List.append_assoc])) [1, 2, 0, 3] (by decide) rfl) (by first | with_reducible rfl | simp only [List.map_nil, List.flatten_cons, List.flatten_nil, List.cons_append, List.nil_append, List.append_nil, List.append_assoc]))
        exact k1 _ ⟨H0, eJ295, (Own.cv (L' := ((p_77, .lst vs_139) :: (B_133 ++ (B_136 ++ [])))) (Own.selB (Bs := [[(p_311, .lst (List.map V.int plain_307))], [(p_77, .lst vs_139)], B_136, B_133]) (Bs' := [[(p_77, .lst vs_139)], B_133, B_136]) (Own.cv O (by first | with_reducible rfl | simp only [List.map_nil, List.flatten_cons, List.flatten_nil, List.cons_append, List.nil_append, List.append_nil, List.append_assoc])) [1, 3, 2] (by decide) rfl) (by first | with_reducible rfl | simp only [List.map_nil, List.flatten_cons, List.flatten_nil, List.cons_append, List.nil_append, List.append_nil, List.append_assoc]))⟩
      · replace hm := ifT h353 h294
        obtain ⟨o_324, h325, hm⟩ := bndE hm
        obtain ⟨plain_335, h336, hm⟩ := bndE hm
        obtain ⟨o_341, h342, hm⟩ := bndE hm
        obtain ⟨law_al_350, h351, hm⟩ := bndE hm
        obtain rfl := Option.some.inj hm
        obtain ⟨H0, eJ295, O⟩ := hJ
        replace ha_p_77 := mA (mT2 (mL mI) (mL mI)) eJ295 ha_p_77
        replace h134 := (moLs (mo_Reader ad)) _ _ _ _ _ eJ295 h134
        replace h137 := (moLs moRow) _ _ _ _ _ eJ295 h137
        replace eB := eB.trans eJ295
        refine ⟨_, rfl, ?_⟩
        refine o_c ?_
        replace O := (Own.cv (L' := (B_133 ++ ((p_77, .lst vs_139) :: (B_136 ++ [])))) (Own.selB (Bs := [[(p_77, .lst vs_139)], B_133, B_136]) (Bs' := [B_133, [(p_77, .lst vs_139)], B_136]) (Own.cv O (by first | with_reducible rfl | simp only [List.map_nil, List.flatten_cons, List.flatten_nil, List.cons_append, List.nil_append, List.append_nil, List.append_assoc])) [1, 0, 2] (by decide) rfl) (by first | with_reducible rfl | simp only [List.map_nil, List.flatten_cons, List.flatten_nil, List.cons_append, List.nil_append, List.append_nil, List.append_assoc]))
        obtain ⟨vs_, a_326, L_327, L_328, hl_, hat_, _, h329, h332, O, h330, h331⟩ := Own.lsAt (A := []) (mo_Reader ad) O h134 h325
        refine ⟨_, vs_, _, _, rfl, rfl, SqL.of hl_, hat_, ?_⟩
        replace O := Own.cv (L' := (L_327 ++ (L_328 ++ ((p_77, .lst vs_139) :: (B_136 ++ []))))) O (by first | with_reducible rfl | simp only [List.map_nil, List.flatten_cons, List.flatten_nil, List.cons_append, List.nil_append, List.append_nil, List.append_assoc])
        replace O := (Own.cv (L' := ((p_77, .lst vs_139) :: (L_327 ++ (L_328 ++ (B_136 ++ []))))) (Own.selB (Bs := [L_327, L_328, [(p_77, .lst vs_139)], B_136]) (Bs' := [[(p_77, .lst vs_139)], L_327, L_328, B_136]) (Own.cv O (by first | with_reducible rfl | simp only [List.map_nil, List.flatten_cons, List.flatten_nil, List.cons_append, List.nil_append, List.append_nil, List.append_assoc])) [2, 0, 1, 3] (by decide) rfl) (by first | with_reducible rfl | simp only [List.map_nil, List.flatten_cons, List.flatten_nil, List.cons_append, List.nil_append, List.append_nil, List.append_assoc]))
        obtain ⟨dx_333, p_334, rfl⟩ := h329
        replace O := Own.cv (L' := ((p_77, .lst vs_139) :: ((a_326, .ins ad.c_Reader dx_333 [("kept", .ref p_334), ("last", .int o_324.last), ("alike", .int o_324.alike), ("latest", .str o_324.latest)]) :: ((dx_333, .own a_326) :: ((p_334, .lst (List.map V.int o_324.kept)) :: (L_328 ++ (B_136 ++ []))))))) O (by first | with_reducible rfl | simp only [List.map_nil, List.flatten_cons, List.flatten_nil, List.cons_append, List.nil_append, List.append_nil, List.append_assoc])
        refine ⟨a_326, dx_333, [("kept", .ref p_334), ("last", .int o_324.last), ("alike", .int o_324.alike), ("latest", .str o_324.latest)], rfl, (O.mem (List.Mem.tail _ (List.Mem.head _))), (lk_skip (by decide) (lk_skip (by decide) (lk_skip (by decide) (lk_skip (by decide) lk_nil)))), ?_⟩
        refine x_nil ?_
        have Oc : Own H0 H ((((a_326, .ins ad.c_Reader dx_333 [("kept", .ref p_334), ("last", .int o_324.last), ("alike", .int o_324.alike), ("latest", .str o_324.latest)]) :: (dx_333, .own a_326) :: ((p_334, .lst (List.map V.int o_324.kept)) :: [])) ++ []) ++ ((p_77, .lst vs_139) :: (L_328 ++ (B_136 ++ [])))) := Own.cv (Own.cv (L' := ((a_326, .ins ad.c_Reader dx_333 [("kept", .ref p_334), ("last", .int o_324.last), ("alike", .int o_324.alike), ("latest", .str o_324.latest)]) :: ((dx_333, .own a_326) :: ((p_334, .lst (List.map V.int o_324.kept)) :: ((p_77, .lst vs_139) :: (L_328 ++ (B_136 ++ []))))))) (Own.selB (Bs := [[(p_77, .lst vs_139)], [(a_326, .ins ad.c_Reader dx_333 [("kept", .ref p_334), ("last", .int o_324.last), ("alike", .int o_324.alike), ("latest", .str o_324.latest)])], [(dx_333, .own a_326)], [(p_334, .lst (List.map V.int o_324.kept))], L_328, B_136]) (Bs' := [[(a_326, .ins ad.c_Reader dx_333 [("kept", .ref p_334), ("last", .int o_324.last), ("alike", .int o_324.alike), ("latest", .str o_324.latest)])], [(dx_333, .own a_326)], [(p_334, .lst (List.map V.int o_324.kept))], [(p_77, .lst vs_139)], L_328, B_136]) (Own.cv O (by first | with_reducible rfl | simp only [List.map_nil, List.flatten_cons, List.flatten_nil, List.cons_append, List.nil_append, List.append_nil, List.append_assoc])) [1, 2, 3, 0, 4, 5] (by decide) rfl) (by first | with_reducible rfl | simp only [List.map_nil, List.flatten_cons, List.flatten_nil, List.cons_append, List.nil_append, List.append_nil, List.append_assoc])) (by first | with_reducible rfl | simp only [List.map_nil, List.flatten_cons, List.flatten_nil, List.cons_append, List.nil_append, List.append_nil, List.append_assoc])
        refine ⟨o_324, a_326, ((a_326, .ins ad.c_Reader dx_333 [("kept", .ref p_334), ("last", .int o_324.last), ("alike", .int o_324.alike), ("latest", .str o_324.latest)]) :: (dx_333, .own a_326) :: ((p_334, .lst (List.map V.int o_324.kept)) :: [])), H0, plain_335, rfl, Oc.left, ⟨dx_333, p_334, rfl⟩, h336, ?_⟩
        refine Oc.retX (mdK mdLs) fun w_337 H H0 L_338 O e_ d_ => ?_
        replace ha_p_77 := mA (mT2 (mL mI) (mL mI)) e_ ha_p_77
        replace h134 := (moLs (mo_Reader ad)) _ _ _ _ _ e_ h134
        replace h137 := (moLs moRow) _ _ _ _ _ e_ h137
        replace h330 := fun F_ L_ x_ q_ => h330 F_ L_ x_ (e_.trans q_)
        replace h331 := fun F_ L_ q_ => h331 F_ L_ (e_.trans q_)
        replace eB := eB.trans e_
        replace eJ295 := eJ295.trans e_
        obtain ⟨L_340, rfl, ⟨p_339, rfl, rfl⟩⟩ := d_
        replace O := Own.cv (L' := ((a_326, .ins ad.c_Reader dx_333 [("kept", .ref p_334), ("last", .int o_324.last), ("alike", .int o_324.alike), ("latest", .str o_324.latest)]) :: ((dx_333, .own a_326) :: ((p_334, .lst (List.map V.int o_324.kept)) :: ((p_339, .lst (List.map V.int plain_335)) :: ((p_77, .lst vs_139) :: (L_328 ++ (B_136 ++ [])))))))) O (by first | with_reducible rfl | simp only [List.map_nil, List.flatten_cons, List.flatten_nil, List.cons_append, List.nil_append, List.append_nil, List.append_assoc])
        replace O := (Own.cv (L' := ((a_326, .ins ad.c_Reader dx_333 [("kept", .ref p_334), ("last", .int o_324.last), ("alike", .int o_324.alike), ("latest", .str o_324.latest)]) :: ((dx_333, .own a_326) :: ((p_334, .lst (List.map V.int o_324.kept)) :: (L_328 ++ ((p_339, .lst (List.map V.int plain_335)) :: ((p_77, .lst vs_139) :: (B_136 ++ [])))))))) (Own.selB (Bs := [[(a_326, .ins ad.c_Reader dx_333 [("kept", .ref p_334), ("last", .int o_324.last), ("alike", .int o_324.alike), ("latest", .str o_324.latest)])], [(dx_333, .own a_326)], [(p_334, .lst (List.map V.int o_324.kept))], [(p_339, .lst (List.map V.int plain_335))], [(p_77, .lst vs_139)], L_328, B_136]) (Bs' := [[(a_326, .ins ad.c_Reader dx_333 [("kept", .ref p_334), ("last", .int o_324.last), ("alike", .int o_324.alike), ("latest", .str o_324.latest)])], [(dx_333, .own a_326)], [(p_334, .lst (List.map V.int o_324.kept))], L_328, [(p_339, .lst (List.map V.int plain_335))], [(p_77, .lst vs_139)], B_136]) (Own.cv O (by first | with_reducible rfl | simp only [List.map_nil, List.flatten_cons, List.flatten_nil, List.cons_append, List.nil_append, List.append_nil, List.append_assoc])) [0, 1, 2, 5, 3, 4, 6] (by decide) rfl) (by first | with_reducible rfl | simp only [List.map_nil, List.flatten_cons, List.flatten_nil, List.cons_append, List.nil_append, List.append_nil, List.append_assoc]))
        replace O : Own H0 H (B_133 ++ ((p_339, .lst (List.map V.int plain_335)) :: ((p_77, .lst vs_139) :: (B_136 ++ [])))) := Own.unls (A := []) (Own.cv (L' := [] ++ (((a_326, .ins ad.c_Reader dx_333 [("kept", .ref p_334), ("last", .int o_324.last), ("alike", .int o_324.alike), ("latest", .str o_324.latest)]) :: (dx_333, .own a_326) :: ((p_334, .lst (List.map V.int o_324.kept)) :: [])) ++ (L_328 ++ ((p_339, .lst (List.map V.int plain_335)) :: ((p_77, .lst vs_139) :: (B_136 ++ [])))))) O (by first | with_reducible rfl | simp only [List.map_nil, List.flatten_cons, List.flatten_nil, List.cons_append, List.nil_append, List.append_nil, List.append_assoc])) h332
        replace O := Own.cv (L' := (B_133 ++ ((p_339, .lst (List.map V.int plain_335)) :: ((p_77, .lst vs_139) :: (B_136 ++ []))))) O (by first | with_reducible rfl | simp only [List.map_nil, List.flatten_cons, List.flatten_nil, List.cons_append, List.nil_append, List.append_nil, List.append_assoc])
        replace O := (Own.cv (L' := ((p_339, .lst (List.map V.int plain_335)) :: ((p_77, .lst vs_139) :: (B_133 ++ (B_136 ++ []))))) (Own.selB (Bs := [B_133, [(p_339, .lst (List.map V.int plain_335))], [(p_77, .lst vs_139)], B_136]) (Bs' := [[(p_339, .lst (List.map V.int plain_335))], [(p_77, .lst vs_139)], B_133, B_136]) (Own.cv O (by first | with_reducible rfl | simp only [List.map_nil, List.flatten_cons, List.flatten_nil, List.cons_append, List.nil_append, List.append_nil, List.append_assoc])) [1, 2, 0, 3] (by decide) rfl) (by first | with_reducible rfl | simp only [List.map_nil, List.flatten_cons, List.flatten_nil, List.cons_append, List.nil_append, List.append_nil, List.append_assoc]))
        replace O := Own.cv (L' := ((p_339, .lst (List.map V.int plain_335)) :: ((p_77, .lst vs_139) :: (B_133 ++ (B_136 ++ []))))) O (by first | with_reducible rfl | simp only [List.map_nil, List.flatten_cons, List.flatten_nil, List.cons_append, List.nil_append, List.append_nil, List.append_assoc])
        refine ⟨_, rfl, ?_⟩
        refine o_c ?_
        replace O := (Own.cv (L' := (B_136 ++ ((p_339, .lst (List.map V.int plain_335)) :: ((p_77, .lst vs_139) :: (B_133 ++ []))))) (Own.selB (Bs := [[(p_339, .lst (List.map V.int plain_335))], [(p_77, .lst vs_139)], B_133, B_136]) (Bs' := [B_136, [(p_339, .lst (List.map V.int plain_335))], [(p_77, .lst vs_139)], B_133]) (Own.cv O (by first | with_reducible rfl | simp only [List.map_nil, List.flatten_cons, List.flatten_nil, List.cons_append, List.nil_append, List.append_nil, List.append_assoc])) [3, 0, 1, 2] (by decide) rfl) (by first | with_reducible rfl | simp only [List.map_nil, List.flatten_cons, List.flatten_nil, List.cons_append, List.nil_append, List.append_nil, List.append_assoc]))
        obtain ⟨vs_, a_343, L_344, L_345, hl_, hat_, _, h346, h349, O, h347, h348⟩ := Own.lsAt (A := []) moRow O h137 h342
        refine ⟨_, vs_, _, _, rfl, rfl, SqL.of hl_, hat_, ?_⟩
        replace O := Own.cv (L' := (L_344 ++ (L_345 ++ ((p_339, .lst (List.map V.int plain_335)) :: ((p_77, .lst vs_139) :: (B_133 ++ [])))))) O (by first | with_reducible rfl | simp only [List.map_nil, List.flatten_cons, List.flatten_nil, List.cons_append, List.nil_append, List.append_nil, List.append_assoc])
        replace O := (Own.cv (L' := ((p_339, .lst (List.map V.int plain_335)) :: ((p_77, .lst vs_139) :: (L_344 ++ (L_345 ++ (B_133 ++ [])))))) (Own.selB (Bs := [L_344, L_345, [(p_339, .lst (List.map V.int plain_335))], [(p_77, .lst vs_139)], B_133]) (Bs' := [[(p_339, .lst (List.map V.int plain_335))], [(p_77, .lst vs_139)], L_344, L_345, B_133]) (Own.cv O (by first | with_reducible rfl | simp only [List.map_nil, List.flatten_cons, List.flatten_nil, List.cons_append, List.nil_append, List.append_nil, List.append_assoc])) [2, 3, 0, 1, 4] (by decide) rfl) (by first | with_reducible rfl | simp only [List.map_nil, List.flatten_cons, List.flatten_nil, List.cons_append, List.nil_append, List.append_nil, List.append_assoc]))
        refine x_nil ?_
        obtain rfl := (show L_344 = _ from h346)
        replace O := Own.cv (L' := ((p_339, .lst (List.map V.int plain_335)) :: ((p_77, .lst vs_139) :: ((a_343, .lst (List.map V.int o_341)) :: (L_345 ++ (B_133 ++ [])))))) O (by first | with_reducible rfl | simp only [List.map_nil, List.flatten_cons, List.flatten_nil, List.cons_append, List.nil_append, List.append_nil, List.append_assoc])
        refine ⟨_, _, _, _, law_al_350, rfl, (O.mem (List.Mem.head _)), (O.mem (List.Mem.tail _ (List.Mem.tail _ (List.Mem.head _)))), h351, ?_⟩
        refine O.retV fun H O => ?_
        replace O := Own.cv (L' := ((p_339, .lst (List.map V.int plain_335)) :: ((p_77, .lst vs_139) :: ((a_343, .lst (List.map V.int o_341)) :: (L_345 ++ (B_133 ++ [])))))) O (by first | with_reducible rfl | simp only [List.map_nil, List.flatten_cons, List.flatten_nil, List.cons_append, List.nil_append, List.append_nil, List.append_assoc])
        replace O := (Own.cv (L' := ((a_343, .lst (List.map V.int o_341)) :: (L_345 ++ ((p_339, .lst (List.map V.int plain_335)) :: ((p_77, .lst vs_139) :: (B_133 ++ [])))))) (Own.selB (Bs := [[(p_339, .lst (List.map V.int plain_335))], [(p_77, .lst vs_139)], [(a_343, .lst (List.map V.int o_341))], L_345, B_133]) (Bs' := [[(a_343, .lst (List.map V.int o_341))], L_345, [(p_339, .lst (List.map V.int plain_335))], [(p_77, .lst vs_139)], B_133]) (Own.cv O (by first | with_reducible rfl | simp only [List.map_nil, List.flatten_cons, List.flatten_nil, List.cons_append, List.nil_append, List.append_nil, List.append_assoc])) [2, 3, 0, 1, 4] (by decide) rfl) (by first | with_reducible rfl | simp only [List.map_nil, List.flatten_cons, List.flatten_nil, List.cons_append, List.nil_append, List.append_nil, List.append_assoc]))
        replace O : Own H0 H (B_136 ++ ((p_339, .lst (List.map V.int plain_335)) :: ((p_77, .lst vs_139) :: (B_133 ++ [])))) := Own.unls (A := []) (Own.cv (L' := [] ++ ([(a_343, .lst (List.map V.int o_341))] ++ (L_345 ++ ((p_339, .lst (List.map V.int plain_335)) :: ((p_77, .lst vs_139) :: (B_133 ++ [])))))) O (by first | with_reducible rfl | simp only [List.map_nil, List.flatten_cons, List.flatten_nil, List.cons_append, List.nil_append, List.append_nil, List.append_assoc])) h349
        replace O := Own.cv (L' := (B_136 ++ ((p_339, .lst (List.map V.int plain_335)) :: ((p_77, .lst vs_139) :: (B_133 ++ []))))) O (by first | with_reducible rfl | simp only [List.map_nil, List.flatten_cons, List.flatten_nil, List.cons_append, List.nil_append, List.append_nil, List.append_assoc])
        replace O := (Own.cv (L' := ((p_339, .lst (List.map V.int plain_335)) :: ((p_77, .lst vs_139) :: (B_136 ++ (B_133 ++ []))))) (Own.selB (Bs := [B_136, [(p_339, .lst (List.map V.int plain_335))], [(p_77, .lst vs_139)], B_133]) (Bs' := [[(p_339, .lst (List.map V.int plain_335))], [(p_77, .lst vs_139)], B_136, B_133]) (Own.cv O (by first | with_reducible rfl | simp only [List.map_nil, List.flatten_cons, List.flatten_nil, List.cons_append, List.nil_append, List.append_nil, List.append_assoc])) [1, 2, 0, 3] (by decide) rfl) (by first | with_reducible rfl | simp only [List.map_nil, List.flatten_cons, List.flatten_nil, List.cons_append, List.nil_append, List.append_nil, List.append_assoc]))
        exact k2 _ ⟨H0, eJ295, (Own.cv (L' := ((p_77, .lst vs_139) :: (B_133 ++ (B_136 ++ [])))) (Own.selB (Bs := [[(p_339, .lst (List.map V.int plain_335))], [(p_77, .lst vs_139)], B_136, B_133]) (Bs' := [[(p_77, .lst vs_139)], B_133, B_136]) (Own.cv O (by first | with_reducible rfl | simp only [List.map_nil, List.flatten_cons, List.flatten_nil, List.cons_append, List.nil_append, List.append_nil, List.append_assoc])) [1, 3, 2] (by decide) rfl) (by first | with_reducible rfl | simp only [List.map_nil, List.flatten_cons, List.flatten_nil, List.cons_append, List.nil_append, List.append_nil, List.append_assoc]))⟩
      obtain ⟨H0, eJ295, O⟩ := hJ
      replace ha_p_77 := mA (mT2 (mL mI) (mL mI)) eJ295 ha_p_77
      replace h134 := (moLs (mo_Reader ad)) _ _ _ _ _ eJ295 h134
      replace h137 := (moLs moRow) _ _ _ _ _ eJ295 h137
      replace eB := eB.trans eJ295
      obtain rfl := Option.some.inj hm
      exact RetV.goR k O eB
end
theorem walk {l : PySem.W.OpenLaw} {q : Program} {loose : List Str} {XP : (Str → Option Value) → Heap → Prop} {YP : World → Heap → Prop} {d : DefRec} {K : Params → PySem.W.Frag} (M : ∀ ns : List Int, ns.length ≤ 63 → m_law ns = some true) (hn : l.most = some 63) (hdf : d.params.defaults = [])
    (hY : ∀ (w : World) (h : Heap), YP w h → (K w.params).In h)
    (F : ∀ (w : World) (mg : Str → Option Value) (fa : Addr) (h : Heap), (K w.params).In h → h.Ns mainGlobals mg → mg d.name = some (.ref fa) →
      ∃ fd : FuncData, (∀ (s : Shared) (u : Value), BindsTo s fd ⟨[u], []⟩ [("script", u)]) ∧ ∀ base : Heap, (K w.params).In base → base.Ns mainGlobals mg → FnOk l.prog w (K w.params) mg base CX0 6 fa fd ["script"] (sp_law (K w.params))) :
    PySem.W.WalkO q loose XP YP l.row.toRowW d [] (fun f vs => PySem.call f vs) :=
  L2.walk_of (n := 63) (k := 6) (x := "script") (CX := fun _ => CX0) (sp := fun w => sp_law (K w.params)) hn (by decide) hdf ⟨rfl, by decide, by decide⟩ hY F (fun _ _ a ns hl _ hS => ⟨ns, a, true, rfl, hS, M ns hl, fun _ _ => rfl⟩) fun _ _ _ _ _ z => z
theorem packc {K : PySem.W.Frag} {h : Heap} {mg : Str → Option Value} (X : K.In h) (G : h.Ns mainGlobals mg) {C_Reader : Addr} {q_Reader_init : Addr} {oc_Reader_init kV_Reader_init doc_Reader_init pm_Reader_init cdv_Reader_init ct_Reader_init : Value} {od_Reader_init an_Reader_init : Option Addr} {osl_Reader_init : Array (Option Value)} {q_Reader_plain : Addr} {oc_Reader_plain kV_Reader_plain doc_Reader_plain pm_Reader_plain cdv_Reader_plain ct_Reader_plain : Value} {od_Reader_plain an_Reader_plain : Option Addr} {osl_Reader_plain : Array (Option Value)} {q_Reader_frame : Addr} {oc_Reader_frame kV_Reader_frame doc_Reader_frame pm_Reader_frame cdv_Reader_frame ct_Reader_frame : Value} {od_Reader_frame an_Reader_frame : Option Addr} {osl_Reader_frame : Array (Option Value)} {q_Reader_judged : Addr} {oc_Reader_judged kV_Reader_judged doc_Reader_judged pm_Reader_judged cdv_Reader_judged ct_Reader_judged : Value} {od_Reader_judged an_Reader_judged : Option Addr} {osl_Reader_judged : Array (Option Value)} {q_Reader_hear : Addr} {oc_Reader_hear kV_Reader_hear doc_Reader_hear pm_Reader_hear cdv_Reader_hear ct_Reader_hear : Value} {od_Reader_hear an_Reader_hear : Option Addr} {osl_Reader_hear : Array (Option Value)} (a_Reader : PySem.W.nsIn K mainGlobals "Reader" = some (some (.ref C_Reader))) (pg_Reader : PySem.W.plainGet K C_Reader Str.empty = true) (hd_Reader : PySem.W.hasDictIn K C_Reader = true) (po_Reader : PySem.W.plainOver K C_Reader = true) (sa_Reader : PySem.W.findIn K (.ref C_Reader) "__setattr__" = some (some (.builtin "object.__setattr__"))) (n_Reader_alike : PySem.W.findIn K (.ref C_Reader) "alike" = some none) (n_Reader_kept : PySem.W.findIn K (.ref C_Reader) "kept" = some none) (n_Reader_last : PySem.W.findIn K (.ref C_Reader) "last" = some none) (n_Reader_latest : PySem.W.findIn K (.ref C_Reader) "latest" = some none) (at_Reader_init : PySem.W.findIn K (.ref C_Reader) "__init__" = some (some (.ref q_Reader_init))) (if_Reader_init : PySem.W.isFn K (.ref q_Reader_init) = true) (il_Reader_init : K.lookup q_Reader_init = some ⟨oc_Reader_init, od_Reader_init, .func (PySem.W.fnOf "__init__" "Reader.__init__" (defArgs s_Reader_init) (defBody s_Reader_init) (defScope s_Reader_init) .none kV_Reader_init doc_Reader_init pm_Reader_init an_Reader_init cdv_Reader_init ct_Reader_init), osl_Reader_init⟩) (ic_Reader_init : PySem.W.codeIn K cdv_Reader_init "Reader.__init__" = true) (ik_Reader_init : PySem.W.keepIn K (.ref q_Reader_init) = true) (at_Reader_plain : PySem.W.findIn K (.ref C_Reader) "plain" = some (some (.ref q_Reader_plain))) (if_Reader_plain : PySem.W.isFn K (.ref q_Reader_plain) = true) (il_Reader_plain : K.lookup q_Reader_plain = some ⟨oc_Reader_plain, od_Reader_plain, .func (PySem.W.fnOf "plain" "Reader.plain" (defArgs s_Reader_plain) (defBody s_Reader_plain) (defScope s_Reader_plain) .none kV_Reader_plain doc_Reader_plain pm_Reader_plain an_Reader_plain cdv_Reader_plain ct_Reader_plain), osl_Reader_plain⟩) (ic_Reader_plain : PySem.W.codeIn K cdv_Reader_plain "Reader.plain" = true) (ik_Reader_plain : PySem.W.keepIn K (.ref q_Reader_plain) = true) (at_Reader_frame : PySem.W.findIn K (.ref C_Reader) "frame" = some (some (.ref q_Reader_frame))) (if_Reader_frame : PySem.W.isFn K (.ref q_Reader_frame) = true) (il_Reader_frame : K.lookup q_Reader_frame = some ⟨oc_Reader_frame, od_Reader_frame, .func (PySem.W.fnOf "frame" "Reader.frame" (defArgs s_Reader_frame) (defBody s_Reader_frame) (defScope s_Reader_frame) .none kV_Reader_frame doc_Reader_frame pm_Reader_frame an_Reader_frame cdv_Reader_frame ct_Reader_frame), osl_Reader_frame⟩) (ic_Reader_frame : PySem.W.codeIn K cdv_Reader_frame "Reader.frame" = true) (ik_Reader_frame : PySem.W.keepIn K (.ref q_Reader_frame) = true) (at_Reader_judged : PySem.W.findIn K (.ref C_Reader) "judged" = some (some (.ref q_Reader_judged))) (if_Reader_judged : PySem.W.isFn K (.ref q_Reader_judged) = true) (il_Reader_judged : K.lookup q_Reader_judged = some ⟨oc_Reader_judged, od_Reader_judged, .func (PySem.W.fnOf "judged" "Reader.judged" (defArgs s_Reader_judged) (defBody s_Reader_judged) (defScope s_Reader_judged) .none kV_Reader_judged doc_Reader_judged pm_Reader_judged an_Reader_judged cdv_Reader_judged ct_Reader_judged), osl_Reader_judged⟩) (ic_Reader_judged : PySem.W.codeIn K cdv_Reader_judged "Reader.judged" = true) (ik_Reader_judged : PySem.W.keepIn K (.ref q_Reader_judged) = true) (at_Reader_hear : PySem.W.findIn K (.ref C_Reader) "hear" = some (some (.ref q_Reader_hear))) (if_Reader_hear : PySem.W.isFn K (.ref q_Reader_hear) = true) (il_Reader_hear : K.lookup q_Reader_hear = some ⟨oc_Reader_hear, od_Reader_hear, .func (PySem.W.fnOf "hear" "Reader.hear" (defArgs s_Reader_hear) (defBody s_Reader_hear) (defScope s_Reader_hear) .none kV_Reader_hear doc_Reader_hear pm_Reader_hear an_Reader_hear cdv_Reader_hear ct_Reader_hear), osl_Reader_hear⟩) (ic_Reader_hear : PySem.W.codeIn K cdv_Reader_hear "Reader.hear" = true) (ik_Reader_hear : PySem.W.keepIn K (.ref q_Reader_hear) = true) (mk_Reader : PySem.W.makesIn K C_Reader = true) (kc_Reader : PySem.W.keepIn K (.ref C_Reader) = true) :
  ∃ (c_Reader f_Reader_init f_Reader_plain f_Reader_frame f_Reader_judged f_Reader_hear : Addr) (fd_Reader_init fd_Reader_plain fd_Reader_frame fd_Reader_judged fd_Reader_hear : FuncData), Cls K c_Reader ∧ NoAttr K c_Reader "alike" ∧ NoAttr K c_Reader "kept" ∧ NoAttr K c_Reader "last" ∧ NoAttr K c_Reader "latest" ∧ L2.Fun K "__init__" "Reader.__init__" s_Reader_init f_Reader_init fd_Reader_init ∧ L2.Fun K "plain" "Reader.plain" s_Reader_plain f_Reader_plain fd_Reader_plain ∧ L2.Fun K "frame" "Reader.frame" s_Reader_frame f_Reader_frame fd_Reader_frame ∧ L2.Fun K "judged" "Reader.judged" s_Reader_judged f_Reader_judged fd_Reader_judged ∧ L2.Fun K "hear" "Reader.hear" s_Reader_hear f_Reader_hear fd_Reader_hear ∧ Meth K c_Reader "frame" f_Reader_frame ∧ Meth K c_Reader "hear" f_Reader_hear ∧ Meth K c_Reader "judged" f_Reader_judged ∧ Meth K c_Reader "plain" f_Reader_plain ∧ Mk K c_Reader f_Reader_init ∧ mg "Reader" = some (.ref c_Reader) :=
  ⟨C_Reader, q_Reader_init, q_Reader_plain, q_Reader_frame, q_Reader_judged, q_Reader_hear, _, _, _, _, _, ⟨pg_Reader, hd_Reader, po_Reader, sa_Reader⟩, n_Reader_alike, n_Reader_kept, n_Reader_last, n_Reader_latest, L2.fun_mk il_Reader_init ic_Reader_init ik_Reader_init, L2.fun_mk il_Reader_plain ic_Reader_plain ik_Reader_plain, L2.fun_mk il_Reader_frame ic_Reader_frame ik_Reader_frame, L2.fun_mk il_Reader_judged ic_Reader_judged ik_Reader_judged, L2.fun_mk il_Reader_hear ic_Reader_hear ik_Reader_hear, ⟨at_Reader_frame, if_Reader_frame, ik_Reader_frame⟩, ⟨at_Reader_hear, if_Reader_hear, ik_Reader_hear⟩, ⟨at_Reader_judged, if_Reader_judged, ik_Reader_judged⟩, ⟨at_Reader_plain, if_Reader_plain, ik_Reader_plain⟩, ⟨mk_Reader, at_Reader_init, if_Reader_init, kc_Reader⟩, PySem.W.mg_of X G a_Reader⟩
theorem pack {K : PySem.W.Frag} {h : Heap} {mg : Str → Option Value} (X : K.In h) (G : h.Ns mainGlobals mg) {A_NoFrame A_NoKey : Addr} (a_NoFrame : PySem.W.nsIn K mainGlobals "NoFrame" = some (some (.ref A_NoFrame))) (a_NoKey : PySem.W.nsIn K mainGlobals "NoKey" = some (some (.ref A_NoKey))) (e_NoFrame : PySem.W.excIn K A_NoFrame [.type "ValueError", .type "Exception", .type "BaseException", .type "object"] "ValueError.__new__" = true) (k_NoFrame : PySem.W.keepIn K (.ref A_NoFrame) = true) (s_NoFrame : PySem.W.subIn K (.ref A_NoFrame) (.type "BaseException") = some true) (t_NoFrame : PySem.W.typeIn K (.ref A_NoFrame) = some (.type "type")) (e_NoKey : PySem.W.excIn K A_NoKey [.type "ValueError", .type "Exception", .type "BaseException", .type "object"] "ValueError.__new__" = true) (k_NoKey : PySem.W.keepIn K (.ref A_NoKey) = true) (s_NoKey : PySem.W.subIn K (.ref A_NoKey) (.type "BaseException") = some true) (t_NoKey : PySem.W.typeIn K (.ref A_NoKey) = some (.type "type")) :
  ∃ (es : Eds), mg "NoFrame" = some (.ref es.NoFrame) ∧ mg "NoKey" = some (.ref es.NoKey) ∧ ErrC K mg "NoFrame" es.NoFrame ∧ ErrC K mg "NoKey" es.NoKey :=
  ⟨(⟨A_NoFrame, A_NoFrame, A_NoKey, A_NoFrame, A_NoFrame, A_NoFrame, A_NoFrame, A_NoFrame, A_NoFrame, A_NoFrame, A_NoFrame⟩ : Eds), PySem.W.mg_of X G a_NoFrame, PySem.W.mg_of X G a_NoKey, ⟨PySem.W.mg_of X G a_NoFrame, e_NoFrame, k_NoFrame, s_NoFrame, t_NoFrame⟩, ⟨PySem.W.mg_of X G a_NoKey, e_NoKey, k_NoKey, s_NoKey, t_NoKey⟩⟩
end Bt

/-! Sums without carries, over Nat. -/
namespace Bt
open PySem L2
theorem bx (a b : Nat) : Builtin.bitXor (a : Int) (b : Int) = ((a ^^^ b : Nat) : Int) := Bits.bitXor_pp (Int.natCast_nonneg a) (Int.natCast_nonneg b)
theorem ba (a b : Nat) : Builtin.bitAnd (a : Int) (b : Int) = ((a &&& b : Nat) : Int) := PyProof.Rows.bitAnd_pp (Int.natCast_nonneg a) (Int.natCast_nonneg b)
theorem ba1 (a : Nat) : Builtin.bitAnd (a : Int) 1 = ((a % 2 : Nat) : Int) := by
  have h := ba a 1
  rw [Nat.and_one_is_mod] at h
  exact h
/-- the product without carries -/
def clm (a b : Nat) : Nat := if h : b = 0 then 0 else (if b % 2 = 1 then a else 0) ^^^ clm (2 * a) (b / 2)
termination_by b
decreasing_by omega
theorem clm_zero (a : Nat) : clm a 0 = 0 := by unfold clm; rfl
theorem clm_step (a b : Nat) : clm a b = (if b % 2 = 1 then a else 0) ^^^ clm (2 * a) (b / 2) := by
  by_cases h : b = 0
  · subst h
    rw [clm_zero]
    simp [clm_zero]
  · rw [clm]
    simp [h]
theorem xor4 (a b c d : Nat) : (a ^^^ b) ^^^ (c ^^^ d) = (a ^^^ c) ^^^ (b ^^^ d) := by
  rw [Nat.xor_assoc, Nat.xor_assoc, ← Nat.xor_assoc b c d, Nat.xor_comm b c, Nat.xor_assoc c b d]
theorem two_xor (a b : Nat) : 2 * (a ^^^ b) = (2 * a) ^^^ (2 * b) := by
  have h1 := Nat.xor_div_two (a := 2 * a) (b := 2 * b)
  have h2 := Nat.xor_mod_two_eq_one (a := 2 * a) (b := 2 * b)
  rw [show 2 * a / 2 = a from by omega, show 2 * b / 2 = b from by omega] at h1
  have h3 : ¬ (2 * a ^^^ 2 * b) % 2 = 1 := by rw [h2]; omega
  omega
theorem two_xor1 (k : Nat) : (2 * k) ^^^ 1 = 2 * k + 1 := by
  have h1 := Nat.xor_div_two (a := 2 * k) (b := 1)
  have h2 := Nat.xor_mod_two_eq_one (a := 2 * k) (b := 1)
  rw [show 2 * k / 2 = k from by omega, show 1 / 2 = 0 from rfl, Nat.xor_zero] at h1
  have h3 : (2 * k ^^^ 1) % 2 = 1 := by rw [h2]; omega
  omega
theorem clm_xor_right : ∀ (n : Nat) (a b c : Nat), b + c ≤ n → clm a (b ^^^ c) = clm a b ^^^ clm a c
  | 0, a, b, c, h => by
    obtain ⟨rfl, rfl⟩ : b = 0 ∧ c = 0 := by omega
    simp [clm_zero]
  | n + 1, a, b, c, h => by
    by_cases h0 : b = 0 ∧ c = 0
    · obtain ⟨rfl, rfl⟩ := h0
      simp [clm_zero]
    rw [clm_step a (b ^^^ c), clm_step a b, clm_step a c, Nat.xor_div_two, clm_xor_right n (2 * a) (b / 2) (c / 2) (by omega), xor4]
    congr 1
    have hm := Nat.xor_mod_two_eq_one (a := b) (b := c)
    by_cases h1 : b % 2 = 1 <;> by_cases h2 : c % 2 = 1
    · rw [if_neg (by rw [hm]; simp [h1, h2]), if_pos h1, if_pos h2, Nat.xor_self]
    · rw [if_pos (by rw [hm]; simp [h1, h2]), if_pos h1, if_neg h2, Nat.xor_zero]
    · rw [if_pos (by rw [hm]; simp [h1, h2]), if_neg h1, if_pos h2, Nat.zero_xor]
    · rw [if_neg (by rw [hm]; simp [h1, h2]), if_neg h1, if_neg h2, Nat.xor_zero]
theorem clm_xr (a b c : Nat) : clm a (b ^^^ c) = clm a b ^^^ clm a c := clm_xor_right _ a b c (Nat.le_refl _)
theorem clm_two : ∀ (n a b : Nat), b ≤ n → clm (2 * a) b = 2 * clm a b
  | 0, a, b, h => by
    obtain rfl : b = 0 := by omega
    rw [clm_zero, clm_zero]
  | n + 1, a, b, h => by
    by_cases h0 : b = 0
    · subst h0; rw [clm_zero, clm_zero]
    rw [clm_step (2 * a) b, clm_step a b, clm_two n (2 * a) (b / 2) (by omega), two_xor]
    congr 1
    by_cases h1 : b % 2 = 1
    · rw [if_pos h1, if_pos h1]
    · rw [if_neg h1, if_neg h1]
theorem clm_tl (a b : Nat) : clm (2 * a) b = 2 * clm a b := clm_two b a b (Nat.le_refl _)
theorem clm_xl : ∀ (n a b c : Nat), c ≤ n → clm (a ^^^ b) c = clm a c ^^^ clm b c
  | 0, a, b, c, h => by
    obtain rfl : c = 0 := by omega
    simp [clm_zero]
  | n + 1, a, b, c, h => by
    by_cases h0 : c = 0
    · subst h0; simp [clm_zero]
    rw [clm_step (a ^^^ b) c, clm_step a c, clm_step b c, two_xor, clm_xl n (2 * a) (2 * b) (c / 2) (by omega), xor4]
    congr 1
    by_cases h1 : c % 2 = 1
    · rw [if_pos h1, if_pos h1, if_pos h1]
    · rw [if_neg h1, if_neg h1, if_neg h1, Nat.xor_zero]
theorem clm_xl' (a b c : Nat) : clm (a ^^^ b) c = clm a c ^^^ clm b c := clm_xl c a b c (Nat.le_refl _)
theorem clm_tr (a b : Nat) : clm a (2 * b) = 2 * clm a b := by
  rw [clm_step a (2 * b), if_neg (by omega), Nat.zero_xor, show 2 * b / 2 = b from by omega, clm_tl]
theorem zero_clm : ∀ (n b : Nat), b ≤ n → clm 0 b = 0
  | 0, b, h => by
    obtain rfl : b = 0 := by omega
    exact clm_zero 0
  | n + 1, b, h => by
    by_cases h0 : b = 0
    · subst h0; exact clm_zero 0
    rw [clm_step, zero_clm n (b / 2) (by omega)]
    split <;> rfl
theorem clm_zl (b : Nat) : clm 0 b = 0 := zero_clm b b (Nat.le_refl _)
theorem one_clm : ∀ (n b : Nat), b ≤ n → clm 1 b = b
  | 0, b, h => by
    obtain rfl : b = 0 := by omega
    exact clm_zero 1
  | n + 1, b, h => by
    by_cases h0 : b = 0
    · subst h0; exact clm_zero 1
    rw [clm_step, clm_tl 1, one_clm n (b / 2) (by omega)]
    by_cases h1 : b % 2 = 1
    · rw [if_pos h1]
      rw [Nat.xor_comm, two_xor1]
      omega
    · rw [if_neg h1, Nat.zero_xor]
      omega
theorem clm_ol (b : Nat) : clm 1 b = b := one_clm b b (Nat.le_refl _)
theorem clm_or (a : Nat) : clm a 1 = a := by
  rw [clm_step, if_pos rfl, show 1 / 2 = 0 from rfl, clm_zero, Nat.xor_zero]
theorem split_bit (b : Nat) : b = (2 * (b / 2)) ^^^ (b % 2) := by
  rcases Nat.mod_two_eq_zero_or_one b with h | h
  · rw [h, Nat.xor_zero]; omega
  · rw [h, two_xor1]
    omega
theorem clm_cm : ∀ (n a b : Nat), b ≤ n → clm a b = clm b a
  | 0, a, b, h => by
    obtain rfl : b = 0 := by omega
    rw [clm_zero, clm_zl]
  | n + 1, a, b, h => by
    by_cases h0 : b = 0
    · subst h0; rw [clm_zero, clm_zl]
    have e := split_bit b
    have ih := clm_cm n a (b / 2) (by omega)
    have h1 : clm a b = 2 * clm a (b / 2) ^^^ clm a (b % 2) := by
      conv => lhs; rw [e]
      rw [clm_xr, clm_tr]
    have h2 : clm b a = 2 * clm (b / 2) a ^^^ clm (b % 2) a := by
      conv => lhs; rw [e]
      rw [clm_xl', clm_tl]
    rw [h1, h2, ih]
    congr 1
    rcases Nat.mod_two_eq_zero_or_one b with q | q
    · rw [q, clm_zero, clm_zl]
    · rw [q, clm_or, clm_ol]
theorem clm_comm (a b : Nat) : clm a b = clm b a := clm_cm b a b (Nat.le_refl _)
/-- the same, power by power -/
def pws (a b : Nat) : Nat → Nat
  | 0 => 0
  | n + 1 => pws a b n ^^^ (if b / 2 ^ n % 2 = 1 then a * 2 ^ n else 0)
theorem pws_shift (a b : Nat) : ∀ n : Nat, pws a b (n + 1) = (if b % 2 = 1 then a else 0) ^^^ pws (2 * a) (b / 2) n
  | 0 => by simp [pws]
  | n + 1 => by
    have ih := pws_shift a b n
    show pws a b (n + 1) ^^^ _ = _ ^^^ (pws (2 * a) (b / 2) n ^^^ _)
    rw [ih, Nat.xor_assoc]
    have e1 : b / 2 ^ (n + 1) = b / 2 / 2 ^ n := by rw [Nat.div_div_eq_div_mul, Nat.pow_succ, Nat.mul_comm]
    have e2 : a * 2 ^ (n + 1) = 2 * a * 2 ^ n := by rw [Nat.pow_succ]; ac_rfl
    rw [e1, e2]
theorem pws_clm : ∀ (n a b : Nat), b < 2 ^ n → pws a b n = clm a b
  | 0, a, b, h => by
    obtain rfl : b = 0 := by simp at h; omega
    rw [clm_zero]; rfl
  | n + 1, a, b, h => by
    rw [pws_shift, clm_step, pws_clm n (2 * a) (b / 2) (by rw [Nat.pow_succ] at h; omega)]
end Bt
namespace Bt
open PySem L2
theorem shrN (a k : Nat) : shrG (a : Int) (k : Int) = some ((a / 2 ^ k : Nat) : Int) := by
  rw [shrG_ok (by omega), Int.toNat_natCast, Int.natCast_ediv, Int.natCast_pow]; rfl
theorem shlN {a n : Nat} (k : Nat) (h : a < 2 ^ n) (hn : n + k ≤ 90000000) : shlG (a : Int) (k : Int) = some ((a * 2 ^ k : Nat) : Int) := by
  rw [shlG_ok (n := n) (by omega) (by omega) (by omega), Int.toNat_natCast, Int.natCast_mul, Int.natCast_pow]; rfl
theorem emod_nat {z m : Int} (hm : 0 < m) : ∃ n : Nat, z % m = (n : Int) ∧ (n : Int) < m := by
  obtain ⟨n, hn⟩ := Int.eq_ofNat_of_zero_le (Int.emod_nonneg z (by omega : m ≠ 0))
  exact ⟨n, hn, by rw [← hn]; exact Int.emod_lt_of_pos z hm⟩
theorem testBit_div (x k : Nat) : x.testBit k = decide (x / 2 ^ k % 2 = 1) := by
  rw [Nat.testBit_eq_decide_div_mod_eq]
end Bt

/-! The laws' own draw: the same text in all of them. -/
namespace Bt
open PySem L2
theorem draw_ok (ns : List Int) (k many : Int) (hk : 0 ≤ k) (hk2 : k ≤ 1000000000) (hm : 0 < many) : ∃ v, m__law_draw ns k many = some v ∧ 0 ≤ v ∧ v < many := by
  have hc : ∃ c, (ifB (decide ((0 : Int) < (List.length ns : Int))) (bnd (modG k (List.length ns : Int)) fun t => bnd (atI ns t) fun e => some e) (some (0 : Int))) = some c := by
    by_cases h : (0 : Int) < (List.length ns : Int)
    · rw [decide_eq_true h, ifB_t, modG_ok h, bnd_some]
      obtain ⟨x, hx, _⟩ := atI_mem (xs := ns) (i := k % (ns.length : Int)) (Int.emod_nonneg _ (by omega)) (Int.emod_lt_of_pos _ h)
      exact ⟨x, by rw [hx]; rfl⟩
    · rw [decide_eq_false h]
      exact ⟨0, rfl⟩
  obtain ⟨c, hc⟩ := hc
  refine ⟨(((c % 1000003 + 31 * k * k + 1) * 48271 % 999983) * 7919 % 524287) % many, ?_, Int.emod_nonneg _ (by omega), Int.emod_lt_of_pos _ hm⟩
  unfold m__law_draw
  rw [bnd_of hc, mulG_ok (a := 40) (b := 40) (by omega) (by omega) (by omega), bnd_some, ltv_eq, modG_ok hm, bnd_some]
end Bt

namespace Bt
open PySem L2
def Bits (xs : List Int) : Prop := ∀ b ∈ xs, b = 0 ∨ b = 1
theorem Bits.app {xs ys : List Int} (h : Bits xs) (k : Bits ys) : Bits (xs ++ ys) := fun b hb => by
  rcases List.mem_append.mp hb with q | q
  · exact h b q
  · exact k b q
theorem Bits.one {b : Int} (h : b = 0 ∨ b = 1) : Bits [b] := fun c hc => by rw [List.mem_singleton.mp hc]; exact h
theorem Bits.drop {xs : List Int} (h : Bits xs) (n : Nat) : Bits (xs.drop n) := fun b hb => h b (List.mem_of_mem_drop hb)
theorem Bits.rep {b : Int} (h : b = 0 ∨ b = 1) (n : Nat) : Bits (List.replicate n b) := fun c hc => by rw [List.eq_of_mem_replicate hc]; exact h
def ci (qs : List Nat) : List Int := qs.map fun (q : Nat) => (q : Int)
theorem ci_of : ∀ (l : List Int) (m : Nat), (∀ y ∈ l, ∃ n : Nat, y = (n : Int) ∧ n < m) → ∃ D, l = ci D ∧ ∀ d ∈ D, d < m
  | [], _, _ => ⟨[], rfl, fun _ h => (nomatch h)⟩
  | y :: r, m, h => by
    obtain ⟨n, rfl, hn⟩ := h y (List.Mem.head _)
    obtain ⟨D, rfl, hD⟩ := ci_of r m fun z hz => h z (List.Mem.tail _ hz)
    refine ⟨n :: D, rfl, fun d hd => ?_⟩
    rcases List.mem_cons.mp hd with rfl | hd
    · exact hn
    · exact hD d hd
theorem ci_len (D : List Nat) : (ci D).length = D.length := by simp [ci]
theorem ci_mem {D : List Nat} {x : Int} (h : x ∈ ci D) : ∃ d ∈ D, x = (d : Int) := by
  obtain ⟨d, hd, rfl⟩ := List.mem_map.mp h
  exact ⟨d, hd, rfl⟩
theorem cut_mem {α : Type} {xs : List α} {lo hi : Option Int} {x : α} (h : x ∈ cutL xs lo hi) : x ∈ xs := by
  unfold cutL at h
  exact List.mem_of_mem_drop (List.mem_of_mem_take h)
theorem cut_len {α : Type} (xs : List α) (lo hi : Option Int) : (cutL xs lo hi).length ≤ xs.length := by
  unfold cutL
  rw [List.length_take, List.length_drop]
  omega
theorem draw2 (ns : List Int) (k : Int) (hk : 0 ≤ k) (hk2 : k ≤ 1000000000) : ∃ v, m__law_draw ns k 2 = some v ∧ (v = 0 ∨ v = 1) := by
  obtain ⟨v, h1, h2, h3⟩ := draw_ok ns k 2 hk hk2 (by decide)
  exact ⟨v, h1, by omega⟩
end Bt

/-! Rests by a key, over Nat, and numbers of bits. -/
namespace Bt
open PySem L2
theorem xor_top {x y m : Nat} (h1 : 2 ^ m ≤ x) (h2 : x < 2 ^ (m + 1)) (h3 : y < 2 ^ m) : 2 ^ m ≤ x ^^^ y ∧ x ^^^ y < 2 ^ (m + 1) := by
  have e := Nat.xor_div_two_pow (a := x) (b := y) (n := m)
  rw [Nat.pow_succ] at h2 ⊢
  have hp : 0 < 2 ^ m := Nat.two_pow_pos m
  have e1 : x / 2 ^ m = 1 := by
    rw [Nat.div_eq_iff hp]; omega
  have e2 : y / 2 ^ m = 0 := Nat.div_eq_of_lt h3
  rw [e1, e2, Nat.xor_zero] at e
  have h4 := (Nat.div_eq_iff hp).mp e
  omega
theorem xor_cancel {x y m : Nat} (h1 : 2 ^ m ≤ x) (h2 : x < 2 ^ (m + 1)) (h3 : 2 ^ m ≤ y) (h4 : y < 2 ^ (m + 1)) : x ^^^ y < 2 ^ m := by
  have e := Nat.xor_div_two_pow (a := x) (b := y) (n := m)
  rw [Nat.pow_succ] at h2 h4
  have hp : 0 < 2 ^ m := Nat.two_pow_pos m
  have e1 : x / 2 ^ m = 1 := by
    rw [Nat.div_eq_iff hp]; omega
  have e2 : y / 2 ^ m = 1 := by
    rw [Nat.div_eq_iff hp]; omega
  rw [e1, e2, Nat.xor_self] at e
  exact (Nat.div_eq_zero_iff_lt hp).mp e
theorem clm_top : ∀ (t a b s : Nat), 2 ^ s ≤ a → a < 2 ^ (s + 1) → 2 ^ t ≤ b → b < 2 ^ (t + 1) → 2 ^ (s + t) ≤ clm a b ∧ clm a b < 2 ^ (s + t + 1)
  | 0, a, b, s, h1, h2, h3, h4 => by
    obtain rfl : b = 1 := by simp at h3 h4; omega
    rw [clm_or]
    exact ⟨h1, h2⟩
  | t + 1, a, b, s, h1, h2, h3, h4 => by
    have e := split_bit b
    have ih := clm_top t a (b / 2) s h1 h2 (by rw [Nat.pow_succ] at h3; omega) (by rw [Nat.pow_succ] at h4; omega)
    have h5 : clm a b = 2 * clm a (b / 2) ^^^ clm a (b % 2) := by
      conv => lhs; rw [e]
      rw [clm_xr, clm_tr]
    rw [h5]
    have h6 : clm a (b % 2) < 2 ^ (s + (t + 1)) := by
      have : 2 ^ (s + 1) ≤ 2 ^ (s + (t + 1)) := Nat.pow_le_pow_right (by decide) (by omega)
      rcases Nat.mod_two_eq_zero_or_one b with q | q
      · rw [q, clm_zero]; exact Nat.two_pow_pos _
      · rw [q, clm_or]; omega
    refine xor_top ?_ ?_ h6
    · rw [show s + (t + 1) = s + t + 1 from rfl, Nat.pow_succ]; omega
    · rw [show s + (t + 1) + 1 = s + t + 1 + 1 from rfl, Nat.pow_succ]; omega
theorem log_of {n : Nat} (h : n ≠ 0) : ∃ t, 2 ^ t ≤ n ∧ n < 2 ^ (t + 1) := ⟨n.log2, Nat.log2_self_le h, Nat.lt_log2_self⟩
theorem clm_small {a w s : Nat} (h1 : 2 ^ s ≤ a) (h2 : a < 2 ^ (s + 1)) (h3 : clm a w < 2 ^ s) : w = 0 := by
  by_cases h : w = 0
  · exact h
  · obtain ⟨t, h4, h5⟩ := log_of h
    have h6 := (clm_top t a w s h1 h2 h4 h5).1
    have : 2 ^ s ≤ 2 ^ (s + t) := Nat.pow_le_pow_right (by decide) (by omega)
    omega
theorem xor_zero_eq {a b : Nat} (h : a ^^^ b = 0) : a = b := by
  have h2 : a ^^^ b ^^^ b = b := by rw [h, Nat.zero_xor]
  rw [Nat.xor_assoc, Nat.xor_self, Nat.xor_zero] at h2
  exact h2
theorem xor_move {a b c d : Nat} (h : a ^^^ b = c ^^^ d) : a ^^^ c = b ^^^ d := by
  have : (a ^^^ b) ^^^ (c ^^^ d) = 0 := by rw [h, Nat.xor_self]
  rw [xor4] at this
  exact xor_zero_eq this
theorem rest_one {key s w r w' r' : Nat} (h1 : 2 ^ s ≤ key) (h2 : key < 2 ^ (s + 1)) (h3 : r < 2 ^ s) (h4 : r' < 2 ^ s) (h : clm key w ^^^ r = clm key w' ^^^ r') : w = w' ∧ r = r' := by
  have h5 := xor_move h
  rw [← clm_xr] at h5
  have h6 : clm key (w ^^^ w') < 2 ^ s := by rw [h5]; exact Nat.xor_lt_two_pow h3 h4
  have h7 := clm_small h1 h2 h6
  refine ⟨xor_zero_eq h7, xor_zero_eq ?_⟩
  rw [← h5, h7, clm_zero]
/-- r is the rest of n by the key of the checks -/
def IsR (n r : Nat) : Prop := r < 32768 ∧ ∃ w, n = clm 64647 w ^^^ r
theorem IsR.uniq {n r r' : Nat} (h : IsR n r) (k : IsR n r') : r = r' := by
  obtain ⟨h1, w, h2⟩ := h
  obtain ⟨h3, w', h4⟩ := k
  exact (rest_one (s := 15) (key := 64647) (by decide) (by decide) h1 h3 (h2.symm.trans h4)).2
theorem IsR.xor {n m r s : Nat} (h : IsR n r) (k : IsR m s) : IsR (n ^^^ m) (r ^^^ s) := by
  obtain ⟨h1, w, h2⟩ := h
  obtain ⟨h3, w', h4⟩ := k
  refine ⟨Nat.xor_lt_two_pow (n := 15) h1 h3, w ^^^ w', ?_⟩
  rw [h2, h4, clm_xr, xor4]
theorem IsR.small {r : Nat} (h : r < 32768) : IsR r r := ⟨h, 0, by rw [clm_zero, Nat.zero_xor]⟩
/-- one bit more behind -/
def hst (r b : Nat) : Nat := if 32768 ≤ 2 * r + b then (2 * r + b) ^^^ 64647 else 2 * r + b
theorem add_bit {a b : Nat} (h : b ≤ 1) : 2 * a + b = 2 * a ^^^ b := by
  rcases (show b = 0 ∨ b = 1 by omega) with rfl | rfl
  · rw [Nat.xor_zero]; rfl
  · rw [two_xor1]
theorem IsR.step {n r b : Nat} (h : IsR n r) (hb : b ≤ 1) : IsR (2 * n + b) (hst r b) := by
  obtain ⟨h1, w, h2⟩ := h
  have e : 2 * n + b = clm 64647 (2 * w) ^^^ (2 * r + b) := by
    rw [add_bit hb, add_bit hb, h2, two_xor, clm_tr, Nat.xor_assoc]
  unfold hst
  by_cases c : 32768 ≤ 2 * r + b
  · rw [if_pos c]
    refine ⟨xor_cancel (m := 15) c (by show _ < 65536; omega) (by decide) (by decide), 2 * w + 1, ?_⟩
    rw [e, add_bit (a := w) (by decide), clm_xr, clm_or, Nat.xor_comm (2 * r + b), Nat.xor_assoc, ← Nat.xor_assoc 64647 64647, Nat.xor_self, Nat.zero_xor]
  · rw [if_neg c]
    exact ⟨by omega, 2 * w, e⟩
/-- the number that bits write, behind a number -/
def hn (a : Nat) : List Int → Nat
  | [] => a
  | b :: r => hn (2 * a + b.toNat) r
def hr (a : Nat) : List Int → Nat
  | [] => a
  | b :: r => hr (hst a b.toNat) r
theorem bit_le {b : Int} (h : b = 0 ∨ b = 1) : b.toNat ≤ 1 := by omega
theorem Bits.hd {b : Int} {r : List Int} (h : Bits (b :: r)) : b = 0 ∨ b = 1 := h b (List.Mem.head _)
theorem Bits.tl {b : Int} {r : List Int} (h : Bits (b :: r)) : Bits r := fun c hc => h c (List.Mem.tail _ hc)
theorem hr_is : ∀ (xs : List Int) (a r : Nat), Bits xs → IsR a r → IsR (hn a xs) (hr r xs)
  | [], a, r, _, h => h
  | b :: xs, a, r, hb, h => hr_is xs (2 * a + b.toNat) (hst r b.toNat) hb.tl (h.step (bit_le hb.hd))
theorem hn_app : ∀ (xs ys : List Int) (a : Nat), hn a (xs ++ ys) = hn (hn a xs) ys
  | [], _, _ => rfl
  | b :: xs, ys, a => hn_app xs ys _
theorem hn_lt : ∀ (xs : List Int) (a n : Nat), Bits xs → a < 2 ^ n → hn a xs < 2 ^ (n + xs.length)
  | [], a, n, _, h => h
  | b :: xs, a, n, hb, h => by
    have := hn_lt xs (2 * a + b.toNat) (n + 1) hb.tl (by have := bit_le hb.hd; rw [Nat.pow_succ]; omega)
    rw [show n + (b :: xs).length = n + 1 + xs.length by simp only [List.length_cons]; omega]
    exact this
def zs (n : Nat) : List Int := List.replicate n 0
theorem zs_bits (n : Nat) : Bits (zs n) := Bits.rep (.inl rfl) n
theorem hn_xor : ∀ (ys : List Int) (a c : Nat), Bits ys → hn (a ^^^ c) ys = hn a (zs ys.length) ^^^ hn c ys
  | [], a, c, _ => rfl
  | b :: ys, a, c, hb => by
    show hn (2 * (a ^^^ c) + b.toNat) ys = hn (2 * a) (zs ys.length) ^^^ hn (2 * c + b.toNat) ys
    rw [← hn_xor ys (2 * a) (2 * c + b.toNat) hb.tl]
    congr 1
    have h := bit_le hb.hd
    rw [add_bit h, add_bit h, two_xor, Nat.xor_assoc]
theorem hn_tail (xs ys : List Int) (hy : Bits ys) : hn 0 (xs ++ ys) = hn 0 (xs ++ zs ys.length) ^^^ hn 0 ys := by
  rw [hn_app, hn_app, ← hn_xor ys (hn 0 xs) 0 hy, Nat.xor_zero]
/-- the bits of a number -/
def bl (c n : Nat) : List Int := (List.range n).map fun k => ((c / 2 ^ (n - 1 - k) % 2 : Nat) : Int)
theorem bl_len (c n : Nat) : (bl c n).length = n := by simp [bl]
theorem bl_bits (c n : Nat) : Bits (bl c n) := fun b hb => by
  obtain ⟨k, _, rfl⟩ := List.mem_map.mp hb
  omega
theorem bl_succ (c n : Nat) : bl c (n + 1) = bl (c / 2) n ++ [((c % 2 : Nat) : Int)] := by
  unfold bl
  rw [List.range_succ, List.map_append]
  congr 1
  · refine List.map_congr_left fun k hk => ?_
    have := List.mem_range.mp hk
    rw [Nat.div_div_eq_div_mul, show n + 1 - 1 - k = (n - 1 - k) + 1 by omega, Nat.pow_succ, Nat.mul_comm]
  · simp
theorem hn_bl : ∀ (n c a : Nat), hn a (bl c n) = a * 2 ^ n + c % 2 ^ n
  | 0, c, a => by simp [bl, hn, Nat.mod_one]
  | n + 1, c, a => by
    rw [bl_succ, hn_app, hn_bl n (c / 2) a]
    show 2 * (a * 2 ^ n + c / 2 % 2 ^ n) + (((c % 2 : Nat) : Int)).toNat = _
    rw [Int.toNat_natCast, Nat.pow_succ, Nat.mul_comm (2 ^ n) 2, Nat.mod_mul]
    have : a * (2 * 2 ^ n) = 2 * (a * 2 ^ n) := by ac_rfl
    omega
theorem hn_bl0 {n c : Nat} (h : c < 2 ^ n) : hn 0 (bl c n) = c := by
  rw [hn_bl, Nat.zero_mul, Nat.zero_add, Nat.mod_eq_of_lt h]
theorem nb_small {a t : Nat} (h : a < 2 ^ t) : Builtin.Int.intBits (a : Int) ≤ t := bits_le (by omega)
theorem nb_big {a t : Nat} (h : 2 ^ t ≤ a) : t < Builtin.Int.intBits (a : Int) := by
  have hp : 0 < 2 ^ t := Nat.two_pow_pos t
  unfold Builtin.Int.intBits
  split
  · rename_i h0
    simp at h0
    omega
  · rename_i h0
    have h1 : a ≠ 0 := by omega
    have h2 : ¬ a.log2 < t := fun q => by
      have := (Nat.log2_lt h1).mp q
      omega
    rw [Int.natAbs_natCast]
    omega
theorem nb_eq {a t : Nat} (h1 : 2 ^ t ≤ a) (h2 : a < 2 ^ (t + 1)) : Builtin.Int.intBits (a : Int) = t + 1 := by
  have := nb_small h2
  have := nb_big h1
  omega
theorem nb_lt {a t : Nat} : Builtin.Int.intBits (a : Int) ≤ t → a < 2 ^ t := fun h => by
  by_cases q : a < 2 ^ t
  · exact q
  · have := nb_big (Nat.le_of_not_lt q)
    omega
end Bt

/-! The program's own number_of. -/
namespace Bt
open PySem L2
theorem bor1 {b : Nat} (a : Nat) (h : b ≤ 1) : Builtin.bitOr ((2 * a : Nat) : Int) (b : Int) = ((2 * a + b : Nat) : Int) := by
  rw [PyProof.Rows.bitOr_and, ba]
  have e : 2 * a &&& b = 0 := by
    rcases (show b = 0 ∨ b = 1 by omega) with rfl | rfl
    · exact Nat.and_zero _
    · rw [Nat.and_one_is_mod]; omega
  rw [e]
  omega
theorem number_loop : ∀ (xs : List Int) (a n : Nat), Bits xs → a < 2 ^ n → n + xs.length ≤ 1000000 → loopM (fun b s => m_number_of_L0 b s) xs (a : Int) = some ((hn a xs : Nat) : Int)
  | [], a, n, _, _, _ => rfl
  | b :: xs, a, n, hb, ha, hz => by
    simp only [List.length_cons] at hz
    have h1 := bit_le hb.hd
    have hf : m_number_of_L0 b a = some ((2 * a + b.toNat : Nat) : Int) := by
      unfold m_number_of_L0
      rw [shlG_ok (n := n) (by omega) (by decide) (by omega), bnd_some]
      have e : (a : Int) * 2 ^ (1 : Int).toNat = ((2 * a : Nat) : Int) := by
        rw [show (2 : Int) ^ (1 : Int).toNat = 2 from rfl]; omega
      have e2 : b = ((b.toNat : Nat) : Int) := by have := hb.hd; omega
      rw [e]
      conv => lhs; rw [e2]
      rw [bor1 a h1]
    rw [loopM_go hf]
    exact number_loop xs (2 * a + b.toNat) (n + 1) hb.tl (by rw [Nat.pow_succ]; omega) (by omega)
theorem number_ok (xs : List Int) (hb : Bits xs) (hz : xs.length ≤ 900000) : m_number_of xs = some ((hn 0 xs : Nat) : Int) := by
  unfold m_number_of
  rw [show (0 : Int) = ((0 : Nat) : Int) from rfl, number_loop xs 0 0 hb (by decide) (by omega), bnd_some]
end Bt

/-! The program's own divided. -/
namespace Bt
open PySem L2
theorem clm_pow (a : Nat) : ∀ t : Nat, clm a (2 ^ t) = a * 2 ^ t
  | 0 => by rw [Nat.pow_zero, clm_or, Nat.mul_one]
  | t + 1 => by rw [Nat.pow_succ, Nat.mul_comm (2 ^ t) 2, clm_tr, clm_pow a t]; ac_rfl
theorem div_loop {key s : Nat} (h1 : 2 ^ s ≤ key) (h2 : key < 2 ^ (s + 1)) (hs : s ≤ 10000) : ∀ (N n w fuel : Nat), n < 2 ^ N → N < fuel → N ≤ 1000000 →
    ∃ n' w' : Nat, whileM (fun s' => m_divided_W0c (key : Int) ((s + 1 : Nat) : Int) s'.1 s'.2) (fun s' => m_divided_W0 (key : Int) ((s + 1 : Nat) : Int) s'.1 s'.2) fuel ((n : Int), (w : Int)) = some ((n' : Int), (w' : Int)) ∧ n' < 2 ^ s ∧ n' ^^^ clm key w' = n ^^^ clm key w
  | _, _, _, 0, _, h, _ => absurd h (Nat.not_lt_zero _)
  | N, n, w, fuel + 1, hn, hf, hN => by
    by_cases c : n < 2 ^ s
    · have := nb_small c
      rw [whileM_stop (by show m_divided_W0c _ _ (n : Int) (w : Int) = some false; unfold m_divided_W0c; rw [decide_eq_false (by omega)])]
      exact ⟨n, w, rfl, c, rfl⟩
    · cases N with
      | zero =>
        have := Nat.two_pow_pos s
        simp at hn
        omega
      | succ N =>
        by_cases d : n < 2 ^ N
        · exact div_loop h1 h2 hs N n w (fuel + 1) d (by omega) (by omega)
        · have hsN : s ≤ N := by
            by_cases q : s ≤ N
            · exact q
            · have : 2 ^ (N + 1) ≤ 2 ^ s := Nat.pow_le_pow_right (by decide) (by omega)
              omega
          have hb := nb_eq (Nat.le_of_not_lt d) hn
          have hw : m_divided_W0 (key : Int) ((s + 1 : Nat) : Int) (n : Int) (w : Int) = some (((n ^^^ key * 2 ^ (N - s) : Nat) : Int), ((w ^^^ 2 ^ (N - s) : Nat) : Int)) := by
            unfold m_divided_W0
            have e : ((Builtin.Int.intBits (n : Int) : Int) - ((s + 1 : Nat) : Int)) = ((N - s : Nat) : Int) := by omega
            rw [ltv_eq, e, show (1 : Int) = ((1 : Nat) : Int) from rfl, shlN (n := 1) (N - s) (by decide) (by omega), bnd_some, ltv_eq, shlN (n := s + 1) (N - s) h2 (by omega), bnd_some, bx, bx, Nat.one_mul]
          rw [whileM_go (s' := (((n ^^^ key * 2 ^ (N - s) : Nat) : Int), ((w ^^^ 2 ^ (N - s) : Nat) : Int))) (by show m_divided_W0c _ _ (n : Int) (w : Int) = some true; unfold m_divided_W0c; rw [decide_eq_true (by omega)]) hw]
          have e3 : 2 ^ s * 2 ^ (N - s) = 2 ^ N := by rw [← Nat.pow_add, show s + (N - s) = N by omega]
          have e4 : 2 ^ (s + 1) * 2 ^ (N - s) = 2 ^ (N + 1) := by rw [← Nat.pow_add, show s + 1 + (N - s) = N + 1 by omega]
          have hp : 0 < 2 ^ (N - s) := Nat.two_pow_pos _
          have k1 : 2 ^ N ≤ key * 2 ^ (N - s) := by rw [← e3]; exact Nat.mul_le_mul_right _ h1
          have k2 : key * 2 ^ (N - s) < 2 ^ (N + 1) := by rw [← e4]; exact Nat.mul_lt_mul_of_pos_right h2 hp
          have h5 := xor_cancel (Nat.le_of_not_lt d) hn k1 k2
          obtain ⟨n', w', e5, e6, e7⟩ := div_loop h1 h2 hs N (n ^^^ key * 2 ^ (N - s)) (w ^^^ 2 ^ (N - s)) fuel h5 (by omega) (by omega)
          refine ⟨n', w', e5, e6, ?_⟩
          rw [e7, clm_xr, clm_pow, Nat.xor_comm (clm key w), Nat.xor_assoc, ← Nat.xor_assoc (key * 2 ^ (N - s)), Nat.xor_self, Nat.zero_xor]
termination_by N n w fuel => (fuel, N)
theorem divided_ok {key s n N : Nat} (h1 : 2 ^ s ≤ key) (h2 : key < 2 ^ (s + 1)) (hs : s ≤ 10000) (hn : n < 2 ^ N) (hN : N < 90000) :
    ∃ w r : Nat, m_divided n key = some (.ok ((w : Int), (r : Int))) ∧ r < 2 ^ s ∧ n = clm key w ^^^ r := by
  obtain ⟨r, w, e1, e2, e3⟩ := div_loop h1 h2 hs N n 0 FUEL hn (by unfold FUEL; omega) (by omega)
  have hp := Nat.two_pow_pos s
  refine ⟨w, r, ?_, e2, ?_⟩
  · unfold m_divided
    rw [decide_eq_false (by omega), ifB_f, ltv_eq, nb_eq h1 h2, show (0 : Int) = ((0 : Nat) : Int) from rfl, e1, bnd_some]
  · rw [clm_zero, Nat.xor_zero] at e3
    rw [← e3, Nat.xor_comm]
end Bt

/-! The program's own rest_of. -/
namespace Bt
open PySem L2
theorem rest_of_ok (xs : List Int) (hb : Bits xs) (hz : xs.length ≤ 80000) : m_rest_of xs = some ((hr 0 xs : Nat) : Int) := by
  have hl := hn_lt xs 0 0 hb (by decide)
  rw [Nat.zero_add] at hl
  obtain ⟨w, r, e1, e2, e3⟩ := divided_ok (key := 64647) (s := 15) (n := hn 0 xs) (N := xs.length) (by decide) (by decide) (by decide) hl (by omega)
  have hi := hr_is xs 0 0 hb (IsR.small (by decide))
  have e4 : r = hr 0 xs := IsR.uniq (n := hn 0 xs) ⟨e2, w, e3⟩ hi
  unfold m_rest_of
  rw [number_ok xs hb (by omega), bnd_some, show (64647 : Int) = ((64647 : Nat) : Int) from rfl, e1]
  show some (r : Int) = _
  rw [e4]
end Bt

/-! What a frame's bits are, plain. -/
namespace Bt
open PySem L2
def seg (xs : List Int) (a n : Nat) : List Int := (xs.drop a).take n
theorem seg_bits {xs : List Int} (h : Bits xs) (a n : Nat) : Bits (seg xs a n) := fun b hb => h b (List.mem_of_mem_drop (List.mem_of_mem_take hb))
theorem seg_len (xs : List Int) (a n : Nat) : (seg xs a n).length ≤ n := by
  unfold seg
  rw [List.length_take]
  omega
theorem cut_nat (xs : List Int) (a b : Nat) (h : a ≤ b) : cutL xs (some (a : Int)) (some (b : Int)) = seg xs a (b - a) := by
  unfold cutL seg
  rw [HT.sIx_nat, HT.sIx_nat]
  by_cases ha : a ≤ xs.length
  · rw [show min a xs.length = a by omega]
    by_cases hb : b ≤ xs.length
    · rw [show min b xs.length = b by omega]
    · rw [show min b xs.length = xs.length by omega, List.take_of_length_le (by rw [List.length_drop]; omega), List.take_of_length_le (by rw [List.length_drop]; omega)]
  · rw [show min a xs.length = xs.length by omega, List.drop_length, List.drop_eq_nil_of_le (by omega)]
    simp
theorem hn_seg3 {xs : List Int} (h : Bits xs) : hn 0 (seg xs 9 3) < 8 := by
  have h1 := hn_lt (seg xs 9 3) 0 0 (seg_bits h _ _) (by decide)
  have h2 := seg_len xs 9 3
  have : 2 ^ (0 + (seg xs 9 3).length) ≤ 2 ^ 3 := Nat.pow_le_pow_right (by decide) (by omega)
  omega
def RF (xs : List Int) : Option (Int × List Int) :=
  if xs.length < 27 ∨ xs[0]? = some 1 then none else
  if xs.length ≠ 27 + 8 * hn 0 (seg xs 9 3) ∨ hr 0 xs ≠ 0 then none else
  some (((hn 0 (seg xs 1 8) : Nat) : Int), (List.range (hn 0 (seg xs 9 3))).map fun k => ((hn 0 (seg xs (12 + 8 * k) 8) : Nat) : Int))
def rsF (x : Option (Int × List Int)) : Rs (Int × List Int) := match x with
  | some f => .ok f
  | none => .er .NoFrame
theorem range_snoc {α : Type} (f : Nat → α) (k : Nat) : (List.range (k + 1)).map f = (List.range k).map f ++ [f k] := by
  rw [List.range_succ, List.map_append]; rfl
end Bt

/-! The program's own read_frame. -/
namespace Bt
open PySem L2
theorem read_frame_ok (xs : List Int) (hb : Bits xs) (hz : xs.length ≤ 70000) : m_read_frame xs = some (rsF (RF xs)) := by
  unfold m_read_frame RF
  by_cases h1 : xs.length < 27
  · rw [if_pos (.inl h1)]
    have h2 : (xs.length : Int) < 27 := by omega
    rw [decide_eq_true h2, ifB_t, bnd_some, ifB_t]
    rfl
  · have h27 : ¬ ((xs.length : Int) < 27) := by omega
    have h0 : xs[0]? = some (xs[0]'(by omega)) := List.getElem?_eq_getElem (by omega)
    have ha : atI xs 0 = some (xs[0]'(by omega)) := by rw [atI_ok (by omega) (by omega)]; exact h0
    have hx : xs[0]'(by omega) = 0 ∨ xs[0]'(by omega) = 1 := hb _ (List.getElem_mem _)
    have hs3 := number_ok (seg xs 9 3) (seg_bits hb _ _) (by have := seg_len xs 9 3; omega)
    have hc : cutL xs (some (9 : Int)) (some (12 : Int)) = seg xs 9 3 := cut_nat xs 9 12 (by omega)
    have h8 := hn_seg3 hb
    have hrest := rest_of_ok xs hb (by omega)
    rw [decide_eq_false h27, ifB_f, ha, bnd_some, bnd_some]
    rcases hx with hx | hx
    · rw [hx, decide_eq_false (by decide), ifB_f, hc, hs3, bnd_some]
      rw [if_neg (by rw [h0, hx]; simp; omega)]
      generalize hn 0 (seg xs 9 3) = n at h8
      by_cases hl : xs.length = 27 + 8 * n
      · have hl' : (xs.length : Int) = 27 + 8 * (n : Int) := by omega
        rw [decide_eq_true hl', Bool.not_true, ifB_f, hrest, bnd_some, bnd_some]
        by_cases hr0 : hr 0 xs = 0
        · rw [hr0, if_neg (by simp [hl])]
          have e0 : (!decide (((0 : Nat) : Int) = 0)) = false := by simp
          rw [e0, ifB_f, rng1_ok (by omega) (by omega), bnd_some]
          obtain ⟨out, e1, k, hk, e2⟩ := loopM_rng (f := fun k_27 (s : List Int) => m_read_frame_L0 xs k_27 s) (hi := (n : Int)) (fun i s => ∃ k : Nat, i = k ∧ s = (List.range k).map fun k => ((hn 0 (seg xs (12 + 8 * k) 8) : Nat) : Int)) (by
            rintro i s hi ⟨k, rfl, rfl⟩
            unfold m_read_frame_L0
            have hc2 : cutL xs (some ((12 : Int) + 8 * (k : Int))) (some ((12 : Int) + 8 * (k : Int) + 8)) = seg xs (12 + 8 * k) 8 := by
              have := cut_nat xs (12 + 8 * k) (12 + 8 * k + 8) (by omega)
              rw [show 12 + 8 * k + 8 - (12 + 8 * k) = 8 by omega] at this
              rw [← this]
              congr 2 <;> omega
            rw [hc2, number_ok _ (seg_bits hb _ _) (by have := seg_len xs (12 + 8 * k) 8; omega), bnd_some, appG_ok (by simp; omega), bnd_some]
            exact ⟨_, rfl, k + 1, by omega, (range_snoc _ k).symm⟩) n 0 [] (by omega) (by omega) ⟨0, rfl, rfl⟩
          have hkn : k = n := by omega
          subst hkn
          rw [e1, bnd_some, e2]
          have hc3 : cutL xs (some (1 : Int)) (some (9 : Int)) = seg xs 1 8 := cut_nat xs 1 9 (by omega)
          rw [hc3, number_ok _ (seg_bits hb _ _) (by have := seg_len xs 1 8; omega), bnd_some]
          rfl
        · rw [if_pos (.inr hr0)]
          have e0 : (!decide (((hr 0 xs : Nat) : Int) = 0)) = true := by simp; omega
          rw [e0, ifB_t]
          rfl
      · have hl' : ¬ ((xs.length : Int) = 27 + 8 * (n : Int)) := by omega
        rw [decide_eq_false hl', Bool.not_false, ifB_t, bnd_some, ifB_t, if_pos (.inl hl)]
        rfl
    · rw [hx, decide_eq_true rfl, ifB_t, if_pos (.inr (by rw [h0, hx]))]
      rfl
end Bt

/-! Bits put in: the plain scan of a wire. -/
namespace Bt
open PySem L2
theorem sum_bits : ∀ {xs : List Int}, Bits xs → 0 ≤ xs.sum ∧ xs.sum ≤ xs.length
  | [], _ => by simp
  | x :: r, h => by
    have ih := sum_bits (xs := r) fun b hb => h b (List.Mem.tail _ hb)
    have hx := h x (List.Mem.head _)
    simp only [List.sum_cons, List.length_cons]
    omega
theorem sum_rep (n : Nat) (b : Int) : (List.replicate n b).sum = n * b := by
  induction n with
  | zero => simp
  | succ n ih =>
    rw [List.replicate_succ, List.sum_cons, ih]
    rw [Int.natCast_succ, Int.add_mul, Int.one_mul, Int.add_comm]
def Ends' (wire : List Int) (n : Nat) (b : Int) : Prop := ∃ t : List Int, wire = t ++ List.replicate n b ∧ ∀ u x, t = u ++ [x] → x ≠ b
theorem ends_more {wire : List Int} {n : Nat} {b : Int} (e : Ends' wire n b) : Ends' (wire ++ [b]) (n + 1) b := by
  obtain ⟨t, rfl, ht⟩ := e
  exact ⟨t, by rw [List.append_assoc, List.replicate_succ'], ht⟩
theorem ends_new {wire : List Int} {b : Int} (h : ∀ u x, wire = u ++ [x] → x ≠ b) : Ends' (wire ++ [b]) 1 b := ⟨wire, rfl, h⟩
theorem ends_last {wire : List Int} {n : Nat} {b : Int} (e : Ends' wire n b) (h1 : 1 ≤ n) : ∀ u x, wire = u ++ [x] → x = b := fun u x q => by
  obtain ⟨t, rfl, _⟩ := e
  obtain ⟨m, rfl⟩ : ∃ m, n = m + 1 := ⟨n - 1, by omega⟩
  rw [List.replicate_succ', ← List.append_assoc] at q
  exact (List.append_inj_right' q rfl |> List.singleton_inj.mp).symm
theorem Ends'.le {p : List Int} {n : Nat} {b : Int} (e : Ends' p n b) : n ≤ p.length := by
  obtain ⟨t, rfl, _⟩ := e
  simp
theorem lastk {p : List Int} {n k : Nat} {b : Int} (hb : b = 0 ∨ b = 1) (hw : Bits p) (e : Ends' p n b) (h1 : 1 ≤ n) (hk : n ≤ k) (hl : k ≤ p.length) :
    (n = k → (p.drop (p.length - k)).sum = k * b) ∧ (n ≠ k → 0 < (p.drop (p.length - k)).sum ∧ (p.drop (p.length - k)).sum < k) := by
  obtain ⟨t, rfl, ht⟩ := e
  have hlen : (t ++ List.replicate n b).length = t.length + n := by simp
  rw [hlen] at hl ⊢
  refine ⟨fun h => ?_, fun h => ?_⟩
  · subst h
    rw [Nat.add_sub_cancel, List.drop_left, sum_rep]
  · have ht0 : t ≠ [] := fun q => by subst q; simp at hl; omega
    obtain ⟨u, x, rfl⟩ : ∃ u x, t = u ++ [x] := ⟨t.dropLast, t.getLast ht0, (List.dropLast_concat_getLast ht0).symm⟩
    have hx := ht u x rfl
    have hx2 : x = 0 ∨ x = 1 := hw x (by simp)
    have e1 : (u ++ [x] ++ List.replicate n b).drop ((u ++ [x]).length + n - k) = u.drop (u.length + 1 + n - k) ++ ([x] ++ List.replicate n b) := by
      rw [List.append_assoc, List.length_append, List.length_singleton]
      rw [List.drop_append_of_le_length (by omega)]
    rw [e1, List.sum_append, List.sum_append, sum_rep]
    have hu := sum_bits (xs := u.drop (u.length + 1 + n - k)) (fun c hc => hw c (by
      have := List.mem_of_mem_drop hc
      simp [this]))
    have hlu : (u.drop (u.length + 1 + n - k)).length = k - 1 - n := by
      rw [List.length_drop]
      simp only [List.length_append, List.length_singleton] at hl
      omega
    rw [hlu] at hu
    have hs : [x].sum = x := by simp
    rw [hs]
    rcases hb with rfl | rfl <;> rcases hx2 with rfl | rfl <;> simp at hx ⊢ <;> omega
/-- a wire so far, without six alike -/
def PI (p : List Int) (n : Nat) (b : Int) : Prop := (p = [] ∧ n = 0 ∧ b = -1) ∨ (Ends' p n b ∧ 1 ≤ n ∧ n ≤ 5 ∧ (b = 0 ∨ b = 1))
def nr (n : Nat) (b x : Int) : Nat := if x = b then n + 1 else 1
theorem PI.go {p : List Int} {n : Nat} {b x : Int} (I : PI p n b) (hx : x = 0 ∨ x = 1) : Ends' (p ++ [x]) (nr n b x) x := by
  unfold nr
  rcases I with ⟨rfl, rfl, rfl⟩ | ⟨e, h1, h5, hb⟩
  · rw [if_neg (by omega)]
    exact ends_new (fun u x q => by simp at q)
  · by_cases q : x = b
    · subst q
      rw [if_pos rfl]
      exact ends_more e
    · rw [if_neg q]
      exact ends_new (fun u y z => by
        rw [ends_last e h1 u y z]
        exact fun z => q z.symm)
theorem PI.le {p : List Int} {n : Nat} {b : Int} (I : PI p n b) : n ≤ 5 := by
  rcases I with ⟨_, rfl, _⟩ | ⟨_, _, h, _⟩ <;> omega
theorem nr_pos {n : Nat} {b x : Int} : 1 ≤ nr n b x := by unfold nr; split <;> omega
theorem nr_le {n : Nat} {b x : Int} (h : n ≤ 5) : nr n b x ≤ 6 := by unfold nr; split <;> omega
theorem nr_5 {n : Nat} {b x : Int} (h : n ≤ 5) (q : ¬ (n = 5 ∧ x = b)) : nr n b x ≤ 5 := by
  unfold nr
  split
  · by_cases c : n = 5
    · exact absurd ⟨c, by assumption⟩ q
    · omega
  · omega
theorem PI.step {p : List Int} {n : Nat} {b x : Int} (I : PI p n b) (hx : x = 0 ∨ x = 1) (q : ¬ (n = 5 ∧ x = b)) : PI (p ++ [x]) (nr n b x) x :=
  .inr ⟨I.go hx, nr_pos, nr_5 I.le q, hx⟩
/-- the wire read: the place of a sixth alike one, or how many alike ones it ends with and the bits without those put in -/
def scan : Nat → Int → Nat → List Int → List Int → Nat ⊕ (Nat × List Int)
  | n, _, _, acc, [] => .inr (n, acc)
  | n, b, at_, acc, x :: r => if n = 5 ∧ x = b then .inl at_ else scan (nr n b x) x (at_ + 1) (if n = 5 then acc else acc ++ [x]) r
theorem scan_in {n : Nat} {b x : Int} {at_ : Nat} {acc r : List Int} (h : n = 5 ∧ x = b) : scan n b at_ acc (x :: r) = .inl at_ := by
  rw [scan, if_pos h]
theorem scan_go {n : Nat} {b x : Int} {at_ : Nat} {acc r : List Int} (h : ¬ (n = 5 ∧ x = b)) : scan n b at_ acc (x :: r) = scan (nr n b x) x (at_ + 1) (if n = 5 then acc else acc ++ [x]) r := by
  rw [scan, if_neg h]
/-- what is told of a wire -/
def UT (w : List Int) : Nat ⊕ List Int := match scan 0 (-1) 0 [] w with
  | .inl a => .inl a
  | .inr x => if x.1 = 5 then .inl w.length else .inr x.2
theorem scan_len : ∀ (r : List Int) (n : Nat) (b : Int) (at_ : Nat) (acc : List Int) (m : Nat) (out : List Int), scan n b at_ acc r = .inr (m, out) → out.length ≤ acc.length + r.length
  | [], n, b, at_, acc, m, out, h => by
    cases h
    simp
  | x :: r, n, b, at_, acc, m, out, h => by
    by_cases q : n = 5 ∧ x = b
    · rw [scan_in q] at h
      cases h
    · rw [scan_go q] at h
      have := scan_len r _ _ _ _ m out h
      split at this <;> simp at this ⊢ <;> omega
theorem scan_at : ∀ (r : List Int) (n : Nat) (b : Int) (at_ : Nat) (acc : List Int) (a : Nat), scan n b at_ acc r = .inl a → at_ ≤ a ∧ a < at_ + r.length
  | [], n, b, at_, acc, a, h => by cases h
  | x :: r, n, b, at_, acc, a, h => by
    by_cases q : n = 5 ∧ x = b
    · rw [scan_in q] at h
      cases h
      simp
    · rw [scan_go q] at h
      have := scan_at r _ _ _ _ a h
      simp
      omega
theorem scan_bits : ∀ (r : List Int) (n : Nat) (b : Int) (at_ : Nat) (acc : List Int) (m : Nat) (out : List Int), Bits r → Bits acc → scan n b at_ acc r = .inr (m, out) → Bits out
  | [], n, b, at_, acc, m, out, _, hb, h => by
    cases h
    exact hb
  | x :: r, n, b, at_, acc, m, out, hr, hb, h => by
    by_cases q : n = 5 ∧ x = b
    · rw [scan_in q] at h
      cases h
    · rw [scan_go q] at h
      refine scan_bits r _ _ _ _ m out (fun c hc => hr c (List.Mem.tail _ hc)) ?_ h
      split
      · exact hb
      · exact hb.app (Bits.one (hr x (List.Mem.head _)))
theorem UT_bits {w out : List Int} (h : Bits w) (e : UT w = .inr out) : Bits out ∧ out.length ≤ w.length := by
  unfold UT at e
  cases hs : scan 0 (-1) 0 [] w with
  | inl a => rw [hs] at e; cases e
  | inr x =>
    rw [hs] at e
    dsimp only at e
    split at e
    · cases e
    · cases e
      exact ⟨scan_bits w _ _ _ [] _ _ h (show Bits [] from fun _ h => nomatch h) hs, by have := scan_len w _ _ _ _ _ _ hs; simpa using this⟩
/-- the law's look at places behind -/
theorem win (p r : List Int) (k : Nat) (h : k ≤ p.length) : cutL (p ++ r) (some ((p.length : Int) - (k : Int))) (some (p.length : Int)) = p.drop (p.length - k) := by
  unfold cutL
  rw [show ((p.length : Int) - (k : Int)) = ((p.length - k : Nat) : Int) by omega, HT.sIx_nat, HT.sIx_nat]
  rw [show min (p.length - k) (p ++ r).length = p.length - k by simp; omega, show min p.length (p ++ r).length = p.length by simp]
  rw [List.drop_append_of_le_length (by omega)]
  exact List.take_left' (by rw [List.length_drop])
theorem cutk (w : List Int) (k : Nat) (h : k ≤ w.length) : cutL w (some ((w.length : Int) - (k : Int))) none = w.drop (w.length - k) := by
  unfold cutL
  rw [show ((w.length : Int) - (k : Int)) = ((w.length - k : Nat) : Int) by omega, HT.sIx_nat, show HT.sIx w.length w.length none = w.length from rfl, show min (w.length - k) w.length = w.length - k by omega]
  exact List.take_of_length_le (by simp)
theorem five {p : List Int} {n : Nat} {b : Int} (hp : Bits p) (I : PI p n b) : ((decide ((4 : Int) < (List.length p : Int))) && (decide (((List.sum (cutL p (some ((List.length p : Int) - (5 : Int))) none)) % (5 : Int)) = (0 : Int)))) = decide (n = 5) := by
  rcases I with ⟨rfl, rfl, rfl⟩ | ⟨e, h1, h5, hb⟩
  · rfl
  · have hle := e.le
    by_cases hl : 5 ≤ p.length
    · have h := lastk hb hp e h1 h5 hl
      have hc := cutk p 5 hl
      rw [show ((p.length : Int) - ((5 : Nat) : Int)) = (p.length : Int) - 5 from rfl] at hc
      rw [hc, decide_eq_true (by omega), Bool.true_and]
      by_cases q : n = 5
      · rw [h.1 q, decide_eq_true q, decide_eq_true (by omega)]
      · have := h.2 q
        rw [decide_eq_false q, decide_eq_false (by omega)]
    · rw [decide_eq_false (by omega), Bool.false_and, decide_eq_false (by omega)]
end Bt

/-! The program's own Reader. -/
namespace Bt
open PySem L2
def LN (kept : List Int) : Nat := 27 + 8 * hn 0 (seg kept 9 3)
def jd (kept : List Int) (n : Nat) : Str := if n = 6 then "six" else if kept.length < 12 ∨ n = 5 ∨ kept.length < LN kept then "more" else if hr 0 kept = 0 then "whole" else "bad"
theorem judged_ok {kept : List Int} {n : Nat} {b : Int} {lt : Str} (hb : Bits kept) (hz : kept.length ≤ 60000) : m_Reader_judged (S_Reader.mk kept b n lt) = some (jd kept n) := by
  unfold m_Reader_judged jd
  dsimp only
  by_cases c6 : n = 6
  · rw [decide_eq_true (show (n : Int) = 6 by omega), ifB_t, if_pos c6]
  · rw [decide_eq_false (show ¬ (n : Int) = 6 by omega), ifB_f, if_neg c6]
    by_cases c12 : kept.length < 12
    · rw [decide_eq_true (show (kept.length : Int) < 12 by omega), Bool.true_or, ifB_t, if_pos (.inl c12)]
    · rw [decide_eq_false (show ¬ (kept.length : Int) < 12 by omega), Bool.false_or]
      by_cases c5 : n = 5
      · rw [decide_eq_true (show (n : Int) = 5 by omega), ifB_t, if_pos (.inr (.inl c5))]
      · have hc : cutL kept (some (9 : Int)) (some (12 : Int)) = seg kept 9 3 := cut_nat kept 9 12 (by omega)
        rw [decide_eq_false (show ¬ (n : Int) = 5 by omega), ifB_f, hc, number_ok (seg kept 9 3) (seg_bits hb _ _) (by have := seg_len kept 9 3; omega), bnd_some]
        by_cases cl : kept.length < LN kept
        · have cl' := cl
          unfold LN at cl'
          rw [decide_eq_true (by omega), ifB_t, if_pos (.inr (.inr cl))]
        · have cl' := cl
          unfold LN at cl'
          rw [decide_eq_false (by omega), ifB_f, if_neg (by omega), rest_of_ok kept hb (by omega), bnd_some]
          by_cases c0 : hr 0 kept = 0
          · rw [decide_eq_true (by omega), ifB_t, if_pos c0]
          · rw [decide_eq_false (by omega), ifB_f, if_neg c0]
def kp (kept : List Int) (n : Nat) (x : Int) : List Int := if n = 5 then kept else kept ++ [x]
theorem kp_bits {kept : List Int} {n : Nat} {x : Int} (hb : Bits kept) (hx : x = 0 ∨ x = 1) : Bits (kp kept n x) := by
  unfold kp
  split
  · exact hb
  · exact hb.app (Bits.one hx)
theorem kp_len {kept : List Int} {n : Nat} {x : Int} : (kp kept n x).length ≤ kept.length + 1 := by
  unfold kp
  split <;> simp
theorem hear_ok {kept : List Int} {n : Nat} {b x : Int} {lt : Str} (hb : Bits kept) (hx : x = 0 ∨ x = 1) (hz : kept.length ≤ 50000) :
    m_Reader_hear (S_Reader.mk kept b n lt) x = some (S_Reader.mk (kp kept n x) x (nr n b x : Nat) (jd (kp kept n x) (nr n b x)), jd (kp kept n x) (nr n b x)) := by
  have hl := kp_len (kept := kept) (n := n) (x := x)
  have hj := judged_ok (n := nr n b x) (b := x) (lt := lt) (kp_bits (n := n) hb hx) (by omega)
  unfold m_Reader_hear
  dsimp only [ltv_eq]
  have e1 : (ifB (decide (x = b)) (some (S_Reader.mk kept b ((n : Int) + 1) lt)) (some (S_Reader.mk kept b 1 lt))) = some (S_Reader.mk kept b (nr n b x : Nat) lt) := by
    unfold nr
    by_cases c : x = b
    · rw [decide_eq_true c, ifB_t, if_pos c]; rfl
    · rw [decide_eq_false c, ifB_f, if_neg c]; rfl
  rw [e1, bnd_some]
  unfold kp at hj hl ⊢
  by_cases c : n = 5
  · rw [if_pos c] at hj hl ⊢
    rw [decide_eq_true (show (n : Int) = 5 by omega), Bool.not_true, ifB_f, bnd_some, hj, bnd_some]
  · rw [if_neg c] at hj hl ⊢
    dsimp only
    rw [decide_eq_false (show ¬ (n : Int) = 5 by omega), Bool.not_false, ifB_t, appG_ok (by omega), bnd_some, bnd_some, hj, bnd_some]
/-- the bits so far are no more than the frame's -/
def Jk (kept : List Int) (n : Nat) : Prop := kept.length ≤ LN kept ∧ (kept.length = LN kept → n = 5)
theorem seg_app {kept ys : List Int} (h : 12 ≤ kept.length) : seg (kept ++ ys) 9 3 = seg kept 9 3 := by
  unfold seg
  rw [List.drop_append_of_le_length (by omega), List.take_append_of_le_length (by rw [List.length_drop]; omega)]
theorem Jk.go {kept : List Int} {n : Nat} {x : Int} (J : Jk kept n) : (kp kept n x).length ≤ LN (kp kept n x) := by
  unfold kp
  split
  · exact J.1
  · rename_i c
    by_cases h : 12 ≤ kept.length
    · have : LN (kept ++ [x]) = LN kept := by unfold LN; rw [seg_app h]
      rw [this]
      have := J.1
      have h2 : kept.length ≠ LN kept := fun e => c (J.2 e)
      simp
      omega
    · unfold LN
      simp
      omega
theorem Jk.more {kept : List Int} {n n' : Nat} {x : Int} (J : Jk kept n) (h : (kp kept n x).length < 12 ∨ n' = 5 ∨ (kp kept n x).length < LN (kp kept n x)) : Jk (kp kept n x) n' := by
  refine ⟨J.go, fun e => ?_⟩
  rcases h with h | h | h
  · unfold LN at e
    omega
  · exact h
  · omega
end Bt

set_option maxRecDepth 100000
/-! The bits of a frame, plain (the program-free lines of restof and frame). -/
namespace Bt
open PySem L2
/-- the check as a number -/
def ck (xs : List Int) : Nat := hr 0 (xs ++ zs 15)
theorem ck_is (xs : List Int) (hb : Bits xs) : IsR (hn 0 (xs ++ zs 15)) (ck xs) := hr_is _ 0 0 (hb.app (zs_bits 15)) (IsR.small (by decide))
theorem ck_lt (xs : List Int) (hb : Bits xs) : ck xs < 32768 := (ck_is xs hb).1
/-- the rest of bits with fifteen others behind -/
theorem hr_with (xs : List Int) (hb : Bits xs) {c : Nat} (hc : c < 32768) : hr 0 (xs ++ bl c 15) = ck xs ^^^ c := by
  have h1 := hr_is (xs ++ bl c 15) 0 0 (hb.app (bl_bits c 15)) (IsR.small (by decide))
  have h2 := hn_tail xs (bl c 15) (bl_bits c 15)
  rw [bl_len, hn_bl0 (n := 15) hc] at h2
  rw [h2] at h1
  exact IsR.uniq h1 ((ck_is xs hb).xor (IsR.small hc))
theorem hr_lt (xs : List Int) (hb : Bits xs) : hr 0 xs < 32768 := (hr_is xs 0 0 hb (IsR.small (by decide))).1
def bs (D : List Nat) : List Int := (D.map fun d => bl d 8).flatten
theorem bs_bits (D : List Nat) : Bits (bs D) := fun b hb => by
  obtain ⟨l, hl, hb⟩ := List.mem_flatten.mp hb
  obtain ⟨d, _, rfl⟩ := List.mem_map.mp hl
  exact bl_bits _ _ b hb
theorem bs_len : ∀ D : List Nat, (bs D).length = 8 * D.length
  | [] => rfl
  | d :: r => by
    show (bl d 8 ++ bs r).length = _
    rw [List.length_append, bl_len, bs_len r, List.length_cons]
    omega
def hd (name : Nat) (D : List Nat) : List Int := [0] ++ bl name 8 ++ bl D.length 3 ++ bs D
theorem hd_bits (name : Nat) (D : List Nat) : Bits (hd name D) := (((Bits.one (.inl rfl)).app (bl_bits _ _)).app (bl_bits _ _)).app (bs_bits D)
theorem hd_len (name : Nat) (D : List Nat) : (hd name D).length = 12 + 8 * D.length := by
  unfold hd
  rw [List.length_append, List.length_append, List.length_append, bl_len, bl_len, bs_len]
  simp only [List.length_cons, List.length_nil]
def fb (name : Nat) (D : List Nat) : List Int := hd name D ++ bl (ck (hd name D)) 15
theorem fb_bits (name : Nat) (D : List Nat) : Bits (fb name D) := (hd_bits name D).app (bl_bits _ _)
theorem fb_len (name : Nat) (D : List Nat) : (fb name D).length = 27 + 8 * D.length := by
  unfold fb
  rw [List.length_append, hd_len, bl_len]
  omega
theorem fb_rest (name : Nat) (D : List Nat) : hr 0 (fb name D) = 0 := by
  unfold fb
  rw [hr_with _ (hd_bits name D) (ck_lt _ (hd_bits name D)), Nat.xor_self]
end Bt

/-! A frame's own bits read as the frame: plain (the lines of frd over fbp). -/
namespace Bt
open PySem L2
theorem seg_mid (A B C : List Int) : seg (A ++ B ++ C) A.length B.length = B := by
  unfold seg
  rw [List.append_assoc, List.drop_left, List.take_left]
theorem seg_bs : ∀ (D : List Nat) (A C : List Int) (k d : Nat), D[k]? = some d → seg (A ++ bs D ++ C) (A.length + 8 * k) 8 = bl d 8
  | d' :: D, A, C, 0, d, h => by
    have h := Option.some.inj h
    subst h
    have e : A ++ bs (d' :: D) ++ C = A ++ bl d' 8 ++ (bs D ++ C) := by
      show A ++ (bl d' 8 ++ bs D) ++ C = _
      simp
    rw [e]
    have := seg_mid A (bl d' 8) (bs D ++ C)
    rw [bl_len] at this
    exact this
  | d' :: D, A, C, k + 1, d, h => by
    have e : A ++ bs (d' :: D) ++ C = (A ++ bl d' 8) ++ bs D ++ C := by
      show A ++ (bl d' 8 ++ bs D) ++ C = _
      simp
    rw [e]
    have := seg_bs D (A ++ bl d' 8) C k d (by simpa using h)
    rw [List.length_append, bl_len] at this
    rw [show A.length + 8 * (k + 1) = A.length + 8 + 8 * k by omega]
    exact this
theorem RF_fb (name : Nat) (D : List Nat) (hN : name < 256) (hD : ∀ d ∈ D, d < 256) (hl : D.length ≤ 7) : RF (fb name D) = some ((name : Int), ci D) := by
  have e0 : fb name D = [0] ++ bl name 8 ++ (bl D.length 3 ++ bs D ++ bl (ck (hd name D)) 15) := by unfold fb hd; simp
  have e1 : fb name D = ([0] ++ bl name 8) ++ bl D.length 3 ++ (bs D ++ bl (ck (hd name D)) 15) := by unfold fb hd; simp
  have e2 : fb name D = ([0] ++ bl name 8 ++ bl D.length 3) ++ bs D ++ bl (ck (hd name D)) 15 := by unfold fb hd; simp
  have s1 : seg (fb name D) 1 8 = bl name 8 := by
    rw [e0]
    have := seg_mid [0] (bl name 8) (bl D.length 3 ++ bs D ++ bl (ck (hd name D)) 15)
    rw [bl_len] at this
    exact this
  have s2 : seg (fb name D) 9 3 = bl D.length 3 := by
    rw [e1]
    have := seg_mid ([0] ++ bl name 8) (bl D.length 3) (bs D ++ bl (ck (hd name D)) 15)
    rw [bl_len, List.length_append, bl_len] at this
    exact this
  have n2 : hn 0 (bl D.length 3) = D.length := hn_bl0 (by omega)
  have n1 : hn 0 (bl name 8) = name := hn_bl0 (by omega)
  unfold RF
  rw [s1, s2, n1, n2, if_neg (by
    have h0 : (fb name D)[0]? = some 0 := by rw [e0]; rfl
    rw [h0, fb_len]
    simp), if_neg (by
    rw [fb_rest, fb_len]
    omega)]
  congr 2
  unfold ci
  refine List.ext_getElem? fun k => ?_
  rw [List.getElem?_map, List.getElem?_map]
  by_cases h : k < D.length
  · rw [List.getElem?_range h, List.getElem?_eq_getElem h]
    have s3 := seg_bs D ([0] ++ bl name 8 ++ bl D.length 3) (bl (ck (hd name D)) 15) k D[k] (List.getElem?_eq_getElem h)
    rw [← e2, List.length_append, List.length_append, bl_len, bl_len] at s3
    rw [show [(0 : Int)].length + 8 + 3 + 8 * k = 12 + 8 * k by simp] at s3
    show some (((hn 0 (seg (fb name D) (12 + 8 * k) 8) : Nat)) : Int) = some ((D[k] : Nat) : Int)
    rw [s3, hn_bl0 (hD _ (List.getElem_mem h))]
  · rw [List.getElem?_eq_none (by simp; omega), List.getElem?_eq_none (by omega)]
    rfl
end Bt

namespace Bt
open PySem L2
theorem hst_ltK {r b : Nat} (h : r < 32768) (hb : b ≤ 1) : hst r b < 32768 := (IsR.step (IsR.small h) hb).1
theorem rep_ok (x : Int) (n : Nat) (h : n ≤ 1000) : repG [x] (n : Int) = some (List.replicate n x) := by
  rw [repG_ok (by omega) (by omega) (by simp; omega)]
  congr 1
  rw [show (n : Int).toNat = n from rfl]
  clear h
  induction n with
  | zero => rfl
  | succ n ih => rw [List.replicate_succ, List.flatten_cons, ih, List.replicate_succ]; rfl
theorem ends_rep {p : List Int} {n : Nat} {b : Int} (e : Ends' p n b) : p.drop (p.length - n) = List.replicate n b := by
  obtain ⟨t, rfl, _⟩ := e
  rw [show (t ++ List.replicate n b).length - n = t.length by simp, List.drop_left]
theorem last5 {p : List Int} {n : Nat} {b : Int} (hb : b = 0 ∨ b = 1) (hw : Bits p) (e : Ends' p n b) (h1 : 1 ≤ n) (h5 : n ≤ 5) : decide ((cutL p (some (-(5 : Int))) none) = List.replicate 5 b) = decide (n = 5) := by
  have hc : cutL p (some (-(5 : Int))) none = p.drop (p.length - 5) := by
    unfold cutL
    have e1 : HT.sIx p.length 0 (some (-(5 : Int))) = p.length - 5 := by
      unfold HT.sIx
      simp
      omega
    rw [e1, show HT.sIx p.length p.length none = p.length from rfl]
    exact List.take_of_length_le (by simp)
  rw [hc]
  by_cases h : n = 5
  · subst h
    rw [ends_rep e, decide_eq_true rfl, decide_eq_true rfl]
  · rw [decide_eq_false h]
    refine decide_eq_false fun q => ?_
    by_cases hl : 5 ≤ p.length
    · have := (lastk hb hw e h1 h5 hl).2 h
      rw [q, sum_rep] at this
      rcases hb with rfl | rfl <;> omega
    · have := congrArg List.length q
      simp at this
      omega
theorem lw_step {p : List Int} {n : Nat} {b x : Int} (hp : Bits p) (I : PI p n b) (h4 : n ≤ 4) (hx : x = 0 ∨ x = 1) (hz : p.length ≤ 100000) :
    m__law_wire_L0 x p = some (if nr n b x = 5 then p ++ [x] ++ [1 - x] else p ++ [x]) := by
  unfold m__law_wire_L0
  rw [appG_ok (by omega), bnd_some, show (5 : Int) = ((5 : Nat) : Int) from rfl, rep_ok x 5 (by decide), bnd_some, show (((5 : Nat)) : Int) = 5 from rfl, last5 hx (hp.app (Bits.one hx)) (I.go hx) nr_pos (nr_5 I.le (by omega))]
  by_cases c : nr n b x = 5
  · rw [decide_eq_true c, ifB_t, if_pos c, appG_ok (by simp; omega), bnd_some]
  · rw [decide_eq_false c, ifB_f, if_neg c]
theorem lw_on : ∀ (xs p : List Int) (n : Nat) (b : Int), Bits p → Bits xs → PI p n b → n ≤ 4 → p.length + 2 * xs.length ≤ 90000 →
    ∃ r, loopM (fun x s => m__law_wire_L0 x s) xs p = some (p ++ r) ∧ Bits r ∧ r.length ≤ 2 * xs.length ∧ xs.length ≤ r.length ∧ (∀ at_ acc, ∃ m, scan n b at_ acc r = .inr (m, acc ++ xs) ∧ m ≤ 4) ∧ ∀ x t, xs = x :: t → ∃ u, r = x :: u
  | [], p, n, b, hp, hx, I, h4, hz => ⟨[], by simp [loopM], fun _ h => (nomatch h), by simp, by simp, fun at_ acc => ⟨n, by simp [scan], h4⟩, fun x t h => (nomatch h)⟩
  | x :: xs, p, n, b, hp, hxs, I, h4, hz => by
    simp only [List.length_cons] at hz
    have hx := hxs x (List.Mem.head _)
    have hx' : Bits xs := fun c hc => hxs c (List.Mem.tail _ hc)
    have hs := lw_step hp I h4 hx (by omega)
    have I2 := I.step hx (by omega)
    have h5 : nr n b x ≤ 5 := nr_5 I.le (by omega)
    rw [loopM_go (f := fun x s => m__law_wire_L0 x s) hs]
    by_cases c : nr n b x = 5
    · rw [if_pos c]
      have hy : 1 - x = 0 ∨ 1 - x = 1 := by omega
      have hne : 1 - x ≠ x := by omega
      have I3 := I2.step hy (fun h => hne h.2)
      have e1 : nr (nr n b x) x (1 - x) = 1 := by rw [nr, if_neg hne]
      rw [e1] at I3
      obtain ⟨r, h1, h2, h3, h3', h4', _⟩ := lw_on xs (p ++ [x] ++ [1 - x]) 1 (1 - x) ((hp.app (Bits.one hx)).app (Bits.one hy)) hx' I3 (by decide) (by simp; omega)
      refine ⟨x :: (1 - x) :: r, by rw [h1]; simp, ?_, by simp; omega, by simp; omega, fun at_ acc => ?_, fun y t e => by cases e; exact ⟨_, rfl⟩⟩
      · intro c hc
        rcases List.mem_cons.mp hc with rfl | hc
        · exact hx
        · rcases List.mem_cons.mp hc with rfl | hc
          · exact hy
          · exact h2 c hc
      · obtain ⟨m, e2, e3⟩ := h4' (at_ + 1 + 1) (acc ++ [x])
        refine ⟨m, ?_, e3⟩
        rw [scan_go (by omega), if_neg (by omega), scan_go (fun h => hne h.2), if_pos c, e1, e2]
        simp
    · rw [if_neg c]
      obtain ⟨r, h1, h2, h3, h3', h4', _⟩ := lw_on xs (p ++ [x]) _ x (hp.app (Bits.one hx)) hx' I2 (by omega) (by simp; omega)
      refine ⟨x :: r, by rw [h1]; simp, ?_, by simp; omega, by simp; omega, fun at_ acc => ?_, fun y t e => by cases e; exact ⟨_, rfl⟩⟩
      · intro c hc
        rcases List.mem_cons.mp hc with rfl | hc
        · exact hx
        · exact h2 c hc
      · obtain ⟨m, e2, e3⟩ := h4' (at_ + 1) (acc ++ [x])
        refine ⟨m, ?_, e3⟩
        rw [scan_go (by omega), if_neg (by omega), e2]
        simp
theorem alike_of {p : List Int} {n k : Nat} {b : Int} (hb : b = 0 ∨ b = 1) (hw : Bits p) (e : Ends' p n b) (h1 : 1 ≤ n) (hk : n ≤ k) (hl : k ≤ p.length) : decide (p.drop (p.length - k) = List.replicate k b) = decide (n = k) := by
  by_cases h : n = k
  · subst h
    rw [ends_rep e, decide_eq_true rfl, decide_eq_true rfl]
  · rw [decide_eq_false h]
    refine decide_eq_false fun q => ?_
    have := (lastk hb hw e h1 hk hl).2 h
    rw [q, sum_rep] at this
    rcases hb with rfl | rfl <;> omega
theorem law_bits_ok {c n : Nat} (hn : n ≤ 100000) : m__law_bits c n = some (bl c n) := by
  unfold m__law_bits
  have e : compM (m__law_bits_C0 c n) (rangeI 0 n) [] = some ([] ++ (rangeI 0 n).map fun k => ((c / 2 ^ (n - 1 - k.toNat) % 2 : Nat) : Int)) := by
    refine compM_ok _ _ (fun k hk => ?_) (by rw [rangeI_length]; simp; omega)
    have := mem_rangeI hk
    unfold m__law_bits_C0
    have e : (n : Int) - 1 - k = ((n - 1 - k.toNat : Nat) : Int) := by omega
    rw [e, shrN, bnd_some, ba1]
  rw [rng1_ok (by omega) (by omega), bnd_some, e, bnd_some]
  congr 1
  unfold bl rangeI
  rw [List.nil_append, List.map_map, show ((n : Int) - 0).toNat = n by omega]
  refine List.map_congr_left fun k _ => ?_
  simp only [Function.comp]
  rw [show ((0 : Int) + (k : Int)).toNat = k by omega]
theorem data_loop : ∀ (D : List Nat) (bits : List Int), bits.length + 8 * D.length ≤ 10000 → loopM (fun b s => m__law_plain_L0 b s) (ci D) bits = some (bits ++ bs D)
  | [], bits, _ => by rw [show bs [] = [] from rfl, List.append_nil]; rfl
  | d :: r, bits, hz => by
    simp only [List.length_cons] at hz
    have hs : m__law_plain_L0 (d : Int) bits = some (bits ++ bl d 8) := by
      unfold m__law_plain_L0
      rw [show (8 : Int) = ((8 : Nat) : Int) from rfl, law_bits_ok (by decide), bnd_some, catG_ok (by rw [bl_len]; omega), bnd_some]
    show loopM _ ((d : Int) :: ci r) _ = _
    rw [loopM_go (f := fun b s => m__law_plain_L0 b s) hs, data_loop r _ (by rw [List.length_append, bl_len]; omega), List.append_assoc]
    rfl
theorem rest_loop : ∀ (xs : List Int) (r : Nat), Bits xs → r < 32768 → loopM (fun b s => m__law_plain_L1 b s) xs (r : Int) = some ((hr r xs : Nat) : Int)
  | [], r, _, _ => rfl
  | b :: xs, r, hb, hr => by
    have h1 := bit_le hb.hd
    have hf : m__law_plain_L1 b r = some ((hst r b.toNat : Nat) : Int) := by
      unfold m__law_plain_L1
      have e : (r : Int) * 2 + b = ((2 * r + b.toNat : Nat) : Int) := by
        have := hb.hd
        omega
      rw [ltv_eq, e]
      unfold hst
      by_cases c : 32768 ≤ 2 * r + b.toNat
      · rw [decide_eq_true (by omega), ifB_t, if_pos c, show (64647 : Int) = ((64647 : Nat) : Int) from rfl, bx]
      · rw [decide_eq_false (by omega), ifB_f, if_neg c]
    rw [loopM_go (f := fun b s => m__law_plain_L1 b s) hf]
    exact rest_loop xs _ hb.tl (hst_ltK hr h1)

theorem wire_ok (F : List Int) (hF : Bits F) (hz : F.length ≤ 200) : ∃ w m, m__law_wire F = some w ∧ Bits w ∧ w.length ≤ 400 ∧ F.length ≤ w.length ∧ scan 0 (-1) 0 [] w = .inr (m, F) ∧ m ≠ 5 := by
  obtain ⟨r, h1, h2, h3, h3', h4, _⟩ := lw_on F [] 0 (-1) (fun _ h => nomatch h) hF (.inl ⟨rfl, rfl, rfl⟩) (by decide) (by simp; omega)
  obtain ⟨m, e1, e2⟩ := h4 0 []
  refine ⟨r, m, ?_, h2, by omega, h3', e1, by omega⟩
  unfold m__law_wire
  rw [h1, bnd_some]
  rfl
theorem plain_ok (name : Nat) (D : List Nat) (hl : D.length ≤ 7) : m__law_plain ((name : Int), ci D) = some (fb name D) := by
  have hz := fb_len name D
  have hzh := hd_len name D
  unfold m__law_plain
  dsimp only
  rw [show (8 : Int) = ((8 : Nat) : Int) from rfl, law_bits_ok (by decide), bnd_some, catG_ok (by rw [bl_len]; decide), bnd_some, ci_len, show (3 : Int) = ((3 : Nat) : Int) from rfl, law_bits_ok (by decide), bnd_some, catG_ok (by rw [List.length_append, bl_len, bl_len]; decide), bnd_some, data_loop D _ (by simp [bl_len]; omega), bnd_some]
  rw [show [(0 : Int)] ++ bl name 8 ++ bl D.length 3 ++ bs D = hd name D from rfl, show (15 : Int) = ((15 : Nat) : Int) from rfl, rep_ok 0 15 (by decide), bnd_some, catG_ok (by simp; omega), bnd_some, show List.replicate 15 (0 : Int) = zs 15 from rfl]
  have hrl := rest_loop (hd name D ++ zs 15) 0 ((hd_bits name D).app (zs_bits 15)) (by decide)
  rw [show (((0 : Nat)) : Int) = 0 from rfl] at hrl
  rw [hrl, bnd_some, law_bits_ok (by decide), bnd_some, catG_ok (by rw [bl_len]; omega), bnd_some]
  rfl
/-- a side, some bits on -/
def Sd (w F : List Int) (k : Nat) (rd : S_Reader) (pl : List Int) : Prop :=
  ∃ (p r : List Int) (n : Nat) (b : Int) (lt : Str) (m : Nat), w = p ++ r ∧ p.length = min k w.length ∧ PI p n b ∧ Bits p ∧ Bits r ∧ Bits pl ∧ scan n b p.length pl r = .inr (m, F) ∧ m ≠ 5 ∧ rd = S_Reader.mk pl b (n : Int) lt ∧ pl.length ≤ p.length ∧ (r = [] → lt = "whole")
theorem scan_acc : ∀ (r : List Int) (n : Nat) (b : Int) (at_ : Nat) (acc : List Int) (m : Nat) (out : List Int), scan n b at_ acc r = .inr (m, out) → ∃ more, out = acc ++ more
  | [], n, b, at_, acc, m, out, h => by
    cases h
    exact ⟨[], by simp⟩
  | x :: r, n, b, at_, acc, m, out, h => by
    by_cases q : n = 5 ∧ x = b
    · rw [scan_in q] at h
      cases h
    · rw [scan_go q] at h
      obtain ⟨more, e⟩ := scan_acc r _ _ _ _ m out h
      split at e
      · exact ⟨more, e⟩
      · exact ⟨x :: more, by rw [e]; simp⟩
def dw (r : List Int) : Str := if r = [] then "whole" else "more"
theorem jd_due {F kept r : List Int} {n m : Nat} {x : Int} {at_ : Nat} (hl : 27 ≤ F.length) (hL : F.length = LN F) (h0 : hr 0 F = 0) (hm : m ≠ 5) (h5 : n ≤ 5) (hs : scan n x at_ kept r = .inr (m, F)) : jd kept n = dw r := by
  unfold dw
  cases r with
  | nil =>
    cases hs
    rw [if_pos rfl]
    unfold jd
    rw [if_neg (by omega), if_neg (by omega), if_pos h0]
  | cons y t =>
    rw [if_neg (by simp)]
    unfold jd
    rw [if_neg (by omega), if_pos]
    by_cases c5 : n = 5
    · exact .inr (.inl c5)
    · by_cases c12 : kept.length < 12
      · exact .inl c12
      · refine .inr (.inr ?_)
        rw [scan_go (fun q => c5 q.1), if_neg c5] at hs
        obtain ⟨more, e⟩ := scan_acc t _ _ _ _ m F hs
        have e2 : F = kept ++ ([y] ++ more) := by rw [e]; simp
        have : LN kept = LN F := by
          rw [e2]
          unfold LN
          rw [seg_app (by omega)]
        rw [this, ← hL, e2]
        simp
theorem told_ok {w F : List Int} {k : Nat} {rd : S_Reader} {pl : List Int} {held : List (List Int × List Int)} (hl : 27 ≤ F.length) (hL : F.length = LN F) (h0 : hr 0 F = 0) (hw : w.length ≤ 400) (hk : k < w.length) (S : Sd w F k rd pl) (hh : ∀ q ∈ held, q.1 = q.2) (hhl : held.length ≤ 10000) :
    ∃ rd' pl' held', m__law_told rd w (k : Int) pl held = some (rd', pl', held', true) ∧ Sd w F (k + 1) rd' pl' ∧ (∀ q ∈ held', q.1 = q.2) ∧ held'.length ≤ held.length + 1 := by
  obtain ⟨p, r, n, b, lt, m, e1, e2, I, hp, hr', hpl, hs, hm, e3, hkl, _⟩ := S
  have hpk : p.length = k := by omega
  cases r with
  | nil =>
    rw [List.append_nil] at e1
    subst e1
    omega
  | cons x r =>
    have hx := hr' x (List.Mem.head _)
    have hrr : Bits r := fun c hc => hr' c (List.Mem.tail _ hc)
    have hq : ¬ (n = 5 ∧ x = b) := fun q => by
      rw [scan_in q] at hs
      cases hs
    rw [scan_go hq] at hs
    have hs : scan (nr n b x) x (p.length + 1) (kp pl n x) r = .inr (m, F) := hs
    have hn := I.le
    have h5 := nr_5 hn hq
    have hj := jd_due hl hL h0 hm h5 hs
    have hwl : w.length = p.length + 1 + r.length := by rw [e1]; simp; omega
    have ha : atI w (k : Int) = some x := by
      rw [atI_ok (by omega) (by omega), show ((k : Int)).toNat = k from rfl, e1, ← hpk]
      simp
    have hr := hear_ok (lt := lt) (n := n) (b := b) hpl hx (by omega)
    rw [hj] at hr
    have hbs : ∀ {α β : Type} (u : Option α) (f : α → Option β), bnd u f = bnd (bnd u some) f := fun u f => by cases u <;> rfl
    have hdue : (ifB (decide ((k : Int) = ((w.length : Int) - (1 : Int)))) (some ("whole" : Str)) (some "more")) = some (dw r) := by
      unfold dw
      cases r with
      | nil =>
        rw [decide_eq_true (by simp at hwl; omega), ifB_t, if_pos rfl]
      | cons y t =>
        rw [decide_eq_false (by simp at hwl; omega), ifB_f, if_neg (by simp)]
    have hpc : (bnd (ifB (decide ((k : Int) < (5 : Int))) (some true) (bnd (atI w (k : Int)) fun e_41 =>
        bnd (repG ([((1 : Int) - e_41)]) (5 : Int)) fun t_44 => some (!decide ((cutL w (some ((k : Int) - (5 : Int))) (some (k : Int))) = t_44)))) some) = some (!decide (n = 5)) := by
      rw [ha, bnd_some]
      rcases I with ⟨rfl, rfl, rfl⟩ | ⟨e, g1, g5, hb⟩
      · rw [decide_eq_true (by simp at hpk; omega)]
        rfl
      · have hle := e.le
        by_cases h : 5 ≤ p.length
        · have hc := win p (x :: r) 5 h
          rw [← e1, hpk] at hc
          rw [decide_eq_false (by omega), ifB_f, show (5 : Int) = ((5 : Nat) : Int) from rfl, rep_ok (1 - x) 5 (by decide), bnd_some, bnd_some, hc]
          congr 2
          by_cases hxb : x = b
          · rw [decide_eq_false (fun q => hq ⟨q, hxb⟩)]
            refine decide_eq_false fun q => ?_
            have := (lastk hb hp e g1 g5 h).2 (fun q => hq ⟨q, hxb⟩)
            rw [hpk, q, sum_rep] at this
            rcases hx with rfl | rfl <;> omega
          · have : 1 - x = b := by omega
            rw [this, ← hpk]
            exact alike_of hb hp e g1 g5 h
        · rw [decide_eq_true (by omega), ifB_t, bnd_some, decide_eq_false (by omega)]
          rfl
    have hkp : (bnd (ifB (!decide (n = 5)) (bnd (atI w (k : Int)) fun e_51 => bnd (appG pl e_51) fun l_53 => some l_53) (some pl)) some) = some (kp pl n x) := by
      rw [ha, bnd_some]
      unfold kp
      by_cases c : n = 5
      · rw [decide_eq_true c, Bool.not_true, ifB_f, if_pos c]; rfl
      · rw [decide_eq_false c, Bool.not_false, ifB_t, if_neg c, appG_ok (by omega)]; rfl
    have hal : ∀ xs : List Int, m__law_alike xs xs = some true := fun xs => by
      unfold m__law_alike
      rw [decide_eq_true rfl]
      show fin (loopF _ xs ()) _ = _
      rw [loopF_unit (fun b _ => rfl), fin_nx]
    have hfr : (bnd (ifB (decide (dw r = ("whole" : Str))) (some true) (bndO (m_Reader_frame (S_Reader.mk (kp pl n x) x (nr n b x : Nat) (dw r))) fun f => some (Option.isNone f))) some) = some true := by
      unfold dw
      split
      · rfl
      · rw [decide_eq_false (by decide), ifB_f]
        unfold m_Reader_frame
        dsimp only
        rw [decide_eq_false (by decide), ifB_f]
        rfl
    have hS : Sd w F (k + 1) (S_Reader.mk (kp pl n x) x (nr n b x : Nat) (dw r)) (kp pl n x) := by
      have hkl' := kp_len (kept := pl) (n := n) (x := x)
      refine ⟨p ++ [x], r, nr n b x, x, dw r, m, by rw [e1]; simp, by simp; omega, I.step hx hq, hp.app (Bits.one hx), hrr, kp_bits hpl hx, ?_, hm, rfl, by simp; omega, fun q => by unfold dw; rw [if_pos q]⟩
      rw [List.length_append]
      exact hs
    have hal2 := hal (kp pl n x)
    unfold m__law_told
    subst e3
    rw [ha, bnd_some, hr, bnd_some]
    dsimp only
    rw [ltv_eq, hdue, bnd_some, show ((!true) || (!decide (dw r = dw r))) = false by simp, ifB_f, ← ha] 
    rw [hbs, ha, ← ha, hpc, bnd_some, hbs, hkp, bnd_some]
    generalize ((decide (((k : Int) % (7 : Int)) = (3 : Int))) || (decide (dw r = ("whole" : Str)))) = c
    cases c with
    | false =>
      rw [ifB_f, hbs, hfr, bnd_some]
      exact ⟨_, _, _, rfl, hS, hh, by omega⟩
    | true =>
      obtain ⟨f, hf⟩ : ∃ f, (ifB (decide (((k : Int) % (2 : Int)) = (0 : Int))) (bnd (appG (kp pl n x) (1 : Int)) fun l_72 => some l_72) (some (kp pl n x))) = some f := by
        have hkl' := kp_len (kept := pl) (n := n) (x := x)
        cases (decide (((k : Int) % (2 : Int)) = (0 : Int))) with
        | true => exact ⟨_, by rw [ifB_t, appG_ok (by omega), bnd_some]⟩
        | false => exact ⟨_, by rw [ifB_f]⟩
      have e9 : m_Reader_plain (S_Reader.mk (kp pl n x) x (nr n b x : Nat) (dw r)) = some (kp pl n x) := rfl
      rw [ifB_t, e9, bnd_some, hal2, bnd_some, Bool.not_true, ifB_f, hf, bnd_some, appG_ok (by omega), bnd_some, hbs, hfr, bnd_some]
      refine ⟨_, _, _, rfl, hS, fun q hq => ?_, by simp⟩
      rcases List.mem_append.mp hq with hq | hq
      · exact hh q hq
      · rw [List.mem_singleton.mp hq]
theorem Sd.stay {w F : List Int} {k : Nat} {rd : S_Reader} {pl : List Int} (S : Sd w F k rd pl) (h : w.length ≤ k) : Sd w F (k + 1) rd pl := by
  obtain ⟨p, r, n, b, lt, m, e1, e2, rest⟩ := S
  exact ⟨p, r, n, b, lt, m, e1, by omega, rest⟩
theorem Sd.start {w F : List Int} {m : Nat} (hw : Bits w) (h : w ≠ []) (hs : scan 0 (-1) 0 [] w = .inr (m, F)) (hm : m ≠ 5) : Sd w F 0 (S_Reader.mk [] (-1) 0 "") [] :=
  ⟨[], w, 0, -1, "", m, rfl, by simp, .inl ⟨rfl, rfl, rfl⟩, (fun _ h => nomatch h), hw, (fun _ h => nomatch h), hs, hm, rfl, Nat.le_refl _, fun e => absurd e h⟩
theorem Sd.fin {w F : List Int} {k : Nat} {rd : S_Reader} {pl : List Int} (S : Sd w F k rd pl) (h : w.length ≤ k) : pl = F ∧ ∃ b n, rd = S_Reader.mk F b n "whole" := by
  obtain ⟨p, r, n, b, lt, m, e1, e2, I, hp, hr', hpl, hs, hm, e3, hkl, hlt⟩ := S
  have hr0 : r = [] := by
    have := congrArg List.length e1
    rw [List.length_append] at this
    exact List.eq_nil_of_length_eq_zero (by omega)
  subst hr0
  cases hs
  exact ⟨rfl, b, n, by rw [e3, hlt rfl]⟩
theorem alike_same (xs : List Int) : m__law_alike xs xs = some true := by
  unfold m__law_alike
  rw [decide_eq_true rfl]
  show fin (loopF _ xs ()) _ = _
  rw [loopF_unit (fun b _ => rfl), fin_nx]
theorem framed_ok (name : Nat) (D : List Nat) (hN : name < 256) (hD : ∀ d ∈ D, d < 256) (hl : D.length ≤ 7) (b n : Int) : m__law_framed (S_Reader.mk (fb name D) b n "whole") ((name : Int), ci D) = some true := by
  have hz := fb_len name D
  unfold m__law_framed m_Reader_frame
  dsimp only
  rw [decide_eq_true rfl, ifB_t, read_frame_ok _ (fb_bits name D) (by omega), RF_fb name D hN hD hl]
  show bndO (some (Rs.ok (some ((name : Int), ci D)))) _ = _
  rw [bndO_ok, bnd_some, bnd_some]
  show bnd (bnd (ifB (!decide (((2 : Nat) : Int) = 2)) (some true) (bnd (some ((name : Int), ci D)) _)) _) _ = _
  rw [show (!decide (((2 : Nat) : Int) = 2)) = false from rfl, ifB_f, bnd_some]
  dsimp only
  rw [alike_same, bnd_some, bnd_some, bnd_some, Bool.not_true, ifB_f, bnd_some, alike_same, bnd_some, bnd_some, appG_ok (by rw [ci_len]; omega), bnd_some]
theorem byte_ok (ns : List Int) (k : Int) (h0 : 0 ≤ k) (h1 : k ≤ 1000) : ∃ n : Nat, m__law_byte ns k = some (n : Int) ∧ n < 256 := by
  unfold m__law_byte
  obtain ⟨v, e1, v0, v1⟩ := draw_ok ns k 256 (by omega) (by omega) (by decide)
  obtain ⟨z, e2, z0, z1⟩ := draw_ok ns (k + 1) 3 (by omega) (by omega) (by decide)
  rw [e1, bnd_some, e2, bnd_some]
  by_cases c : z = 0
  · rw [decide_eq_true c, ifB_t, bnd_some]
    exact ⟨(v / 128 * 255).toNat, by congr 1; omega, by omega⟩
  · rw [decide_eq_false c, ifB_f, bnd_some]
    exact ⟨v.toNat, by congr 1; omega, by omega⟩
theorem frame_ok1 (ns : List Int) (s : Int) (h0 : 0 ≤ s) (h1 : s ≤ 1) (acc : List (Int × List Int)) (ha : acc.length ≤ 10) : ∃ (name : Nat) (D : List Nat), m_law_L0 ns s acc = some (acc ++ [((name : Int), ci D)]) ∧ name < 256 ∧ (∀ d ∈ D, d < 256) ∧ D.length ≤ 7 := by
  unfold m_law_L0
  obtain ⟨v, e1, v0, v1⟩ := draw_ok ns ((50 : Int) * s) 8 (by omega) (by omega) (by decide)
  rw [e1, bnd_some, rng1_ok (by omega) (by omega), bnd_some]
  obtain ⟨out, e2, e3, e4⟩ := compM_all (f := m_law_C1 ns s) (P := fun y => ∃ n : Nat, y = (n : Int) ∧ n < 256) (rangeI 0 v) [] (fun k hk => by
    have hk := mem_rangeI hk
    obtain ⟨n, g1, g2⟩ := byte_ok ns ((((50 : Int) * s) + (4 : Int)) + ((3 : Int) * k)) (by omega) (by omega)
    exact ⟨(n : Int), by unfold m_law_C1; rw [g1, bnd_some], n, rfl, g2⟩) (by rw [rangeI_length]; simp; omega) (fun _ h => nomatch h)
  obtain ⟨D, rfl, hD⟩ := ci_of out 256 e4
  obtain ⟨name, g1, g2⟩ := byte_ok ns (((50 : Int) * s) + (1 : Int)) (by omega) (by omega)
  rw [rangeI_length, ci_len] at e3
  rw [e2, bnd_some, g1, bnd_some, appG_ok (by omega), bnd_some]
  exact ⟨name, D, rfl, g2, hD, by simp at e3; omega⟩
def I31 (w0 F0 w1 F1 : List Int) (k : Int) (s : List S_Reader × List (List Int) × List (List Int × List Int)) : Prop :=
  0 ≤ k ∧ ∃ r0 r1 p0 p1 held, s = ([r0, r1], [p0, p1], held) ∧ Sd w0 F0 k.toNat r0 p0 ∧ Sd w1 F1 k.toNat r1 p1 ∧ (∀ q ∈ held, q.1 = q.2) ∧ held.length ≤ 2 * k.toNat
theorem at0 {α : Type} (a b : α) : atI [a, b] (0 : Int) = some a := by
  rw [atI_ok (by decide) (by simp)]
  rfl
theorem at1 {α : Type} (a b : α) : atI [a, b] (1 : Int) = some b := by
  rw [atI_ok (by decide) (by simp)]
  rfl
theorem set0 {α : Type} (a b c : α) : setG [a, b] (0 : Int) c = some [c, b] := by
  rw [setG_ok (by decide) (by simp)]
  rfl
theorem set1 {α : Type} (a b c : α) : setG [a, b] (1 : Int) c = some [a, c] := by
  rw [setG_ok (by decide) (by simp)]
  rfl
theorem law_true (ns : List Int) (hn : ns.length ≤ 63) : m_law ns = some true := by
  unfold m_law
  obtain ⟨n0, D0, f1, hN0, hD0, hl0⟩ := frame_ok1 ns 0 (by decide) (by decide) [] (by simp)
  obtain ⟨n1, D1, f2, hN1, hD1, hl1⟩ := frame_ok1 ns 1 (by decide) (by decide) [((n0 : Int), ci D0)] (by simp)
  have hz0 := fb_len n0 D0
  have hz1 := fb_len n1 D1
  obtain ⟨w0, m0, g1, g2, g3, g4, g5, g6⟩ := wire_ok (fb n0 D0) (fb_bits n0 D0) (by omega)
  obtain ⟨w1, m1, k1, k2, k3, k4, k5, k6⟩ := wire_ok (fb n1 D1) (fb_bits n1 D1) (by omega)
  rw [rng1_ok (by decide) (by decide), bnd_some, show rangeI 0 2 = [0, 1] by decide]
  have hfr : loopM (fun side_15 s => m_law_L0 ns side_15 s) [0, 1] [] = some [((n0 : Int), ci D0), ((n1 : Int), ci D1)] := by
    show bnd (m_law_L0 ns 0 []) _ = _
    rw [f1, bnd_some]
    show bnd (m_law_L0 ns 1 _) _ = _
    rw [show ([] : List (Int × List Int)) ++ [((n0 : Int), ci D0)] = [((n0 : Int), ci D0)] from rfl, f2, bnd_some]
    rfl
  rw [hfr, bnd_some]
  have hC0 : m_law_C2 ((n0 : Int), ci D0) = some w0 := by unfold m_law_C2; rw [plain_ok n0 D0 hl0, bnd_some, g1, bnd_some]
  have hC1 : m_law_C2 ((n1 : Int), ci D1) = some w1 := by unfold m_law_C2; rw [plain_ok n1 D1 hl1, bnd_some, k1, bnd_some]
  have hws : compM m_law_C2 [((n0 : Int), ci D0), ((n1 : Int), ci D1)] [] = some [w0, w1] := by
    show bnd (m_law_C2 ((n0 : Int), ci D0)) _ = _
    rw [hC0, bnd_some, if_pos (by simp)]
    show bnd (m_law_C2 ((n1 : Int), ci D1)) _ = _
    rw [hC1, bnd_some, if_pos (by simp)]
    rfl
  have hin : m_Reader_init = some (S_Reader.mk [] (-1) 0 "") := rfl
  rw [hws, bnd_some, hin, bnd_some, bnd_some]
  have hp0 : m_Reader_plain (S_Reader.mk [] (-1) 0 "") = some [] := rfl
  rw [at0, bnd_some, hp0, bnd_some, decide_eq_true rfl, Bool.not_true, ifB_f, at1, bnd_some]
  have hf0 : m_Reader_frame (S_Reader.mk [] (-1) 0 "") = some (.ok none) := by
    unfold m_Reader_frame
    dsimp only
    rw [decide_eq_false (by decide), ifB_f]
  rw [hf0, bndO_ok, bnd_some, show (!Option.isNone (none : Option (Int × List Int))) = false from rfl, ifB_f, at0, bnd_some, at1, bnd_some]
  obtain ⟨M, eM, hM0, hM1, hM⟩ : ∃ M : Nat, (if (List.length w1 : Int) > (List.length w0 : Int) then (List.length w1 : Int) else (List.length w0 : Int)) = (M : Int) ∧ w0.length ≤ M ∧ w1.length ≤ M ∧ M ≤ 400 := by
    split
    · exact ⟨w1.length, rfl, by omega, by omega, by omega⟩
    · exact ⟨w0.length, rfl, by omega, by omega, by omega⟩
  rw [eM, rng1_ok (by omega) (by omega), bnd_some]
  have hL0 : (fb n0 D0).length = LN (fb n0 D0) ∧ (fb n1 D1).length = LN (fb n1 D1) := by
    have key : ∀ (n : Nat) (D : List Nat), n < 256 → (∀ d ∈ D, d < 256) → D.length ≤ 7 → (fb n D).length = LN (fb n D) := fun n D h1 h2 h3 => by
      have := RF_fb n D h1 h2 h3
      unfold RF at this
      split at this
      · cases this
      · split at this
        · cases this
        · rename_i h
          unfold LN
          omega
    exact ⟨key n0 D0 hN0 hD0 hl0, key n1 D1 hN1 hD1 hl1⟩
  obtain ⟨s, e1, h0, r0, r1, p0, p1, held, rfl, S0, S1, hh, _⟩ := loopF_rng (R := Bool) (f := fun k_149 s => m_law_L3 [w0, w1] k_149 s.1 s.2.1 s.2.2) (I31 w0 (fb n0 D0) w1 (fb n1 D1)) (hi := (M : Int)) (by
    rintro k s hk ⟨h0, r0, r1, p0, p1, held, rfl, S0, S1, hh, hhl⟩
    obtain ⟨k, rfl⟩ := Int.eq_ofNat_of_zero_le h0
    have hkk : ((k : Int)).toNat = k := rfl
    have hk1 : ((k : Int) + 1).toNat = k + 1 := rfl
    rw [hkk] at S0 S1 hhl
    have side0 : ∃ r0' p0' held', m_law_L4 [w0, w1] (k : Int) 0 [r0, r1] [p0, p1] held = some (.nx ([r0', r1], [p0', p1], held')) ∧ Sd w0 (fb n0 D0) (k + 1) r0' p0' ∧ (∀ q ∈ held', q.1 = q.2) ∧ held'.length ≤ held.length + 1 := by
      unfold m_law_L4
      rw [at0, bnd_some, at0, bnd_some, at0, bnd_some]
      by_cases c : w0.length ≤ k
      · rw [decide_eq_true (by omega), ifB_t]
        exact ⟨r0, p0, held, rfl, S0.stay c, hh, by omega⟩
      · obtain ⟨rd', pl', held', t1, t2, t3, t4⟩ := told_ok (k := k) (held := held) (by omega) hL0.1 (fb_rest n0 D0) g3 (by omega) S0 hh (by omega)
        rw [decide_eq_false (by omega), ifB_f]
        rw [bnd_some, t1, bnd_some]
        dsimp only
        rw [set0, bnd_some, set0, bnd_some]
        exact ⟨rd', pl', held', rfl, t2, t3, t4⟩
    obtain ⟨r0', p0', held1, u1, u2, u3, u4⟩ := side0
    have side1 : ∃ r1' p1' held', m_law_L4 [w0, w1] (k : Int) 1 [r0', r1] [p0', p1] held1 = some (.nx ([r0', r1'], [p0', p1'], held')) ∧ Sd w1 (fb n1 D1) (k + 1) r1' p1' ∧ (∀ q ∈ held', q.1 = q.2) ∧ held'.length ≤ held1.length + 1 := by
      unfold m_law_L4
      rw [at1, bnd_some, at1, bnd_some, at1, bnd_some]
      by_cases c : w1.length ≤ k
      · rw [decide_eq_true (by omega), ifB_t]
        exact ⟨r1, p1, held1, rfl, S1.stay c, u3, by omega⟩
      · obtain ⟨rd', pl', held', t1, t2, t3, t4⟩ := told_ok (k := k) (held := held1) (by omega) hL0.2 (fb_rest n1 D1) k3 (by omega) S1 u3 (by omega)
        rw [decide_eq_false (by omega), ifB_f]
        rw [bnd_some, t1, bnd_some]
        dsimp only
        rw [set1, bnd_some, set1, bnd_some]
        exact ⟨rd', pl', held', rfl, t2, t3, t4⟩
    obtain ⟨r1', p1', held2, v1, v2, v3, v4⟩ := side1
    refine ⟨([r0', r1'], [p0', p1'], held2), ?_, by omega, r0', r1', p0', p1', held2, rfl, by rw [hk1]; exact u2, by rw [hk1]; exact v2, v3, by rw [hk1]; omega⟩
    show m_law_L3 [w0, w1] (k : Int) [r0, r1] [p0, p1] held = _
    unfold m_law_L3
    rw [rng1_ok (by decide) (by decide), bnd_some, show rangeI 0 2 = [0, 1] by decide]
    show flo (bnd (m_law_L4 [w0, w1] (k : Int) 0 [r0, r1] [p0, p1] held) _) _ = _
    rw [u1, bnd_some]
    show flo (bnd (m_law_L4 [w0, w1] (k : Int) 1 [r0', r1] [p0', p1] held1) _) _ = _
    rw [v1, bnd_some]
    rfl) M 0 ([S_Reader.mk [] (-1) 0 "", S_Reader.mk [] (-1) 0 ""], [[], []], []) (by omega) (by omega) ⟨by omega, _, _, _, _, _, rfl, Sd.start g2 (by intro e; rw [e, List.length_nil] at g4; omega) g5 g6, Sd.start k2 (by intro e; rw [e, List.length_nil] at k4; omega) k5 k6, fun _ h => (nomatch h), Nat.zero_le _⟩
  rw [e1, fin_nx]
  rw [show ((M : Int)).toNat = M from rfl] at S0 S1
  obtain ⟨rfl, b0, c0, rfl⟩ := S0.fin hM0
  obtain ⟨rfl, b1, c1, rfl⟩ := S1.fin hM1
  dsimp only
  have hF0 := framed_ok n0 D0 hN0 hD0 hl0 b0 c0
  have hF1 := framed_ok n1 D1 hN1 hD1 hl1 b1 c1
  rw [rng1_ok (by decide) (by decide), bnd_some, loopF_unit (fun k hk => by
    have hk := mem_rangeI hk
    have : k % 2 = 0 ∨ k % 2 = 1 := by omega
    unfold m_law_L5
    rcases this with h | h <;> rw [h]
    · rw [at0, bnd_some, at0, bnd_some, hF0]
      rfl
    · rw [at1, bnd_some, at1, bnd_some, hF1]
      rfl), fin_nx, loopF_unit (fun q hq => by
    unfold m_law_L6
    rw [decide_eq_true (hh q hq), Bool.not_true, ifB_f]), fin_nx]
  have hq : ∀ F b c, m_Reader_plain (S_Reader.mk F b c "whole") = some F := fun F b c => rfl
  rw [at0, bnd_some, hq, bnd_some, at0, bnd_some, alike_same, bnd_some, ifB_t, at1, bnd_some, hq, bnd_some, at1, bnd_some, alike_same, bnd_some, bnd_some]
end Bt

open PySem PySem.W PyProof.Rows in
set_option maxRecDepth 100000 in
set_option maxHeartbeats 0 in
theorem PySem.Challenge.cw_bitrail_k31_a_wire_read_holds : PySem.Challenge.rw_bitrail_k31_a_wire_read.Holds := by
  w_on; o_law; k_head; (case hw => w_witness2)
  k_fill
  refine Bt.walk Bt.law_true (l := PySem.Challenge.rw_bitrail_k31_a_wire_read) rfl rfl (fun w h Y => PySem.W.kIn_of Y) ?F
  case F =>
    intro w mg fa h KX G hmg
    obtain ⟨f__law_draw, fd__law_draw, F__law_draw, g__law_draw⟩ : ∃ f fd, L2.Fun _ "_law_draw" "_law_draw" Bt.s__law_draw f fd ∧ mg "_law_draw" = some (.ref f) := by
      refine' Bt.def_mk KX G ?a ?l ?c ?k
      (case a => k_is)
      (case l => k_is)
      (case c => k_is)
      (case k => k_is)
    obtain ⟨f__law_wire, fd__law_wire, F__law_wire, g__law_wire⟩ : ∃ f fd, L2.Fun _ "_law_wire" "_law_wire" Bt.s__law_wire f fd ∧ mg "_law_wire" = some (.ref f) := by
      refine' Bt.def_mk KX G ?a ?l ?c ?k
      (case a => k_is)
      (case l => k_is)
      (case c => k_is)
      (case k => k_is)
    obtain ⟨f__law_alike, fd__law_alike, F__law_alike, g__law_alike⟩ : ∃ f fd, L2.Fun _ "_law_alike" "_law_alike" Bt.s__law_alike f fd ∧ mg "_law_alike" = some (.ref f) := by
      refine' Bt.def_mk KX G ?a ?l ?c ?k
      (case a => k_is)
      (case l => k_is)
      (case c => k_is)
      (case k => k_is)
    obtain ⟨f__law_byte, fd__law_byte, F__law_byte, g__law_byte⟩ : ∃ f fd, L2.Fun _ "_law_byte" "_law_byte" Bt.s__law_byte f fd ∧ mg "_law_byte" = some (.ref f) := by
      refine' Bt.def_mk KX G ?a ?l ?c ?k
      (case a => k_is)
      (case l => k_is)
      (case c => k_is)
      (case k => k_is)
    obtain ⟨f__law_bits, fd__law_bits, F__law_bits, g__law_bits⟩ : ∃ f fd, L2.Fun _ "_law_bits" "_law_bits" Bt.s__law_bits f fd ∧ mg "_law_bits" = some (.ref f) := by
      refine' Bt.def_mk KX G ?a ?l ?c ?k
      (case a => k_is)
      (case l => k_is)
      (case c => k_is)
      (case k => k_is)
    obtain ⟨f__law_plain, fd__law_plain, F__law_plain, g__law_plain⟩ : ∃ f fd, L2.Fun _ "_law_plain" "_law_plain" Bt.s__law_plain f fd ∧ mg "_law_plain" = some (.ref f) := by
      refine' Bt.def_mk KX G ?a ?l ?c ?k
      (case a => k_is)
      (case l => k_is)
      (case c => k_is)
      (case k => k_is)
    obtain ⟨f_number_of, fd_number_of, F_number_of, g_number_of⟩ : ∃ f fd, L2.Fun _ "number_of" "number_of" Bt.s_number_of f fd ∧ mg "number_of" = some (.ref f) := by
      refine' Bt.def_mk KX G ?a ?l ?c ?k
      (case a => k_is)
      (case l => k_is)
      (case c => k_is)
      (case k => k_is)
    obtain ⟨f_divided, fd_divided, F_divided, g_divided⟩ : ∃ f fd, L2.Fun _ "divided" "divided" Bt.s_divided f fd ∧ mg "divided" = some (.ref f) := by
      refine' Bt.def_mk KX G ?a ?l ?c ?k
      (case a => k_is)
      (case l => k_is)
      (case c => k_is)
      (case k => k_is)
    obtain ⟨f_rest_of, fd_rest_of, F_rest_of, g_rest_of⟩ : ∃ f fd, L2.Fun _ "rest_of" "rest_of" Bt.s_rest_of f fd ∧ mg "rest_of" = some (.ref f) := by
      refine' Bt.def_mk KX G ?a ?l ?c ?k
      (case a => k_is)
      (case l => k_is)
      (case c => k_is)
      (case k => k_is)
    obtain ⟨f_read_frame, fd_read_frame, F_read_frame, g_read_frame⟩ : ∃ f fd, L2.Fun _ "read_frame" "read_frame" Bt.s_read_frame f fd ∧ mg "read_frame" = some (.ref f) := by
      refine' Bt.def_mk KX G ?a ?l ?c ?k
      (case a => k_is)
      (case l => k_is)
      (case c => k_is)
      (case k => k_is)
    obtain ⟨f__law_framed, fd__law_framed, F__law_framed, g__law_framed⟩ : ∃ f fd, L2.Fun _ "_law_framed" "_law_framed" Bt.s__law_framed f fd ∧ mg "_law_framed" = some (.ref f) := by
      refine' Bt.def_mk KX G ?a ?l ?c ?k
      (case a => k_is)
      (case l => k_is)
      (case c => k_is)
      (case k => k_is)
    obtain ⟨f__law_told, fd__law_told, F__law_told, g__law_told⟩ : ∃ f fd, L2.Fun _ "_law_told" "_law_told" Bt.s__law_told f fd ∧ mg "_law_told" = some (.ref f) := by
      refine' Bt.def_mk KX G ?a ?l ?c ?k
      (case a => k_is)
      (case l => k_is)
      (case c => k_is)
      (case k => k_is)
    obtain ⟨f_law, fd_law, F_law, g_law⟩ : ∃ f fd, L2.Fun _ "law" "law" Bt.s_law f fd ∧ mg "law" = some (.ref f) := by
      refine' Bt.def_mk KX G ?a ?l ?c ?k
      (case a => k_is)
      (case l => k_is)
      (case c => k_is)
      (case k => k_is)
    have z_bool : mg "bool" = none := PySem.W.mg_none_of KX G (by k_is)
    have z_int : mg "int" = none := PySem.W.mg_none_of KX G (by k_is)
    have z_isinstance : mg "isinstance" = none := PySem.W.mg_none_of KX G (by k_is)
    have z_len : mg "len" = none := PySem.W.mg_none_of KX G (by k_is)
    have z_list : mg "list" = none := PySem.W.mg_none_of KX G (by k_is)
    have z_max : mg "max" = none := PySem.W.mg_none_of KX G (by k_is)
    have z_range : mg "range" = none := PySem.W.mg_none_of KX G (by k_is)
    have z_str : mg "str" = none := PySem.W.mg_none_of KX G (by k_is)
    have z_tuple : mg "tuple" = none := PySem.W.mg_none_of KX G (by k_is)
    have g_BARE_frames : Bt.Gv mg "BARE_frames" (.int 27) := by
      refine' Bt.gv_int KX G ?a
      (case a => k_is)
    have g_BARE_readers : Bt.Gv mg "BARE_readers" (.int 27) := by
      refine' Bt.gv_int KX G ?a
      (case a => k_is)
    have g_HEAD_frames : Bt.Gv mg "HEAD_frames" (.int 12) := by
      refine' Bt.gv_int KX G ?a
      (case a => k_is)
    have g_HEAD_readers : Bt.Gv mg "HEAD_readers" (.int 12) := by
      refine' Bt.gv_int KX G ?a
      (case a => k_is)
    have g_KEY : Bt.Gv mg "KEY" (.int 64647) := by
      refine' Bt.gv_int KX G ?a
      (case a => k_is)
    obtain ⟨c_Reader, f_Reader_init, f_Reader_plain, f_Reader_frame, f_Reader_judged, f_Reader_hear, fd_Reader_init, fd_Reader_plain, fd_Reader_frame, fd_Reader_judged, fd_Reader_hear, C_Reader, N_Reader_alike, N_Reader_kept, N_Reader_last, N_Reader_latest, F_Reader_init, F_Reader_plain, F_Reader_frame, F_Reader_judged, F_Reader_hear, M_Reader_frame, M_Reader_hear, M_Reader_judged, M_Reader_plain, K_Reader, k_Reader⟩ : ∃ (c_Reader f_Reader_init f_Reader_plain f_Reader_frame f_Reader_judged f_Reader_hear : Addr) (fd_Reader_init fd_Reader_plain fd_Reader_frame fd_Reader_judged fd_Reader_hear : FuncData), L2.Cls _ c_Reader ∧ L2.NoAttr _ c_Reader "alike" ∧ L2.NoAttr _ c_Reader "kept" ∧ L2.NoAttr _ c_Reader "last" ∧ L2.NoAttr _ c_Reader "latest" ∧ L2.Fun _ "__init__" "Reader.__init__" Bt.s_Reader_init f_Reader_init fd_Reader_init ∧ L2.Fun _ "plain" "Reader.plain" Bt.s_Reader_plain f_Reader_plain fd_Reader_plain ∧ L2.Fun _ "frame" "Reader.frame" Bt.s_Reader_frame f_Reader_frame fd_Reader_frame ∧ L2.Fun _ "judged" "Reader.judged" Bt.s_Reader_judged f_Reader_judged fd_Reader_judged ∧ L2.Fun _ "hear" "Reader.hear" Bt.s_Reader_hear f_Reader_hear fd_Reader_hear ∧ L2.Meth _ c_Reader "frame" f_Reader_frame ∧ L2.Meth _ c_Reader "hear" f_Reader_hear ∧ L2.Meth _ c_Reader "judged" f_Reader_judged ∧ L2.Meth _ c_Reader "plain" f_Reader_plain ∧ L2.Mk _ c_Reader f_Reader_init ∧ mg "Reader" = some (.ref c_Reader) := by
      refine' Bt.packc KX G ?a_Reader ?pg_Reader ?hd_Reader ?po_Reader ?sa_Reader ?n_Reader_alike ?n_Reader_kept ?n_Reader_last ?n_Reader_latest ?at_Reader_init ?if_Reader_init ?il_Reader_init ?ic_Reader_init ?ik_Reader_init ?at_Reader_plain ?if_Reader_plain ?il_Reader_plain ?ic_Reader_plain ?ik_Reader_plain ?at_Reader_frame ?if_Reader_frame ?il_Reader_frame ?ic_Reader_frame ?ik_Reader_frame ?at_Reader_judged ?if_Reader_judged ?il_Reader_judged ?ic_Reader_judged ?ik_Reader_judged ?at_Reader_hear ?if_Reader_hear ?il_Reader_hear ?ic_Reader_hear ?ik_Reader_hear ?mk_Reader ?kc_Reader
      (case a_Reader => k_is)
      (case pg_Reader => k_is)
      (case hd_Reader => k_is)
      (case po_Reader => k_is)
      (case sa_Reader => k_is)
      (case n_Reader_alike => k_is)
      (case n_Reader_kept => k_is)
      (case n_Reader_last => k_is)
      (case n_Reader_latest => k_is)
      (case at_Reader_init => k_is)
      (case if_Reader_init => k_is)
      (case il_Reader_init => k_is)
      (case ic_Reader_init => k_is)
      (case ik_Reader_init => k_is)
      (case at_Reader_plain => k_is)
      (case if_Reader_plain => k_is)
      (case il_Reader_plain => k_is)
      (case ic_Reader_plain => k_is)
      (case ik_Reader_plain => k_is)
      (case at_Reader_frame => k_is)
      (case if_Reader_frame => k_is)
      (case il_Reader_frame => k_is)
      (case ic_Reader_frame => k_is)
      (case ik_Reader_frame => k_is)
      (case at_Reader_judged => k_is)
      (case if_Reader_judged => k_is)
      (case il_Reader_judged => k_is)
      (case ic_Reader_judged => k_is)
      (case ik_Reader_judged => k_is)
      (case at_Reader_hear => k_is)
      (case if_Reader_hear => k_is)
      (case il_Reader_hear => k_is)
      (case ic_Reader_hear => k_is)
      (case ik_Reader_hear => k_is)
      (case mk_Reader => k_is)
      (case kc_Reader => k_is)
    obtain ⟨es, n_NoFrame, n_NoKey, e_NoFrame, e_NoKey⟩ : ∃ (es : Bt.Eds), mg "NoFrame" = some (.ref es.NoFrame) ∧ mg "NoKey" = some (.ref es.NoKey) ∧ Bt.ErrC _ mg "NoFrame" es.NoFrame ∧ Bt.ErrC _ mg "NoKey" es.NoKey := by
      refine' Bt.pack KX G ?a_NoFrame ?a_NoKey ?e_NoFrame ?k_NoFrame ?s_NoFrame ?t_NoFrame ?e_NoKey ?k_NoKey ?s_NoKey ?t_NoKey
      (case a_NoFrame => k_is)
      (case a_NoKey => k_is)
      (case e_NoFrame => first | k_exc | k_is | decide +kernel)
      (case k_NoFrame => k_is)
      (case s_NoFrame => k_is)
      (case t_NoFrame => k_is)
      (case e_NoKey => first | k_exc | k_is | decide +kernel)
      (case k_NoKey => k_is)
      (case s_NoKey => k_is)
      (case t_NoKey => k_is)
    cases hmg.symm.trans g_law
    refine ⟨fd_law, ?_, fun base _ _ => Bt.ok_law (ad := ⟨f__law_draw, fd__law_draw, f__law_wire, fd__law_wire, f_Reader_init, fd_Reader_init, f__law_alike, fd__law_alike, f__law_byte, fd__law_byte, f__law_bits, fd__law_bits, f__law_plain, fd__law_plain, f_Reader_plain, fd_Reader_plain, f_number_of, fd_number_of, f_divided, fd_divided, f_rest_of, fd_rest_of, f_read_frame, fd_read_frame, f_Reader_frame, fd_Reader_frame, f__law_framed, fd__law_framed, f_Reader_judged, fd_Reader_judged, f_Reader_hear, fd_Reader_hear, f__law_told, fd__law_told, fa, fd_law, c_Reader, es⟩) ⟨F__law_draw, g__law_draw, F__law_draw.binds (ps := ["script", "k", "many"]) fun _ _ _ _ _ _ us hl => match us, hl with | [_, _, _], _ => rfl, F__law_wire, g__law_wire, F__law_wire.binds (ps := ["plain"]) fun _ _ _ _ _ _ us hl => match us, hl with | [_], _ => rfl, F_Reader_init, F_Reader_init.binds (ps := ["self"]) fun _ _ _ _ _ _ us hl => match us, hl with | [_], _ => rfl, F__law_alike, g__law_alike, F__law_alike.binds (ps := ["found", "due"]) fun _ _ _ _ _ _ us hl => match us, hl with | [_, _], _ => rfl, F__law_byte, g__law_byte, F__law_byte.binds (ps := ["script", "k"]) fun _ _ _ _ _ _ us hl => match us, hl with | [_, _], _ => rfl, F__law_bits, g__law_bits, F__law_bits.binds (ps := ["number", "many"]) fun _ _ _ _ _ _ us hl => match us, hl with | [_, _], _ => rfl, F__law_plain, g__law_plain, F__law_plain.binds (ps := ["frame"]) fun _ _ _ _ _ _ us hl => match us, hl with | [_], _ => rfl, F_Reader_plain, F_Reader_plain.binds (ps := ["self"]) fun _ _ _ _ _ _ us hl => match us, hl with | [_], _ => rfl, F_number_of, g_number_of, F_number_of.binds (ps := ["bits"]) fun _ _ _ _ _ _ us hl => match us, hl with | [_], _ => rfl, F_divided, g_divided, F_divided.binds (ps := ["number", "key"]) fun _ _ _ _ _ _ us hl => match us, hl with | [_, _], _ => rfl, F_rest_of, g_rest_of, F_rest_of.binds (ps := ["bits"]) fun _ _ _ _ _ _ us hl => match us, hl with | [_], _ => rfl, F_read_frame, g_read_frame, F_read_frame.binds (ps := ["bits"]) fun _ _ _ _ _ _ us hl => match us, hl with | [_], _ => rfl, F_Reader_frame, F_Reader_frame.binds (ps := ["self"]) fun _ _ _ _ _ _ us hl => match us, hl with | [_], _ => rfl, F__law_framed, g__law_framed, F__law_framed.binds (ps := ["reader", "frame"]) fun _ _ _ _ _ _ us hl => match us, hl with | [_, _], _ => rfl, F_Reader_judged, F_Reader_judged.binds (ps := ["self"]) fun _ _ _ _ _ _ us hl => match us, hl with | [_], _ => rfl, F_Reader_hear, F_Reader_hear.binds (ps := ["self", "bit"]) fun _ _ _ _ _ _ us hl => match us, hl with | [_, _], _ => rfl, F__law_told, g__law_told, F__law_told.binds (ps := ["reader", "wire", "k", "plain", "held"]) fun _ _ _ _ _ _ us hl => match us, hl with | [_, _, _, _, _], _ => rfl, F_law, g_law, F_law.binds (ps := ["script"]) fun _ _ _ _ _ _ us hl => match us, hl with | [_], _ => rfl, z_bool, z_int, z_isinstance, z_len, z_list, z_max, z_range, z_str, z_tuple, g_BARE_frames, g_BARE_readers, g_HEAD_frames, g_HEAD_readers, g_KEY, e_NoFrame, e_NoKey, C_Reader, N_Reader_alike, N_Reader_kept, N_Reader_last, N_Reader_latest, M_Reader_frame, M_Reader_hear, M_Reader_judged, M_Reader_plain, K_Reader, k_Reader⟩⟩
    obtain ⟨oc, od, kV, doc, pm, an, cdv, ct, osl, rfl, lk, hcd⟩ := F_law.ex
    exact fun s u => .of_eq rfl
