import PyProof.Rows.All
import Wide.All
import OpenK.AllK
import Wide.FinOn
import HandS.ForMost
import HandS.ForExc
import HandS.IsInst
import HandS.ExcIs
import HandS.Style
import HandS.Wide
import HandS.WideMore
import HandS.WideBits
import HandS.EndBits
import HandS.SortInts
import HandS.SortKw
import HandS.DictTup
import HandS.TryMany
import HandS.NoneIn
import HandS.Flow
import HandS.Steps
import HandS.Walk
import HandS.Evl
import HandS.Conv
import HandS.More
import HandS.Text
import PySem.Challenge.RW_frameland_k03_steps
set_option Elab.async false
set_option linter.all false
set_option maxRecDepth 100000
set_option maxHeartbeats 8000000
/-! Fl: a small logic of parted heaps over the hand layer. -/
namespace Fl
open PySem L2
abbrev Asrt := Hp → Prop
def Sub (h H : Hp) : Prop := ∀ a o, h a = some o → H a = some o
def IsTup (o : HO) : Prop := ∃ xs, o = .tup xs
/-- apart, but for tuples -/
def Dsj (h k : Hp) : Prop := ∀ a o u, h a = some o → k a = some u → o = u ∧ IsTup o
def Star : List Asrt → Asrt
  | [] => fun _ => True
  | A :: l => fun h => ∃ h1 h2, Dsj h1 h2 ∧ Sub h1 h ∧ Sub h2 h ∧ A h1 ∧ Star l h2
def pt (a : Addr) (o : HO) : Asrt := fun h => h a = some o
def pu (p : Prop) : Asrt := fun _ => p
def single (a : Addr) (o : HO) : Hp := fun b => if b = a then some o else none
def join (h k : Hp) : Hp := fun b => match h b with | some o => some o | none => k b
theorem Sub.refl (h : Hp) : Sub h h := fun _ _ e => e
theorem Sub.trans {h k l : Hp} (a : Sub h k) (b : Sub k l) : Sub h l := fun c o e => b c o (a c o e)
theorem single_self {a : Addr} {o : HO} : single a o a = some o := if_pos rfl
theorem single_sub {a : Addr} {o : HO} {H : Hp} (e : H a = some o) : Sub (single a o) H := fun b u q => by
  unfold single at q
  split at q
  · next h => subst h; cases q; exact e
  · cases q
theorem Dsj.symm {h k : Hp} (d : Dsj h k) : Dsj k h := fun a o u e1 e2 => by
  obtain ⟨rfl, t⟩ := d a u o e2 e1
  exact ⟨rfl, t⟩
theorem Dsj.mono {h k h' k' : Hp} (d : Dsj h k) (a : Sub h' h) (b : Sub k' k) : Dsj h' k' := fun c o u e1 e2 => d c o u (a c o e1) (b c u e2)
theorem join_l {h k : Hp} : Sub h (join h k) := fun a o e => by unfold join; rw [e]
theorem join_r {h k : Hp} (d : Dsj h k) : Sub k (join h k) := fun a o e => by
  unfold join
  cases q : h a with
  | none => exact e
  | some u =>
    obtain ⟨rfl, _⟩ := d a u o q e
    rfl
theorem join_sub {h k H : Hp} (a : Sub h H) (b : Sub k H) : Sub (join h k) H := fun c o e => by
  unfold join at e
  cases q : h c with
  | none => rw [q] at e; exact b c o e
  | some u => rw [q] at e; cases e; exact a c o q
theorem join_dsj {h k l : Hp} (a : Dsj h l) (b : Dsj k l) : Dsj (join h k) l := fun c o u e1 e2 => by
  unfold join at e1
  cases q : h c with
  | none => rw [q] at e1; exact b c o u e1 e2
  | some v => rw [q] at e1; cases e1; exact a c o u q e2
theorem Star.mono {l : List Asrt} {h H : Hp} (s : Sub h H) (S : Star l h) : Star l H := by
  cases l with
  | nil => trivial
  | cons A l =>
    obtain ⟨h1, h2, d, a, b, x, y⟩ := S
    exact ⟨h1, h2, d, a.trans s, b.trans s, x, y⟩
theorem Star.tail {A : Asrt} {l : List Asrt} {H : Hp} (S : Star (A :: l) H) : Star l H := by
  obtain ⟨h1, h2, d, a, b, x, y⟩ := S
  exact y.mono b
theorem Star.swap {A B : Asrt} {l : List Asrt} {H : Hp} (S : Star (A :: B :: l) H) : Star (B :: A :: l) H := by
  obtain ⟨h1, h2, d, a, b, x, h3, h4, d', a', b', x', y⟩ := S
  refine ⟨h3, join h1 h4, ?_, a'.trans b, join_sub a (b'.trans b), x', h1, h4, d.mono (Sub.refl _) b', join_l, join_r (d.mono (Sub.refl _) b'), x, y⟩
  exact (join_dsj (d.mono (Sub.refl _) a') d'.symm).symm
theorem Star.under {A : Asrt} {l l' : List Asrt} {H : Hp} (f : ∀ h, Star l h → Star l' h) (S : Star (A :: l) H) : Star (A :: l') H := by
  obtain ⟨h1, h2, d, a, b, x, y⟩ := S
  exact ⟨h1, h2, d, a, b, x, f _ y⟩
theorem Star.hd {A B : Asrt} {l : List Asrt} {H : Hp} (f : ∀ h, A h → B h) (S : Star (A :: l) H) : Star (B :: l) H := by
  obtain ⟨h1, h2, d, a, b, x, y⟩ := S
  exact ⟨h1, h2, d, a, b, f _ x, y⟩
theorem Star.p1 {A B : Asrt} {l : List Asrt} {H : Hp} (S : Star (A :: B :: l) H) : Star (B :: A :: l) H := S.swap
theorem Star.p2 {A B C : Asrt} {l : List Asrt} {H : Hp} (S : Star (A :: B :: C :: l) H) : Star (C :: A :: B :: l) H := Star.swap (Star.under (fun _ => Star.p1) S)
theorem Star.p3 {A B C D : Asrt} {l : List Asrt} {H : Hp} (S : Star (A :: B :: C :: D :: l) H) : Star (D :: A :: B :: C :: l) H := Star.swap (Star.under (fun _ => Star.p2) S)
theorem Star.p4 {A B C D E : Asrt} {l : List Asrt} {H : Hp} (S : Star (A :: B :: C :: D :: E :: l) H) : Star (E :: A :: B :: C :: D :: l) H := Star.swap (Star.under (fun _ => Star.p3) S)
theorem Star.p5 {A B C D E F : Asrt} {l : List Asrt} {H : Hp} (S : Star (A :: B :: C :: D :: E :: F :: l) H) : Star (F :: A :: B :: C :: D :: E :: l) H := Star.swap (Star.under (fun _ => Star.p4) S)
theorem Star.p6 {A B C D E F G : Asrt} {l : List Asrt} {H : Hp} (S : Star (A :: B :: C :: D :: E :: F :: G :: l) H) : Star (G :: A :: B :: C :: D :: E :: F :: l) H := Star.swap (Star.under (fun _ => Star.p5) S)
theorem Star.p7 {A B C D E F G I : Asrt} {l : List Asrt} {H : Hp} (S : Star (A :: B :: C :: D :: E :: F :: G :: I :: l) H) : Star (I :: A :: B :: C :: D :: E :: F :: G :: l) H := Star.swap (Star.under (fun _ => Star.p6) S)
theorem Star.p8 {A B C D E F G I J : Asrt} {l : List Asrt} {H : Hp} (S : Star (A :: B :: C :: D :: E :: F :: G :: I :: J :: l) H) : Star (J :: A :: B :: C :: D :: E :: F :: G :: I :: l) H := Star.swap (Star.under (fun _ => Star.p7) S)
theorem Star.p9 {A B C D E F G I J K : Asrt} {l : List Asrt} {H : Hp} (S : Star (A :: B :: C :: D :: E :: F :: G :: I :: J :: K :: l) H) : Star (K :: A :: B :: C :: D :: E :: F :: G :: I :: J :: l) H := Star.swap (Star.under (fun _ => Star.p8) S)
/-- lists in a row -/
theorem Star.split : ∀ {l : List Asrt} {m : List Asrt} {H : Hp}, Star (l ++ m) H → Star [Star l, Star m] H
  | [], m, H, S => ⟨fun _ => none, H, (fun _ _ _ e => nomatch e), (fun _ _ e => nomatch e), Sub.refl _, trivial, H, fun _ => none, (fun _ _ _ _ e => nomatch e), Sub.refl _, (fun _ _ e => nomatch e), S, trivial⟩
  | A :: l, m, H, S => by
    obtain ⟨h1, h2, d, a, b, x, y⟩ := S
    obtain ⟨h3, h4, d', a', b', x', h5, h6, d2, a2, b2, x2, _⟩ := Star.split y
    have e13 : Dsj h1 h3 := d.mono (Sub.refl _) a'
    refine ⟨join h1 h3, h5, ?_, join_sub a (a'.trans b), (a2.trans b').trans b, ⟨h1, h3, e13, join_l, join_r e13, x, x'⟩, h5, fun _ => none, (fun _ _ _ _ e => nomatch e), Sub.refl _, (fun _ _ e => nomatch e), x2, trivial⟩
    exact join_dsj (d.mono (Sub.refl _) (a2.trans b')) (d'.mono (Sub.refl _) a2)
theorem Star.glue : ∀ {l : List Asrt} {m : List Asrt} {H : Hp}, Star (Star l :: m) H → Star (l ++ m) H
  | [], m, H, S => S.tail
  | A :: l, m, H, S => by
    obtain ⟨h1, h2, d, a, b, ⟨h3, h4, d', a', b', x', y'⟩, y⟩ := S
    have e : Dsj h4 h2 := d.mono b' (Sub.refl _)
    refine ⟨h3, join h4 h2, ?_, a'.trans a, join_sub (b'.trans a) b, x', Star.glue (l := l) ⟨h4, h2, e, join_l, join_r e, y', y⟩⟩
    exact (join_dsj d'.symm (d.mono a' (Sub.refl _)).symm).symm
theorem Star.glue' {l m : List Asrt} {H : Hp} (S : Star (l ++ m) H) : Star (Star l :: m) H := by
  obtain ⟨h1, h2, d, a, b, x, h3, h4, d', a', b', x', _⟩ := Star.split S
  exact ⟨h1, h3, d.mono (Sub.refl _) a', a, a'.trans b, x, x'⟩
/-- an assertion opened: A's own list, then the rest -/
theorem Star.op {A : Asrt} {k l : List Asrt} {H : Hp} (S : Star (A :: l) H) (f : ∀ h, A h → Star k h) : Star (k ++ l) H := Star.glue (S.hd f)
theorem Star.cl {A : Asrt} {k l : List Asrt} {H : Hp} (S : Star (k ++ l) H) (f : ∀ h, Star k h → A h) : Star (A :: l) H := (Star.glue' S).hd f
theorem Star.ex {α : Type} {K : α → List Asrt} {l : List Asrt} {H : Hp} (S : Star ((fun h => ∃ x, Star (K x) h) :: l) H) : ∃ x, Star (K x ++ l) H := by
  obtain ⟨h1, h2, d, a, b, ⟨x, y⟩, z⟩ := S
  exact ⟨x, Star.glue ⟨h1, h2, d, a, b, y, z⟩⟩
theorem Star.ex2 {α β : Type} {K : α → β → List Asrt} {l : List Asrt} {H : Hp} (S : Star ((fun h => ∃ x y, Star (K x y) h) :: l) H) : ∃ x y, Star (K x y ++ l) H := by
  obtain ⟨h1, h2, d, a, b, ⟨x, y, q⟩, z⟩ := S
  exact ⟨x, y, Star.glue ⟨h1, h2, d, a, b, q, z⟩⟩
theorem Star.ex3 {α β γ : Type} {K : α → β → γ → List Asrt} {l : List Asrt} {H : Hp} (S : Star ((fun h => ∃ x y z, Star (K x y z) h) :: l) H) : ∃ x y z, Star (K x y z ++ l) H := by
  obtain ⟨h1, h2, d, a, b, ⟨x, y, z, q⟩, w⟩ := S
  exact ⟨x, y, z, Star.glue ⟨h1, h2, d, a, b, q, w⟩⟩
theorem Star.ex4 {α β γ δ : Type} {K : α → β → γ → δ → List Asrt} {l : List Asrt} {H : Hp} (S : Star ((fun h => ∃ x y z w, Star (K x y z w) h) :: l) H) : ∃ x y z w, Star (K x y z w ++ l) H := by
  obtain ⟨h1, h2, d, a, b, ⟨x, y, z, w, q⟩, v⟩ := S
  exact ⟨x, y, z, w, Star.glue ⟨h1, h2, d, a, b, q, v⟩⟩
theorem Star.exA {α : Type} {K : α → Asrt} {l : List Asrt} {H : Hp} (S : Star ((fun h => ∃ x, K x h) :: l) H) : ∃ x, Star (K x :: l) H := by
  obtain ⟨h1, h2, d, a, b, ⟨x, y⟩, z⟩ := S
  exact ⟨x, h1, h2, d, a, b, y, z⟩
/-- a fact comes out -/
theorem Star.fact {p : Prop} {l : List Asrt} {H : Hp} (S : Star (pu p :: l) H) : p := by
  obtain ⟨h1, h2, d, a, b, x, y⟩ := S
  exact x
theorem Star.put {p : Prop} {l : List Asrt} {H : Hp} (x : p) (S : Star l H) : Star (pu p :: l) H := ⟨fun _ => none, H, (fun _ _ _ e => nomatch e), (fun _ _ e => nomatch e), Sub.refl _, x, S⟩
/-- what needs nothing of its own -/
theorem Star.free {A : Asrt} {l : List Asrt} {H : Hp} (x : A fun _ => none) (S : Star l H) : Star (A :: l) H := ⟨fun _ => none, H, (fun _ _ _ e => nomatch e), (fun _ _ e => nomatch e), Sub.refl _, x, S⟩
/-! ### one of a list -/
inductive Pull (A : Asrt) : List Asrt → List Asrt → Prop where
  | here {l : List Asrt} : Pull A (A :: l) l
  | there {B : Asrt} {l m : List Asrt} (h : Pull A l m) : Pull A (B :: l) (B :: m)
theorem Star.pull {A : Asrt} : ∀ {L l : List Asrt} {H : Hp}, Star L H → Pull A L l → Star (A :: l) H
  | _, _, _, S, .here => S
  | _, _, _, S, .there h => Star.swap (S.under fun _ T => T.pull h)
/-- some of a list, in any order -/
inductive Keep : List Asrt → List Asrt → Prop where
  | nil {l : List Asrt} : Keep l []
  | refl {l : List Asrt} : Keep l l
  | cons {A : Asrt} {L l m : List Asrt} (p : Pull A L l) (k : Keep l m) : Keep L (A :: m)
  | drop {A : Asrt} {L m : List Asrt} (k : Keep L m) : Keep (A :: L) m
theorem Star.keep : ∀ {L m : List Asrt} {H : Hp}, Star L H → Keep L m → Star m H
  | _, _, _, _, .nil => trivial
  | _, _, _, S, .refl => S
  | _, _, _, S, .cons p k => (S.pull p).under fun _ T => T.keep k
  | _, _, _, S, .drop k => S.tail.keep k
/-! ### membership -/
theorem Star.has {A : Asrt} : ∀ {l : List Asrt} {H : Hp}, Star l H → A ∈ l → ∃ h, Sub h H ∧ A h
  | B :: l, H, S, m => by
    cases m with
    | head => obtain ⟨h1, h2, d, a, b, x, y⟩ := S; exact ⟨h1, a, x⟩
    | tail _ m =>
      obtain ⟨h, s, x⟩ := S.tail.has m
      exact ⟨h, s, x⟩
theorem Star.get {a : Addr} {o : HO} {l : List Asrt} {H : Hp} (S : Star l H) (m : pt a o ∈ l) : H a = some o := by
  obtain ⟨h, s, x⟩ := S.has m
  exact s a o x
/-! ### what happens to a heap -/
theorem Star.upd {a : Addr} {o u : HO} {l : List Asrt} {H : Hp} (S : Star (pt a o :: l) H) (nt : ¬ IsTup o) : Star (pt a u :: l) (upd H a u) := by
  obtain ⟨h1, h2, d, s1, s2, x, y⟩ := S
  have n2 : h2 a = none := by
    cases q : h2 a with
    | none => rfl
    | some v => exact absurd (d a o v x q).2 nt
  refine ⟨single a u, h2, fun b v w e1 e2 => ?_, single_sub upd_same, fun b v e => ?_, single_self, y⟩
  · unfold single at e1
    split at e1
    · next h => subst h; rw [n2] at e2; cases e2
    · cases e1
  · rw [upd_ne (fun q => by rw [q, n2] at e; cases e)]
    exact s2 b v e
theorem Star.new {p : Addr} {o : HO} {l : List Asrt} {H : Hp} (S : Star l H) (n : H p = none) : Star (pt p o :: l) (L2.upd H p o) := by
  refine ⟨single p o, H, fun b v w e1 e2 => ?_, single_sub upd_same, fun b v e => ?_, single_self, S⟩
  · unfold single at e1
    split at e1
    · next h => subst h; rw [n] at e2; cases e2
    · cases e1
  · rw [upd_ne (fun q => by rw [q, n] at e; cases e)]
    exact e
/-- a new object of no interest -/
theorem Star.junk {p : Addr} {o : HO} {l : List Asrt} {H : Hp} (S : Star l H) (n : H p = none) : Star l (L2.upd H p o) := (S.new (o := o) n).tail
theorem Star.tup2 {p : Addr} {xs : List V} {l : List Asrt} {H : Hp} (S : Star (pt p (.tup xs) :: l) H) : Star (pt p (.tup xs) :: pt p (.tup xs) :: l) H := by
  obtain ⟨h1, h2, d, s1, s2, x, y⟩ := S
  have hs : Dsj (single p (.tup xs)) h1 := fun a o u e1 e2 => by
    unfold single at e1
    split at e1
    · next h => subst h; cases e1; rw [x] at e2; cases e2; exact ⟨rfl, _, rfl⟩
    · cases e1
  have hs2 : Dsj (single p (.tup xs)) h2 := d.mono (single_sub x) (Sub.refl _)
  refine ⟨single p (.tup xs), join h1 h2, (join_dsj hs.symm hs2.symm).symm, (single_sub x).trans s1, join_sub s1 s2, single_self, h1, h2, d, join_l, join_r d, x, y⟩
theorem Star.ne {a b : Addr} {o u : HO} {l : List Asrt} {H : Hp} (S : Star (pt a o :: pt b u :: l) H) (nt : ¬ IsTup o) : a ≠ b := by
  obtain ⟨h1, h2, d, s1, s2, x, h3, h4, d', s3, s4, x', y⟩ := S
  rintro rfl
  exact nt (d a o u x (s3 _ _ x')).2
/-! ### the script -/
def scr (K : PySem.W.Frag) (a : Addr) (ns : List Int) : Asrt := fun h => SqL K h a (ns.map V.int)
theorem SqL.mono {K : PySem.W.Frag} {h H : Hp} {a : Addr} {xs : List V} (s : Sub h H) (e : SqL K h a xs) : SqL K H a xs := by
  rcases e with (e | ⟨o, e⟩) | e
  · exact .inl (.inl (s _ _ e))
  · exact .inl (.inr ⟨o, s _ _ e⟩)
  · exact .inr e
theorem Star.scr {K : PySem.W.Frag} {a : Addr} {ns : List Int} {l : List Asrt} {H : Hp} (S : Star l H) (m : scr K a ns ∈ l) : SqL K H a (ns.map V.int) := by
  obtain ⟨h, s, x⟩ := S.has m
  exact SqL.mono s x
theorem Star.ofScr {K : PySem.W.Frag} {a : Addr} {ns : List Int} {H : Hp} (e : SqL K H a (ns.map V.int)) : Star [Fl.scr K a ns] H :=
  ⟨H, fun _ => none, (fun _ _ _ _ e => nomatch e), Sub.refl _, (fun _ _ e => nomatch e), e, trivial⟩
end Fl
/-! Fl: rules with the class known ahead, calls with wishes by slots. -/
namespace Fl
open PySem PySem.Spec PyProof.Rows L2
section
variable {X : Cx} {o e value : Expr} {f m : Str} {pos pos' tpos : Pos} {ta tv : TE} {C : Addr}
/-- e.f of an instance of the class at C -/
def kFld (C : Addr) (f : Str) (x : V) (H : Hp) (Q : VK) : Prop := ∃ a dx fs v, x = .ref a ∧ H a = some (.ins C dx fs) ∧ fs.lookup f = some v ∧ Q v H
def tFldC (C : Addr) (ta : TE) (f : Str) : TE := fun σ H Q => ta σ H fun x H1 => kFld C f x H1 Q
theorem pe_fldC (c : Cls X.K C) (n : NoAttr X.K C f) (he : PE X e ta) (hb : attributeBase e f X.env (eval e X.env) = eval e X.env := by rfl) : PE X (.Attribute e f pos) (tFldC C ta f) := by
  refine ⟨fun pins s σ H Q I h => ?_⟩
  refine attr_of hb (thn (he.run pins s σ H _ I h) fun u s1 ⟨x, H1, I1, rx, a, dx, fs, v, ex, ea, l, q⟩ => ?_)
  subst ex
  obtain rfl : u = Value.ref a := rx
  exact getattr_ok I1 ea c n l fun u' s2 I2 ru => ⟨v, H1, I2, ru, q⟩
/-- of an instance of one of two classes -/
def kFld2 (C C' : Addr) (f : Str) (x : V) (H : Hp) (Q : VK) : Prop := ∃ a B dx fs v, x = .ref a ∧ (B = C ∨ B = C') ∧ H a = some (.ins B dx fs) ∧ fs.lookup f = some v ∧ Q v H
def tFldC2 (C C' : Addr) (ta : TE) (f : Str) : TE := fun σ H Q => ta σ H fun x H1 => kFld2 C C' f x H1 Q
theorem pe_fldC2 {C' : Addr} (c : Cls X.K C) (n : NoAttr X.K C f) (c' : Cls X.K C') (n' : NoAttr X.K C' f) (he : PE X e ta) (hb : attributeBase e f X.env (eval e X.env) = eval e X.env := by rfl) : PE X (.Attribute e f pos) (tFldC2 C C' ta f) := by
  refine ⟨fun pins s σ H Q I h => ?_⟩
  refine attr_of hb (thn (he.run pins s σ H _ I h) fun u s1 ⟨x, H1, I1, rx, a, B, dx, fs, v, ex, eB, ea, l, q⟩ => ?_)
  subst ex
  obtain rfl : u = Value.ref a := rx
  rcases eB with rfl | rfl
  · exact getattr_ok I1 ea c n l fun u' s2 I2 ru => ⟨v, H1, I2, ru, q⟩
  · exact getattr_ok I1 ea c' n' l fun u' s2 I2 ru => ⟨v, H1, I2, ru, q⟩
def kSto (C : Addr) (f : Str) (x y : V) (H : Hp) (D : Hp → Prop) : Prop := ∃ a dx fs, x = .ref a ∧ H a = some (.ins C dx fs) ∧ fs.length < 1000 ∧ D (upd H a (.ins C dx (putF f y fs)))
def sFldC (C : Addr) (ta tv : TE) (f : Str) : TS := fun D σ H => tv σ H fun y H1 => ta σ H1 fun x H2 => kSto C f x y H2 fun H3 => D.nx σ H3
theorem ps_fldC (c : Cls X.K C) (n : NoAttr X.K C f) (ha : PE X o ta) (hv : PE X value tv) (hs : swapsWith value (some (.Attribute o f pos')) pos.line X.env = pure false := by rfl) : PS X (.Assign [.Attribute o f pos'] value pos) (sFldC C ta tv f) := by
  refine ⟨fun pins s σ H D I h => ?_⟩
  refine plainObj_wpAny_Assign_Attribute (thn (hv.run pins s σ H _ I h) fun u s1 ⟨y, H1, I1, ry, q⟩ => thn (ha.run pins s1 σ H1 _ I1 q) fun ov s2 ⟨x, H2, I2, rx, a, dx, fs, ex, ea, l, q2⟩ => ?_) hs
  subst ex
  obtain rfl : ov = Value.ref a := rx
  exact setattr_ok I2 ea c n l ry fun s3 I3 => ⟨σ, _, I3, q2⟩
/-- of one of two classes -/
def kSto2 (C C' : Addr) (f : Str) (x y : V) (H : Hp) (D : Hp → Prop) : Prop := ∃ a B dx fs, x = .ref a ∧ (B = C ∨ B = C') ∧ H a = some (.ins B dx fs) ∧ fs.length < 1000 ∧ D (upd H a (.ins B dx (putF f y fs)))
def sFldC2 (C C' : Addr) (ta tv : TE) (f : Str) : TS := fun D σ H => tv σ H fun y H1 => ta σ H1 fun x H2 => kSto2 C C' f x y H2 fun H3 => D.nx σ H3
theorem ps_fldC2 {C' : Addr} (c : Cls X.K C) (n : NoAttr X.K C f) (c' : Cls X.K C') (n' : NoAttr X.K C' f) (ha : PE X o ta) (hv : PE X value tv) (hs : swapsWith value (some (.Attribute o f pos')) pos.line X.env = pure false := by rfl) : PS X (.Assign [.Attribute o f pos'] value pos) (sFldC2 C C' ta tv f) := by
  refine ⟨fun pins s σ H D I h => ?_⟩
  refine plainObj_wpAny_Assign_Attribute (thn (hv.run pins s σ H _ I h) fun u s1 ⟨y, H1, I1, ry, q⟩ => thn (ha.run pins s1 σ H1 _ I1 q) fun ov s2 ⟨x, H2, I2, rx, a, B, dx, fs, ex, eB, ea, l, q2⟩ => ?_) hs
  subst ex
  obtain rfl : ov = Value.ref a := rx
  rcases eB with rfl | rfl
  · exact setattr_ok I2 ea c n l ry fun s3 I3 => ⟨σ, _, I3, q2⟩
  · exact setattr_ok I2 ea c' n' l ry fun s3 I3 => ⟨σ, _, I3, q2⟩
def kAugW (C a : Addr) (f : Str) (z : V) (H : Hp) (D : Hp → Prop) : Prop := ∃ dx fs, H a = some (.ins C dx fs) ∧ fs.length < 1000 ∧ D (upd H a (.ins C dx (putF f z fs)))
def kAugR (C : Addr) (f : Str) (x : V) (H : Hp) (R : Addr → V → Prop) : Prop := ∃ a dx fs v, x = .ref a ∧ H a = some (.ins C dx fs) ∧ fs.lookup f = some v ∧ R a v
/-- e.f op= value -/
def sFldAugC (C : Addr) (ta tv : TE) (rd : R2) (f : Str) : TS := fun D σ H => ta σ H fun x H1 => kAugR C f x H1 fun a v => tv σ H1 fun y H2 => rd v y H2 fun z H3 => kAugW C a f z H3 fun H4 => D.nx σ H4
theorem ps_fldaugC {op : Operator} {rd : R2} (c : Cls X.K C) (n : NoAttr X.K C f) (ha : PE X o ta) (hv : PE X value tv) (hop : InOp X op rd) : PS X (.AugAssign (.Attribute o f tpos) op value pos) (sFldAugC C ta tv rd f) := by
  refine ⟨fun pins s σ H D I h => ?_⟩
  refine wpAny_AugAssign_AttributeAny (thn (ha.run pins s σ H _ I h) fun ov s1 ⟨x, H1, I1, rx, a, dx, fs, v, ex, ea, l, q⟩ => ?_)
  subst ex
  obtain rfl : ov = Value.ref a := rx
  refine getattr_ok I1 ea c n l fun u s2 I2 ru => thn (hv.run pins s2 σ H1 _ I2 q) fun w3 s3 ⟨y, H2, I3, ry, q3⟩ => thn (hop pins s3 σ H2 v y u w3 _ I3 ru ry q3) fun w4 s4 ⟨z, H3, I4, rz, dx', fs', ea', l', q4⟩ => ?_
  exact setattr_ok I4 ea' c n l' rz fun s5 I5 => ⟨σ, _, I5, q4⟩
theorem in_addI : InOp X .Add (rI0 fun i j => .int (i + j)) := in_add
theorem in_subI : InOp X .Sub (rI0 fun i j => .int (i - j)) := in_sub
end
/-! ### calls -/
section
variable {X : Cx} {CX : CXT} {k : Nat} {f C : Addr} {fd : FuncData} {ps : List Str} {sp : Sp} {dvs : List V} {ds : List Value} {E : L2.St → XK} {x m : Str} {p pos apos : Pos} {e o : Expr} {es : List Expr} {ta : TE} {t : TA}
theorem run_fnD {pins : List (Addr × Obj)} {σ : L2.St} {H : Hp} {s : Shared} {Q : VK} {us : List Value} {vs : List V} (F : FnOk X.prog X.w X.K X.mg X.base CX k f fd ps sp) (hr : Room k X.A) (hb : Binds X.K fd ps ds) (hd : Vals dvs ds) (hx : PassesAt CX X σ (E σ))
    (I : Inv X pins σ H s) (r : Vals vs us) (h : sp (vs ++ dvs) H Q (E σ)) : wpAny (model X.prog X.w) X.A (call (.ref f) us) (EP X pins σ Q) X.xe s := by
  have r2 : Vals (vs ++ dvs) (us ++ ds) := r.append hd
  have hl : (us ++ ds).length = ps.length := by rw [← r2.length]; exact F.len _ _ _ _ h
  refine wpAny_call (codeAny_mono (F.run X.A X.stack s H ⟨us, []⟩ (us ++ ds) (vs ++ dvs) Q (E σ) hr I.env0 (hb s us I.kIn hl) r2 h) fun r s' hq => ?_)
  cases r with
  | error e => exact hx pins H s e s' I hq
  | ok fl =>
    cases fl with
    | ret u => exact I.after hq
    | next => exact False.elim hq
    | brk => exact False.elim hq
    | cont => exact False.elim hq
theorem pass0At {P : Program} {w : World} {X : Cx} {σ : L2.St} : PassesAt (L2.CX P w) X σ E0 := fun _ _ _ _ _ _ h => by
  obtain ⟨_, _, _, _, _, _, _, _, _, _, _, _, z⟩ := h
  exact z.elim
def kCall (sp : Sp) (vs : List V) (H : Hp) (Q : VK) (E : XK) : Prop := sp vs H Q E
def tCl (sp : Sp) (dvs : List V) (E : L2.St → XK) (t : TA) : TE := fun σ H Q => t σ H fun vs H1 => kCall sp (vs ++ dvs) H1 Q (E σ)
theorem pe_cl (F : FnOk X.prog X.w X.K X.mg X.base CX k f fd ps sp) (hr : Room k X.A) (hm : X.mg x = some (.ref f)) (hk : PySem.W.keepIn X.K (.ref f) = true) (hb : Binds X.K fd ps ds) (hd : Vals dvs ds) (hx : ∀ σ, PassesAt CX X σ (E σ))
    (ha : PA X (e :: es) t) (hg : Gl X x := by rfl) (hdb : (x == ("__debug__" : Str)) = false := by decide) (he : starEach (e :: es) X.env = (false, eval e X.env) :: starEach es X.env := by rfl) (hpl : (backTo pos (starEach es X.env)).any (·.1) = false := by rfl) :
    PE X (.Call (.Name x p) (e :: es) [] pos) (tCl sp dvs E t) := by
  refine ⟨fun pins s σ H Q I h => ?_⟩
  refine wpAny_Call_Name_kw (ld_glob I hg hm ?_ hdb)
  refine PySem.W.callWith_K (h₀ := X.base) I.ok.mod.kin hk (thn (ha.run pos pins s σ H _ I h) fun us s1 ⟨vs, H1, I1, r, q⟩ => ⟨I1.kIn, ?_⟩) he hpl
  exact run_fnD F hr hb hd (hx σ) I1 r q
theorem pe_cl0 (F : FnOk X.prog X.w X.K X.mg X.base CX k f fd ps sp) (hr : Room k X.A) (hm : X.mg x = some (.ref f)) (hk : PySem.W.keepIn X.K (.ref f) = true) (hb : Binds X.K fd ps ds) (hd : Vals dvs ds) (hx : ∀ σ, PassesAt CX X σ (E σ))
    (hg : Gl X x := by rfl) (hdb : (x == ("__debug__" : Str)) = false := by decide) : PE X (.Call (.Name x p) [] [] pos) (tCl sp dvs E tNil) := by
  refine ⟨fun pins s σ H Q I h => ?_⟩
  refine wpAny_Call_Name_kw (ld_glob I hg hm ?_ hdb)
  exact PySem.W.callWith_K0 I.kIn hk (run_fnD (us := []) F hr hb hd (hx σ) I .nil h)
/-- o.m(e, ..) of an instance of the class at C; the object is looked at ahead of the arguments -/
def kMt (C : Addr) (m : Str) (x : V) (H : Hp) (R : Prop) : Prop := ∃ a dx fs, x = .ref a ∧ H a = some (.ins C dx fs) ∧ fs.lookup m = none ∧ R
def tMt (C : Addr) (m : Str) (sp : Sp) (dvs : List V) (E : L2.St → XK) (ta : TE) (t : TA) : TE := fun σ H Q => ta σ H fun x H1 => kMt C m x H1 (t σ H1 fun vs H2 => kCall sp (x :: (vs ++ dvs)) H2 Q (E σ))
theorem pe_mt {pl : Sem Bool} (he : PE X o ta) (c : Cls X.K C) (hm : Meth X.K C m f) (F : FnOk X.prog X.w X.K X.mg X.base CX k f fd ps sp) (hr : Room k X.A) (hb : Binds X.K fd ps ds) (hd : Vals dvs ds) (hx : ∀ σ, PassesAt CX X σ (E σ)) (ha : PA X (e :: es) t)
    (hst : starEach (e :: es) X.env = (false, eval e X.env) :: starEach es X.env := by rfl) (hpl : (backTo pos (starEach es X.env)).any (·.1) = false := by rfl)
    (ht : eval (.Call (.Attribute o m apos) (e :: es) [] pos) X.env = (do
      let ov ← eval o X.env
      standAt apos.atName
      let (f, first) ← holding [ov] (getMethod ov m pl)
      callWith pos f first (backTo pos (starEach (e :: es) X.env)) (backToKw pos (keywordEach [] X.env))) := by rfl) :
    PE X (.Call (.Attribute o m apos) (e :: es) [] pos) (tMt C m sp dvs E ta t) := by
  refine ⟨fun pins s σ H Q I h => ?_⟩
  refine PySem.W.methodCall_KW (pl := pl) (thn (he.run pins s σ H _ I h) fun u s1 ⟨x, H1, I1, rx, a, dx, fs, ex, ea, l, q⟩ => ?_) ht
  subst ex
  obtain rfl : u = Value.ref a := rx
  refine getmeth_ok I1 ea c hm l ?_
  refine PySem.W.callWith_K (first := [.ref a]) (h₀ := X.base) I.ok.mod.kin hm.kp (thn (ha.run pos pins s1 σ H1 _ I1 q) fun us s2 ⟨vs, H2, I2, r, q2⟩ => ⟨I2.kIn, ?_⟩) hst hpl
  exact run_fnD (us := .ref a :: us) (vs := .ref a :: vs) F hr hb hd (hx σ) I2 (.cons rfl r) q2
theorem pe_mt0 {pl : Sem Bool} (he : PE X o ta) (c : Cls X.K C) (hm : Meth X.K C m f) (F : FnOk X.prog X.w X.K X.mg X.base CX k f fd ps sp) (hr : Room k X.A) (hb : Binds X.K fd ps ds) (hd : Vals dvs ds) (hx : ∀ σ, PassesAt CX X σ (E σ))
    (ht : eval (.Call (.Attribute o m apos) [] [] pos) X.env = (do
      let ov ← eval o X.env
      standAt apos.atName
      let (f, first) ← holding [ov] (getMethod ov m pl)
      callWith pos f first (backTo pos (starEach [] X.env)) (backToKw pos (keywordEach [] X.env))) := by rfl) :
    PE X (.Call (.Attribute o m apos) [] [] pos) (tMt C m sp dvs E ta tNil) := by
  refine ⟨fun pins s σ H Q I h => ?_⟩
  refine PySem.W.methodCall_KW (pl := pl) (thn (he.run pins s σ H _ I h) fun u s1 ⟨x, H1, I1, rx, a, dx, fs, ex, ea, l, q⟩ => ?_) ht
  subst ex
  obtain rfl : u = Value.ref a := rx
  refine getmeth_ok I1 ea c hm l ?_
  exact PySem.W.callWith_K0 (first := [.ref a]) I1.kIn hm.kp (run_fnD (us := [.ref a]) (vs := [.ref a]) F hr hb hd (hx σ) I1 (.cons rfl .nil) q)
/-- of one of two classes, each with its own method -/
def kMt2 (C C' : Addr) (m : Str) (x : V) (H : Hp) (R R' : Prop) : Prop := ∃ a dx fs, x = .ref a ∧ fs.lookup m = none ∧ ((H a = some (.ins C dx fs) ∧ R) ∨ (H a = some (.ins C' dx fs) ∧ R'))
def tMt2 (C C' : Addr) (m : Str) (sp sp' : Sp) (E : L2.St → XK) (ta : TE) (t : TA) : TE := fun σ H Q => ta σ H fun x H1 => kMt2 C C' m x H1 (t σ H1 fun vs H2 => kCall sp (x :: vs) H2 Q (E σ)) (t σ H1 fun vs H2 => kCall sp' (x :: vs) H2 Q (E σ))
theorem pe_mt2 {pl : Sem Bool} {C' f' : Addr} {fd' : FuncData} {ps' : List Str} {sp' : Sp} {k' : Nat} (he : PE X o ta) (c : Cls X.K C) (hm : Meth X.K C m f) (F : FnOk X.prog X.w X.K X.mg X.base CX k f fd ps sp) (hr : Room k X.A) (hb : Binds X.K fd ps [])
    (c' : Cls X.K C') (hm' : Meth X.K C' m f') (F' : FnOk X.prog X.w X.K X.mg X.base CX k' f' fd' ps' sp') (hr' : Room k' X.A) (hb' : Binds X.K fd' ps' []) (hx : ∀ σ, PassesAt CX X σ (E σ)) (ha : PA X (e :: es) t)
    (hst : starEach (e :: es) X.env = (false, eval e X.env) :: starEach es X.env := by rfl) (hpl : (backTo pos (starEach es X.env)).any (·.1) = false := by rfl)
    (ht : eval (.Call (.Attribute o m apos) (e :: es) [] pos) X.env = (do
      let ov ← eval o X.env
      standAt apos.atName
      let (f, first) ← holding [ov] (getMethod ov m pl)
      callWith pos f first (backTo pos (starEach (e :: es) X.env)) (backToKw pos (keywordEach [] X.env))) := by rfl) :
    PE X (.Call (.Attribute o m apos) (e :: es) [] pos) (tMt2 C C' m sp sp' E ta t) := by
  refine ⟨fun pins s σ H Q I h => ?_⟩
  refine PySem.W.methodCall_KW (pl := pl) (thn (he.run pins s σ H _ I h) fun u s1 ⟨x, H1, I1, rx, a, dx, fs, ex, l, w⟩ => ?_) ht
  subst ex
  obtain rfl : u = Value.ref a := rx
  rcases w with ⟨ea, q⟩ | ⟨ea, q⟩
  · refine getmeth_ok I1 ea c hm l ?_
    refine PySem.W.callWith_K (first := [.ref a]) (h₀ := X.base) I.ok.mod.kin hm.kp (thn (ha.run pos pins s1 σ H1 _ I1 q) fun us s2 ⟨vs, H2, I2, r, q2⟩ => ⟨I2.kIn, ?_⟩) hst hpl
    exact run_fnS (us := .ref a :: us) (vs := .ref a :: vs) F hr hb (hx σ) I2 (.cons rfl r) q2
  · refine getmeth_ok I1 ea c' hm' l ?_
    refine PySem.W.callWith_K (first := [.ref a]) (h₀ := X.base) I.ok.mod.kin hm'.kp (thn (ha.run pos pins s1 σ H1 _ I1 q) fun us s2 ⟨vs, H2, I2, r, q2⟩ => ⟨I2.kIn, ?_⟩) hst hpl
    exact run_fnS (us := .ref a :: us) (vs := .ref a :: vs) F' hr' hb' (hx σ) I2 (.cons rfl r) q2
theorem pe_mt20 {pl : Sem Bool} {C' f' : Addr} {fd' : FuncData} {ps' : List Str} {sp' : Sp} {k' : Nat} (he : PE X o ta) (c : Cls X.K C) (hm : Meth X.K C m f) (F : FnOk X.prog X.w X.K X.mg X.base CX k f fd ps sp) (hr : Room k X.A) (hb : Binds X.K fd ps [])
    (c' : Cls X.K C') (hm' : Meth X.K C' m f') (F' : FnOk X.prog X.w X.K X.mg X.base CX k' f' fd' ps' sp') (hr' : Room k' X.A) (hb' : Binds X.K fd' ps' []) (hx : ∀ σ, PassesAt CX X σ (E σ))
    (ht : eval (.Call (.Attribute o m apos) [] [] pos) X.env = (do
      let ov ← eval o X.env
      standAt apos.atName
      let (f, first) ← holding [ov] (getMethod ov m pl)
      callWith pos f first (backTo pos (starEach [] X.env)) (backToKw pos (keywordEach [] X.env))) := by rfl) :
    PE X (.Call (.Attribute o m apos) [] [] pos) (tMt2 C C' m sp sp' E ta tNil) := by
  refine ⟨fun pins s σ H Q I h => ?_⟩
  refine PySem.W.methodCall_KW (pl := pl) (thn (he.run pins s σ H _ I h) fun u s1 ⟨x, H1, I1, rx, a, dx, fs, ex, l, w⟩ => ?_) ht
  subst ex
  obtain rfl : u = Value.ref a := rx
  rcases w with ⟨ea, q⟩ | ⟨ea, q⟩
  · refine getmeth_ok I1 ea c hm l ?_
    exact PySem.W.callWith_K0 (first := [.ref a]) I1.kIn hm.kp (run_fnS (us := [.ref a]) (vs := [.ref a]) F hr hb (hx σ) I1 (.cons rfl .nil) q)
  · refine getmeth_ok I1 ea c' hm' l ?_
    exact PySem.W.callWith_K0 (first := [.ref a]) I1.kIn hm'.kp (run_fnS (us := [.ref a]) (vs := [.ref a]) F' hr' hb' (hx σ) I1 (.cons rfl .nil) q)
/-- C(e, ..) -/
def kMk (C : Addr) (sp : Sp) (vs : List V) (H : Hp) (Q : VK) (E : XK) : Prop := ∀ x dx, H x = none → H dx = none → dx ≠ x → sp (.ref x :: vs) (upd (upd H dx (.own x)) x (.ins C dx [])) (fun v H2 => v = .non ∧ Q (.ref x) H2) E
def tMk (C : Addr) (sp : Sp) (dvs : List V) (E : L2.St → XK) (t : TA) : TE := fun σ H Q => t σ H fun vs H1 => kMk C sp (vs ++ dvs) H1 Q (E σ)
theorem run_makeD {pins : List (Addr × Obj)} {σ : L2.St} {H : Hp} {s : Shared} {Q : VK} {us : List Value} {vs : List V} (M : Mk X.K C f) (F : FnOk X.prog X.w X.K X.mg X.base CX k f fd ps sp) (hr : Room (k + 1) X.A) (hb : Binds X.K fd ps ds) (hd : Vals dvs ds)
    (hx : PassesAt CX X σ (E σ)) (I : Inv X pins σ H s) (r : Vals vs us) (h : kMk C sp (vs ++ dvs) H Q (E σ)) :
    wpAny (model X.prog X.w) X.A (call (.ref C) us) (EP X pins σ Q) X.xe s := by
  have hq := h (s.heap.objs.size + 1) s.heap.objs.size (I.hok.fresh (Nat.le_succ _)) (I.hok.fresh (Nat.le_refl _)) (Nat.ne_of_lt (Nat.lt_succ_self _))
  have I2 := Inv.made (C := C) I
  have r2 : Vals (V.ref (s.heap.objs.size + 1) :: (vs ++ dvs)) (Value.ref (s.heap.objs.size + 1) :: (us ++ ds)) := .cons rfl (r.append hd)
  have hl : (Value.ref (s.heap.objs.size + 1) :: us ++ ds).length = ps.length := by
    have e := r2.length
    rw [F.len _ _ _ _ hq] at e
    exact e.symm
  refine wpAny_call (make_map (f := f) I.kIn M.makes M.init (beq_iff_eq.mp M.fn) (codeAny_mono (F.run _ X.stack _ _ ⟨Value.ref (s.heap.objs.size + 1) :: us, []⟩ (Value.ref (s.heap.objs.size + 1) :: (us ++ ds)) _ _ (E σ) (hr.make C us [])
    (I2.env0.make C us []) (hb _ (Value.ref (s.heap.objs.size + 1) :: us) I2.kIn hl) r2 hq) fun r s' hq' => ?_))
  cases r with
  | error e => exact hx pins _ _ e s' I2 hq'
  | ok fl =>
    cases fl with
    | ret u =>
      obtain ⟨v, H', I3, rv, ev, q3⟩ := I2.after hq'
      subst ev
      exact ⟨rv, ⟨V.ref (s.heap.objs.size + 1), H', I3, rfl, q3⟩⟩
    | next => exact False.elim hq'
    | brk => exact False.elim hq'
    | cont => exact False.elim hq'
theorem pe_mk (M : Mk X.K C f) (F : FnOk X.prog X.w X.K X.mg X.base CX k f fd ps sp) (hr : Room (k + 1) X.A) (hm : X.mg x = some (.ref C)) (hb : Binds X.K fd ps ds) (hd : Vals dvs ds) (hx : ∀ σ, PassesAt CX X σ (E σ))
    (ha : PA X (e :: es) t) (hg : Gl X x := by rfl) (hdb : (x == ("__debug__" : Str)) = false := by decide) (he : starEach (e :: es) X.env = (false, eval e X.env) :: starEach es X.env := by rfl) (hpl : (backTo pos (starEach es X.env)).any (·.1) = false := by rfl) :
    PE X (.Call (.Name x p) (e :: es) [] pos) (tMk C sp dvs E t) := by
  refine ⟨fun pins s σ H Q I h => ?_⟩
  refine wpAny_Call_Name_kw (ld_glob I hg hm ?_ hdb)
  refine PySem.W.callWith_K (h₀ := X.base) I.ok.mod.kin M.kp (thn (ha.run pos pins s σ H _ I h) fun us s1 ⟨vs, H1, I1, r, q⟩ => ⟨I1.kIn, ?_⟩) he hpl
  exact run_makeD M F hr hb hd (hx σ) I1 r q
theorem pe_mk0 (M : Mk X.K C f) (F : FnOk X.prog X.w X.K X.mg X.base CX k f fd ps sp) (hr : Room (k + 1) X.A) (hm : X.mg x = some (.ref C)) (hb : Binds X.K fd ps ds) (hd : Vals dvs ds) (hx : ∀ σ, PassesAt CX X σ (E σ))
    (hg : Gl X x := by rfl) (hdb : (x == ("__debug__" : Str)) = false := by decide) : PE X (.Call (.Name x p) [] [] pos) (tMk C sp dvs E tNil) := by
  refine ⟨fun pins s σ H Q I h => ?_⟩
  refine wpAny_Call_Name_kw (ld_glob I hg hm ?_ hdb)
  exact PySem.W.callWith_K0 I.kIn M.kp (run_makeD (us := []) M F hr hb hd (hx σ) I .nil h)
end
/-! ### either of two rules -/
section
variable {X : Cx}
def rOr (r r' : R2) : R2 := fun x y H Q => r x y H Q ∨ r' x y H Q
theorem op_or2 {f : Value → Value → Sem Value} {r r' : R2} (a : OpR X f r) (b : OpR X f r') : OpR X f (rOr r r') := fun pins s σ H x y v u Q I rx ry h => h.elim (fun q => a pins s σ H x y v u Q I rx ry q) fun q => b pins s σ H x y v u Q I rx ry q
def cOr (r r' : List V → Hp → VK → Prop) : List V → Hp → VK → Prop := fun xs H Q => r xs H Q ∨ r' xs H Q
theorem call_or2 {f : Value} {r r' : List V → Hp → VK → Prop} (a : CallR X f r) (b : CallR X f r') : CallR X f (cOr r r') := fun pins s σ H xs us Q I r h => h.elim (fun q => a pins s σ H xs us Q I r q) fun q => b pins s σ H xs us Q I r q
/-- len of a thing -/
def cLen (K : PySem.W.Frag) : List V → Hp → VK → Prop := fun xs H Q => ∃ p n, xs = [.ref p] ∧ ((∃ ys, (SqL K H p ys ∨ SqT K H p ys) ∧ n = ys.length) ∨ (∃ kvs, Rd H p (.dK kvs) ∧ n = kvs.length)) ∧ Q (.int (n : Int)) H
def cMin : List V → Hp → VK → Prop := fun xs H Q => ∃ i j, xs = [.int i, .int j] ∧ Q (.int (if j < i then j else i)) H
def cMax : List V → Hp → VK → Prop := fun xs H Q => ∃ i j, xs = [.int i, .int j] ∧ Q (.int (if j > i then j else i)) H
theorem call_minU (hc : X.calm = true) : CallR X (.builtin "min") cMin := call_min2 hc
theorem call_maxU (hc : X.calm = true) : CallR X (.builtin "max") cMax := call_max2 hc
def cLenS (K : PySem.W.Frag) : List V → Hp → VK → Prop := fun xs H Q => ∃ p ys, xs = [.ref p] ∧ (SqL K H p ys ∨ SqT K H p ys) ∧ Q (.int (ys.length : Int)) H
theorem call_lenS : CallR X (.builtin "len") (cLenS X.K) := call_len_seq
end
/-! the rules at a written part K -/
section
variable {X : Cx} {K : PySem.W.Frag}
theorem ixL (h : X.K = K) : IxR X (rIxL K) := by subst h; exact ix_list
theorem ixT (h : X.K = K) : IxR X (rIxT K) := by subst h; exact ix_tup
theorem slL (h : X.K = K) : SlR X (rSlL K) := by subst h; exact sl_list
theorem slT (h : X.K = K) : SlR X (rSlT K) := by subst h; exact sl_tup
theorem inL (h : X.K = K) : OpR X (compareOp .In) (rIn K false) := by subst h; exact op_in_seq
theorem notInL (h : X.K = K) : OpR X (compareOp .NotIn) (rIn K true) := by subst h; exact op_notIn_seq
theorem callLen (h : X.K = K) : CallR X (.builtin "len") (cLenS K) := by subst h; exact call_lenS
theorem callIsi (h : X.K = K) : CallR X (.builtin "isinstance") (rIsi K) := by subst h; exact call_isi
theorem callIsiT (h : X.K = K) : CallR X (.builtin "isinstance") (rIsiT K) := by subst h; exact call_isiT
theorem opEqD (h : X.K = K) (hu : X.A.units + 64 < cLine) : OpR X (compareOp .Eq) (rEqD K) := by subst h; exact op_eqD hu
theorem opNeD (h : X.K = K) (hu : X.A.units + 64 < cLine) : OpR X (compareOp .NotEq) (rNeD K) := by subst h; exact op_neD hu
theorem opCatT (h : X.K = K) : OpR X (binaryOp .Add) (rCatT K) := by subst h; exact op_catT
theorem piList {tg l : Expr} {tl : TE} (h : X.K = K) (hl : PE X l tl) : PI X tg l (iList K tl) := by subst h; exact pi_list hl
theorem piTup {tg l : Expr} {tl : TE} (h : X.K = K) (hl : PE X l tl) : PI X tg l (iTup K tl) := by subst h; exact pi_tup hl
theorem pgTup {es : List Expr} {k : Nat} {t : TGs} {n : Nat} {pos : Pos} (e : X.K = K) (hc : X.calm = true) (h : PGs X es t)
    (hn : (assignEach es X.env).length = n := by rfl) (hst : (assignEach es X.env).findIdx? (·.1) = none := by rfl) : PG X (.Tuple es k pos) (gTup K n t) := by subst e; exact pg_tup hc h hn hst
def cList (K : PySem.W.Frag) : List V → Hp → VK → Prop := fun xs H Q => ∃ p ys, xs = [.ref p] ∧ (SqL K H p ys ∨ SqT K H p ys) ∧ ∀ l, H l = none → Q (.ref l) (upd H l (.lst ys))
theorem callList (h : X.K = K) : CallR X (.type "list") (cList K) := by subst h; exact call_list_of
end
end Fl
/-! Fl: the readings step by step. -/
namespace Fl
open PySem PySem.Spec PyProof.Rows L2
/-- a step found by its goal's head -/
class Stp (g : Prop) (h : outParam Prop) : Prop where go : h → g
class SAt (σ : L2.St) (i : Nat) (v : outParam V) : Prop where e : σ[i]? = some (some v)
instance j_at0 {σ : L2.St} {v : V} : SAt (some v :: σ) 0 v := ⟨rfl⟩
instance j_at1 {σ : L2.St} {x : Option V} {i : Nat} {v : V} [q : SAt σ i v] : SAt (x :: σ) (i + 1) v := ⟨by rw [List.getElem?_cons_succ]; exact q.e⟩
class SSet (σ : L2.St) (i : Nat) (v : V) (σ' : outParam L2.St) : Prop where e : σ.set i (some v) = σ'
instance j_set0 {σ : L2.St} {x : Option V} {v : V} : SSet (x :: σ) 0 v (some v :: σ) := ⟨rfl⟩
instance j_set1 {σ σ' : L2.St} {x : Option V} {i : Nat} {v : V} [q : SSet σ i v σ'] : SSet (x :: σ) (i + 1) v (x :: σ') := ⟨by rw [List.set_cons_succ, q.e]⟩
section
variable {X : Cx} {L : List Asrt} {K : PySem.W.Frag} {σ σ' : L2.St} {H H' : Hp} {l : List Asrt} {D : Ends} {Q : VK} {QB : Bool → Hp → Prop} {QL : List V → Hp → Prop} {a b p C dx : Addr} {fs fs' : List (Str × V)} {xs ys vs : List V} {v x y : V} {i j : Int} {n k : Nat} {f m : Str} {te ta tb td ti tv : TE} {tt tu : TT} {ts tz : TS} {tl : TA} {g : TG} {r : R2} {sp : Sp} {E : XK}
/-! statements -/
variable {nx bk ct : L2.St → Hp → Prop} {rt : VK}
theorem r_start {N : List Str} (e : L2.start N vs = σ') (h : ts ⟨nx, rt, bk, ct⟩ σ' H) : ts ⟨nx, rt, bk, ct⟩ (L2.start N vs) H := by rw [e]; exact h
theorem r_seq (h : ts ⟨tz ⟨nx, rt, bk, ct⟩, rt, bk, ct⟩ σ H) : tSeq ts tz ⟨nx, rt, bk, ct⟩ σ H := h
instance i_r_seq : Stp (tSeq ts tz ⟨nx, rt, bk, ct⟩ σ H) (ts ⟨tz ⟨nx, rt, bk, ct⟩, rt, bk, ct⟩ σ H) := ⟨r_seq⟩
theorem r_next (h : nx σ H) : tNext ⟨nx, rt, bk, ct⟩ σ H := h
instance i_r_next : Stp (tNext ⟨nx, rt, bk, ct⟩ σ H) (nx σ H) := ⟨r_next⟩
theorem r_brk (h : bk σ H) : tBreak ⟨nx, rt, bk, ct⟩ σ H := h
instance i_r_brk : Stp (tBreak ⟨nx, rt, bk, ct⟩ σ H) (bk σ H) := ⟨r_brk⟩
theorem r_cont (h : ct σ H) : tCont ⟨nx, rt, bk, ct⟩ σ H := h
instance i_r_cont : Stp (tCont ⟨nx, rt, bk, ct⟩ σ H) (ct σ H) := ⟨r_cont⟩
theorem r_drop (h : te σ H fun _ H1 => nx σ H1) : tDrop te ⟨nx, rt, bk, ct⟩ σ H := h
instance i_r_drop : Stp (tDrop te ⟨nx, rt, bk, ct⟩ σ H) (te σ H fun _ H1 => nx σ H1) := ⟨r_drop⟩
theorem r_ret (h : te σ H rt) : tRet te ⟨nx, rt, bk, ct⟩ σ H := h
instance i_r_ret : Stp (tRet te ⟨nx, rt, bk, ct⟩ σ H) (te σ H rt) := ⟨r_ret⟩
theorem r_retN (h : rt .non H) : tRetN ⟨nx, rt, bk, ct⟩ σ H := h
instance i_r_retN : Stp (tRetN ⟨nx, rt, bk, ct⟩ σ H) (rt .non H) := ⟨r_retN⟩
theorem r_if (h : tt σ H fun b H1 => if b = true then ts ⟨nx, rt, bk, ct⟩ σ H1 else tz ⟨nx, rt, bk, ct⟩ σ H1) : tIfS tt ts tz ⟨nx, rt, bk, ct⟩ σ H := h
instance i_r_if : Stp (tIfS tt ts tz ⟨nx, rt, bk, ct⟩ σ H) (tt σ H fun b H1 => if b = true then ts ⟨nx, rt, bk, ct⟩ σ H1 else tz ⟨nx, rt, bk, ct⟩ σ H1) := ⟨r_if⟩
theorem r_cut (M : L2.St → Hp → Prop) (h : ts ⟨M, rt, bk, ct⟩ σ H) (k : ∀ σ' H', M σ' H' → tz ⟨nx, rt, bk, ct⟩ σ' H') : Evl.tCut ts tz ⟨nx, rt, bk, ct⟩ σ H := ⟨M, h, k⟩
theorem r_asg (h : te σ H fun x H1 => g x σ H1 nx) : tAsg te g ⟨nx, rt, bk, ct⟩ σ H := h
instance i_r_asg : Stp (tAsg te g ⟨nx, rt, bk, ct⟩ σ H) (te σ H fun x H1 => g x σ H1 nx) := ⟨r_asg⟩
def kSet (σ : L2.St) (H : Hp) (q : L2.St → Hp → Prop) : Prop := q σ H
theorem r_name {i : Nat} {q : L2.St → Hp → Prop} (e : σ.set i (some v) = σ') (h : q σ' H) : gName i v σ H q := by
  show q (σ.set i (some v)) H
  rw [e]; exact h
theorem r_aug {i : Nat} {ip : TIp} (e : σ[i]? = some (some x)) (h : te σ H fun y H1 => ip x y H1 fun z H2 => gName i z σ H2 nx) : tAug i te ip ⟨nx, rt, bk, ct⟩ σ H := ⟨x, e, h⟩
theorem r_ipI {f : Int → Int → Int} (h : Q (.int (f i j)) H) : ipI f (.int i) (.int j) H Q := ⟨i, j, rfl, rfl, h⟩
instance i_r_ipI {f : Int → Int → Int} : Stp (ipI f (.int i) (.int j) H Q) (Q (.int (f i j)) H) := ⟨r_ipI⟩
/-! expressions -/
theorem r_var {i : Nat} (e : σ[i]? = some (some v)) (h : Q v H) : tVar i σ H Q := ⟨v, e, h⟩
instance j_var {i : Nat} [q : SAt σ i v] : Stp (tVar i σ H Q) (Q v H) := ⟨r_var q.e⟩
instance j_name {i : Nat} {w : L2.St → Hp → Prop} [q : SSet σ i v σ'] : Stp (gName i v σ H w) (w σ' H) := ⟨r_name q.e⟩
instance j_aug {i : Nat} {ip : TIp} [q : SAt σ i x] : Stp (tAug i te ip ⟨nx, rt, bk, ct⟩ σ H) (te σ H fun y H1 => ip x y H1 fun z H2 => gName i z σ H2 nx) := ⟨r_aug q.e⟩
theorem r_C (h : Q v H) : tC v σ H Q := h
instance i_r_C : Stp (tC v σ H Q) (Q v H) := ⟨r_C⟩
theorem r_op (h : ta σ H fun x H1 => tb σ H1 fun y H2 => r x y H2 Q) : tOp r ta tb σ H Q := h
instance i_r_op : Stp (tOp r ta tb σ H Q) (ta σ H fun x H1 => tb σ H1 fun y H2 => r x y H2 Q) := ⟨r_op⟩
theorem r_un {u : V → Hp → VK → Prop} (h : ta σ H fun x H1 => u x H1 Q) : tUn u ta σ H Q := h
instance i_r_un {u : V → Hp → VK → Prop} : Stp (tUn u ta σ H Q) (ta σ H fun x H1 => u x H1 Q) := ⟨r_un⟩
theorem r_I0 {g : Int → Int → V} (h : Q (g i j) H) : rI0 g (.int i) (.int j) H Q := ⟨i, j, rfl, rfl, h⟩
instance i_r_I0 {g : Int → Int → V} : Stp (rI0 g (.int i) (.int j) H Q) (Q (g i j) H) := ⟨r_I0⟩
theorem r_I {Cn : Int → Int → Prop} {g : Int → Int → V} (c : Cn i j) (h : Q (g i j) H) : rI Cn g (.int i) (.int j) H Q := ⟨i, j, rfl, rfl, c, h⟩
theorem r_U {g : Int → V} (h : Q (g i) H) : rU g (.int i) H Q := ⟨i, rfl, h⟩
instance i_r_U {g : Int → V} : Stp (rU g (.int i) H Q) (Q (g i) H) := ⟨r_U⟩
theorem r_eqI (h : Q (.bl (decide (i = j))) H) : rEq (.int i) (.int j) H Q := ⟨rfl, by rw [show (decide (V.int i = V.int j)) = decide (i = j) from decide_eq_decide.mpr ⟨fun q => V.int.inj q, fun q => by rw [q]⟩]; exact h⟩
instance i_r_eqI : Stp (rEq (.int i) (.int j) H Q) (Q (.bl (decide (i = j))) H) := ⟨r_eqI⟩
theorem r_neI (h : Q (.bl (!decide (i = j))) H) : rNe (.int i) (.int j) H Q := ⟨rfl, by rw [show (decide (V.int i = V.int j)) = decide (i = j) from decide_eq_decide.mpr ⟨fun q => V.int.inj q, fun q => by rw [q]⟩]; exact h⟩
instance i_r_neI : Stp (rNe (.int i) (.int j) H Q) (Q (.bl (!decide (i = j))) H) := ⟨r_neI⟩
theorem r_eqB {c d : Bool} (h : Q (.bl (decide (c = d))) H) : rEq (.bl c) (.bl d) H Q := ⟨rfl, by rw [show (decide (V.bl c = V.bl d)) = decide (c = d) from decide_eq_decide.mpr ⟨fun q => V.bl.inj q, fun q => by rw [q]⟩]; exact h⟩
instance i_r_eqB {c d : Bool} : Stp (rEq (.bl c) (.bl d) H Q) (Q (.bl (decide (c = d))) H) := ⟨r_eqB⟩
theorem r_neB {c d : Bool} (h : Q (.bl (!decide (c = d))) H) : rNe (.bl c) (.bl d) H Q := ⟨rfl, by rw [show (decide (V.bl c = V.bl d)) = decide (c = d) from decide_eq_decide.mpr ⟨fun q => V.bl.inj q, fun q => by rw [q]⟩]; exact h⟩
instance i_r_neB {c d : Bool} : Stp (rNe (.bl c) (.bl d) H Q) (Q (.bl (!decide (c = d))) H) := ⟨r_neB⟩
theorem r_eqS (s : scal x y = true) (h : Q (.bl (decide (x = y))) H) : rEq x y H Q := ⟨s, h⟩
theorem r_neS (s : scal x y = true) (h : Q (.bl (!decide (x = y))) H) : rNe x y H Q := ⟨s, h⟩
theorem r_isN (h : Q (.bl (decide (x = .non))) H) : rIsN x .non H Q := ⟨rfl, h⟩
instance i_r_isN : Stp (rIsN x .non H Q) (Q (.bl (decide (x = .non))) H) := ⟨r_isN⟩
theorem r_notN (h : Q (.bl (!decide (x = .non))) H) : rNotN x .non H Q := ⟨rfl, h⟩
instance i_r_notN : Stp (rNotN x .non H Q) (Q (.bl (!decide (x = .non))) H) := ⟨r_notN⟩
theorem r_isB {c d : Bool} (h : Q (.bl (decide (c = d))) H) : rIsB (.bl c) (.bl d) H Q := ⟨c, d, rfl, rfl, h⟩
instance i_r_isB {c d : Bool} : Stp (rIsB (.bl c) (.bl d) H Q) (Q (.bl (decide (c = d))) H) := ⟨r_isB⟩
theorem r_test (h : te σ H fun x H' => ∃ k, x = .bl k ∧ QB k H') : tTest te σ H QB := h
instance i_r_test : Stp (tTest te σ H QB) (te σ H fun x H' => ∃ k, x = .bl k ∧ QB k H') := ⟨r_test⟩
theorem r_B (h : te σ H fun x H' => ∃ k, x = .bl k ∧ QB k H') : tB te σ H QB := h
instance i_r_B : Stp (tB te σ H QB) (te σ H fun x H' => ∃ k, x = .bl k ∧ QB k H') := ⟨r_B⟩
theorem r_bl {c : Bool} (h : QB c H) : ∃ k, V.bl c = V.bl k ∧ QB k H := ⟨c, rfl, h⟩
instance i_r_bl {c : Bool} : Stp (∃ k, V.bl c = V.bl k ∧ QB k H) (QB c H) := ⟨r_bl⟩
def kAnd (c : Bool) (tu : TT) (σ : L2.St) (H : Hp) (QB : Bool → Hp → Prop) : Prop := if c = true then tu σ H QB else QB false H
def kOr (c : Bool) (tu : TT) (σ : L2.St) (H : Hp) (QB : Bool → Hp → Prop) : Prop := if c = true then QB true H else tu σ H QB
def kAndV (c : Bool) (tb : TE) (σ : L2.St) (H : Hp) (Q : VK) : Prop := if c = true then tb σ H Q else Q (.bl false) H
def kOrV (c : Bool) (tb : TE) (σ : L2.St) (H : Hp) (Q : VK) : Prop := if c = true then Q (.bl true) H else tb σ H Q
theorem r_and (h : tt σ H fun c H1 => kAnd c tu σ H1 QB) : tAnd tt tu σ H QB := h
instance i_r_and : Stp (tAnd tt tu σ H QB) (tt σ H fun c H1 => kAnd c tu σ H1 QB) := ⟨r_and⟩
theorem r_or (h : tt σ H fun c H1 => kOr c tu σ H1 QB) : tOr tt tu σ H QB := h
instance i_r_or : Stp (tOr tt tu σ H QB) (tt σ H fun c H1 => kOr c tu σ H1 QB) := ⟨r_or⟩
theorem r_not (h : tt σ H fun c H1 => QB (!c) H1) : tNot tt σ H QB := h
instance i_r_not : Stp (tNot tt σ H QB) (tt σ H fun c H1 => QB (!c) H1) := ⟨r_not⟩
theorem r_andV (h : ta σ H fun x H1 => ∃ c, x = .bl c ∧ kAndV c tb σ H1 Q) : tAndV ta tb σ H Q := h
instance i_r_andV : Stp (tAndV ta tb σ H Q) (ta σ H fun x H1 => ∃ c, x = .bl c ∧ kAndV c tb σ H1 Q) := ⟨r_andV⟩
theorem r_orV (h : ta σ H fun x H1 => ∃ c, x = .bl c ∧ kOrV c tb σ H1 Q) : tOrV ta tb σ H Q := h
instance i_r_orV : Stp (tOrV ta tb σ H Q) (ta σ H fun x H1 => ∃ c, x = .bl c ∧ kOrV c tb σ H1 Q) := ⟨r_orV⟩
theorem r_blV {c : Bool} {R : Bool → Prop} (h : R c) : ∃ d, V.bl c = V.bl d ∧ R d := ⟨c, rfl, h⟩
instance i_r_blV {c : Bool} {R : Bool → Prop} : Stp (∃ d, V.bl c = V.bl d ∧ R d) (R c) := ⟨r_blV⟩
theorem r_notV (h : ta σ H fun x H1 => ∃ c, x = .bl c ∧ Q (.bl (!c)) H1) : tNotV ta σ H Q := h
instance i_r_notV : Stp (tNotV ta σ H Q) (ta σ H fun x H1 => ∃ c, x = .bl c ∧ Q (.bl (!c)) H1) := ⟨r_notV⟩
theorem r_ifE (h : tt σ H fun c H1 => if c = true then ta σ H1 Q else tb σ H1 Q) : tIf tt ta tb σ H Q := h
instance i_r_ifE : Stp (tIf tt ta tb σ H Q) (tt σ H fun c H1 => if c = true then ta σ H1 Q else tb σ H1 Q) := ⟨r_ifE⟩
theorem r_chain {r' : R2} {tc : TE} (h : ta σ H fun x H1 => tb σ H1 fun y H2 => r x y H2 fun z H3 => ∃ k, z = .bl k ∧ if k = true then tc σ H3 fun w H4 => r' y w H4 Q else Q (.bl false) H3) : tChain r r' ta tb tc σ H Q := h
instance i_r_chain {r' : R2} {tc : TE} : Stp (tChain r r' ta tb tc σ H Q) (ta σ H fun x H1 => tb σ H1 fun y H2 => r x y H2 fun z H3 => ∃ k, z = .bl k ∧ if k = true then tc σ H3 fun w H4 => r' y w H4 Q else Q (.bl false) H3) := ⟨r_chain⟩
theorem r_nil (h : QL [] H) : tNil σ H QL := h
instance i_r_nil : Stp (tNil σ H QL) (QL [] H) := ⟨r_nil⟩
theorem r_cons (h : te σ H fun x H1 => tl σ H1 fun xs H2 => QL (x :: xs) H2) : tCons te tl σ H QL := h
instance i_r_cons : Stp (tCons te tl σ H QL) (te σ H fun x H1 => tl σ H1 fun xs H2 => QL (x :: xs) H2) := ⟨r_cons⟩
def kTup (xs : List V) (H : Hp) (Q : VK) : Prop := xs.length ≤ sizeLine ∧ ∀ p, H p = none → Q (.ref p) (upd H p (.tup xs))
def kLst (xs : List V) (H : Hp) (Q : VK) : Prop := xs.length ≤ sizeLine ∧ ∀ p, H p = none → Q (.ref p) (upd H p (.lst xs))
theorem r_tup (h : tl σ H fun xs H1 => kTup xs H1 Q) : tTup tl σ H Q := h
instance i_r_tup : Stp (tTup tl σ H Q) (tl σ H fun xs H1 => kTup xs H1 Q) := ⟨r_tup⟩
theorem r_lst (h : tl σ H fun xs H1 => kLst xs H1 Q) : tLst tl σ H Q := h
instance i_r_lst : Stp (tLst tl σ H Q) (tl σ H fun xs H1 => kLst xs H1 Q) := ⟨r_lst⟩
theorem r_kTup (S : Star l H) (z : xs.length ≤ sizeLine) (h : ∀ p H', Star (pt p (.tup xs) :: l) H' → Q (.ref p) H') : kTup xs H Q := ⟨z, fun p n => h p _ (S.new n)⟩
theorem r_kLst (S : Star l H) (z : xs.length ≤ sizeLine) (h : ∀ p H', Star (pt p (.lst xs) :: l) H' → Q (.ref p) H') : kLst xs H Q := ⟨z, fun p n => h p _ (S.new n)⟩
theorem r_ixL (S : Star L H) (P : Pull (pt p (.lst xs)) L l) (e : atI xs i = some v) (h : Q v H) : rIxL K (.ref p) (.int i) H Q := ⟨p, xs, i, v, rfl, rfl, SqL.of ((S.pull P).get (.head _)), e, h⟩
theorem r_ixT (S : Star L H) (P : Pull (pt p (.tup xs)) L l) (e : atI xs i = some v) (h : Q v H) : rIxT K (.ref p) (.int i) H Q := ⟨p, xs, i, v, rfl, rfl, SqT.of ((S.pull P).get (.head _)), e, h⟩
theorem r_ixScr {ns : List Int} (S : Star L H) (P : Pull (scr K p ns) L l) {z : Int} (e : atI (ns.map V.int) i = some (.int z)) (h : Q (.int z) H) : rIxL K (.ref p) (.int i) H Q := ⟨p, _, i, _, rfl, rfl, (S.pull P).scr (.head _), e, h⟩
/-- a store into a written row of fields -/
class NeS (f g : Str) : Prop where e : ¬ g = f
class PutF (f : Str) (v : V) (fs : List (Str × V)) (fs' : outParam (List (Str × V))) : Prop where e : putF f v fs = fs'
instance putF0 {f : Str} {v : V} : PutF f v [] [(f, v)] := ⟨rfl⟩
instance putF1 {f : Str} {v x : V} {r : List (Str × V)} : PutF f v ((f, x) :: r) ((f, v) :: r) := ⟨by unfold putF; rw [if_pos rfl]⟩
instance putF2 {f g : Str} {v x : V} {r r' : List (Str × V)} [h : NeS f g] [q : PutF f v r r'] : PutF f v ((g, x) :: r) ((g, x) :: r') := ⟨by unfold putF; rw [if_neg h.e, q.e]⟩
class LkF (fs : List (Str × V)) (f : Str) (v : outParam V) : Prop where e : fs.lookup f = some v
instance lkF1 {f : Str} {x : V} {r : List (Str × V)} : LkF ((f, x) :: r) f x := ⟨by rw [List.lookup_cons, beq_self_eq_true]⟩
instance lkF2 {f g : Str} {v x : V} {r : List (Str × V)} [h : NeS f g] [q : LkF r f v] : LkF ((g, x) :: r) f v := ⟨by rw [List.lookup_cons, show (f == g) = false from beq_eq_false_iff_ne.mpr (fun e => h.e e.symm)]; exact q.e⟩
/-! fields -/
theorem r_fldC (h : ta σ H fun x H1 => kFld C f x H1 Q) : tFldC C ta f σ H Q := h
instance i_r_fldC : Stp (tFldC C ta f σ H Q) (ta σ H fun x H1 => kFld C f x H1 Q) := ⟨r_fldC⟩
theorem r_fld [e : LkF fs f v] (S : Star L H) (P : Pull (pt a (.ins C dx fs)) L l) (h : Q v H) : kFld C f (.ref a) H Q := ⟨a, dx, fs, v, rfl, (S.pull P).get (.head _), e.e, h⟩
theorem r_sfldC (h : tv σ H fun y H1 => ta σ H1 fun x H2 => kSto C f x y H2 fun H3 => nx σ H3) : sFldC C ta tv f ⟨nx, rt, bk, ct⟩ σ H := h
instance i_r_sfldC : Stp (sFldC C ta tv f ⟨nx, rt, bk, ct⟩ σ H) (tv σ H fun y H1 => ta σ H1 fun x H2 => kSto C f x y H2 fun H3 => nx σ H3) := ⟨r_sfldC⟩
theorem r_sto {q : Hp → Prop} (S : Star L H) (P : Pull (pt a (.ins C dx fs)) L l) (z : fs.length < 1000) [e : PutF f y fs fs'] (h : ∀ H', Star (pt a (.ins C dx fs') :: l) H' → q H') : kSto C f (.ref a) y H q :=
  ⟨a, dx, fs, rfl, (S.pull P).get (.head _), z, h _ (by rw [e.e]; exact (S.pull P).upd (fun ⟨_, q⟩ => nomatch q))⟩
theorem r_augC {C : Addr} {rd : R2} (h : ta σ H fun x H1 => kAugR C f x H1 fun a v => tv σ H1 fun y H2 => rd v y H2 fun z H3 => kAugW C a f z H3 fun H4 => nx σ H4) : sFldAugC C ta tv rd f ⟨nx, rt, bk, ct⟩ σ H := h
instance i_r_augC {C : Addr} {rd : R2} : Stp (sFldAugC C ta tv rd f ⟨nx, rt, bk, ct⟩ σ H) (ta σ H fun x H1 => kAugR C f x H1 fun a v => tv σ H1 fun y H2 => rd v y H2 fun z H3 => kAugW C a f z H3 fun H4 => nx σ H4) := ⟨r_augC⟩
theorem r_augR {R : Addr → V → Prop} [e : LkF fs f v] (S : Star L H) (P : Pull (pt a (.ins C dx fs)) L l) (h : R a v) : kAugR C f (.ref a) H R := ⟨a, dx, fs, v, rfl, (S.pull P).get (.head _), e.e, h⟩
theorem r_augW {q : Hp → Prop} (S : Star L H) (P : Pull (pt a (.ins C dx fs)) L l) (z : fs.length < 1000) [e : PutF f y fs fs'] (h : ∀ H', Star (pt a (.ins C dx fs') :: l) H' → q H') : kAugW C a f y H q :=
  ⟨dx, fs, (S.pull P).get (.head _), z, h _ (by rw [e.e]; exact (S.pull P).upd (fun ⟨_, q⟩ => nomatch q))⟩
/-! calls -/
theorem r_cl {dvs : List V} {E : L2.St → XK} (h : tl σ H fun vs H1 => kCall sp (vs ++ dvs) H1 Q (E σ)) : tCl sp dvs E tl σ H Q := h
theorem r_cl0 {E : L2.St → XK} (h : tl σ H fun vs H1 => kCall sp vs H1 Q (E σ)) : tCl sp [] E tl σ H Q := by
  show tl σ H fun vs H1 => kCall sp (vs ++ []) H1 Q (E σ)
  simp only [List.append_nil]; exact h
instance i_r_cl0 {E : L2.St → XK} : Stp (tCl sp [] E tl σ H Q) (tl σ H fun vs H1 => kCall sp vs H1 Q (E σ)) := ⟨r_cl0⟩
theorem r_mt0 {E : L2.St → XK} (h : ta σ H fun x H1 => kMt C m x H1 (tl σ H1 fun vs H2 => kCall sp (x :: vs) H2 Q (E σ))) : tMt C m sp [] E ta tl σ H Q := by
  show ta σ H fun x H1 => kMt C m x H1 (tl σ H1 fun vs H2 => kCall sp (x :: (vs ++ [])) H2 Q (E σ))
  simp only [List.append_nil]; exact h
instance i_r_mt0 {E : L2.St → XK} : Stp (tMt C m sp [] E ta tl σ H Q) (ta σ H fun x H1 => kMt C m x H1 (tl σ H1 fun vs H2 => kCall sp (x :: vs) H2 Q (E σ))) := ⟨r_mt0⟩
theorem r_mk0 {E : L2.St → XK} (h : tl σ H fun vs H1 => kMk C sp vs H1 Q (E σ)) : tMk C sp [] E tl σ H Q := by
  show tl σ H fun vs H1 => kMk C sp (vs ++ []) H1 Q (E σ)
  simp only [List.append_nil]; exact h
instance i_r_mk0 {E : L2.St → XK} : Stp (tMk C sp [] E tl σ H Q) (tl σ H fun vs H1 => kMk C sp vs H1 Q (E σ)) := ⟨r_mk0⟩
theorem r_mt {dvs : List V} {E : L2.St → XK} (h : ta σ H fun x H1 => kMt C m x H1 (tl σ H1 fun vs H2 => kCall sp (x :: (vs ++ dvs)) H2 Q (E σ))) : tMt C m sp dvs E ta tl σ H Q := h
theorem r_kMt {R : Prop} (S : Star L H) (P : Pull (pt a (.ins C dx fs)) L l) (e : fs.lookup m = none) (h : R) : kMt C m (.ref a) H R := ⟨a, dx, fs, rfl, (S.pull P).get (.head _), e, h⟩
theorem r_mk {dvs : List V} {E : L2.St → XK} (h : tl σ H fun vs H1 => kMk C sp (vs ++ dvs) H1 Q (E σ)) : tMk C sp dvs E tl σ H Q := h
instance i_made {P : Prop} {v : V} : Stp (v = v ∧ P) P := ⟨fun h => ⟨rfl, h⟩⟩
theorem r_kMk (S : Star l H) (h : ∀ x dx H', Star (pt x (.ins C dx []) :: l) H' → kCall sp (.ref x :: vs) H' (fun v H2 => v = .non ∧ Q (.ref x) H2) E) : kMk C sp vs H Q E := fun x dx nx nd ne => by
  refine h x dx _ ?_
  have S1 := S.junk (o := .own x) nd
  exact S1.new (by rw [upd_ne (Ne.symm ne)]; exact nx)
theorem r_CB {r : List V → Hp → VK → Prop} (h : tl σ H fun vs H1 => r vs H1 Q) : tCB r tl σ H Q := h
instance i_r_CB {r : List V → Hp → VK → Prop} : Stp (tCB r tl σ H Q) (tl σ H fun vs H1 => r vs H1 Q) := ⟨r_CB⟩
theorem r_min (h : Q (.int (if j < i then j else i)) H) : cMin [.int i, .int j] H Q := ⟨i, j, rfl, h⟩
instance i_r_min : Stp (cMin [.int i, .int j] H Q) (Q (.int (if j < i then j else i)) H) := ⟨r_min⟩
theorem r_max (h : Q (.int (if j > i then j else i)) H) : cMax [.int i, .int j] H Q := ⟨i, j, rfl, h⟩
instance i_r_max : Stp (cMax [.int i, .int j] H Q) (Q (.int (if j > i then j else i)) H) := ⟨r_max⟩
theorem r_lenL {n : Nat} (S : Star L H) (P : Pull (pt p (.lst xs)) L l) (e : xs.length = n) (h : Q (.int (n : Int)) H) : cLenS K [.ref p] H Q := ⟨p, xs, rfl, .inl (SqL.of ((S.pull P).get (.head _))), by rw [e]; exact h⟩
theorem r_lenT {n : Nat} (S : Star L H) (P : Pull (pt p (.tup xs)) L l) (e : xs.length = n) (h : Q (.int (n : Int)) H) : cLenS K [.ref p] H Q := ⟨p, xs, rfl, .inr (SqT.of ((S.pull P).get (.head _))), by rw [e]; exact h⟩
theorem r_lenScr {ns : List Int} (S : Star L H) (P : Pull (scr K p ns) L l) (h : Q (.int (ns.length : Int)) H) : cLenS K [.ref p] H Q := ⟨p, _, rfl, .inl ((S.pull P).scr (.head _)), by rw [List.length_map]; exact h⟩
/-! isinstance with built-in classes -/
def cIsi (K : PySem.W.Frag) : List V → Hp → VK → Prop := rIsi K
theorem r_isi {t s : String} {w : Bool} (ty : TyX K H x (.type t)) (e : kitB t s = some w) (h : Q (.bl w) H) : rIsi K [x, .ty s] H Q := ⟨x, .ty s, .type t, .type s, w, rfl, .ty s, ty, kit_ty e, h⟩
end
/-! and, or without forking -/
section
variable {L : List Asrt} {σ : L2.St} {H : Hp} {Q : VK} {QB : Bool → Hp → Prop} {tu : TT} {tb : TE} {c d : Bool}
theorem kAnd_go (e : c = true) (h : tu σ H QB) : kAnd c tu σ H QB := by subst e; unfold kAnd; rw [if_pos rfl]; exact h
theorem kAnd_st (e : c = false) (h : QB false H) : kAnd c tu σ H QB := by subst e; unfold kAnd; rw [if_neg Bool.false_ne_true]; exact h
theorem kAnd_sp (h : c = true → tu σ H QB) (h' : c = false → QB false H) : kAnd c tu σ H QB := by
  cases e : c with
  | true => exact kAnd_go rfl (h e)
  | false => exact kAnd_st rfl (h' e)
theorem kAnd_J (S : Star L H) (hd : c = true → ∀ QB' : Bool → Hp → Prop, (∀ H', Star L H' → QB' d H') → tu σ H QB') (h : ∀ H', Star L H' → QB (c && d) H') : kAnd c tu σ H QB := by
  cases c with
  | true => exact kAnd_go rfl (hd rfl QB fun H' S' => h H' S')
  | false => exact kAnd_st rfl (h H S)
theorem kOr_go (e : c = false) (h : tu σ H QB) : kOr c tu σ H QB := by subst e; unfold kOr; rw [if_neg Bool.false_ne_true]; exact h
theorem kOr_st (e : c = true) (h : QB true H) : kOr c tu σ H QB := by subst e; unfold kOr; rw [if_pos rfl]; exact h
theorem kOr_sp (h : c = false → tu σ H QB) (h' : c = true → QB true H) : kOr c tu σ H QB := by
  cases e : c with
  | false => exact kOr_go rfl (h e)
  | true => exact kOr_st rfl (h' e)
theorem kOr_J (S : Star L H) (hd : c = false → ∀ QB' : Bool → Hp → Prop, (∀ H', Star L H' → QB' d H') → tu σ H QB') (h : ∀ H', Star L H' → QB (c || d) H') : kOr c tu σ H QB := by
  cases c with
  | false => exact kOr_go rfl (hd rfl QB fun H' S' => h H' S')
  | true => exact kOr_st rfl (h H S)
theorem kAndV_go (e : c = true) (h : tb σ H Q) : kAndV c tb σ H Q := by subst e; unfold kAndV; rw [if_pos rfl]; exact h
theorem kAndV_st (e : c = false) (h : Q (.bl false) H) : kAndV c tb σ H Q := by subst e; unfold kAndV; rw [if_neg Bool.false_ne_true]; exact h
theorem kAndV_sp (h : c = true → tb σ H Q) (h' : c = false → Q (.bl false) H) : kAndV c tb σ H Q := by
  cases e : c with
  | true => exact kAndV_go rfl (h e)
  | false => exact kAndV_st rfl (h' e)
theorem kAndV_J (S : Star L H) (hd : c = true → ∀ Q' : VK, (∀ H', Star L H' → Q' (.bl d) H') → tb σ H Q') (h : ∀ H', Star L H' → Q (.bl (c && d)) H') : kAndV c tb σ H Q := by
  cases c with
  | true => exact kAndV_go rfl (hd rfl Q fun H' S' => h H' S')
  | false => exact kAndV_st rfl (h H S)
theorem kOrV_go (e : c = false) (h : tb σ H Q) : kOrV c tb σ H Q := by subst e; unfold kOrV; rw [if_neg Bool.false_ne_true]; exact h
theorem kOrV_st (e : c = true) (h : Q (.bl true) H) : kOrV c tb σ H Q := by subst e; unfold kOrV; rw [if_pos rfl]; exact h
theorem kOrV_sp (h : c = false → tb σ H Q) (h' : c = true → Q (.bl true) H) : kOrV c tb σ H Q := by
  cases e : c with
  | false => exact kOrV_go rfl (h e)
  | true => exact kOrV_st rfl (h' e)
theorem kOrV_J (S : Star L H) (hd : c = false → ∀ Q' : VK, (∀ H', Star L H' → Q' (.bl d) H') → tb σ H Q') (h : ∀ H', Star L H' → Q (.bl (c || d)) H') : kOrV c tb σ H Q := by
  cases c with
  | false => exact kOrV_go rfl (hd rfl Q fun H' S' => h H' S')
  | true => exact kOrV_st rfl (h H S)
end
/-! ifs -/
theorem if_y {c : Bool} {A B : Prop} (e : c = true) (h : A) : if c = true then A else B := by rw [if_pos e]; exact h
theorem if_n {c : Bool} {A B : Prop} (e : c = false) (h : B) : if c = true then A else B := by rw [e, if_neg Bool.false_ne_true]; exact h
theorem if_d {c : Prop} [Decidable c] {A B : Prop} (h : c → A) (h' : ¬ c → B) : if decide c = true then A else B := by
  by_cases q : c
  · exact if_y (decide_eq_true q) (h q)
  · exact if_n (decide_eq_false q) (h' q)
theorem if_nd {c : Prop} [Decidable c] {A B : Prop} (h : ¬ c → A) (h' : c → B) : if (!decide c) = true then A else B := by
  by_cases q : c
  · exact if_n (by rw [decide_eq_true q]; rfl) (h' q)
  · exact if_y (by rw [decide_eq_false q]; rfl) (h q)
theorem if_dt {c : Prop} [Decidable c] {A B : Prop} (q : c) (h : A) : if decide c = true then A else B := if_y (decide_eq_true q) h
theorem if_df {c : Prop} [Decidable c] {A B : Prop} (q : ¬ c) (h : B) : if decide c = true then A else B := if_n (decide_eq_false q) h
theorem if_ndt {c : Prop} [Decidable c] {A B : Prop} (q : ¬ c) (h : A) : if (!decide c) = true then A else B := if_y (by rw [decide_eq_false q]; rfl) h
theorem if_ndf {c : Prop} [Decidable c] {A B : Prop} (q : c) (h : B) : if (!decide c) = true then A else B := if_n (by rw [decide_eq_true q]; rfl) h
theorem if_nT {A B : Prop} (h : B) : if (!true) = true then A else B := if_n rfl h
instance i_if_nT {A B : Prop} : Stp (if (!true) = true then A else B) (B) := ⟨if_nT⟩
theorem if_nF {A B : Prop} (h : A) : if (!false) = true then A else B := if_y rfl h
instance i_if_nF {A B : Prop} : Stp (if (!false) = true then A else B) (A) := ⟨if_nF⟩
theorem if_T {A B : Prop} (h : A) : if true = true then A else B := if_y rfl h
instance i_if_T {A B : Prop} : Stp (if true = true then A else B) (A) := ⟨if_T⟩
theorem if_F {A B : Prop} (h : B) : if false = true then A else B := if_n rfl h
instance i_if_F {A B : Prop} : Stp (if false = true then A else B) (B) := ⟨if_F⟩
theorem if_b {c : Bool} {A B : Prop} (h : c = true → A) (h' : c = false → B) : if c = true then A else B := by
  cases c with
  | true => exact if_y rfl (h rfl)
  | false => exact if_n rfl (h' rfl)
theorem if_nb {c : Bool} {A B : Prop} (h : c = false → A) (h' : c = true → B) : if (!c) = true then A else B := by
  cases c with
  | true => exact if_n rfl (h' rfl)
  | false => exact if_y rfl (h rfl)
end Fl
/-! Fl: bits, sizes, common things of laws. -/
namespace Fl
open PySem PySem.Spec PyProof.Rows L2
def cellAt (ns : List Int) (k : Int) : Int := if k < ns.length then ns.getD k.toNat 0 else 0
theorem atI_script {ns : List Int} {k : Int} (h0 : 0 ≤ k) (h : k < ns.length) : atI (ns.map V.int) k = some (.int (cellAt ns k)) := by
  have hk : k.toNat < ns.length := by omega
  unfold atI ixN cellAt
  rw [List.length_map, if_pos h0, if_pos h, if_pos h]
  simp [hk, List.getD]
theorem cellAt_beyond {ns : List Int} {k : Int} (h : ¬ k < ns.length) : cellAt ns k = 0 := if_neg h
/-! bits -/
theorem toNat5 : (5 : Int).toNat = 5 := rfl
theorem cshl {i j : Int} {n : Nat} (h0 : 0 ≤ j) (hi : i.natAbs < 2 ^ n) (hn : (n : Int) + j ≤ 134217728) : CShl i j := by
  refine ⟨h0, ?_⟩
  have := PyProof.Rows.intBits_le (a := i) (k := n) hi
  have e : (2 : Int) ^ 27 = 134217728 := by decide
  rw [e]; omega
theorem natAbs_lt {i : Int} {n : Nat} (h : i.natAbs < 10 ^ n) : i.natAbs < 2 ^ (4 * n) := by
  refine Nat.lt_of_lt_of_le h ?_
  rw [Nat.pow_mul]
  exact Nat.pow_le_pow_left (by decide) n
def rOrL : R2 := fun x y H Q => ∃ (a r : Int) (k : Nat), x = .int (a * 2 ^ k) ∧ y = .int r ∧ (0 ≤ a ∧ 0 ≤ r ∧ r < 2 ^ k) ∧ Q (.int (a * 2 ^ k + r)) H
theorem opOrL {X : Cx} : OpR X (binaryOp .BitOr) rOrL := op_orL
theorem r_orL {a r : Int} {k : Nat} {H : Hp} {Q : VK} (h : 0 ≤ a ∧ 0 ≤ r ∧ r < 2 ^ k) (q : Q (.int (a * 2 ^ k + r)) H) : rOrL (.int (a * 2 ^ k)) (.int r) H Q := ⟨a, r, k, rfl, rfl, h, q⟩
/-- a thing that is a whole number: isinstance(x, int), not isinstance(x, bool) -/
theorem isi_int {K : PySem.W.Frag} {H : Hp} {Q : VK} {i : Int} (q : Q (.bl true) H) : rIsi K [.int i, .ty "int"] H Q := r_isi (.base (.int i)) (by decide +kernel) q
instance i_isi_int {K : PySem.W.Frag} {H : Hp} {Q : VK} {i : Int} : Stp (rIsi K [.int i, .ty "int"] H Q) (Q (.bl true) H) := ⟨isi_int⟩
theorem isi_int_b {K : PySem.W.Frag} {H : Hp} {Q : VK} {i : Int} (q : Q (.bl false) H) : rIsi K [.int i, .ty "bool"] H Q := r_isi (.base (.int i)) (by decide +kernel) q
instance i_isi_int_b {K : PySem.W.Frag} {H : Hp} {Q : VK} {i : Int} : Stp (rIsi K [.int i, .ty "bool"] H Q) (Q (.bl false) H) := ⟨isi_int_b⟩
theorem isi_bl {K : PySem.W.Frag} {H : Hp} {Q : VK} {i : Bool} (q : Q (.bl true) H) : rIsi K [.bl i, .ty "int"] H Q := r_isi (.base (.bl i)) (by decide +kernel) q
instance i_isi_bl {K : PySem.W.Frag} {H : Hp} {Q : VK} {i : Bool} : Stp (rIsi K [.bl i, .ty "int"] H Q) (Q (.bl true) H) := ⟨isi_bl⟩
theorem isi_bl_b {K : PySem.W.Frag} {H : Hp} {Q : VK} {i : Bool} (q : Q (.bl true) H) : rIsi K [.bl i, .ty "bool"] H Q := r_isi (.base (.bl i)) (by decide +kernel) q
instance i_isi_bl_b {K : PySem.W.Frag} {H : Hp} {Q : VK} {i : Bool} : Stp (rIsi K [.bl i, .ty "bool"] H Q) (Q (.bl true) H) := ⟨isi_bl_b⟩
theorem isi_non {K : PySem.W.Frag} {H : Hp} {Q : VK} (q : Q (.bl false) H) : rIsi K [.non, .ty "int"] H Q := r_isi (.base .non) (by decide +kernel) q
instance i_isi_non {K : PySem.W.Frag} {H : Hp} {Q : VK} : Stp (rIsi K [.non, .ty "int"] H Q) (Q (.bl false) H) := ⟨isi_non⟩
theorem r_pow {i j n : Int} {H : Hp} {Q : VK} (c : CPow i j) (e : i ^ j.toNat = n) (q : Q (.int n) H) : rI CPow (fun i j => V.int (i ^ j.toNat)) (.int i) (.int j) H Q := ⟨i, j, rfl, rfl, c, by show Q (.int (i ^ j.toNat)) H; rw [e]; exact q⟩
end Fl
/-! Fl: loops and comprehensions by recursion over what is walked. -/
namespace Fl
open PySem PySem.Spec PyProof.Rows L2
section
variable {α : Type}
/-- a for over what is left -/
def kFl (G : Hp → Prop) (Y : α → Hp → V → Hp → Prop) (g : TG) (tb : TS) (nx : L2.St → Hp → Prop) (rt : VK) : List α → L2.St → Hp → Prop
  | [] => fun σ H => G H ∧ nx σ H
  | x :: r => fun σ H => G H ∧ ∀ v H', Y x H v H' → g v σ H' fun σ2 H2 => tb ⟨kFl G Y g tb nx rt r, rt, nx, kFl G Y g tb nx rt r⟩ σ2 H2
theorem kFl_G {G : Hp → Prop} {Y : α → Hp → V → Hp → Prop} {g : TG} {tb : TS} {nx : L2.St → Hp → Prop} {rt : VK} {xs : List α} {σ : L2.St} {H : Hp} (h : kFl G Y g tb nx rt xs σ H) : G H := by
  cases xs with
  | nil => exact h.1
  | cons x r => exact h.1
theorem drop_cons {xs : List α} {i : Nat} {x : α} (e : xs[i]? = some x) : xs.drop i = x :: xs.drop (i + 1) := by
  obtain ⟨h, q⟩ := List.getElem?_eq_some_iff.mp e
  rw [List.drop_eq_getElem_cons h, q]
theorem fl_it {J : It} {xs : List α} {n : Nat} {G : Hp → Prop} {Yw : Nat → Hp → V → Hp → Prop} {Y : α → Hp → V → Hp → Prop} (w : Walk J n G Yw) (hn : n = xs.length) (hy : ∀ i H v H', i < n → Yw i H v H' → ∃ x, xs[i]? = some x ∧ Y x H v H')
    {g : TG} {tb : TS} {D : Ends} {σ : L2.St} {H : Hp} (h : kFl G Y g tb D.nx D.rt xs σ H) :
    ∃ W : Nat → Nat → L2.St → Hp → Prop, (∃ m, W 0 m σ H) ∧ ∀ i m σ H, W i m σ H →
      (J.stop i H ∧ D.nx σ H) ∨ (J.go i H ∧ ∃ N : L2.St → Hp → Prop, (∀ σ' H', N σ' H' → ∃ m', m' < m ∧ W (i + 1) m' σ' H') ∧ ∀ x H', J.yld i H x H' → g x σ H' fun σ2 H2 => tb { D with nx := N, ct := N, bk := D.nx } σ2 H2) := by
  subst hn
  refine for_it w (fun i σ H => kFl G Y g tb D.nx D.rt (xs.drop i) σ H) h (fun i σ H _ p => kFl_G p) (fun i v σ H H' hi p y => ?_) (fun σ H p => ?_)
  · obtain ⟨x, e, y'⟩ := hy i H v H' hi y
    have p' : kFl G Y g tb D.nx D.rt (xs.drop i) σ H := p
    rw [drop_cons e] at p'
    exact p'.2 v H' y'
  · have p' : kFl G Y g tb D.nx D.rt (xs.drop xs.length) σ H := p
    rw [List.drop_length] at p'
    exact p'.2
/-- the new list at D takes one more -/
def kApp (D : Addr) (y : V) (H : Hp) (q : Hp → Prop) : Prop := ∃ acc, H D = some (.lst acc) ∧ acc.length < sizeLine ∧ q (upd H D (.lst (acc ++ [y])))
/-- a comprehension over what is left -/
def kCl (G : Hp → Prop) (Y : α → Hp → V → Hp → Prop) (g : TG) (tt : TT) (te : TE) (σ σ' : L2.St) (vs : List Nat) (D : Addr) (Q : VK) : List α → Hp → Prop
  | [] => fun H => G H ∧ Q (.ref D) H
  | x :: r => fun H => G H ∧ ∀ v H', Y x H v H' → g v σ' H' fun σ2 H2 => wipe σ2 vs = σ' ∧ tt σ2 H2 fun b H3 =>
      if b = true then te σ2 H3 fun y H4 => kApp D y H4 (kCl G Y g tt te σ σ' vs D Q r) else kCl G Y g tt te σ σ' vs D Q r H3
theorem kCl_G {G : Hp → Prop} {Y : α → Hp → V → Hp → Prop} {g : TG} {tt : TT} {te : TE} {σ σ' : L2.St} {vs : List Nat} {D : Addr} {Q : VK} {xs : List α} {H : Hp} (h : kCl G Y g tt te σ σ' vs D Q xs H) : G H := by
  cases xs with
  | nil => exact h.1
  | cons x r => exact h.1
theorem cl_it {J : It} {xs : List α} {n : Nat} {G : Hp → Prop} {Yw : Nat → Hp → V → Hp → Prop} {Y : α → Hp → V → Hp → Prop} (w : Walk J n G Yw) (hn : n = xs.length) (hy : ∀ i H v H', i < n → Yw i H v H' → ∃ x, xs[i]? = some x ∧ Y x H v H')
    {g : TG} {tt : TT} {te : TE} {vs : List Nat} {σ σ' : L2.St} {H1 : Hp} {D : Addr} {Q : VK} (hw : wipe σ vs = σ') (h : kCl G Y g tt te σ σ' vs D Q xs (upd H1 D (.lst []))) :
    ∃ W : Nat → Nat → Hp → Prop, (∃ m, W 0 m (upd H1 D (.lst []))) ∧ ∀ i m H, W i m H →
      (J.stop i H ∧ Q (.ref D) H) ∨ (J.go i H ∧ ∃ Nx : Hp → Prop, (∀ H', Nx H' → ∃ m', m' < m ∧ W (i + 1) m' H') ∧ ∀ x H', J.yld i H x H' → g x (wipe σ vs) H' fun σ2 H2 => wipe σ2 vs = wipe σ vs ∧ tt σ2 H2 fun b H3 =>
        if b = true then te σ2 H3 fun y H4 => ∃ acc, H4 D = some (.lst acc) ∧ acc.length < sizeLine ∧ Nx (upd H4 D (.lst (acc ++ [y]))) else Nx H3) := by
  subst hn
  subst hw
  refine lc_it w (fun i H => kCl G Y g tt te σ (wipe σ vs) vs D Q (xs.drop i) H) h (fun i H _ p => kCl_G p) (fun i v H H' hi p y => ?_) (fun H p => ?_)
  · obtain ⟨x, e, y'⟩ := hy i H v H' hi y
    have p' : kCl G Y g tt te σ (wipe σ vs) vs D Q (xs.drop i) H := p
    rw [drop_cons e] at p'
    exact p'.2 v H' y'
  · have p' : kCl G Y g tt te σ (wipe σ vs) vs D Q (xs.drop xs.length) H := p
    rw [List.drop_length] at p'
    exact p'.2
end
theorem fl_ind {α : Type} {G : Hp → Prop} {Y : α → Hp → V → Hp → Prop} {g : TG} {tb : TS} {nx : L2.St → Hp → Prop} {rt : VK} (I : List α → L2.St → Hp → Prop) (h0 : ∀ σ H, I [] σ H → G H ∧ nx σ H)
    (hs : ∀ x r σ H, I (x :: r) σ H → ∀ N : L2.St → Hp → Prop, (∀ σ' H', I r σ' H' → N σ' H') → G H ∧ ∀ v H', Y x H v H' → g v σ H' fun σ2 H2 => tb ⟨N, rt, nx, N⟩ σ2 H2) : ∀ xs σ H, I xs σ H → kFl G Y g tb nx rt xs σ H
  | [], σ, H, i => h0 σ H i
  | x :: r, σ, H, i => hs x r σ H i _ fun σ' H' i' => fl_ind I h0 hs r σ' H' i'
theorem cl_ind {α : Type} {G : Hp → Prop} {Y : α → Hp → V → Hp → Prop} {g : TG} {tt : TT} {te : TE} {σ σ' : L2.St} {vs : List Nat} {D : Addr} {Q : VK} (I : List α → Hp → Prop) (h0 : ∀ H, I [] H → G H ∧ Q (.ref D) H)
    (hs : ∀ x r H, I (x :: r) H → ∀ N : Hp → Prop, (∀ H', I r H' → N H') → G H ∧ ∀ v H', Y x H v H' → g v σ' H' fun σ2 H2 => wipe σ2 vs = σ' ∧ tt σ2 H2 fun b H3 => if b = true then te σ2 H3 fun y H4 => kApp D y H4 N else N H3) :
    ∀ xs H, I xs H → kCl G Y g tt te σ σ' vs D Q xs H
  | [], H, i => h0 H i
  | x :: r, H, i => hs x r H i _ fun H' i' => cl_ind I h0 hs r H' i'
/-! what a turn gives -/
def yId : V → Hp → V → Hp → Prop := fun x H v H' => v = x ∧ H' = H
def yTup : List V → Hp → V → Hp → Prop := fun xs H v H' => ∃ T, v = .ref T ∧ H T = none ∧ H' = upd H T (.tup xs)
def yKT : List Key → Hp → V → Hp → Prop := fun k H v H' => H' = H ∧ ∃ q, v = .ref q ∧ H q = some (.tup (k.map kV))
def gAny : Hp → Prop := fun _ => True
def gSqL (K : PySem.W.Frag) (a : Addr) (xs : List V) : Hp → Prop := fun H => SqL K H a xs
def gSqT (K : PySem.W.Frag) (a : Addr) (xs : List V) : Hp → Prop := fun H => SqT K H a xs
def gAt (d : Addr) (u : HO) : Hp → Prop := fun H => H d = some u
def gAnd (G G' : Hp → Prop) : Hp → Prop := fun H => G H ∧ G' H
section
variable {K : PySem.W.Frag} {L l : List Asrt} {σ σ' : L2.St} {H : Hp} {g : TG} {tb : TS} {tt : TT} {te tl : TE} {ta : TA} {nx bk ct : L2.St → Hp → Prop} {rt Q : VK} {a b d D : Addr} {xs ys vs : List V} {ws : List Nat} {x y v : V} {G : Hp → Prop}
theorem fl_nil {α : Type} {Y : α → Hp → V → Hp → Prop} (hG : G H) (h : nx σ H) : kFl G Y g tb nx rt [] σ H := ⟨hG, h⟩
theorem fl_id {r : List V} (hG : G H) (h : g x σ H fun σ2 H2 => tb ⟨kFl G yId g tb nx rt r, rt, nx, kFl G yId g tb nx rt r⟩ σ2 H2) : kFl G yId g tb nx rt (x :: r) σ H := ⟨hG, fun v H' ⟨e, e'⟩ => by subst e e'; exact h⟩
theorem fl_more {r ys : List V} (e : ys = x :: r) (hG : G H) (h : g x σ H fun σ2 H2 => tb ⟨kFl G yId g tb nx rt r, rt, nx, kFl G yId g tb nx rt r⟩ σ2 H2) : kFl G yId g tb nx rt ys σ H := by subst e; exact fl_id hG h
theorem fl_tup {r : List (List V)} (hG : G H) (S : Star l H) (h : ∀ T H', Star (pt T (.tup xs) :: l) H' → g (.ref T) σ H' fun σ2 H2 => tb ⟨kFl G yTup g tb nx rt r, rt, nx, kFl G yTup g tb nx rt r⟩ σ2 H2) : kFl G yTup g tb nx rt (xs :: r) σ H :=
  ⟨hG, fun v H' ⟨T, e, n, e'⟩ => by subst e e'; exact h T _ (S.new n)⟩
/-- a tuple that the heap holds, taken into the list -/
theorem Star.intup {T : Addr} {xs : List V} (S : Star l H) (e : H T = some (.tup xs)) : Star (pt T (.tup xs) :: l) H := by
  have : ∃ h, Sub h H ∧ Star l h ∧ Dsj (single T (.tup xs)) h := by
    refine ⟨H, Sub.refl _, S, fun b o u e1 e2 => ?_⟩
    unfold single at e1
    split at e1
    · next q => subst q; cases e1; rw [e] at e2; cases e2; exact ⟨rfl, _, rfl⟩
    · cases e1
  obtain ⟨h, s, S', dj⟩ := this
  exact ⟨single T (.tup xs), h, dj, single_sub e, s, single_self, S'⟩
theorem fl_kt {k : List Key} {r : List (List Key)} (hG : G H) (S : Star l H) (h : ∀ T, Star (pt T (.tup (k.map kV)) :: l) H → g (.ref T) σ H fun σ2 H2 => tb ⟨kFl G yKT g tb nx rt r, rt, nx, kFl G yKT g tb nx rt r⟩ σ2 H2) : kFl G yKT g tb nx rt (k :: r) σ H :=
  ⟨hG, fun v H' ⟨e', T, e, n⟩ => by subst e e'; exact h T (S.intup n)⟩
/-- a for by what holds ahead of each turn -/
theorem fl_indI (I : List V → L2.St → Hp → Prop) {xs : List V} (i : I xs σ H) (h0 : ∀ σ H, I [] σ H → G H ∧ nx σ H)
    (hs : ∀ x r σ H, I (x :: r) σ H → ∀ N : L2.St → Hp → Prop, (∀ σ' H', I r σ' H' → N σ' H') → G H ∧ g x σ H fun σ2 H2 => tb ⟨N, rt, nx, N⟩ σ2 H2) : kFl G yId g tb nx rt xs σ H :=
  fl_ind I h0 (fun x r σ H i N hN => ⟨(hs x r σ H i N hN).1, fun v H' ⟨e, e'⟩ => by subst e e'; exact (hs v r σ H' i N hN).2⟩) xs σ H i
theorem fl_indT (I : List (List V) → L2.St → Hp → Prop) {xs : List (List V)} (i : I xs σ H) (h0 : ∀ σ H, I [] σ H → G H ∧ nx σ H)
    (hs : ∀ x r σ H, I (x :: r) σ H → ∀ N : L2.St → Hp → Prop, (∀ σ' H', I r σ' H' → N σ' H') → G H ∧ ∀ T, H T = none → g (.ref T) σ (upd H T (.tup x)) fun σ2 H2 => tb ⟨N, rt, nx, N⟩ σ2 H2) : kFl G yTup g tb nx rt xs σ H :=
  fl_ind I h0 (fun x r σ H i N hN => ⟨(hs x r σ H i N hN).1, fun v H' ⟨T, e, n, e'⟩ => by subst e e'; exact (hs x r σ H i N hN).2 T n⟩) xs σ H i
theorem cl_indI (I : List V → Hp → Prop) {xs : List V} (i : I xs H) (h0 : ∀ H, I [] H → G H ∧ Q (.ref D) H)
    (hs : ∀ x r H, I (x :: r) H → ∀ N : Hp → Prop, (∀ H', I r H' → N H') → G H ∧ g x σ' H fun σ2 H2 => wipe σ2 ws = σ' ∧ tt σ2 H2 fun b H3 => if b = true then te σ2 H3 fun y H4 => kApp D y H4 N else N H3) : kCl G yId g tt te σ σ' ws D Q xs H :=
  cl_ind I h0 (fun x r H i N hN => ⟨(hs x r H i N hN).1, fun v H' ⟨e, e'⟩ => by subst e e'; exact (hs v r H' i N hN).2⟩) xs H i
theorem cl_nil {α : Type} {Y : α → Hp → V → Hp → Prop} (hG : G H) (h : Q (.ref D) H) : kCl G Y g tt te σ σ' ws D Q [] H := ⟨hG, h⟩
theorem cl_id {r : List V} (hG : G H) (h : g x σ' H fun σ2 H2 => wipe σ2 ws = σ' ∧ tt σ2 H2 fun b H3 => if b = true then te σ2 H3 fun y H4 => kApp D y H4 (kCl G yId g tt te σ σ' ws D Q r) else kCl G yId g tt te σ σ' ws D Q r H3) : kCl G yId g tt te σ σ' ws D Q (x :: r) H :=
  ⟨hG, fun v H' ⟨e, e'⟩ => by subst e e'; exact h⟩
theorem cl_tup {r : List (List V)} (hG : G H) (S : Star l H) (h : ∀ T H', Star (pt T (.tup xs) :: l) H' → g (.ref T) σ' H' fun σ2 H2 => wipe σ2 ws = σ' ∧ tt σ2 H2 fun b H3 => if b = true then te σ2 H3 fun y H4 => kApp D y H4 (kCl G yTup g tt te σ σ' ws D Q r) else kCl G yTup g tt te σ σ' ws D Q r H3) :
    kCl G yTup g tt te σ σ' ws D Q (xs :: r) H := ⟨hG, fun v H' ⟨T, e, n, e'⟩ => by subst e e'; exact h T _ (S.new n)⟩
theorem r_app {q : Hp → Prop} (S : Star L H) (P : Pull (pt D (.lst xs)) L l) (z : xs.length < sizeLine) (h : ∀ H', Star (pt D (.lst (xs ++ [y])) :: l) H' → q H') : kApp D y H q := ⟨xs, (S.pull P).get (.head _), z, h _ ((S.pull P).upd fun ⟨_, q⟩ => nomatch q)⟩
theorem r_wipe {q : Prop} (e : wipe σ ws = σ') (h : q) : wipe σ ws = σ' ∧ q := ⟨e, h⟩
theorem r_yes {QB : Bool → Hp → Prop} (h : QB true H) : tYes σ H QB := h
instance i_r_yes {QB : Bool → Hp → Prop} : Stp (tYes σ H QB) (QB true H) := ⟨r_yes⟩
/-! ### the sources -/
def kW (J : It) (g : TG) (tb : TS) (nx : L2.St → Hp → Prop) (rt : VK) (bk ct : L2.St → Hp → Prop) (σ : L2.St) (H1 : Hp) : Prop := ∃ W : Nat → Nat → L2.St → Hp → Prop, (∃ m, W 0 m σ H1) ∧ ∀ i m σ H, W i m σ H →
  (J.stop i H ∧ nx σ H) ∨ (J.go i H ∧ ∃ N : L2.St → Hp → Prop, (∀ σ' H', N σ' H' → ∃ m', m' < m ∧ W (i + 1) m' σ' H') ∧ ∀ x H', J.yld i H x H' → g x σ H' fun σ2 H2 => tb ⟨N, rt, nx, N⟩ σ2 H2)
theorem r_for {wi : TI} (h : wi σ H fun J H1 => kW J g tb nx rt bk ct σ H1) : tFor wi g tb ⟨nx, rt, bk, ct⟩ σ H := h
instance i_r_for {wi : TI} : Stp (tFor wi g tb ⟨nx, rt, bk, ct⟩ σ H) (wi σ H fun J H1 => kW J g tb nx rt bk ct σ H1) := ⟨r_for⟩
def kLW (J : It) (g : TG) (tt : TT) (te : TE) (vs : List Nat) (σ : L2.St) (Q : VK) (H1 : Hp) : Prop := ∀ D, H1 D = none → ∃ W : Nat → Nat → Hp → Prop, (∃ m, W 0 m (upd H1 D (.lst []))) ∧ ∀ i m H, W i m H →
  (J.stop i H ∧ Q (.ref D) H) ∨ (J.go i H ∧ ∃ Nx : Hp → Prop, (∀ H', Nx H' → ∃ m', m' < m ∧ W (i + 1) m' H') ∧ ∀ x H', J.yld i H x H' → g x (wipe σ vs) H' fun σ2 H2 => wipe σ2 vs = wipe σ vs ∧ tt σ2 H2 fun b H3 =>
    if b = true then te σ2 H3 fun y H4 => ∃ acc, H4 D = some (.lst acc) ∧ acc.length < sizeLine ∧ Nx (upd H4 D (.lst (acc ++ [y]))) else Nx H3)
theorem r_lc {wi : TI} (h : wi σ H fun J H1 => kLW J g tt te ws σ Q H1) : tLc wi g tt te ws σ H Q := h
instance i_r_lc {wi : TI} : Stp (tLc wi g tt te ws σ H Q) (wi σ H fun J H1 => kLW J g tt te ws σ Q H1) := ⟨r_lc⟩
/-- a walk as it may be used -/
def kUse (J : It) {α : Type} (G : Hp → Prop) (Y : α → Hp → V → Hp → Prop) (xs : List α) : Prop := ∃ (n : Nat) (Yw : Nat → Hp → V → Hp → Prop), Walk J n G Yw ∧ n = xs.length ∧ ∀ i H v H', i < n → Yw i H v H' → ∃ x, xs[i]? = some x ∧ Y x H v H'
theorem r_w {J : It} {α : Type} {Y : α → Hp → V → Hp → Prop} {xs : List α} (u : kUse J G Y xs) (h : kFl G Y g tb nx rt xs σ H) : kW J g tb nx rt bk ct σ H := by
  obtain ⟨n, Yw, w, hn, hy⟩ := u
  exact fl_it (D := ⟨nx, rt, bk, ct⟩) w hn hy h
theorem r_lw {J : It} {α : Type} {Y : α → Hp → V → Hp → Prop} {xs : List α} (u : kUse J G Y xs) (hw : wipe σ ws = σ') (S : Star l H) (h : ∀ D H', Star (pt D (.lst []) :: l) H' → kCl G Y g tt te σ σ' ws D Q xs H') : kLW J g tt te ws σ Q H := by
  obtain ⟨n, Yw, w, hn, hy⟩ := u
  intro D hD
  exact cl_it w hn hy hw (h D _ (S.new hD))
theorem use_list : kUse (Itl K a) (gSqL K a xs) yId xs := ⟨_, _, walk_list, rfl, fun i H v H' _ ⟨e, q⟩ => ⟨v, q, rfl, e⟩⟩
theorem use_tup : kUse (Itt K a) (gSqT K a xs) yId xs := ⟨_, _, walk_tup, rfl, fun i H v H' _ ⟨e, q⟩ => ⟨v, q, rfl, e⟩⟩
def rgV (lo : Int) (n : Nat) : List V := (List.range n).map fun i => V.int (lo + (i : Nat))
theorem rgV_len {lo : Int} {n : Nat} : (rgV lo n).length = n := by simp [rgV]
theorem rgV_at {lo : Int} {n i : Nat} (h : i < n) : (rgV lo n)[i]? = some (.int (lo + (i : Nat))) := by simp [rgV, h]
theorem rgV_succ {lo : Int} {n : Nat} : rgV lo (n + 1) = .int lo :: rgV (lo + 1) n := by
  unfold rgV
  rw [List.range_succ_eq_map, List.map_cons, List.map_map]
  congr 1
  · show V.int (lo + ((0 : Nat) : Int)) = V.int lo
    rw [show ((0 : Nat) : Int) = 0 from rfl, Int.add_zero]
  · refine List.map_congr_left fun i _ => ?_
    show V.int (lo + ((i + 1 : Nat) : Int)) = V.int (lo + 1 + (i : Int))
    congr 1; omega
theorem rgV_more {lo lo' : Int} {n : Nat} (e : lo + 1 = lo') : rgV lo (n + 1) = .int lo :: rgV lo' n := by rw [← e]; exact rgV_succ
theorem rgV_zero {lo : Int} : rgV lo 0 = [] := rfl
theorem use_range {lo : Int} {n : Nat} : kUse (Itr lo n) gAny yId (rgV lo n) := ⟨n, _, walk_range, rgV_len.symm, fun i H v H' hi ⟨e, q⟩ => ⟨v, by rw [q]; exact rgV_at hi, rfl, e⟩⟩
theorem use_rev : kUse (Itv K a xs.length) (gSqL K a xs) yId xs.reverse := ⟨_, _, walk_rev, by simp, fun i H v H' hi ⟨e, q⟩ => ⟨v, by rw [List.getElem?_reverse hi]; exact q, rfl, e⟩⟩
theorem use_str {z : Str} : kUse (Its z) gAny yId (z.cps.toList.map fun c => V.str ⟨#[c]⟩) := ⟨_, _, walk_str, by simp, fun i H v H' _ ⟨e, c, q, r⟩ => ⟨v, by subst r; simp [q], rfl, e⟩⟩
theorem use_keys {o : Obj} {kvs : List (Key × V)} : kUse (Itk d o kvs) (gAt d (.frz o (.dK kvs))) yId (kvs.map fun kv => kV kv.1) := ⟨_, _, walk_keys, by simp, fun i H v H' _ ⟨e, k, w, q, r⟩ => ⟨v, by subst r; simp [q], rfl, e⟩⟩
theorem use_values {o : Obj} {kvs : List (Key × V)} : kUse (Itd d o kvs) (gAt d (.frz o (.dK kvs))) yId (kvs.map Prod.snd) := ⟨_, _, walk_values, by simp, fun i H v H' _ ⟨e, k, q⟩ => ⟨v, by simp [q], rfl, e⟩⟩
theorem use_items {o : Obj} {kvs : List (Key × V)} : kUse (Iti d o kvs) (gAt d (.frz o (.dK kvs))) yTup (kvs.map fun kv => [kV kv.1, kv.2]) := by
  refine ⟨_, _, walk_items, by simp, fun i H v H' hi ⟨T, x, y, e, n, e', q1, q2⟩ => ?_⟩
  obtain ⟨⟨k, w⟩, hk⟩ : ∃ kv, kvs[i]? = some kv := ⟨kvs[i], List.getElem?_eq_getElem hi⟩
  have q1 : (kvs[i]?).map (fun kv => kV kv.1) = some x := q1
  have q2 : (kvs[i]?).map Prod.snd = some y := q2
  rw [hk] at q1 q2
  cases q1; cases q2
  exact ⟨[kV k, w], by simp [hk], T, e, n, e'⟩
theorem use_keysT {o : Obj} {kvs : List (List Key × V)} : kUse (Itkt d o kvs) (gAt d (.frz o (.dT kvs))) yKT (kvs.map Prod.fst) := ⟨_, _, walk_keysT, by simp, fun i H v H' _ ⟨e, k, w, q, hk, r, t⟩ => ⟨k, by simp [hk], e, q, r, t⟩⟩
def enums : Nat → List V → List (List V)
  | _, [] => []
  | i, x :: r => [.int (i : Int), x] :: enums (i + 1) r
theorem enums_len : ∀ {i : Nat} {xs : List V}, (enums i xs).length = xs.length
  | _, [] => rfl
  | i, x :: r => by simp [enums, enums_len]
theorem enums_at : ∀ {i j : Nat} {xs : List V} {x : V}, xs[j]? = some x → (enums i xs)[j]? = some [.int ((i + j : Nat) : Int), x]
  | i, 0, x :: r, y, e => by cases e; rfl
  | i, j + 1, x :: r, y, e => by
    have := enums_at (i := i + 1) (j := j) (xs := r) (x := y) (by simpa using e)
    simp only [enums, List.getElem?_cons_succ, this]
    congr 3; congr 1; omega
theorem use_enum : kUse (Ite K a) (gSqL K a xs) yTup (enums 0 xs) := by
  refine ⟨_, _, walk_enum, enums_len.symm, fun i H v H' hi ⟨T, x, y, e, n, e', q1, q2⟩ => ?_⟩
  cases q1
  exact ⟨_, enums_at q2, T, e, n, by rw [e']; simp⟩
theorem use_zip : kUse (Itz K a b) (gAnd (gSqL K a xs) (gSqL K b ys)) yTup ((xs.zip ys).map fun p => [p.1, p.2]) := by
  refine ⟨_, _, walk_zip rfl, by simp, fun i H v H' hi ⟨T, x, y, e, n, e', q1, q2⟩ => ⟨[x, y], ?_, T, e, n, e'⟩⟩
  simp [List.zip, List.getElem?_zipWith, q1, q2]
/-! their readings -/
def kIL (K : PySem.W.Frag) (x : V) (H : Hp) (R : It → Hp → Prop) : Prop := ∃ a, x = .ref a ∧ (∃ xs, SqL K H a xs) ∧ R (Itl K a) H
def kIT (K : PySem.W.Frag) (x : V) (H : Hp) (R : It → Hp → Prop) : Prop := ∃ a, x = .ref a ∧ (∃ xs, SqT K H a xs) ∧ R (Itt K a) H
def kIR1 (vs : List V) (H : Hp) (R : It → Hp → Prop) : Prop := ∃ j : Int, vs = [.int j] ∧ -(2 ^ 62) ≤ j ∧ j < 2 ^ 62 ∧ R (Itr 0 j.toNat) H
def kIR2 (vs : List V) (H : Hp) (R : It → Hp → Prop) : Prop := ∃ i j : Int, vs = [.int i, .int j] ∧ (-(2 ^ 62) ≤ i ∧ i < 2 ^ 62 ∧ -(2 ^ 62) ≤ j ∧ j < 2 ^ 62) ∧ R (Itr i (j - i).toNat) H
def kIE (K : PySem.W.Frag) (vs : List V) (H : Hp) (R : It → Hp → Prop) : Prop := ∃ a xs, vs = [.ref a] ∧ SqL K H a xs ∧ R (Ite K a) H
def kIZ (K : PySem.W.Frag) (vs : List V) (H : Hp) (R : It → Hp → Prop) : Prop := ∃ a b xs ys, vs = [.ref a, .ref b] ∧ SqL K H a xs ∧ SqL K H b ys ∧ R (Itz K a b) H
def kIV (K : PySem.W.Frag) (vs : List V) (H : Hp) (R : It → Hp → Prop) : Prop := ∃ (a : Addr) (xs : List V), vs = [.ref a] ∧ SqL K H a xs ∧ R (Itv K a xs.length) H
variable {R : It → Hp → Prop} {J : It}
theorem r_iL (h : tl σ H fun x H1 => kIL K x H1 R) : iList K tl σ H R := h
instance i_r_iL : Stp (iList K tl σ H R) (tl σ H fun x H1 => kIL K x H1 R) := ⟨r_iL⟩
theorem r_iT (h : tl σ H fun x H1 => kIT K x H1 R) : iTup K tl σ H R := h
instance i_r_iT : Stp (iTup K tl σ H R) (tl σ H fun x H1 => kIT K x H1 R) := ⟨r_iT⟩
theorem r_iR1 (h : ta σ H fun x H1 => kIR1 x H1 R) : iRng1 ta σ H R := h
instance i_r_iR1 : Stp (iRng1 ta σ H R) (ta σ H fun x H1 => kIR1 x H1 R) := ⟨r_iR1⟩
theorem r_iR2 (h : ta σ H fun x H1 => kIR2 x H1 R) : iRng2 ta σ H R := h
instance i_r_iR2 : Stp (iRng2 ta σ H R) (ta σ H fun x H1 => kIR2 x H1 R) := ⟨r_iR2⟩
theorem r_iE (h : ta σ H fun x H1 => kIE K x H1 R) : iEnum K ta σ H R := h
instance i_r_iE : Stp (iEnum K ta σ H R) (ta σ H fun x H1 => kIE K x H1 R) := ⟨r_iE⟩
theorem r_iZ (h : ta σ H fun x H1 => kIZ K x H1 R) : iZip K ta σ H R := h
instance i_r_iZ : Stp (iZip K ta σ H R) (ta σ H fun x H1 => kIZ K x H1 R) := ⟨r_iZ⟩
theorem r_iV (h : ta σ H fun x H1 => kIV K x H1 R) : iRev K ta σ H R := h
instance i_r_iV : Stp (iRev K ta σ H R) (ta σ H fun x H1 => kIV K x H1 R) := ⟨r_iV⟩
theorem r_kIL (S : Star L H) (P : Pull (pt a (.lst xs)) L l) (h : R (Itl K a) H) : kIL K (.ref a) H R := ⟨a, rfl, ⟨xs, SqL.of ((S.pull P).get (.head _))⟩, h⟩
theorem r_kILs {ns : List Int} (S : Star L H) (P : Pull (scr K a ns) L l) (h : R (Itl K a) H) : kIL K (.ref a) H R := ⟨a, rfl, ⟨_, (S.pull P).scr (.head _)⟩, h⟩
theorem r_kIT (S : Star L H) (P : Pull (pt a (.tup xs)) L l) (h : R (Itt K a) H) : kIT K (.ref a) H R := ⟨a, rfl, ⟨xs, SqT.of ((S.pull P).get (.head _))⟩, h⟩
theorem r_kIR1 {j : Int} {n : Nat} (e : j.toNat = n) (h1 : -(2 ^ 62) ≤ j ∧ j < 2 ^ 62) (h : R (Itr 0 n) H) : kIR1 [.int j] H R := ⟨j, rfl, h1.1, h1.2, by rw [e]; exact h⟩
theorem r_kIR2 {i j : Int} {n : Nat} (e : (j - i).toNat = n) (h1 : -(2 ^ 62) ≤ i ∧ i < 2 ^ 62 ∧ -(2 ^ 62) ≤ j ∧ j < 2 ^ 62) (h : R (Itr i n) H) : kIR2 [.int i, .int j] H R := ⟨i, j, rfl, h1, by rw [e]; exact h⟩
theorem r_kIE (S : Star L H) (P : Pull (pt a (.lst xs)) L l) (h : R (Ite K a) H) : kIE K [.ref a] H R := ⟨a, xs, rfl, SqL.of ((S.pull P).get (.head _)), h⟩
theorem r_kIV (S : Star L H) (P : Pull (pt a (.lst xs)) L l) (h : R (Itv K a xs.length) H) : kIV K [.ref a] H R := ⟨a, xs, rfl, SqL.of ((S.pull P).get (.head _)), h⟩
/-! the walks, at the lists that the heap holds -/
theorem r_wL (S : Star L H) (P : Pull (pt a (.lst xs)) L l) (h : kFl (gSqL K a xs) yId g tb nx rt xs σ H) : kW (Itl K a) g tb nx rt bk ct σ H := r_w use_list h
theorem r_wLs {ns : List Int} (S : Star L H) (P : Pull (scr K a ns) L l) (h : kFl (gSqL K a (ns.map V.int)) yId g tb nx rt (ns.map V.int) σ H) : kW (Itl K a) g tb nx rt bk ct σ H := r_w use_list h
theorem r_wT (S : Star L H) (P : Pull (pt a (.tup xs)) L l) (h : kFl (gSqT K a xs) yId g tb nx rt xs σ H) : kW (Itt K a) g tb nx rt bk ct σ H := r_w use_tup h
theorem r_wR {lo : Int} {n : Nat} (h : kFl gAny yId g tb nx rt (rgV lo n) σ H) : kW (Itr lo n) g tb nx rt bk ct σ H := r_w use_range h
instance i_r_wR {lo : Int} {n : Nat} : Stp (kW (Itr lo n) g tb nx rt bk ct σ H) (kFl gAny yId g tb nx rt (rgV lo n) σ H) := ⟨r_wR⟩
theorem r_wE (S : Star L H) (P : Pull (pt a (.lst xs)) L l) (h : kFl (gSqL K a xs) yTup g tb nx rt (enums 0 xs) σ H) : kW (Ite K a) g tb nx rt bk ct σ H := r_w use_enum h
theorem r_wV (S : Star L H) (P : Pull (pt a (.lst xs)) L l) (h : kFl (gSqL K a xs) yId g tb nx rt xs.reverse σ H) : kW (Itv K a xs.length) g tb nx rt bk ct σ H := r_w use_rev h
theorem r_lwL (hw : wipe σ ws = σ') (S : Star L H) (P : Pull (pt a (.lst xs)) L l) (h : ∀ D H', Star (pt D (.lst []) :: L) H' → kCl (gSqL K a xs) yId g tt te σ σ' ws D Q xs H') : kLW (Itl K a) g tt te ws σ Q H := r_lw use_list hw S h
theorem r_lwLs {ns : List Int} (hw : wipe σ ws = σ') (S : Star L H) (P : Pull (scr K a ns) L l) (h : ∀ D H', Star (pt D (.lst []) :: L) H' → kCl (gSqL K a (ns.map V.int)) yId g tt te σ σ' ws D Q (ns.map V.int) H') : kLW (Itl K a) g tt te ws σ Q H := r_lw use_list hw S h
theorem r_lwT (hw : wipe σ ws = σ') (S : Star L H) (P : Pull (pt a (.tup xs)) L l) (h : ∀ D H', Star (pt D (.lst []) :: L) H' → kCl (gSqT K a xs) yId g tt te σ σ' ws D Q xs H') : kLW (Itt K a) g tt te ws σ Q H := r_lw use_tup hw S h
theorem r_lwR {lo : Int} {n : Nat} (hw : wipe σ ws = σ') (S : Star L H) (h : ∀ D H', Star (pt D (.lst []) :: L) H' → kCl gAny yId g tt te σ σ' ws D Q (rgV lo n) H') : kLW (Itr lo n) g tt te ws σ Q H := r_lw use_range hw S h
theorem gL (S : Star L H) (P : Pull (pt a (.lst xs)) L l) : gSqL K a xs H := SqL.of ((S.pull P).get (.head _))
theorem gLs {ns : List Int} (S : Star L H) (P : Pull (scr K a ns) L l) : gSqL K a (ns.map V.int) H := (S.pull P).scr (.head _)
theorem gT (S : Star L H) (P : Pull (pt a (.tup xs)) L l) : gSqT K a xs H := SqT.of ((S.pull P).get (.head _))
theorem gA : gAny H := True.intro
theorem gF {u : HO} (S : Star L H) (P : Pull (pt d u) L l) : gAt d u H := (S.pull P).get (.head _)
/-! ### a dict locked while it is walked -/
def kUnl (d : Addr) (od : Obj) (u : HO) (H : Hp) (q : Hp → Prop) : Prop := H d = some (.frz od u) ∧ q (upd H d u)
theorem r_lock {ts : TS} {u : HO} (mu : Mut (some u)) (S : Star L H) (P : Pull (pt d u) L l)
    (h : ∀ od H', Star (pt d (.frz od u) :: l) H' → ts ⟨fun σ' H' => kUnl d od u H' fun H2 => nx σ' H2, fun v H' => kUnl d od u H' fun H2 => rt v H2, fun σ' H' => kUnl d od u H' fun H2 => bk σ' H2, fun σ' H' => kUnl d od u H' fun H2 => ct σ' H2⟩ σ H') : tLock ts ⟨nx, rt, bk, ct⟩ σ H := by
  refine ⟨d, u, (S.pull P).get (.head _), mu, fun od => h od _ ((S.pull P).upd fun ⟨_, q⟩ => ?_)⟩
  subst q; exact mu
theorem r_unl {od : Obj} {u : HO} {q : Hp → Prop} (S : Star L H) (P : Pull (pt d (.frz od u)) L l) (h : ∀ H', Star (pt d u :: l) H' → q H') : kUnl d od u H q := ⟨(S.pull P).get (.head _), h _ ((S.pull P).upd fun ⟨_, q⟩ => nomatch q)⟩
def kIK (x : V) (H : Hp) (R : It → Hp → Prop) : Prop := ∃ d o, x = .ref d ∧ ((∃ kvs, H d = some (.frz o (.dK kvs)) ∧ R (Itk d o kvs) H) ∨ ∃ kvs, H d = some (.frz o (.dT kvs)) ∧ R (Itkt d o kvs) H)
def kIVa (x : V) (H : Hp) (R : It → Hp → Prop) : Prop := ∃ d o kvs, x = .ref d ∧ H d = some (.frz o (.dK kvs)) ∧ R (Itd d o kvs) H
theorem r_iK (h : tl σ H fun x H1 => kIK x H1 R) : iKeys tl σ H R := h
instance i_r_iK : Stp (iKeys tl σ H R) (tl σ H fun x H1 => kIK x H1 R) := ⟨r_iK⟩
theorem r_iVa (h : tl σ H fun x H1 => kIVa x H1 R) : iVals tl σ H R := h
instance i_r_iVa : Stp (iVals tl σ H R) (tl σ H fun x H1 => kIVa x H1 R) := ⟨r_iVa⟩
theorem r_kIK {o : Obj} {kvs : List (Key × V)} (S : Star L H) (P : Pull (pt d (.frz o (.dK kvs))) L l) (h : R (Itk d o kvs) H) : kIK (.ref d) H R := ⟨d, o, rfl, .inl ⟨kvs, (S.pull P).get (.head _), h⟩⟩
theorem r_kIKt {o : Obj} {kvs : List (List Key × V)} (S : Star L H) (P : Pull (pt d (.frz o (.dT kvs))) L l) (h : R (Itkt d o kvs) H) : kIK (.ref d) H R := ⟨d, o, rfl, .inr ⟨kvs, (S.pull P).get (.head _), h⟩⟩
theorem r_kIVa {o : Obj} {kvs : List (Key × V)} (S : Star L H) (P : Pull (pt d (.frz o (.dK kvs))) L l) (h : R (Itd d o kvs) H) : kIVa (.ref d) H R := ⟨d, o, kvs, rfl, (S.pull P).get (.head _), h⟩
theorem r_wK {o : Obj} {kvs : List (Key × V)} (h : kFl (gAt d (.frz o (.dK kvs))) yId g tb nx rt (kvs.map fun kv => kV kv.1) σ H) : kW (Itk d o kvs) g tb nx rt bk ct σ H := r_w use_keys h
instance i_r_wK {o : Obj} {kvs : List (Key × V)} : Stp (kW (Itk d o kvs) g tb nx rt bk ct σ H) (kFl (gAt d (.frz o (.dK kvs))) yId g tb nx rt (kvs.map fun kv => kV kv.1) σ H) := ⟨r_wK⟩
theorem r_wKt {o : Obj} {kvs : List (List Key × V)} (h : kFl (gAt d (.frz o (.dT kvs))) yKT g tb nx rt (kvs.map Prod.fst) σ H) : kW (Itkt d o kvs) g tb nx rt bk ct σ H := r_w use_keysT h
instance i_r_wKt {o : Obj} {kvs : List (List Key × V)} : Stp (kW (Itkt d o kvs) g tb nx rt bk ct σ H) (kFl (gAt d (.frz o (.dT kvs))) yKT g tb nx rt (kvs.map Prod.fst) σ H) := ⟨r_wKt⟩
theorem r_wVa {o : Obj} {kvs : List (Key × V)} (h : kFl (gAt d (.frz o (.dK kvs))) yId g tb nx rt (kvs.map Prod.snd) σ H) : kW (Itd d o kvs) g tb nx rt bk ct σ H := r_w use_values h
instance i_r_wVa {o : Obj} {kvs : List (Key × V)} : Stp (kW (Itd d o kvs) g tb nx rt bk ct σ H) (kFl (gAt d (.frz o (.dK kvs))) yId g tb nx rt (kvs.map Prod.snd) σ H) := ⟨r_wVa⟩
/-! ### while -/
def kTurn (Wv : Nat → L2.St → Hp → Prop) (m : Nat) (tb : TS) (nx : L2.St → Hp → Prop) (rt : VK) (σ : L2.St) (H : Hp) : Prop := ∃ N : L2.St → Hp → Prop, (∀ σ' H', N σ' H' → ∃ m', m' < m ∧ Wv m' σ' H') ∧ tb ⟨N, rt, nx, N⟩ σ H
theorem r_while {tc : TT} (Wv : Nat → L2.St → Hp → Prop) (m0 : Nat) (h0 : Wv m0 σ H) (hs : ∀ m σ H, Wv m σ H → tc σ H fun b H1 => if b = true then kTurn Wv m tb nx rt σ H1 else nx σ H1) : tWhile tc tb ⟨nx, rt, bk, ct⟩ σ H := ⟨Wv, ⟨m0, h0⟩, hs⟩
theorem r_turn {Wv : Nat → L2.St → Hp → Prop} {m : Nat} (h : tb ⟨fun σ' H' => ∃ m', m' < m ∧ Wv m' σ' H', rt, nx, fun σ' H' => ∃ m', m' < m ∧ Wv m' σ' H'⟩ σ H) : kTurn Wv m tb nx rt σ H := ⟨_, fun _ _ h => h, h⟩
end
end Fl
/-! Fl: lists, dicts, tuples: their methods step by step. -/
namespace Fl
open PySem PySem.Spec PyProof.Rows L2
abbrev Dk0 := List (Key × V)
def cutI {α : Type} (xs : List α) (lo hi : Option Int) : List α := (xs.drop (HT.sIx xs.length 0 lo)).take (HT.sIx xs.length xs.length hi - HT.sIx xs.length 0 lo)
theorem cutV_map {α : Type} {f : α → V} {xs : List α} {lo hi : Option Int} : cutV (xs.map f) lo hi = (cutI xs lo hi).map f := by
  unfold cutV cutI
  rw [List.length_map, List.map_take, List.map_drop]
theorem cutI_len {α : Type} {xs : List α} {lo hi : Option Int} : (cutI xs lo hi).length ≤ xs.length := by
  unfold cutI
  rw [List.length_take, List.length_drop]
  omega
section
variable {X : Cx} {L l : List Asrt} {K : PySem.W.Frag} {σ σ' : L2.St} {H H' : Hp} {Q : VK} {a b p q d t : Addr} {xs ys zs vs : List V} {v x y z : V} {i j n : Int} {te ta tb td ti tv ty : TE} {tl : TA} {nx bk ct : L2.St → Hp → Prop} {rt : VK}
/-! methods of built-in types -/
def kBM (K : PySem.W.Frag) (T : String) (x : V) (H : Hp) (R : Prop) : Prop := tyV K T x H ∧ R
theorem r_BM {T : String} {r : V → List V → Hp → VK → Prop} (h : ta σ H fun x H1 => kBM K T x H1 (tl σ H1 fun xs H2 => r x xs H2 Q)) : tBM K T r ta tl σ H Q := h
instance i_r_BM {T : String} {r : V → List V → Hp → VK → Prop} : Stp (tBM K T r ta tl σ H Q) (ta σ H fun x H1 => kBM K T x H1 (tl σ H1 fun xs H2 => r x xs H2 Q)) := ⟨r_BM⟩
theorem r_BM0 {T : String} {r : V → List V → Hp → VK → Prop} (h : ta σ H fun x H1 => kBM K T x H1 (r x [] H1 Q)) : tBM0 K T r ta σ H Q := h
instance i_r_BM0 {T : String} {r : V → List V → Hp → VK → Prop} : Stp (tBM0 K T r ta σ H Q) (ta σ H fun x H1 => kBM K T x H1 (r x [] H1 Q)) := ⟨r_BM0⟩
theorem r_kBML {R : Prop} (S : Star L H) (P : Pull (pt p (.lst xs)) L l) (h : R) : kBM K "list" (.ref p) H R := ⟨.inl ⟨rfl, _, SqL.of ((S.pull P).get (.head _))⟩, h⟩
theorem r_kBMS {R : Prop} {s : Str} (h : R) : kBM K "str" (.str s) H R := ⟨rfl, h⟩
instance i_r_kBMS {R : Prop} {s : Str} : Stp (kBM K "str" (.str s) H R) (R) := ⟨r_kBMS⟩
theorem r_append (S : Star L H) (P : Pull (pt p (.lst xs)) L l) (z : xs.length < sizeLine) (e : xs ++ [y] = zs) (h : ∀ H', Star (pt p (.lst zs) :: l) H' → Q .non H') : rAppend (.ref p) [y] H Q :=
  ⟨p, xs, y, rfl, rfl, (S.pull P).get (.head _), z, by rw [e]; exact h _ ((S.pull P).upd fun ⟨_, q⟩ => nomatch q)⟩
theorem r_extend (S : Star L H) (P : Pull (pt p (.lst xs)) L l) {m : List Asrt} (P2 : Pull (pt q (.lst ys)) L m) (z : xs.length + ys.length ≤ sizeLine) (h : ∀ H', Star (pt p (.lst (xs ++ ys)) :: l) H' → Q .non H') : rExtend (.ref p) [.ref q] H Q :=
  ⟨p, q, xs, ys, rfl, rfl, (S.pull P).get (.head _), (S.pull P2).get (.head _), z, h _ ((S.pull P).upd fun ⟨_, q⟩ => nomatch q)⟩
theorem r_pop (S : Star L H) (P : Pull (pt p (.lst xs)) L l) (e : xs[xs.length - 1]? = some y) (h : ∀ H', Star (pt p (.lst xs.dropLast) :: l) H' → Q y H') : rPop (.ref p) [] H Q :=
  ⟨p, xs, y, rfl, rfl, (S.pull P).get (.head _), e, h _ ((S.pull P).upd fun ⟨_, q⟩ => nomatch q)⟩
/-! cuts, sums, copies of lists -/
def kSl (r : V → Option Int → Option Int → Hp → VK → Prop) (x : V) (lo hi : Option Int) (H : Hp) (Q : VK) : Prop := r x lo hi H Q
theorem r_sl {r : V → Option Int → Option Int → Hp → VK → Prop} {tl th : TO} (h : te σ H fun x H1 => tl σ H1 fun l H2 => th σ H2 fun u H3 => r x l u H3 Q) : tSl r te tl th σ H Q := h
instance i_r_sl {r : V → Option Int → Option Int → Hp → VK → Prop} {tl th : TO} : Stp (tSl r te tl th σ H Q) (te σ H fun x H1 => tl σ H1 fun l H2 => th σ H2 fun u H3 => r x l u H3 Q) := ⟨r_sl⟩
def kPart (x : V) (H : Hp) (q : Option Int → Hp → Prop) : Prop := ∃ i, x = .int i ∧ q (some i) H
theorem r_part {q : Option Int → Hp → Prop} (h : te σ H fun x H1 => kPart x H1 q) : tPart te σ H q := h
instance i_r_part {q : Option Int → Hp → Prop} : Stp (tPart te σ H q) (te σ H fun x H1 => kPart x H1 q) := ⟨r_part⟩
theorem r_kPart {q : Option Int → Hp → Prop} (h : q (some i) H) : kPart (.int i) H q := ⟨i, rfl, h⟩
instance i_r_kPart {q : Option Int → Hp → Prop} : Stp (kPart (.int i) H q) (q (some i) H) := ⟨r_kPart⟩
theorem r_noPart {q : Option Int → Hp → Prop} (h : q none H) : tNoPart σ H q := h
instance i_r_noPart {q : Option Int → Hp → Prop} : Stp (tNoPart σ H q) (q none H) := ⟨r_noPart⟩
theorem r_slL {lo hi : Option Int} (S : Star L H) (P : Pull (pt p (.lst xs)) L l) (h : ∀ q H', Star (pt q (.lst (cutV xs lo hi)) :: L) H' → Q (.ref q) H') : rSlL K (.ref p) lo hi H Q := ⟨p, xs, rfl, SqL.of ((S.pull P).get (.head _)), fun q n => h q _ (S.new n)⟩
theorem r_slS {lo hi : Option Int} {ns : List Int} (S : Star L H) (P : Pull (scr K p ns) L l) (h : ∀ q H', Star (pt q (.lst ((cutI ns lo hi).map V.int)) :: L) H' → Q (.ref q) H') : rSlL K (.ref p) lo hi H Q := ⟨p, _, rfl, (S.pull P).scr (.head _), fun q n => by rw [cutV_map]; exact h q _ (S.new n)⟩
theorem r_cat (S : Star L H) (P : Pull (pt p (.lst xs)) L l) {m : List Asrt} (P2 : Pull (pt q (.lst ys)) L m) (z : xs.length + ys.length ≤ sizeLine) (h : ∀ r H', Star (pt r (.lst (xs ++ ys)) :: L) H' → Q (.ref r) H') : rCat (.ref p) (.ref q) H Q :=
  ⟨p, q, xs, ys, rfl, rfl, (S.pull P).get (.head _), (S.pull P2).get (.head _), z, fun r n => h r _ (S.new n)⟩
theorem r_rep (S : Star L H) (P : Pull (pt p (.lst xs)) L l) (z : 0 ≤ n ∧ n < 100000) (z2 : xs.length * n.toNat ≤ 100000) (e : (List.replicate n.toNat xs).flatten = zs) (h : ∀ r H', Star (pt r (.lst zs) :: L) H' → Q (.ref r) H') : rRep (.ref p) (.int n) H Q :=
  ⟨p, n, xs, rfl, rfl, (S.pull P).get (.head _), by omega, by omega, Evl.sz_of z2, fun r nn => by rw [e]; exact h r _ (S.new nn)⟩
def cSortedD : List V → Hp → VK → Prop := fun xs H Q => ∃ (a : Addr) (kvs : List (Key × V)) (ks : List Int), xs = [.ref a] ∧ Rd H a (.dK kvs) ∧ kvs.map (·.1) = ks.map Sum.inl ∧ ks.length < 64 ∧
    ∀ (ys : List Int) (p : Addr), ys.Perm ks → ys.Pairwise (· ≤ ·) → H p = none → Q (.ref p) (upd H p (.lst (ys.map V.int)))
theorem callSortedD (hc : X.calm = true) : CallR X (.builtin "sorted") cSortedD := call_sortedDI hc
theorem r_sortedD {kvs : List (Key × V)} {ks : List Int} (S : Star L H) (P : Pull (pt p (.dK kvs)) L l) (e : kvs.map (·.1) = ks.map Sum.inl) (z : ks.length < 64) (h : ∀ (ms : List Int) q H', ms.Perm ks → ms.Pairwise (· ≤ ·) → Star (pt q (.lst (ms.map V.int)) :: L) H' → Q (.ref q) H') : cSortedD [.ref p] H Q :=
  ⟨p, kvs, ks, rfl, .inl ((S.pull P).get (.head _)), e, z, fun ms q pm pw n => h ms q _ pm pw (S.new n)⟩
theorem r_clistL (S : Star L H) (P : Pull (pt p (.lst xs)) L l) (h : ∀ q H', Star (pt q (.lst xs) :: L) H' → Q (.ref q) H') : cList K [.ref p] H Q := ⟨p, xs, rfl, .inl (SqL.of ((S.pull P).get (.head _))), fun q n => h q _ (S.new n)⟩
theorem r_clistT (S : Star L H) (P : Pull (pt p (.tup xs)) L l) (h : ∀ q H', Star (pt q (.lst xs) :: L) H' → Q (.ref q) H') : cList K [.ref p] H Q := ⟨p, xs, rfl, .inr (SqT.of ((S.pull P).get (.head _))), fun q n => h q _ (S.new n)⟩
/-! a list's place stored -/
theorem r_gSub {ts : TSet} {q : L2.St → Hp → Prop} (h : ta σ H fun o H1 => ti σ H1 fun i H2 => ts o i v H2 fun H3 => q σ H3) : gSub ta ti ts v σ H q := h
instance i_r_gSub {ts : TSet} {q : L2.St → Hp → Prop} : Stp (gSub ta ti ts v σ H q) (ta σ H fun o H1 => ti σ H1 fun i H2 => ts o i v H2 fun H3 => q σ H3) := ⟨r_gSub⟩
theorem r_setL {k : Nat} {w : Hp → Prop} (S : Star L H) (P : Pull (pt p (.lst xs)) L l) (e : ixN xs.length i = some k) (h : ∀ H', Star (pt p (.lst (xs.set k v)) :: l) H' → w H') : rSetL (.ref p) (.int i) v H w :=
  ⟨p, xs, i, k, rfl, rfl, (S.pull P).get (.head _), e, h _ ((S.pull P).upd fun ⟨_, q⟩ => nomatch q)⟩
theorem r_setM {α : Type} {f : α → V} {ys : List α} {y : α} {k : Nat} {w : Hp → Prop} (S : Star L H) (P : Pull (pt p (.lst (ys.map f))) L l) (e : ixN ys.length i = some k) (h : ∀ H', Star (pt p (.lst ((ys.set k y).map f)) :: l) H' → w H') : rSetL (.ref p) (.int i) (f y) H w :=
  r_setL S P (by rw [List.length_map]; exact e) fun H' S' => h H' (by rw [List.map_set]; exact S')
theorem ixN_set {n : Nat} {i : Int} (h0 : 0 ≤ i) (h : i < n) : ixN n i = some i.toNat := by
  unfold ixN
  rw [if_pos h0, if_pos h]
/-! tuples taken apart -/
theorem r_gTup {n : Nat} {tg : TGs} {w : L2.St → Hp → Prop} (S : Star L H) (P : Pull (pt p (.tup xs)) L l) (e : xs.length = n) (h : tg xs σ H w) : gTup K n tg (.ref p) σ H w := ⟨p, xs, rfl, SqT.of ((S.pull P).get (.head _)), e, h⟩
theorem r_gCons {g : TG} {tg : TGs} {w : L2.St → Hp → Prop} (h : g x σ H fun σ' H' => tg xs σ' H' w) : gCons g tg (x :: xs) σ H w := ⟨x, xs, rfl, h⟩
instance i_r_gCons {g : TG} {tg : TGs} {w : L2.St → Hp → Prop} : Stp (gCons g tg (x :: xs) σ H w) (g x σ H fun σ' H' => tg xs σ' H' w) := ⟨r_gCons⟩
theorem r_gNil {w : L2.St → Hp → Prop} (h : w σ H) : gNil [] σ H w := ⟨rfl, h⟩
instance i_r_gNil {w : L2.St → Hp → Prop} : Stp (gNil [] σ H w) (w σ H) := ⟨r_gNil⟩
/-! dicts with int and text keys -/
abbrev Dk := List (Key × V)
def kDGet (x y : V) (H : Hp) (Q : VK) : Prop := ∃ a v, x = .ref a ∧ DGet H a y (some v) ∧ Q v H
def kDIn (y x : V) (H : Hp) (Q : VK) : Prop := ∃ a o, x = .ref a ∧ DGet H a y o ∧ Q (.bl o.isSome) H
def kDNot (y x : V) (H : Hp) (Q : VK) : Prop := ∃ a o, x = .ref a ∧ DGet H a y o ∧ Q (.bl (!o.isSome)) H
def kDPut (x y v : V) (H : Hp) (w : Hp → Prop) : Prop := ∃ a H4, x = .ref a ∧ DPut H a y v H4 ∧ w H4
def kIsD (x : V) (H : Hp) (R : Addr → Prop) : Prop := ∃ a, x = .ref a ∧ IsD H a ∧ R a
def kDg (a : Addr) (y z : V) (H : Hp) (Q : VK) : Prop := ∃ o, DGet H a y o ∧ Q (o.getD z) H
def kDp1 (a : Addr) (y : V) (H : Hp) (Q : VK) : Prop := ∃ kvs k v, H a = some (.dK kvs) ∧ y = kV k ∧ valV kvs k = some v ∧ Q v (upd H a (.dK (dropK kvs k)))
theorem r_dget (h : td σ H fun x H1 => ty σ H1 fun y H2 => kDGet x y H2 Q) : tDGet td ty σ H Q := h
instance i_r_dget : Stp (tDGet td ty σ H Q) (td σ H fun x H1 => ty σ H1 fun y H2 => kDGet x y H2 Q) := ⟨r_dget⟩
theorem r_din (h : ty σ H fun y H1 => td σ H1 fun x H2 => kDIn y x H2 Q) : tDIn ty td σ H Q := h
instance i_r_din : Stp (tDIn ty td σ H Q) (ty σ H fun y H1 => td σ H1 fun x H2 => kDIn y x H2 Q) := ⟨r_din⟩
theorem r_dnot (h : ty σ H fun y H1 => td σ H1 fun x H2 => kDNot y x H2 Q) : tDNotIn ty td σ H Q := h
instance i_r_dnot : Stp (tDNotIn ty td σ H Q) (ty σ H fun y H1 => td σ H1 fun x H2 => kDNot y x H2 Q) := ⟨r_dnot⟩
theorem r_dput (h : tv σ H fun v H1 => td σ H1 fun x H2 => ty σ H2 fun y H3 => kDPut x y v H3 fun H4 => nx σ H4) : sDPut td ty tv ⟨nx, rt, bk, ct⟩ σ H := by
  exact h
instance i_r_dput : Stp (sDPut td ty tv ⟨nx, rt, bk, ct⟩ σ H) (tv σ H fun v H1 => td σ H1 fun x H2 => ty σ H2 fun y H3 => kDPut x y v H3 fun H4 => nx σ H4) := ⟨r_dput⟩
theorem r_dget1 (h : td σ H fun x H1 => kIsD x H1 fun a => ty σ H1 fun y H2 => kDg a y .non H2 Q) : tDGet1 td ty σ H Q := h
instance i_r_dget1 : Stp (tDGet1 td ty σ H Q) (td σ H fun x H1 => kIsD x H1 fun a => ty σ H1 fun y H2 => kDg a y .non H2 Q) := ⟨r_dget1⟩
theorem r_dget2 {tx : TE} (h : td σ H fun x H1 => kIsD x H1 fun a => ty σ H1 fun y H2 => tx σ H2 fun z H3 => kDg a y z H3 Q) : tDGet2 td ty tx σ H Q := h
instance i_r_dget2 {tx : TE} : Stp (tDGet2 td ty tx σ H Q) (td σ H fun x H1 => kIsD x H1 fun a => ty σ H1 fun y H2 => tx σ H2 fun z H3 => kDg a y z H3 Q) := ⟨r_dget2⟩
theorem r_dpop1 (h : td σ H fun x H1 => kIsD x H1 fun a => ty σ H1 fun y H2 => kDp1 a y H2 Q) : tDPop1 td ty σ H Q := h
instance i_r_dpop1 : Stp (tDPop1 td ty σ H Q) (td σ H fun x H1 => kIsD x H1 fun a => ty σ H1 fun y H2 => kDp1 a y H2 Q) := ⟨r_dpop1⟩
theorem r_kIsD {kvs : Dk} {R : Addr → Prop} (S : Star L H) (P : Pull (pt d (.dK kvs)) L l) (h : R d) : kIsD (.ref d) H R := ⟨d, rfl, .inl ⟨kvs, .inl ((S.pull P).get (.head _))⟩, h⟩
theorem r_kIsDT {kvs : List (List Key × V)} {R : Addr → Prop} (S : Star L H) (P : Pull (pt d (.dT kvs)) L l) (h : R d) : kIsD (.ref d) H R := ⟨d, rfl, .inr ⟨kvs, .inl ((S.pull P).get (.head _))⟩, h⟩
theorem r_kDGet {kvs : Dk} (S : Star L H) (P : Pull (pt d (.dK kvs)) L l) (e : valV kvs (Sum.inl n : Key) = some v) (h : Q v H) : kDGet (.ref d) (.int n) H Q := ⟨d, v, rfl, by rw [← e]; exact DGet.k (k := Sum.inl n) ((S.pull P).get (.head _)), h⟩
theorem r_kDIn {kvs : Dk} (S : Star L H) (P : Pull (pt d (.dK kvs)) L l) (h : Q (.bl (valV kvs (Sum.inl n : Key)).isSome) H) : kDIn (.int n) (.ref d) H Q := ⟨d, _, rfl, DGet.k (k := Sum.inl n) ((S.pull P).get (.head _)), h⟩
theorem r_kDNot {kvs : Dk} (S : Star L H) (P : Pull (pt d (.dK kvs)) L l) (h : Q (.bl (!(valV kvs (Sum.inl n : Key)).isSome)) H) : kDNot (.int n) (.ref d) H Q := ⟨d, _, rfl, DGet.k (k := Sum.inl n) ((S.pull P).get (.head _)), h⟩
theorem r_kDPut {kvs : Dk} {w : Hp → Prop} (S : Star L H) (P : Pull (pt d (.dK kvs)) L l) (z : kvs.length < sizeLine) (h : ∀ H', Star (pt d (.dK (putK kvs (Sum.inl n : Key) v)) :: l) H' → w H') : kDPut (.ref d) (.int n) v H w :=
  ⟨d, _, rfl, DPut.k (k := Sum.inl n) ((S.pull P).get (.head _)) z, h _ ((S.pull P).upd fun ⟨_, q⟩ => nomatch q)⟩
theorem r_kDg {kvs : Dk} (S : Star L H) (P : Pull (pt d (.dK kvs)) L l) (h : Q ((valV kvs (Sum.inl n : Key)).getD z) H) : kDg d (.int n) z H Q := ⟨_, DGet.k (k := Sum.inl n) ((S.pull P).get (.head _)), h⟩
theorem r_kDp1 {kvs : Dk} (S : Star L H) (P : Pull (pt d (.dK kvs)) L l) (e : valV kvs (Sum.inl n : Key) = some v) (h : ∀ H', Star (pt d (.dK (dropK kvs (Sum.inl n : Key))) :: l) H' → Q v H') : kDp1 d (.int n) H Q :=
  ⟨kvs, Sum.inl n, v, (S.pull P).get (.head _), rfl, e, h _ ((S.pull P).upd fun ⟨_, q⟩ => nomatch q)⟩
theorem r_dnewK (S : Star l H) (h : ∀ p H', Star (pt p (.dK []) :: l) H' → Q (.ref p) H') : tDNewK σ H Q := fun p n => h p _ (S.new n)
theorem r_dnewT (S : Star l H) (h : ∀ p H', Star (pt p (.dT []) :: l) H' → Q (.ref p) H') : tDNewT σ H Q := fun p n => h p _ (S.new n)
def cLenD : List V → Hp → VK → Prop := fun xs H Q => ∃ a kvs, xs = [V.ref a] ∧ H a = some (.dK kvs) ∧ Q (.int (kvs.length : Int)) H
theorem callLenD : CallR X (.builtin "len") cLenD := call_lenD
theorem r_lenD {kvs : Dk} (S : Star L H) (P : Pull (pt d (.dK kvs)) L l) (h : Q (.int (kvs.length : Int)) H) : cLenD [.ref d] H Q := ⟨d, kvs, rfl, (S.pull P).get (.head _), h⟩
/-! sorted -/
def cSorted (K : PySem.W.Frag) : List V → Hp → VK → Prop := rSortedI K
theorem callSorted (e : X.K = K) : CallR X (.builtin "sorted") (cSorted K) := by subst e; exact cr_sortedI
theorem r_sorted {ns : List Int} (S : Star L H) (P : Pull (pt p (.lst (ns.map V.int))) L l) (h : ∀ (ms : List Int) q H', ms.Perm ns → ms.Pairwise (· ≤ ·) → Star (pt q (.lst (ms.map V.int)) :: L) H' → Q (.ref q) H') : cSorted K [.ref p] H Q :=
  ⟨p, ns, rfl, SqL.of ((S.pull P).get (.head _)), fun ms q pm pw n => h ms q _ pm pw (S.new n)⟩
/-! text of a number, written pairs -/
def cStr : List V → Hp → VK → Prop := fun xs H Q => ∃ i, xs = [.int i] ∧ i.natAbs.log2 < 1920 ∧ Q (.str (toString i)) H
theorem callStr : CallR X (.type "str") cStr := call_str_int
theorem r_str (z : i.natAbs < 10 ^ 80) (h : Q (.str (toString i)) H) : cStr [.int i] H Q := by
  refine ⟨i, rfl, ?_, h⟩
  have z2 : i.natAbs < 2 ^ 1920 := Nat.lt_trans z (by decide +kernel)
  by_cases e : i.natAbs = 0
  · rw [e]; decide
  · exact (Nat.log2_lt e).mpr z2
class KvL (ps : List (V × V)) (kvs : outParam Dk0) : Prop where e : ps = kvs.map (fun kv => (kV kv.1, kv.2))
instance kvL0 : KvL [] [] := ⟨rfl⟩
instance kvLI {ps : List (V × V)} {kvs : Dk0} [q : KvL ps kvs] : KvL ((.int i, v) :: ps) ((Sum.inl i, v) :: kvs) := ⟨by rw [q.e]; rfl⟩
instance kvLS {s : Str} {ps : List (V × V)} {kvs : Dk0} [q : KvL ps kvs] : KvL ((.str s, v) :: ps) ((Sum.inr s, v) :: kvs) := ⟨by rw [q.e]; rfl⟩
def kDisp (p : Addr) (ps : List (V × V)) (H : Hp) (Q : VK) : Prop := H p = some (.dK []) ∧ ∃ kvs : Dk0, ps = kvs.map (fun kv => (kV kv.1, kv.2)) ∧ kvs.length ≤ 15 ∧ Q (.ref p) (L2.upd H p (.dK (mergeK [] kvs)))
theorem r_disp {trs : List (TE × TE)} (S : Star l H) (h : ∀ p H', Star (pt p (.dK []) :: l) H' → tPairs trs σ H' fun ps H2 => kDisp p ps H2 Q) : tDisp trs σ H Q := fun p n => h p _ (S.new n)
theorem r_prs0 {q : List (V × V) → Hp → Prop} (h : q [] H) : tPairs [] σ H q := h
instance i_prs0 {q : List (V × V) → Hp → Prop} : Stp (tPairs [] σ H q) (q [] H) := ⟨r_prs0⟩
theorem r_prs1 {trs : List (TE × TE)} {q : List (V × V) → Hp → Prop} (h : ta σ H fun x H1 => tb σ H1 fun y H2 => tPairs trs σ H2 fun ps H3 => q ((x, y) :: ps) H3) : tPairs ((ta, tb) :: trs) σ H q := h
instance i_prs1 {trs : List (TE × TE)} {q : List (V × V) → Hp → Prop} : Stp (tPairs ((ta, tb) :: trs) σ H q) (ta σ H fun x H1 => tb σ H1 fun y H2 => tPairs trs σ H2 fun ps H3 => q ((x, y) :: ps) H3) := ⟨r_prs1⟩
theorem r_kDisp {ps : List (V × V)} {kvs : Dk0} [w : KvL ps kvs] (S : Star L H) (P : Pull (pt p (.dK [])) L l) (z : kvs.length ≤ 15) (h : ∀ H', Star (pt p (.dK (mergeK [] kvs)) :: l) H' → Q (.ref p) H') : kDisp p ps H Q :=
  ⟨(S.pull P).get (.head _), kvs, w.e, z, h _ ((S.pull P).upd fun ⟨_, q⟩ => nomatch q)⟩
/-! any, all, sum of a list -/
theorem callAny (e : X.K = K) (hc : X.calm = true) : CallR X (.builtin "any") (rAny K) := by subst e; exact cr_any hc
theorem callAll (e : X.K = K) (hc : X.calm = true) : CallR X (.builtin "all") (rAll K) := by subst e; exact cr_all hc
theorem r_any {bs : List Bool} (S : Star L H) (P : Pull (pt p (.lst (bs.map V.bl))) L l) (h : Q (.bl (bs.any id)) H) : rAny K [.ref p] H Q := ⟨p, bs, rfl, SqL.of ((S.pull P).get (.head _)), h⟩
theorem r_all {bs : List Bool} (S : Star L H) (P : Pull (pt p (.lst (bs.map V.bl))) L l) (h : Q (.bl (bs.all id)) H) : rAll K [.ref p] H Q := ⟨p, bs, rfl, SqL.of ((S.pull P).get (.head _)), h⟩
end
/-! groups -/
class Grp (g : Prop) (n : Nat) : Prop where
theorem grp (n : Nat) {g : Prop} [Grp g n] (h : g) : g := h
section
variable {α : Type} {K : PySem.W.Frag} {H : Hp} {Q : VK} {q w : Hp → Prop} {σ σ' : L2.St} {x y z v : V} {vs xs : List V} {n m k : Nat} {A B : Prop} {c : Bool} {tu : TT} {tb : TE} {QB : Bool → Hp → Prop} {sp : Sp} {E : XK} {C a d D : Addr} {f : Str} {T : String} {R : Prop} {RA : Addr → Prop} {RI : It → Hp → Prop} {J : It} {g : TG} {ts : TS} {tt : TT} {te : TE} {nx bk ct : L2.St → Hp → Prop} {rt : VK} {ws : List Nat} {tg : TGs} {wq : L2.St → Hp → Prop} {lo hi : Option Int} {od : Obj} {u : HO} {Cn : Int → Int → Prop} {gg : Int → Int → V} {RV : Addr → V → Prop}
instance : Grp (if c = true then A else B) 1 := ⟨⟩
instance : Grp (kAnd c tu σ H QB) 2 := ⟨⟩
instance : Grp (kOr c tu σ H QB) 2 := ⟨⟩
instance : Grp (kAndV c tb σ H Q) 2 := ⟨⟩
instance : Grp (kOrV c tb σ H Q) 2 := ⟨⟩
instance : Grp (kCall sp vs H Q E) 3 := ⟨⟩
instance : Grp (kMk C sp vs H Q E) 3 := ⟨⟩
instance : Grp (kBM K T x H R) 4 := ⟨⟩
instance : Grp (rAppend x vs H Q) 4 := ⟨⟩
instance : Grp (rExtend x vs H Q) 4 := ⟨⟩
instance : Grp (rPop x vs H Q) 4 := ⟨⟩
instance : Grp (rSlL K x lo hi H Q) 4 := ⟨⟩
instance : Grp (rCat x y H Q) 4 := ⟨⟩
instance : Grp (rRep x y H Q) 4 := ⟨⟩
instance : Grp (cList K vs H Q) 4 := ⟨⟩
instance : Grp (rSetL x y z H w) 4 := ⟨⟩
instance : Grp (gTup K n tg x σ H wq) 4 := ⟨⟩
instance : Grp (rIxL K x y H Q) 4 := ⟨⟩
instance : Grp (rIxT K x y H Q) 4 := ⟨⟩
instance : Grp (kLst xs H Q) 4 := ⟨⟩
instance : Grp (kTup xs H Q) 4 := ⟨⟩
instance : Grp (kApp D y H q) 4 := ⟨⟩
instance : Grp (wipe σ ws = σ' ∧ R) 4 := ⟨⟩
instance : Grp (cLenS K vs H Q) 4 := ⟨⟩
instance : Grp (rAny K vs H Q) 4 := ⟨⟩
instance : Grp (rAll K vs H Q) 4 := ⟨⟩
instance : Grp (cSorted K vs H Q) 4 := ⟨⟩
instance : Grp (kIsD x H RA) 5 := ⟨⟩
instance : Grp (kDGet x y H Q) 5 := ⟨⟩
instance : Grp (kDIn x y H Q) 5 := ⟨⟩
instance : Grp (kDNot x y H Q) 5 := ⟨⟩
instance : Grp (kDPut x y v H w) 5 := ⟨⟩
instance : Grp (kDg a y z H Q) 5 := ⟨⟩
instance : Grp (kDp1 a y H Q) 5 := ⟨⟩
instance : Grp (tDNewK σ H Q) 5 := ⟨⟩
instance {trs : List (TE × TE)} : Grp (tDisp trs σ H Q) 5 := ⟨⟩
instance {ps : List (V × V)} : Grp (kDisp a ps H Q) 5 := ⟨⟩
instance : Grp (cStr vs H Q) 4 := ⟨⟩
instance : Grp (tDNewT σ H Q) 5 := ⟨⟩
instance : Grp (cLenD vs H Q) 5 := ⟨⟩
instance : Grp (cSortedD vs H Q) 5 := ⟨⟩
instance : Grp (kIL K x H RI) 6 := ⟨⟩
instance : Grp (kIT K x H RI) 6 := ⟨⟩
instance : Grp (kIE K vs H RI) 6 := ⟨⟩
instance : Grp (kIZ K vs H RI) 6 := ⟨⟩
instance : Grp (kIV K vs H RI) 6 := ⟨⟩
instance : Grp (kIK x H RI) 6 := ⟨⟩
instance : Grp (kIVa x H RI) 6 := ⟨⟩
instance : Grp (kIR1 vs H RI) 6 := ⟨⟩
instance : Grp (kIR2 vs H RI) 6 := ⟨⟩
instance : Grp (kW J g ts nx rt bk ct σ H) 6 := ⟨⟩
instance : Grp (kLW J g tt te ws σ Q H) 6 := ⟨⟩
instance : Grp (kUnl d od u H q) 6 := ⟨⟩
instance : Grp (kFld C f x H Q) 7 := ⟨⟩
instance : Grp (kSto C f x y H q) 7 := ⟨⟩
instance : Grp (kMt C f x H R) 7 := ⟨⟩
instance : Grp (kAugR C f x H RV) 7 := ⟨⟩
instance : Grp (kAugW C a f y H q) 7 := ⟨⟩
instance : Grp (rI Cn gg x y H Q) 8 := ⟨⟩
end
end Fl
/-! Fl: deep likeness of lists and tuples of plain things. -/
namespace Fl
open PySem PySem.Spec PyProof.Rows L2
/-- lists of whole numbers, of truths -/
class IntsL (xs : List V) (is : outParam (List Int)) : Prop where e : xs = is.map V.int
class BlsL (xs : List V) (bs : outParam (List Bool)) : Prop where e : xs = bs.map V.bl
instance ints0 : IntsL [] [] := ⟨rfl⟩
instance ints1 {i : Int} {xs : List V} {is : List Int} [q : IntsL xs is] : IntsL (.int i :: xs) (i :: is) := ⟨by rw [q.e]; rfl⟩
instance intsM {is : List Int} : IntsL (is.map V.int) is := ⟨rfl⟩
instance intsA {xs ys : List V} {is js : List Int} [q : IntsL xs is] [r : IntsL ys js] : IntsL (xs ++ ys) (is ++ js) := ⟨by rw [q.e, r.e, List.map_append]⟩
instance intsR {lo : Int} {n : Nat} : IntsL (rgV lo n) ((List.range n).map fun i => lo + (i : Nat)) := ⟨by unfold rgV; rw [List.map_map]; rfl⟩
instance bls0 : BlsL [] [] := ⟨rfl⟩
instance bls1 {i : Bool} {xs : List V} {is : List Bool} [q : BlsL xs is] : BlsL (.bl i :: xs) (i :: is) := ⟨by rw [q.e]; rfl⟩
instance blsM {is : List Bool} : BlsL (is.map V.bl) is := ⟨rfl⟩
instance blsA {xs ys : List V} {is js : List Bool} [q : BlsL xs is] [r : BlsL ys js] : BlsL (xs ++ ys) (is ++ js) := ⟨by rw [q.e, r.e, List.map_append]⟩
section
variable {K : PySem.W.Frag} {H : Hp} {Q : VK} {L l m : List Asrt} {p q : Addr} {xs ys : List V} {is js : List Int} {bs cs : List Bool}
theorem dps_int : ∀ {is : List Int}, DpAll K H (is.map V.int) (is.map PyData.int)
  | [] => .nil
  | i :: is => .cons (.int i) dps_int
theorem dps_bl : ∀ {is : List Bool}, DpAll K H (is.map V.bl) (is.map PyData.bool)
  | [] => .nil
  | i :: is => .cons (.bl i) dps_bl
theorem lay_int : ∀ {is : List Int}, PyData.canLayAll0 (is.map PyData.int) = true
  | [] => by simp [PyData.canLayAll0]
  | i :: is => by simp [PyData.canLayAll0, PyData.canLay0, lay_int]
theorem lay_bl : ∀ {is : List Bool}, PyData.canLayAll0 (is.map PyData.bool) = true
  | [] => by simp [PyData.canLayAll0]
  | i :: is => by simp [PyData.canLayAll0, PyData.canLay0, lay_bl]
theorem dep_int : ∀ {is : List Int}, PyData.depthAll (is.map PyData.int) = 0
  | [] => by simp [PyData.depthAll]
  | i :: is => by simp [PyData.depthAll, PyData.depth, dep_int]
theorem dep_bl : ∀ {is : List Bool}, PyData.depthAll (is.map PyData.bool) = 0
  | [] => by simp [PyData.depthAll]
  | i :: is => by simp [PyData.depthAll, PyData.depth, dep_bl]
theorem shL_int : SeqAt.shaped (.list (is.map PyData.int)) = true := by simp [SeqAt.shaped, PyData.canLay0, PyData.depth, lay_int, dep_int]
theorem shL_bl : SeqAt.shaped (.list (bs.map PyData.bool)) = true := by simp [SeqAt.shaped, PyData.canLay0, PyData.depth, lay_bl, dep_bl]
theorem shT_int : SeqAt.shaped (.tuple (is.map PyData.int)) = true := by simp [SeqAt.shaped, PyData.canLay0, PyData.depth, lay_int, dep_int]
theorem shT_bl : SeqAt.shaped (.tuple (bs.map PyData.bool)) = true := by simp [SeqAt.shaped, PyData.canLay0, PyData.depth, lay_bl, dep_bl]
theorem eqv_int : ∀ {is js : List Int}, PyData.eqvAll (is.map PyData.int) (js.map PyData.int) = decide (is = js)
  | [], [] => by simp [PyData.eqvAll]
  | [], j :: js => by simp [PyData.eqvAll]
  | i :: is, [] => by simp [PyData.eqvAll]
  | i :: is, j :: js => by
    simp only [List.map_cons, PyData.eqvAll, PyData.eqv, eqv_int (is := is) (js := js)]
    by_cases h : i = j <;> by_cases h2 : is = js <;> simp [h, h2]
theorem eqv_bl : ∀ {is js : List Bool}, PyData.eqvAll (is.map PyData.bool) (js.map PyData.bool) = decide (is = js)
  | [], [] => by simp [PyData.eqvAll]
  | [], j :: js => by simp [PyData.eqvAll]
  | i :: is, [] => by simp [PyData.eqvAll]
  | i :: is, j :: js => by
    simp only [List.map_cons, PyData.eqvAll, PyData.eqv, eqv_bl (is := is) (js := js)]
    by_cases h : i = j <;> by_cases h2 : is = js <;> simp [h, h2]
theorem r_eqLI [a : IntsL xs is] [b : IntsL ys js] (S : Star L H) (P : Pull (pt p (.lst xs)) L l) (P2 : Pull (pt q (.lst ys)) L m) (h : Q (.bl (decide (is = js))) H) : rEqD K (.ref p) (.ref q) H Q := by
  have e1 := (S.pull P).get (.head _); have e2 := (S.pull P2).get (.head _)
  rw [a.e] at e1; rw [b.e] at e2
  refine ⟨_, _, .lst (SqL.of e1) dps_int, .lst (SqL.of e2) dps_int, shL_int, shL_int, ?_⟩
  rw [PyData.eqv, eqv_int]; exact h
theorem r_neLI [a : IntsL xs is] [b : IntsL ys js] (S : Star L H) (P : Pull (pt p (.lst xs)) L l) (P2 : Pull (pt q (.lst ys)) L m) (h : Q (.bl (!decide (is = js))) H) : rNeD K (.ref p) (.ref q) H Q := by
  have e1 := (S.pull P).get (.head _); have e2 := (S.pull P2).get (.head _)
  rw [a.e] at e1; rw [b.e] at e2
  refine ⟨_, _, .lst (SqL.of e1) dps_int, .lst (SqL.of e2) dps_int, shL_int, shL_int, ?_⟩
  rw [PyData.eqv, eqv_int]; exact h
theorem r_eqLB [a : BlsL xs bs] [b : BlsL ys cs] (S : Star L H) (P : Pull (pt p (.lst xs)) L l) (P2 : Pull (pt q (.lst ys)) L m) (h : Q (.bl (decide (bs = cs))) H) : rEqD K (.ref p) (.ref q) H Q := by
  have e1 := (S.pull P).get (.head _); have e2 := (S.pull P2).get (.head _)
  rw [a.e] at e1; rw [b.e] at e2
  refine ⟨_, _, .lst (SqL.of e1) dps_bl, .lst (SqL.of e2) dps_bl, shL_bl, shL_bl, ?_⟩
  rw [PyData.eqv, eqv_bl]; exact h
theorem r_neLB [a : BlsL xs bs] [b : BlsL ys cs] (S : Star L H) (P : Pull (pt p (.lst xs)) L l) (P2 : Pull (pt q (.lst ys)) L m) (h : Q (.bl (!decide (bs = cs))) H) : rNeD K (.ref p) (.ref q) H Q := by
  have e1 := (S.pull P).get (.head _); have e2 := (S.pull P2).get (.head _)
  rw [a.e] at e1; rw [b.e] at e2
  refine ⟨_, _, .lst (SqL.of e1) dps_bl, .lst (SqL.of e2) dps_bl, shL_bl, shL_bl, ?_⟩
  rw [PyData.eqv, eqv_bl]; exact h
theorem r_eqTI [a : IntsL xs is] [b : IntsL ys js] (S : Star L H) (P : Pull (pt p (.tup xs)) L l) (P2 : Pull (pt q (.tup ys)) L m) (h : Q (.bl (decide (is = js))) H) : rEqD K (.ref p) (.ref q) H Q := by
  have e1 := (S.pull P).get (.head _); have e2 := (S.pull P2).get (.head _)
  rw [a.e] at e1; rw [b.e] at e2
  refine ⟨_, _, .tup (SqT.of e1) dps_int, .tup (SqT.of e2) dps_int, shT_int, shT_int, ?_⟩
  rw [PyData.eqv, eqv_int]; exact h
theorem r_neTI [a : IntsL xs is] [b : IntsL ys js] (S : Star L H) (P : Pull (pt p (.tup xs)) L l) (P2 : Pull (pt q (.tup ys)) L m) (h : Q (.bl (!decide (is = js))) H) : rNeD K (.ref p) (.ref q) H Q := by
  have e1 := (S.pull P).get (.head _); have e2 := (S.pull P2).get (.head _)
  rw [a.e] at e1; rw [b.e] at e2
  refine ⟨_, _, .tup (SqT.of e1) dps_int, .tup (SqT.of e2) dps_int, shT_int, shT_int, ?_⟩
  rw [PyData.eqv, eqv_int]; exact h
theorem r_catI [a : IntsL xs is] [b : IntsL ys js] (S : Star L H) (P : Pull (pt p (.lst xs)) L l) (P2 : Pull (pt q (.lst ys)) L m) (z : xs.length + ys.length ≤ 100000) (h : ∀ r H', Star (pt r (.lst ((is ++ js).map V.int)) :: L) H' → Q (.ref r) H') : rCat (.ref p) (.ref q) H Q := by
  have e1 := a.e; have e2 := b.e
  refine r_cat S P P2 ?_ fun r H' S' => h r H' ?_
  · exact Evl.sz_of z
  · rw [List.map_append, ← e1, ← e2]; exact S'
theorem r_appendI {i : Int} (S : Star L H) (P : Pull (pt p (.lst (is.map V.int))) L l) (z : is.length < 100000) (h : ∀ H', Star (pt p (.lst ((is ++ [i]).map V.int)) :: l) H' → Q .non H') : rAppend (.ref p) [.int i] H Q :=
  r_append S P (Evl.sz_lt (by rw [List.length_map]; exact z)) (by rw [List.map_append]; rfl) h
theorem r_slI {lo hi : Option Int} (S : Star L H) (P : Pull (pt p (.lst (is.map V.int))) L l) (h : ∀ q H', Star (pt q (.lst ((cutI is lo hi).map V.int)) :: L) H' → Q (.ref q) H') : rSlL K (.ref p) lo hi H Q :=
  r_slL S P fun q H' S' => h q H' (by rw [← cutV_map]; exact S')
theorem r_setI {i j : Int} {k : Nat} {w : Hp → Prop} (S : Star L H) (P : Pull (pt p (.lst (is.map V.int))) L l) (e : ixN is.length i = some k) (h : ∀ H', Star (pt p (.lst ((is.set k j).map V.int)) :: l) H' → w H') : rSetL (.ref p) (.int i) (.int j) H w := r_setM S P e h
/-! comprehensions over plain things -/
variable {α : Type} {σ σ' : L2.St} {ws : List Nat} {D : Addr} {gN : TG} {tt : TT} {te : TE} {G : Hp → Prop}
theorem cl_map0 {f g : α → V} (hs : ∀ x : α, ∀ acc H, acc.length < 100000 → Star (pt D (.lst acc) :: l) H → ∀ N : Hp → Prop, (∀ H', Star (pt D (.lst (acc ++ [g x])) :: l) H' → N H') → G H ∧ gN (f x) σ' H fun σ2 H2 => wipe σ2 ws = σ' ∧ tt σ2 H2 fun b H3 => if b = true then te σ2 H3 fun y H4 => kApp D y H4 N else N H3)
    : ∀ (xs : List α) (acc : List V) (H : Hp), acc.length + xs.length ≤ 100000 → Star (pt D (.lst acc) :: l) H → (∀ H', Star (pt D (.lst (acc ++ xs.map g)) :: l) H' → G H' ∧ Q (.ref D) H') → kCl G yId gN tt te σ σ' ws D Q (xs.map f) H
  | [], acc, H, z, S, h0 => by
    rw [List.map_nil, List.append_nil] at h0
    exact h0 H S
  | x :: xs, acc, H, z, S, h0 => by
    rw [List.length_cons] at z
    have q := hs x acc H (by omega) S _ fun H' S' => cl_map0 hs xs (acc ++ [g x]) H' (by simp; omega) S' fun H'' S'' => h0 H'' (by rw [List.append_assoc] at S''; exact S'')
    exact ⟨q.1, fun v H' ⟨e, e'⟩ => by subst e e'; exact q.2⟩
theorem cl_map {f g : α → V} {xs : List α} (S : Star (pt D (.lst []) :: l) H) (z : xs.length ≤ 100000) (hs : ∀ x : α, ∀ acc H, acc.length < 100000 → Star (pt D (.lst acc) :: l) H → ∀ N : Hp → Prop, (∀ H', Star (pt D (.lst (acc ++ [g x])) :: l) H' → N H') → G H ∧ gN (f x) σ' H fun σ2 H2 => wipe σ2 ws = σ' ∧ tt σ2 H2 fun b H3 => if b = true then te σ2 H3 fun y H4 => kApp D y H4 N else N H3)
    (h0 : ∀ H', Star (pt D (.lst (xs.map g)) :: l) H' → G H' ∧ Q (.ref D) H') : kCl G yId gN tt te σ σ' ws D Q (xs.map f) H :=
  cl_map0 hs xs [] H (by simpa using z) S h0
theorem drop_inv {xs r : List α} {i : Nat} {x : α} (e : x :: r = xs.drop i) : xs[i]? = some x ∧ r = xs.drop (i + 1) ∧ i < xs.length := by
  have hi : i < xs.length := by
    rcases Nat.lt_or_ge i xs.length with h | h
    · exact h
    · rw [List.drop_eq_nil_of_le h] at e; cases e
  rw [List.drop_eq_getElem_cons hi] at e
  injection e with e1 e2
  exact ⟨by rw [List.getElem?_eq_getElem hi, e1], e2, hi⟩
/-! what kind a thing is -/
theorem isi_at {x : V} {T C : String} {c : Bool} (t : TyX K H x (.type T)) (k : kitB T C = some c) (q : Q (.bl c) H) : rIsi K [x, .ty C] H Q := r_isi t k q
theorem isi_lst {C : String} {c : Bool} (S : Star L H) (P : Pull (pt p (.lst xs)) L l) (k : kitB "list" C = some c) (h : Q (.bl c) H) : rIsi K [.ref p, .ty C] H Q := r_isi (.base (.lst ((S.pull P).get (.head _)))) k h
theorem isi_tup {C : String} {c : Bool} (S : Star L H) (P : Pull (pt p (.tup xs)) L l) (k : kitB "tuple" C = some c) (h : Q (.bl c) H) : rIsi K [.ref p, .ty C] H Q := r_isi (.base (.tup ((S.pull P).get (.head _)))) k h
theorem isi_dK {kvs : Dk} {C : String} {c : Bool} (S : Star L H) (P : Pull (pt p (.dK kvs)) L l) (k : kitB "dict" C = some c) (h : Q (.bl c) H) : rIsi K [.ref p, .ty C] H Q := r_isi (.base (.dK ((S.pull P).get (.head _)))) k h
variable {x y : V}
instance : Grp (rEqD K x y H Q) 9 := ⟨⟩
instance : Grp (rNeD K x y H Q) 9 := ⟨⟩
instance : Grp (rIsi K xs H Q) 9 := ⟨⟩
end
end Fl
/-! Fl: errors raised, caught, asked what they are. -/
namespace Fl
open PySem PySem.Spec PyProof.Rows L2
def kWE (W : WX) (σ : L2.St) : XK := fun cls d H => W cls d σ H
theorem passW {X : Cx} {W : WX} (tk : Takes X W) (σ : L2.St) : PassesAt (L2.CX X.prog X.w) X σ (kWE W σ) := passAt tk σ
def tRaise (W : WX) (C : Addr) : TS := fun _ σ H => W (.ref C) none σ H
section
variable {X : Cx} {W Wout : WX} {C D : Addr} {bmB : List Value} {B newId initId : String} {x m n : Str} {j i : Nat} {p p2 pos pos' np : Pos} {c : Value} {body suite : List Stmt} {b₀ : Stmt} {tb : WX → TS} {ts : Addr → Value → Option Addr → TS}
theorem ps_raiseC (hc : X.calm = true) (tk : Takes X W) (F : ExcBaseFacts B newId initId bmB) (q : PySem.W.excIn X.K C bmB newId = true) (gC : X.mg x = some (.ref C)) (kC : PySem.W.keepIn X.K (.ref C) = true) (r : Raises X (.ref C)) (hg : Gl X x)
    (hdb : (x == ("__debug__" : Str)) = false := by decide) : PS X (.Raise (some (.Call (.Name x p) [.Constant (.str m) j p2] [] pos)) none pos') (tRaise W C) := ps_raise hc tk (pmk_own F q gC kC r hg hdb)
def tTryAs (K : PySem.W.Frag) (c : Value) (i : Nat) (tb : WX → TS) (ts : Addr → Value → Option Addr → TS) (Wout : WX) : TS := fun D σ H => tb (wAs K c i ts Wout D) D σ H
def tTryOn (K : PySem.W.Frag) (c : Value) (tb : WX → TS) (ts : Addr → Value → Option Addr → TS) (Wout : WX) : TS := fun D σ H => tb (wOnly K c ts Wout D) D σ H
theorem ps_tryAs {K : PySem.W.Frag} (eK : X.K = K) (hs : X.stack = X.env :: X.outer) (hf : X.env.frame = some X.env.locals) (hN : X.N.Nodup) (hi : X.N[i]? = some n) (hln : X.env.kindOf n = some .local) (hc : Names X x c) (tk : Takes X Wout)
    (hb : ∀ (W : WX) (pn : List (Addr × Obj)) (xe : Value → Shared → Prop), Takes (X.tr pn xe) W → PassesOwn (model X.prog X.w) X.A X.env xe → PSs (X.tr pn xe) body (tb W))
    (hsu : ∀ (a : Addr) (oe : Obj) (cls : Value) (d : Option Addr) (pn : List (Addr × Obj)), Zc cls d oe → (∃ vs, oe.data = .fields vs) → PSs (X.suite a ((a, oe) :: pn)) (b₀ :: suite) (ts a cls d)) :
    PS X (.Try body [.ExceptHandler (some (.Name x np)) (some n) (b₀ :: suite) pos'] [] [] pos) (tTryAs K c i tb ts Wout) := by subst eK; exact ps_try_as hs hf hN hi hln hc tk hb hsu
theorem ps_tryOn {K : PySem.W.Frag} (eK : X.K = K) (hs : X.stack = X.env :: X.outer) (hf : X.env.frame = some X.env.locals) (hc : Names X x c) (tk : Takes X Wout)
    (hb : ∀ (W : WX) (pn : List (Addr × Obj)) (xe : Value → Shared → Prop), Takes (X.tr pn xe) W → PassesOwn (model X.prog X.w) X.A X.env xe → PSs (X.tr pn xe) body (tb W))
    (hsu : ∀ (a : Addr) (oe : Obj) (cls : Value) (d : Option Addr) (pn : List (Addr × Obj)), Zc cls d oe → (∃ vs, oe.data = .fields vs) → PSs (X.suite a ((a, oe) :: pn)) (b₀ :: suite) (ts a cls d)) :
    PS X (.Try body [.ExceptHandler (some (.Name x np)) none (b₀ :: suite) pos'] [] [] pos) (tTryOn K c tb ts Wout) := by subst eK; exact ps_try_only hs hf hc tk hb hsu
end
/-! the steps -/
section
variable {K : PySem.W.Frag} {W Wout : WX} {C D a p : Addr} {σ σ' : L2.St} {H : Hp} {Q : VK} {c cls cv t : Value} {d : Option Addr} {i : Nat} {tb : WX → TS} {ts : Addr → Value → Option Addr → TS} {nx bk ct q : L2.St → Hp → Prop} {rt : VK} {D0 : Ends} {b b' : Bool} {L l : List Asrt} {cs xs : List V} {us : List Value}
theorem r_raise (h : W (.ref C) none σ H) : tRaise W C D0 σ H := h
instance i_r_raise : Stp (tRaise W C D0 σ H) (W (.ref C) none σ H) := ⟨r_raise⟩
instance i_r_we : Stp (kWE W σ cls d H) (W cls d σ H) := ⟨fun h => h⟩
theorem r_tryAs (h : tb (wAs K c i ts Wout ⟨nx, rt, bk, ct⟩) ⟨nx, rt, bk, ct⟩ σ H) : tTryAs K c i tb ts Wout ⟨nx, rt, bk, ct⟩ σ H := h
instance i_r_tryAs : Stp (tTryAs K c i tb ts Wout ⟨nx, rt, bk, ct⟩ σ H) (tb (wAs K c i ts Wout ⟨nx, rt, bk, ct⟩) ⟨nx, rt, bk, ct⟩ σ H) := ⟨r_tryAs⟩
theorem r_tryOn (h : tb (wOnly K c ts Wout ⟨nx, rt, bk, ct⟩) ⟨nx, rt, bk, ct⟩ σ H) : tTryOn K c tb ts Wout ⟨nx, rt, bk, ct⟩ σ H := h
instance i_r_tryOn : Stp (tTryOn K c tb ts Wout ⟨nx, rt, bk, ct⟩ σ H) (tb (wOnly K c ts Wout ⟨nx, rt, bk, ct⟩) ⟨nx, rt, bk, ct⟩ σ H) := ⟨r_tryOn⟩
class Exm (K : PySem.W.Frag) (cls c : Value) (b : outParam Bool) : Prop where e : PySem.W.exmOne K cls c = some b
def cl1 (i : Nat) (q : L2.St → Hp → Prop) : L2.St → Hp → Prop := fun σ H => q (σ.set i none) H
class SClr (σ : L2.St) (i : Nat) (σ' : outParam L2.St) : Prop where e : σ.set i none = σ'
instance j_clr0 {σ : L2.St} {x : Option V} : SClr (x :: σ) 0 (none :: σ) := ⟨rfl⟩
instance j_clr1 {σ σ' : L2.St} {x : Option V} {i : Nat} [q : SClr σ i σ'] : SClr (x :: σ) (i + 1) (x :: σ') := ⟨by rw [List.set_cons_succ, q.e]⟩
instance i_clr [w : SClr σ i σ'] : Stp (cl1 i q σ H) (q σ' H) := ⟨fun h => by unfold cl1; rw [w.e]; exact h⟩
class SSetA (σ : L2.St) (i : Nat) (σ' : outParam (Addr → L2.St)) : Prop where e : ∀ a, σ.set i (some (.ref a)) = σ' a
theorem r_catch [w : Exm K cls c true] (h : ∀ a σ', σ.set i (some (.ref a)) = σ' → ts a cls d ⟨cl1 i nx, rt, cl1 i bk, cl1 i ct⟩ σ' H) : wAs K c i ts Wout ⟨nx, rt, bk, ct⟩ cls d σ H :=
  ⟨true, w.e, fun _ a _ => h a _ rfl, fun z => absurd z.symm Bool.false_ne_true⟩
theorem r_nocatch [w : Exm K cls c false] (h : Wout cls d σ H) : wAs K c i ts Wout ⟨nx, rt, bk, ct⟩ cls d σ H := ⟨false, w.e, fun z => absurd z Bool.false_ne_true, fun _ => h⟩
theorem r_catchOn [w : Exm K cls c true] (h : ∀ a, ts a cls d ⟨nx, rt, bk, ct⟩ σ H) : wOnly K c ts Wout ⟨nx, rt, bk, ct⟩ cls d σ H := ⟨true, w.e, fun _ a _ => h a, fun z => absurd z.symm Bool.false_ne_true⟩
theorem r_nocatchOn [w : Exm K cls c false] (h : Wout cls d σ H) : wOnly K c ts Wout ⟨nx, rt, bk, ct⟩ cls d σ H := ⟨false, w.e, fun z => absurd z Bool.false_ne_true, fun _ => h⟩
instance i_nocatch [w : Exm K cls c false] : Stp (wAs K c i ts Wout ⟨nx, rt, bk, ct⟩ cls d σ H) (Wout cls d σ H) := ⟨r_nocatch⟩
instance i_nocatchOn [w : Exm K cls c false] : Stp (wOnly K c ts Wout ⟨nx, rt, bk, ct⟩ cls d σ H) (Wout cls d σ H) := ⟨r_nocatchOn⟩
/-! isinstance of what was caught -/
class ExK (K : PySem.W.Frag) (D : Addr) : Prop where e : ExcC K D
class Ki (K : PySem.W.Frag) (t c : Value) (b : outParam Bool) : Prop where e : PySem.W.kitOne K t c = some b
class KiA (K : PySem.W.Frag) (t : Value) (cs : List V) (b : outParam Bool) : Prop where e : ∃ us, Paired ClsV cs us ∧ PySem.W.kitAny K t us = some b
instance kia0 : KiA K t [] false := ⟨[], .nil, rfl⟩
instance kia1 [w : Ki K t (.ref C) b] [w' : KiA K t cs b'] : KiA K t (.ref C :: cs) (b || b') := ⟨by
  obtain ⟨us, h, e⟩ := w'.e
  refine ⟨.ref C :: us, .cons (.own C) h, ?_⟩
  unfold PySem.W.kitAny
  rw [w.e]
  cases b with
  | true => rfl
  | false => exact e⟩
instance kia2 {T : String} [w : Ki K t (.type T) b] [w' : KiA K t cs b'] : KiA K t (.ty T :: cs) (b || b') := ⟨by
  obtain ⟨us, h, e⟩ := w'.e
  refine ⟨.type T :: us, .cons (.ty T) h, ?_⟩
  unfold PySem.W.kitAny
  rw [w.e]
  cases b with
  | true => rfl
  | false => exact e⟩
def rIsX (K : PySem.W.Frag) (cls : Value) (d : Option Addr) (a : Addr) : List V → Hp → VK → Prop := fun xs H Q => ∃ (D : Addr) (b : Bool), cls = .ref D ∧ d = none ∧ ExcC K D ∧
  ((∃ c u, xs = [.ref a, c] ∧ ClsV c u ∧ PySem.W.kitOne K (.ref D) u = some b) ∨ (∃ tp cs us, xs = [.ref a, .ref tp] ∧ H tp = some (.tup cs) ∧ Paired ClsV cs us ∧ PySem.W.kitAny K (.ref D) us = some b)) ∧ Q (.bl b) H
theorem callIsX {X : Cx} {oe : Obj} {pn : List (Addr × Obj)} (eK : X.K = K) (hz : Zc cls d oe) (hf : ∃ vs, oe.data = .fields vs) : CallR (X.suite a ((a, oe) :: pn)) (.builtin "isinstance") (rIsX K cls d a) := by
  subst eK
  intro pins s σ H xs us Q I r h
  obtain ⟨D, b, rfl, rfl, C, hh, q⟩ := h
  obtain ⟨hget, _⟩ := I.pin (a, oe) (List.mem_append.mpr (.inl List.mem_cons_self))
  obtain ⟨vs, hv⟩ := hf
  have J : PySem.W.InstAt s.heap a oe D none := by
    obtain ⟨oc, od, oda, osl⟩ := oe
    obtain ⟨h1, h2⟩ := hz
    dsimp only at h1 h2 hv
    subst h1 h2 hv
    exact ⟨hget, rfl, rfl, trivial⟩
  rcases hh with ⟨c, u, rfl, k, e⟩ | ⟨tp, cs, ws, rfl, hT, k, e⟩
  · obtain ⟨u1, u2, rfl, r1, r2⟩ := vals2 r
    cases r1
    have e2 := k.eq r2
    subst e2
    exact PySem.W.kia_one (PySem.W.handS_kitx_exc C.hg C.hk C.hs C.hd C.ha C.hn C.ht C.hm) I.kIn J e (fun z => nomatch z) fun tk => ⟨.bl b, H, I.kept (t' := tk) fun _ _ z => z, rfl, q⟩
  · obtain ⟨u1, u2, rfl, r1, r2⟩ := vals2 r
    cases r1
    cases (show u2 = Value.ref tp from r2)
    obtain ⟨_, its, rv, o, h1, h2, n, h3⟩ := (show ObjOk X.prog X.w H s.heap tp (.tup cs) from I.hok tp _ hT)
    have e3 := ClsV.all k rv
    subst e3
    obtain ⟨oc, od, dt, sl⟩ := o
    simp only at h2 h3
    subst h2 h3
    exact PySem.W.kia_tup (PySem.W.handS_kitx_exc C.hg C.hk C.hs C.hd C.ha C.hn C.ht C.hm) I.kIn J h1 e (fun z => nomatch z) fun tk => ⟨.bl b, H, I.kept (t' := tk) fun _ _ z => z, rfl, q⟩
theorem r_isX [w : ExK K D] [k : Ki K (.ref D) (.ref C) b] (h : Q (.bl b) H) : rIsX K (.ref D) none a [.ref a, .ref C] H Q := ⟨D, b, rfl, rfl, w.e, .inl ⟨_, _, rfl, .own C, k.e⟩, h⟩
instance i_isX [w : ExK K D] [k : Ki K (.ref D) (.ref C) b] : Stp (rIsX K (.ref D) none a [.ref a, .ref C] H Q) (Q (.bl b) H) := ⟨r_isX⟩
theorem r_isXt {T : String} [w : ExK K D] [k : Ki K (.ref D) (.type T) b] (h : Q (.bl b) H) : rIsX K (.ref D) none a [.ref a, .ty T] H Q := ⟨D, b, rfl, rfl, w.e, .inl ⟨_, _, rfl, .ty T, k.e⟩, h⟩
instance i_isXt {T : String} [w : ExK K D] [k : Ki K (.ref D) (.type T) b] : Stp (rIsX K (.ref D) none a [.ref a, .ty T] H Q) (Q (.bl b) H) := ⟨r_isXt⟩
theorem r_isXT [w : ExK K D] [k : KiA K (.ref D) cs b] (S : Star L H) (P : Pull (pt p (.tup cs)) L l) (h : Q (.bl b) H) : rIsX K (.ref D) none a [.ref a, .ref p] H Q := by
  obtain ⟨us, k1, k2⟩ := k.e
  exact ⟨D, b, rfl, rfl, w.e, .inr ⟨p, cs, us, rfl, (S.pull P).get (.head _), k1, k2⟩, h⟩
instance : Grp (wAs K c i ts Wout D0 cls d σ H) 10 := ⟨⟩
instance : Grp (wOnly K c ts Wout D0 cls d σ H) 10 := ⟨⟩
instance : Grp (rIsX K cls d a xs H Q) 10 := ⟨⟩
end
end Fl
/-! Fl: loops over what is made by a map, by numbers; rows of owned things. -/
namespace Fl
open PySem PySem.Spec PyProof.Rows L2
theorem cutI_from {α : Type} {xs : List α} (k : Nat) : cutI xs (some (k : Int)) none = xs.drop k := by
  unfold cutI
  rw [HT.sIx_nat, HT.sIx_none, List.take_of_length_le (by simp)]
  rcases Nat.le_total k xs.length with h | h
  · rw [Nat.min_eq_left h]
  · rw [Nat.min_eq_right h, List.drop_eq_nil_of_le h, List.drop_eq_nil_of_le (Nat.le_refl _)]
theorem cutI_to {α : Type} {xs : List α} (k : Nat) : cutI xs none (some (k : Int)) = xs.take k := by
  unfold cutI
  rw [HT.sIx_nat, HT.sIx_none, List.drop_zero, Nat.sub_zero]
  rcases Nat.le_total k xs.length with h | h
  · rw [Nat.min_eq_left h]
  · rw [Nat.min_eq_right h, List.take_of_length_le h, List.take_of_length_le (Nat.le_refl _)]
theorem cutI_mid {α : Type} {xs : List α} (i j : Nat) : cutI xs (some (i : Int)) (some (j : Int)) = (xs.drop i).take (j - i) := by
  unfold cutI
  rw [HT.sIx_nat, HT.sIx_nat]
  rcases Nat.le_total i xs.length with h | h
  · rw [Nat.min_eq_left h]
    rcases Nat.le_total j xs.length with h2 | h2
    · rw [Nat.min_eq_left h2]
    · rw [Nat.min_eq_right h2, List.take_of_length_le (by simp), List.take_of_length_le (by simp; omega)]
  · rw [Nat.min_eq_right h, List.drop_eq_nil_of_le h, List.drop_eq_nil_of_le (Nat.le_refl _)]
    simp
section
variable {α β : Type} {K : PySem.W.Frag} {L l m : List Asrt} {σ σ' : L2.St} {H : Hp} {g : TG} {tb : TS} {tt : TT} {te tl : TE} {ta : TA} {nx bk ct : L2.St → Hp → Prop} {rt Q : VK} {a b d D p : Addr} {vs : List V} {ws : List Nat} {v : V} {G : Hp → Prop}
theorem fl_indM {f : α → V} (I : List α → L2.St → Hp → Prop) {xs : List α} (i : I xs σ H) (h0 : ∀ σ H, I [] σ H → G H ∧ nx σ H)
    (hs : ∀ x r σ H, I (x :: r) σ H → ∀ N : L2.St → Hp → Prop, (∀ σ' H', I r σ' H' → N σ' H') → G H ∧ g (f x) σ H fun σ2 H2 => tb ⟨N, rt, nx, N⟩ σ2 H2) : kFl G yId g tb nx rt (xs.map f) σ H := by
  refine fl_indI (fun vs σ H => ∃ xs, vs = xs.map f ∧ I xs σ H) ⟨xs, rfl, i⟩ ?_ ?_
  · rintro σ H ⟨xs, e, i⟩
    cases xs with
    | nil => exact h0 σ H i
    | cons x r => cases e
  · rintro v vs σ H ⟨xs, e, i⟩ N hN
    cases xs with
    | nil => cases e
    | cons x r =>
      rw [List.map_cons] at e
      injection e with e1 e2
      subst e1 e2
      exact hs x r σ H i N fun σ' H' i' => hN σ' H' ⟨r, rfl, i'⟩
theorem fl_indR (I : Nat → L2.St → Hp → Prop) {lo : Int} {n : Nat} (i : I 0 σ H) (h0 : ∀ σ H, I n σ H → G H ∧ nx σ H)
    (hs : ∀ k σ H, k < n → I k σ H → ∀ N : L2.St → Hp → Prop, (∀ σ' H', I (k + 1) σ' H' → N σ' H') → G H ∧ g (.int (lo + (k : Nat))) σ H fun σ2 H2 => tb ⟨N, rt, nx, N⟩ σ2 H2) : kFl G yId g tb nx rt (rgV lo n) σ H := by
  refine fl_indI (fun vs σ H => ∃ k m, k + m = n ∧ vs = rgV (lo + (k : Nat)) m ∧ I k σ H) ⟨0, n, by omega, by simp, i⟩ ?_ ?_
  · rintro σ H ⟨k, m, e, e2, i⟩
    cases m with
    | zero => obtain rfl : k = n := by omega
              exact h0 σ H i
    | succ m => rw [rgV_succ] at e2; cases e2
  · rintro v vs σ H ⟨k, m, e, e2, i⟩ N hN
    cases m with
    | zero => cases e2
    | succ m =>
      rw [rgV_succ] at e2
      injection e2 with e3 e4
      subst e3 e4
      exact hs k σ H (by omega) i N fun σ' H' i' => hN σ' H' ⟨k + 1, m, by omega, by congr 1; omega, i'⟩
theorem fl_indR0 (I : Nat → L2.St → Hp → Prop) {n : Nat} (i : I 0 σ H) (h0 : ∀ σ H, I n σ H → G H ∧ nx σ H)
    (hs : ∀ k σ H, k < n → I k σ H → ∀ N : L2.St → Hp → Prop, (∀ σ' H', I (k + 1) σ' H' → N σ' H') → G H ∧ g (.int (k : Nat)) σ H fun σ2 H2 => tb ⟨N, rt, nx, N⟩ σ2 H2) : kFl G yId g tb nx rt (rgV 0 n) σ H :=
  fl_indR I i h0 fun k σ H hk i N hN => by
    have := hs k σ H hk i N hN
    rw [Int.zero_add]; exact this
theorem fl_indE {f : α → V} (I : Nat → List α → L2.St → Hp → Prop) {xs : List α} (i : I 0 xs σ H) (h0 : ∀ k σ H, I k [] σ H → G H ∧ nx σ H)
    (hs : ∀ k x r σ H, I k (x :: r) σ H → ∀ N : L2.St → Hp → Prop, (∀ σ' H', I (k + 1) r σ' H' → N σ' H') → G H ∧ ∀ T H', (∀ l, Star l H → Star (pt T (.tup [.int (k : Nat), f x]) :: l) H') → g (.ref T) σ H' fun σ2 H2 => tb ⟨N, rt, nx, N⟩ σ2 H2) :
    kFl G yTup g tb nx rt (enums 0 (xs.map f)) σ H := by
  refine fl_indT (fun vs σ H => ∃ k xs, vs = enums k (xs.map f) ∧ I k xs σ H) ⟨0, xs, rfl, i⟩ ?_ ?_
  · rintro σ H ⟨k, xs, e, i⟩
    cases xs with
    | nil => exact h0 k σ H i
    | cons x r => cases e
  · rintro v vs σ H ⟨k, xs, e, i⟩ N hN
    cases xs with
    | nil => cases e
    | cons x r =>
      rw [List.map_cons] at e
      unfold enums at e
      injection e with e1 e2
      subst e1 e2
      have := hs k x r σ H i N fun σ' H' i' => hN σ' H' ⟨k + 1, r, rfl, i'⟩
      exact ⟨this.1, fun T hT => this.2 T _ fun l S => S.new hT⟩
theorem fl_indTM {f : α → List V} (I : List α → L2.St → Hp → Prop) {xs : List α} (i : I xs σ H) (h0 : ∀ σ H, I [] σ H → G H ∧ nx σ H)
    (hs : ∀ x r σ H, I (x :: r) σ H → ∀ N : L2.St → Hp → Prop, (∀ σ' H', I r σ' H' → N σ' H') → G H ∧ ∀ T H', (∀ l, Star l H → Star (pt T (.tup (f x)) :: l) H') → g (.ref T) σ H' fun σ2 H2 => tb ⟨N, rt, nx, N⟩ σ2 H2) :
    kFl G yTup g tb nx rt (xs.map f) σ H := by
  refine fl_indT (fun vs σ H => ∃ xs, vs = xs.map f ∧ I xs σ H) ⟨xs, rfl, i⟩ ?_ ?_
  · rintro σ H ⟨xs, e, i⟩
    cases xs with
    | nil => exact h0 σ H i
    | cons x r => cases e
  · rintro v vs σ H ⟨xs, e, i⟩ N hN
    cases xs with
    | nil => cases e
    | cons x r =>
      rw [List.map_cons] at e
      injection e with e1 e2
      subst e1 e2
      have := hs x r σ H i N fun σ' H' i' => hN σ' H' ⟨r, rfl, i'⟩
      exact ⟨this.1, fun T hT => this.2 T _ fun l S => S.new hT⟩
variable {gN : TG}
/-- a comprehension by what holds ahead of each turn, over a map -/
theorem cl_indM {f : α → V} (I : List α → Hp → Prop) {xs : List α} (i : I xs H) (h0 : ∀ H, I [] H → G H ∧ Q (.ref D) H)
    (hs : ∀ x r H, I (x :: r) H → ∀ N : Hp → Prop, (∀ H', I r H' → N H') → G H ∧ gN (f x) σ' H fun σ2 H2 => wipe σ2 ws = σ' ∧ tt σ2 H2 fun b H3 => if b = true then te σ2 H3 fun y H4 => kApp D y H4 N else N H3) : kCl G yId gN tt te σ σ' ws D Q (xs.map f) H := by
  refine cl_indI (fun vs H => ∃ xs, vs = xs.map f ∧ I xs H) ⟨xs, rfl, i⟩ ?_ ?_
  · rintro H ⟨xs, e, i⟩
    cases xs with
    | nil => exact h0 H i
    | cons x r => cases e
  · rintro v vs H ⟨xs, e, i⟩ N hN
    cases xs with
    | nil => cases e
    | cons x r =>
      rw [List.map_cons] at e
      injection e with e1 e2
      subst e1 e2
      exact hs x r H i N fun H' i' => hN H' ⟨r, rfl, i'⟩
theorem cl_rg {h : Nat → V} {n : Nat} (S : Star (pt D (.lst []) :: l) H) (z : n ≤ 100000) (hs : ∀ k, k < n → ∀ acc H, acc.length < 100000 → Star (pt D (.lst acc) :: l) H → ∀ N : Hp → Prop, (∀ H', Star (pt D (.lst (acc ++ [h k])) :: l) H' → N H') → G H ∧ gN (.int (k : Nat)) σ' H fun σ2 H2 => wipe σ2 ws = σ' ∧ tt σ2 H2 fun b H3 => if b = true then te σ2 H3 fun y H4 => kApp D y H4 N else N H3)
    (h0 : ∀ H', Star (pt D (.lst ((List.range n).map h)) :: l) H' → G H' ∧ Q (.ref D) H') : kCl G yId gN tt te σ σ' ws D Q (rgV 0 n) H := by
  refine cl_indI (fun vs H => ∃ k m, k + m = n ∧ vs = rgV (k : Nat) m ∧ Star (pt D (.lst ((List.range k).map h)) :: l) H) ⟨0, n, by omega, rfl, S⟩ ?_ ?_
  · rintro H ⟨k, m, e, e2, S⟩
    cases m with
    | zero =>
      obtain rfl : k = n := by omega
      exact h0 H S
    | succ m => rw [rgV_succ] at e2; cases e2
  · rintro v vs H ⟨k, m, e, e2, S⟩ N hN
    cases m with
    | zero => cases e2
    | succ m =>
      rw [rgV_succ] at e2
      injection e2 with e3 e4
      subst e3 e4
      exact hs k (by omega) _ H (by simp; omega) S N fun H' S' => hN H' ⟨k + 1, m, by omega, by congr 1, by rw [List.range_succ, List.map_append]; exact S'⟩
theorem cl_filt0 {f g : α → V} {c : α → Bool} {xs : List α} (hs : ∀ x, x ∈ xs → ∀ acc H, acc.length < 100000 → Star (pt D (.lst acc) :: l) H → ∀ N : Hp → Prop, (c x = true → ∀ H', Star (pt D (.lst (acc ++ [g x])) :: l) H' → N H') → (c x = false → ∀ H', Star (pt D (.lst acc) :: l) H' → N H') →
      G H ∧ gN (f x) σ' H fun σ2 H2 => wipe σ2 ws = σ' ∧ tt σ2 H2 fun b H3 => if b = true then te σ2 H3 fun y H4 => kApp D y H4 N else N H3)
    : ∀ (ys : List α) (acc : List V) (H : Hp), (∀ x ∈ ys, x ∈ xs) → acc.length + ys.length ≤ 100000 → Star (pt D (.lst acc) :: l) H → (∀ H', Star (pt D (.lst (acc ++ (ys.filter c).map g)) :: l) H' → G H' ∧ Q (.ref D) H') → kCl G yId gN tt te σ σ' ws D Q (ys.map f) H
  | [], acc, H, _, z, S, h0 => by
    rw [List.filter_nil, List.map_nil, List.append_nil] at h0
    exact h0 H S
  | x :: ys, acc, H, hm, z, S, h0 => by
    rw [List.length_cons] at z
    have q := hs x (hm x (.head _)) acc H (by omega) S (kCl G yId gN tt te σ σ' ws D Q (ys.map f))
      (fun hc H' S' => cl_filt0 hs ys (acc ++ [g x]) H' (fun y hy => hm y (.tail _ hy)) (by simp; omega) S' fun H'' S'' => h0 H'' (by rw [List.filter_cons_of_pos hc, List.map_cons]; rw [List.append_assoc] at S''; exact S''))
      (fun hc H' S' => cl_filt0 hs ys acc H' (fun y hy => hm y (.tail _ hy)) (by omega) S' fun H'' S'' => h0 H'' (by rw [List.filter_cons_of_neg (by rw [hc]; exact Bool.false_ne_true)]; exact S''))
    exact ⟨q.1, fun v H' ⟨e, e'⟩ => by subst e e'; exact q.2⟩
/-- [g(x) for x in xs if c(x)] -/
theorem cl_filt {f g : α → V} (c : α → Bool) {xs : List α} (S : Star (pt D (.lst []) :: l) H) (z : xs.length ≤ 100000)
    (hs : ∀ x, x ∈ xs → ∀ acc H, acc.length < 100000 → Star (pt D (.lst acc) :: l) H → ∀ N : Hp → Prop, (c x = true → ∀ H', Star (pt D (.lst (acc ++ [g x])) :: l) H' → N H') → (c x = false → ∀ H', Star (pt D (.lst acc) :: l) H' → N H') →
      G H ∧ gN (f x) σ' H fun σ2 H2 => wipe σ2 ws = σ' ∧ tt σ2 H2 fun b H3 => if b = true then te σ2 H3 fun y H4 => kApp D y H4 N else N H3)
    (h0 : ∀ H', Star (pt D (.lst ((xs.filter c).map g)) :: l) H' → G H' ∧ Q (.ref D) H') : kCl G yId gN tt te σ σ' ws D Q (xs.map f) H :=
  cl_filt0 hs xs [] H (fun _ h => h) (by simpa using z) S h0
end
/-! ### rows of owned things -/
section
variable {α : Type} {l m : List Asrt} {H : Hp}
/-- each of a row, apart -/
def sepL (B : α → Asrt) (xs : List α) : Asrt := Star (xs.map B)
theorem Star.perm : ∀ {l m : List Asrt}, l.Perm m → ∀ {H : Hp}, Star l H → Star m H := by
  intro l m p
  induction p with
  | nil => intro H S; exact S
  | cons x _ ih => intro H S; exact S.under fun _ S => ih S
  | swap x y l => intro H S; exact S.swap
  | trans _ _ ih1 ih2 => intro H S; exact ih2 (ih1 S)
theorem sepL_perm {B : α → Asrt} {xs ys : List α} (p : xs.Perm ys) (S : Star (sepL B xs :: l) H) : Star (sepL B ys :: l) H := S.hd fun _ S => S.perm (p.map B)
theorem sepL_nil {B : α → Asrt} (S : Star l H) : Star (sepL B [] :: l) H := S.free trivial
theorem sepL_cons {B : α → Asrt} {x : α} {xs : List α} (S : Star (B x :: sepL B xs :: l) H) : Star (sepL B (x :: xs) :: l) H :=
  Star.cl (k := B x :: xs.map B) (Star.under (fun _ S => Star.glue S) S) fun _ S => S
theorem sepL_unc {B : α → Asrt} {x : α} {xs : List α} (S : Star (sepL B (x :: xs) :: l) H) : Star (B x :: sepL B xs :: l) H :=
  (Star.op (k := B x :: xs.map B) S fun _ S => S).under fun _ S => Star.glue' S
theorem sepL_app {B : α → Asrt} {xs ys : List α} (S : Star (sepL B xs :: sepL B ys :: l) H) : Star (sepL B (xs ++ ys) :: l) H := by
  have S2 := Star.glue S
  have S3 : Star (sepL B ys :: (xs.map B ++ l)) H := S2.perm (List.perm_middle)
  have S4 := Star.glue S3
  refine Star.cl (k := (xs ++ ys).map B) (S4.perm ?_) fun _ S => S
  rw [List.map_append, ← List.append_assoc]
  exact (List.perm_append_comm).append_right l
theorem sepL_una {B : α → Asrt} {xs ys : List α} (S : Star (sepL B (xs ++ ys) :: l) H) : Star (sepL B xs :: sepL B ys :: l) H := by
  have S2 := Star.op (k := (xs ++ ys).map B) S fun _ S => S
  rw [List.map_append, List.append_assoc] at S2
  have S3 := Star.glue' S2
  exact S3.under fun _ S => Star.glue' S
theorem eraseIdx_perm {α : Type} : ∀ {xs : List α} {i : Nat} {x : α}, xs[i]? = some x → (x :: xs.eraseIdx i).Perm xs
  | y :: xs, 0, x, e => by
    cases e
    rw [List.eraseIdx_cons_zero]
  | y :: xs, i + 1, x, e => by
    rw [List.getElem?_cons_succ] at e
    rw [List.eraseIdx_cons_succ]
    exact (List.Perm.swap y x _).trans ((eraseIdx_perm e).cons y)
theorem eraseIdx_set {α : Type} : ∀ {xs : List α} {i : Nat} {y : α}, (xs.set i y).eraseIdx i = xs.eraseIdx i
  | [], _, _ => rfl
  | _ :: _, 0, _ => rfl
  | x :: xs, i + 1, y => by rw [List.set_cons_succ, List.eraseIdx_cons_succ, List.eraseIdx_cons_succ, eraseIdx_set]
/-- the one at a place, out and in -/
theorem sepL_out {B : α → Asrt} {xs : List α} {i : Nat} {x : α} (S : Star (sepL B xs :: l) H) (e : xs[i]? = some x) : Star (B x :: sepL B (xs.eraseIdx i) :: l) H := by
  exact sepL_unc (sepL_perm (eraseIdx_perm e).symm S)
theorem sepL_in {B : α → Asrt} {xs : List α} {i : Nat} {y : α} (hi : i < xs.length) (S : Star (B y :: sepL B (xs.eraseIdx i) :: l) H) : Star (sepL B (xs.set i y) :: l) H := by
  refine sepL_perm ?_ (sepL_cons S)
  rw [← eraseIdx_set (xs := xs) (i := i) (y := y)]
  exact eraseIdx_perm (by rw [List.getElem?_set_self hi])
end
end Fl
/-! Fl: shapes in plain numbers. -/
namespace Fl
def goodS (lv fn gr : Int) : Prop := 2 ≤ lv ∧ lv ≤ 3 ∧ 1 ≤ fn ∧ fn ≤ 8 ∧ 0 ≤ gr ∧ gr ≤ 4
theorem p2pos (n : Nat) : (0 : Int) < 2 ^ n := Int.pow_pos (by decide)
theorem p2mono {m n : Nat} (h : m ≤ n) : (2 : Int) ^ m ≤ 2 ^ n := by
  have := Nat.pow_le_pow_right (n := 2) (by decide) h
  exact_mod_cast this
theorem p2le {m : Nat} {n : Nat} {B : Int} (h : m ≤ n) (e : (2 : Int) ^ n = B) : (2 : Int) ^ m ≤ B := e ▸ p2mono h
/-- the pages of a room -/
def pgs (lv fn : Int) : Int := 2 ^ (lv * fn).toNat
/-- the size of a sheet -/
def szs (gr : Int) : Int := 2 ^ gr.toNat
/-- how wide a step is -/
def wid (fn : Int) : Int := 2 ^ fn.toNat
theorem goodS_mul {lv fn gr : Int} (h : goodS lv fn gr) : 0 ≤ lv * fn ∧ lv * fn ≤ 24 := by
  obtain ⟨g1, g2, g3, g4, g5, g6⟩ := h
  obtain rfl | rfl : lv = 2 ∨ lv = 3 := by omega
  · omega
  · omega
theorem pgs_b {lv fn gr : Int} (h : goodS lv fn gr) : 1 ≤ pgs lv fn ∧ pgs lv fn ≤ 16777216 := by
  have hm := goodS_mul h
  have h1 := p2pos (lv * fn).toNat
  have h2 := p2le (m := (lv * fn).toNat) (n := 24) (by omega) (by decide : (2 : Int) ^ 24 = 16777216)
  unfold pgs
  omega
theorem szs_b {lv fn gr : Int} (h : goodS lv fn gr) : 1 ≤ szs gr ∧ szs gr ≤ 16 := by
  obtain ⟨g1, g2, g3, g4, g5, g6⟩ := h
  have h1 := p2pos gr.toNat
  have h2 := p2le (m := gr.toNat) (n := 4) (by omega) (by decide : (2 : Int) ^ 4 = 16)
  unfold szs
  omega
theorem wid_b {lv fn gr : Int} (h : goodS lv fn gr) : 2 ≤ wid fn ∧ wid fn ≤ 256 := by
  obtain ⟨g1, g2, g3, g4, g5, g6⟩ := h
  have h1 := p2mono (m := 1) (n := fn.toNat) (by omega)
  have h2 := p2le (m := fn.toNat) (n := 8) (by omega) (by decide : (2 : Int) ^ 8 = 256)
  unfold wid
  omega
theorem pgs_wid {lv fn : Int} (h0 : 0 ≤ lv) (h : 0 ≤ fn) : pgs lv fn = wid fn ^ lv.toNat := by
  unfold pgs wid
  rw [← Int.pow_mul, Int.toNat_mul h0 h, Nat.mul_comm]
/-- the steps of a page -/
def stepAt (lv fn p : Int) (k : Nat) : Int := p / 2 ^ (fn * (lv - 1 - k)).toNat % wid fn
def stepsL (lv fn p : Int) : List Int := (List.range lv.toNat).map (stepAt lv fn p)
/-- the page of steps -/
def pageOf (fn : Int) (ds : List Int) : Int := ds.foldl (fun p s => p * wid fn + s) 0
theorem steps2 {fn p : Int} (h : 0 ≤ fn) : stepsL 2 fn p = [p / wid fn % wid fn, p % wid fn] := by
  have e0 : stepAt 2 fn p 0 = p / wid fn % wid fn := by unfold stepAt wid; rw [show fn * (2 - 1 - ((0 : Nat) : Int)) = fn by simp]
  have e1 : stepAt 2 fn p 1 = p % wid fn := by unfold stepAt wid; rw [show fn * (2 - 1 - ((1 : Nat) : Int)) = 0 by simp]; simp
  show [stepAt 2 fn p 0, stepAt 2 fn p 1] = _
  rw [e0, e1]
theorem steps3 {fn p : Int} (h : 0 ≤ fn) : stepsL 3 fn p = [p / (wid fn * wid fn) % wid fn, p / wid fn % wid fn, p % wid fn] := by
  have e0 : stepAt 3 fn p 0 = p / (wid fn * wid fn) % wid fn := by
    unfold stepAt wid
    rw [show fn * (3 - 1 - ((0 : Nat) : Int)) = fn + fn by omega, Int.toNat_add h h, Int.pow_add]
  have e1 : stepAt 3 fn p 1 = p / wid fn % wid fn := by unfold stepAt wid; rw [show fn * (3 - 1 - ((1 : Nat) : Int)) = fn by simp]
  have e2 : stepAt 3 fn p 2 = p % wid fn := by unfold stepAt wid; rw [show fn * (3 - 1 - ((2 : Nat) : Int)) = 0 by simp]; simp
  show [stepAt 3 fn p 0, stepAt 3 fn p 1, stepAt 3 fn p 2] = _
  rw [e0, e1, e2]
theorem dig2 {B p : Int} (hB : 0 < B) (h0 : 0 ≤ p) (h : p < B * B) : p / B % B = p / B ∧ p / B * B + p % B = p ∧ 0 ≤ p / B ∧ p / B < B := by
  have h1 : p / B < B := Int.ediv_lt_of_lt_mul hB h
  have h2 : 0 ≤ p / B := Int.ediv_nonneg h0 (by omega)
  refine ⟨Int.emod_eq_of_lt h2 h1, ?_, h2, h1⟩
  rw [Int.mul_comm]; exact Int.mul_ediv_add_emod p B
theorem pageOf_snoc {fn s : Int} {ds : List Int} : pageOf fn (ds ++ [s]) = pageOf fn ds * wid fn + s := by unfold pageOf; rw [List.foldl_append]; rfl
theorem pageOf_lt {fn : Int} (hw : 1 ≤ wid fn) : ∀ n (ds : List Int), ds.length = n → (∀ d ∈ ds, 0 ≤ d ∧ d < wid fn) → 0 ≤ pageOf fn ds ∧ pageOf fn ds < wid fn ^ n
  | 0, ds, e, h => by
    rw [List.length_eq_zero_iff] at e
    subst e
    exact ⟨Int.le_refl 0, by rw [Int.pow_zero]; show (0 : Int) < 1; decide⟩
  | n + 1, ds, e, h => by
    have hn : ds ≠ [] := fun q => by rw [q] at e; cases e
    rw [← List.dropLast_concat_getLast hn] at h ⊢
    obtain ⟨i1, i2⟩ := pageOf_lt hw n ds.dropLast (by simp [e]) fun d hd => h d (by simp [hd])
    obtain ⟨s1, s2⟩ := h (ds.getLast hn) (by simp)
    rw [pageOf_snoc]
    generalize ds.getLast hn = s at *
    generalize pageOf fn ds.dropLast = p at *
    rw [Int.pow_succ]
    generalize wid fn ^ n = m at *
    have m0 : 0 ≤ p * wid fn := Int.mul_nonneg i1 (by omega)
    have m1 : (p + 1) * wid fn ≤ m * wid fn := Int.mul_le_mul_of_nonneg_right (by omega) (by omega)
    rw [Int.add_mul, Int.one_mul] at m1
    omega
theorem pageOf_64 {lv fn gr : Int} {ds : List Int} (g : goodS lv fn gr) (hl : ds.length ≤ 3) (h : ∀ d ∈ ds, 0 ≤ d ∧ d < wid fn) : 0 ≤ pageOf fn ds ∧ pageOf fn ds < 16777216 := by
  have hw := wid_b g
  obtain ⟨i1, i2⟩ := pageOf_lt (fn := fn) (by omega) _ ds rfl h
  refine ⟨i1, Int.lt_of_lt_of_le i2 ?_⟩
  unfold wid
  rw [← Int.pow_mul]
  refine p2le (n := 24) ?_ (by decide)
  obtain ⟨g1, g2, g3, g4, g5, g6⟩ := g
  exact Nat.mul_le_mul (show fn.toNat ≤ 8 by omega) hl
theorem pageOf_steps {lv fn gr p : Int} (g : goodS lv fn gr) (h0 : 0 ≤ p) (h : p < pgs lv fn) : pageOf fn (stepsL lv fn p) = p := by
  have hw := wid_b g
  obtain ⟨g1, g2, g3, g4, g5, g6⟩ := g
  rw [pgs_wid (by omega) (by omega)] at h
  obtain rfl | rfl : lv = 2 ∨ lv = 3 := by omega
  · rw [steps2 (by omega)]
    unfold pageOf
    generalize wid fn = B at *
    rw [show ((2 : Int).toNat) = 2 from rfl, Int.pow_succ, Int.pow_succ, Int.pow_zero, Int.one_mul] at h
    obtain ⟨e1, e2, _, _⟩ := dig2 (by omega) h0 h
    simp only [List.foldl_cons, List.foldl_nil, Int.zero_mul, Int.zero_add]
    rw [e1, e2]
  · rw [steps3 (by omega)]
    unfold pageOf
    generalize wid fn = B at *
    rw [show ((3 : Int).toNat) = 3 from rfl, Int.pow_succ, Int.pow_succ, Int.pow_succ, Int.pow_zero, Int.one_mul] at h
    have hB : 0 < B := by omega
    have hq : p / B < B * B := Int.ediv_lt_of_lt_mul hB h
    obtain ⟨e1, e2, _, _⟩ := dig2 hB (Int.ediv_nonneg h0 (by omega)) hq
    simp only [List.foldl_cons, List.foldl_nil, Int.zero_mul, Int.zero_add]
    rw [Int.ediv_ediv_of_nonneg (by omega)] at e1 e2
    rw [e1, e2, Int.mul_comm]; exact Int.mul_ediv_add_emod p B
theorem stepsL_len {lv fn p : Int} : (stepsL lv fn p).length = lv.toNat := by simp [stepsL]
theorem stepsL_b {lv fn gr p d : Int} (g : goodS lv fn gr) (h : d ∈ stepsL lv fn p) : 0 ≤ d ∧ d < wid fn := by
  have hw := wid_b g
  unfold stepsL at h
  obtain ⟨k, _, rfl⟩ := List.mem_map.mp h
  exact ⟨Int.emod_nonneg _ (by omega), Int.emod_lt_of_pos _ (by omega)⟩
/-- good figures -/
def okSteps (lv fn : Int) (ds : List Int) : Prop := (ds.length : Int) = lv ∧ ∀ d ∈ ds, 0 ≤ d ∧ d < wid fn
instance {lv fn : Int} {ds : List Int} : Decidable (okSteps lv fn ds) := inferInstanceAs (Decidable (_ ∧ _))
theorem pageOf_b {lv fn gr : Int} {ds : List Int} (g : goodS lv fn gr) (h : okSteps lv fn ds) : 0 ≤ pageOf fn ds ∧ pageOf fn ds < pgs lv fn ∧ stepsL lv fn (pageOf fn ds) = ds := by
  have hw := wid_b g
  obtain ⟨g1, g2, g3, g4, g5, g6⟩ := g
  rw [pgs_wid (by omega) (by omega)]
  obtain ⟨hl, hd⟩ := h
  obtain rfl | rfl : lv = 2 ∨ lv = 3 := by omega
  · rw [steps2 (by omega)]
    obtain ⟨a, b, rfl⟩ : ∃ a b, ds = [a, b] := by
      match ds, hl with
      | [a, b], _ => exact ⟨a, b, rfl⟩
    obtain ⟨a0, a1⟩ := hd a (by simp)
    obtain ⟨b0, b1⟩ := hd b (by simp)
    unfold pageOf
    generalize wid fn = B at *
    have hB : 0 < B := by omega
    rw [show ((2 : Int).toNat) = 2 from rfl, Int.pow_succ, Int.pow_succ, Int.pow_zero, Int.one_mul]
    simp only [List.foldl_cons, List.foldl_nil, Int.zero_mul, Int.zero_add]
    have m0 : 0 ≤ a * B := Int.mul_nonneg a0 (by omega)
    have m1 : (a + 1) * B ≤ B * B := Int.mul_le_mul_of_nonneg_right (by omega) (by omega)
    rw [Int.add_mul, Int.one_mul] at m1
    have e1 : (a * B + b) / B = a := by
      rw [Int.add_comm, Int.add_mul_ediv_right _ _ (by omega), Int.ediv_eq_zero_of_lt b0 b1, Int.zero_add]
    have e2 : (a * B + b) % B = b := by
      rw [Int.add_comm, Int.add_mul_emod_self_right, Int.emod_eq_of_lt b0 b1]
    refine ⟨by omega, by omega, ?_⟩
    rw [e1, e2, Int.emod_eq_of_lt a0 a1]
  · rw [steps3 (by omega)]
    obtain ⟨a, b, c, rfl⟩ : ∃ a b c, ds = [a, b, c] := by
      match ds, hl with
      | [a, b, c], _ => exact ⟨a, b, c, rfl⟩
    obtain ⟨a0, a1⟩ := hd a (by simp)
    obtain ⟨b0, b1⟩ := hd b (by simp)
    obtain ⟨c0, c1⟩ := hd c (by simp)
    unfold pageOf
    generalize wid fn = B at *
    have hB : 0 < B := by omega
    rw [show ((3 : Int).toNat) = 3 from rfl, Int.pow_succ, Int.pow_succ, Int.pow_succ, Int.pow_zero, Int.one_mul]
    simp only [List.foldl_cons, List.foldl_nil, Int.zero_mul, Int.zero_add]
    have m0 : 0 ≤ a * B := Int.mul_nonneg a0 (by omega)
    have m1 : (a + 1) * B ≤ B * B := Int.mul_le_mul_of_nonneg_right (by omega) (by omega)
    rw [Int.add_mul, Int.one_mul] at m1
    generalize hx : a * B + b = x at *
    have x0 : 0 ≤ x := by omega
    have x1 : x + 1 ≤ B * B := by omega
    have m2 : 0 ≤ x * B := Int.mul_nonneg x0 (by omega)
    have m3 : (x + 1) * B ≤ B * B * B := Int.mul_le_mul_of_nonneg_right x1 (by omega)
    rw [Int.add_mul, Int.one_mul] at m3
    have e1 : x / B = a := by
      rw [← hx, Int.add_comm, Int.add_mul_ediv_right _ _ (by omega), Int.ediv_eq_zero_of_lt b0 b1, Int.zero_add]
    have e2 : x % B = b := by
      rw [← hx, Int.add_comm, Int.add_mul_emod_self_right, Int.emod_eq_of_lt b0 b1]
    have e3 : (x * B + c) / B = x := by
      rw [Int.add_comm, Int.add_mul_ediv_right _ _ (by omega), Int.ediv_eq_zero_of_lt c0 c1, Int.zero_add]
    have e4 : (x * B + c) % B = c := by
      rw [Int.add_comm, Int.add_mul_emod_self_right, Int.emod_eq_of_lt c0 c1]
    refine ⟨by omega, by omega, ?_⟩
    rw [← Int.ediv_ediv_of_nonneg (by omega), e3, e4, e1, e2, Int.emod_eq_of_lt a0 a1]
/-- a stretch fits the room -/
def fitsS (lv fn f m : Int) : Bool := decide (0 ≤ f ∧ 1 ≤ m ∧ m ≤ 64 ∧ f + m ≤ pgs lv fn)
end Fl
set_option hygiene false
namespace Fl
open PySem L2
/-! the text by places -/
def top (i : Nat) : Stmt := PySem.Challenge.pw_frameland_k03_steps.main.body.getD i (.Pass ⟨0, 0, 0, 0⟩)
abbrev s_is_whole : Stmt := top 7
abbrev N_is_whole : List Str := ["thing"]
theorem sc_is_whole : FnScope N_is_whole ["thing"] (defScope s_is_whole) := ⟨rfl, rfl, rfl, by decide +kernel, rfl, by decide +kernel, by decide +kernel⟩
abbrev s_is_within : Stmt := top 8
abbrev N_is_within : List Str := ["thing", "low", "high"]
theorem sc_is_within : FnScope N_is_within ["thing", "low", "high"] (defScope s_is_within) := ⟨rfl, rfl, rfl, by decide +kernel, rfl, by decide +kernel, by decide +kernel⟩
abbrev s_Shape_init : Stmt := inClass (top 10) 0
abbrev N_Shape_init : List Str := ["self", "levels", "fan", "grain"]
theorem sc_Shape_init : FnScope N_Shape_init ["self", "levels", "fan", "grain"] (defScope s_Shape_init) := ⟨rfl, rfl, rfl, by decide +kernel, rfl, by decide +kernel, by decide +kernel⟩
abbrev s_Shape_sheet_size : Stmt := inClass (top 10) 1
abbrev N_Shape_sheet_size : List Str := ["self"]
theorem sc_Shape_sheet_size : FnScope N_Shape_sheet_size ["self"] (defScope s_Shape_sheet_size) := ⟨rfl, rfl, rfl, by decide +kernel, rfl, by decide +kernel, by decide +kernel⟩
abbrev s_Shape_page_count : Stmt := inClass (top 10) 2
abbrev N_Shape_page_count : List Str := ["self"]
theorem sc_Shape_page_count : FnScope N_Shape_page_count ["self"] (defScope s_Shape_page_count) := ⟨rfl, rfl, rfl, by decide +kernel, rfl, by decide +kernel, by decide +kernel⟩
abbrev s_Shape_parted : Stmt := inClass (top 10) 3
abbrev N_Shape_parted : List Str := ["self", "address"]
theorem sc_Shape_parted : FnScope N_Shape_parted ["self", "address"] (defScope s_Shape_parted) := ⟨rfl, rfl, rfl, by decide +kernel, rfl, by decide +kernel, by decide +kernel⟩
abbrev s_Shape_address : Stmt := inClass (top 10) 4
abbrev N_Shape_address : List Str := ["self", "page", "box"]
theorem sc_Shape_address : FnScope N_Shape_address ["self", "page", "box"] (defScope s_Shape_address) := ⟨rfl, rfl, rfl, by decide +kernel, rfl, by decide +kernel, by decide +kernel⟩
abbrev s_Shape_steps : Stmt := inClass (top 10) 5
abbrev N_Shape_steps : List Str := ["self", "page", "below", "row", "k"]
theorem sc_Shape_steps : FnScope N_Shape_steps ["self", "page"] (defScope s_Shape_steps) := ⟨rfl, rfl, rfl, by decide +kernel, rfl, by decide +kernel, by decide +kernel⟩
abbrev s_Shape_page_of : Stmt := inClass (top 10) 6
abbrev N_Shape_page_of : List Str := ["self", "steps", "page", "step"]
theorem sc_Shape_page_of : FnScope N_Shape_page_of ["self", "steps"] (defScope s_Shape_page_of) := ⟨rfl, rfl, rfl, by decide +kernel, rfl, by decide +kernel, by decide +kernel⟩
abbrev s_L_cell_at : Stmt := top 12
abbrev N_L_cell_at : List Str := ["_law_script", "_law_k"]
theorem sc_L_cell_at : FnScope N_L_cell_at ["_law_script", "_law_k"] (defScope s_L_cell_at) := ⟨rfl, rfl, rfl, by decide +kernel, rfl, by decide +kernel, by decide +kernel⟩
abbrev s_L_whole : Stmt := top 13
abbrev N_L_whole : List Str := ["_law_thing"]
theorem sc_L_whole : FnScope N_L_whole ["_law_thing"] (defScope s_L_whole) := ⟨rfl, rfl, rfl, by decide +kernel, rfl, by decide +kernel, by decide +kernel⟩
abbrev s_L_doubled : Stmt := top 14
abbrev N_L_doubled : List Str := ["_law_times", "_law_many", "_law_k"]
theorem sc_L_doubled : FnScope N_L_doubled ["_law_times"] (defScope s_L_doubled) := ⟨rfl, rfl, rfl, by decide +kernel, rfl, by decide +kernel, by decide +kernel⟩
abbrev s_L_page : Stmt := top 15
abbrev N_L_page : List Str := ["_law_cell", "_law_pages", "_law_way", "_law_more"]
theorem sc_L_page : FnScope N_L_page ["_law_cell", "_law_pages"] (defScope s_L_page) := ⟨rfl, rfl, rfl, by decide +kernel, rfl, by decide +kernel, by decide +kernel⟩
abbrev s_L_counted : Stmt := top 16
abbrev N_L_counted : List Str := ["_law_row", "_law_wide", "_law_page_here", "_law_one"]
theorem sc_L_counted : FnScope N_L_counted ["_law_row", "_law_wide"] (defScope s_L_counted) := ⟨rfl, rfl, rfl, by decide +kernel, rfl, by decide +kernel, by decide +kernel⟩
abbrev s_L_spoilt : Stmt := top 17
abbrev N_L_spoilt : List Str := ["_law_row", "_law_cell", "_law_wide", "_law_way", "_law_more", "_law_made"]
theorem sc_L_spoilt : FnScope N_L_spoilt ["_law_row", "_law_cell", "_law_wide"] (defScope s_L_spoilt) := ⟨rfl, rfl, rfl, by decide +kernel, rfl, by decide +kernel, by decide +kernel⟩
abbrev s_L_steps_of : Stmt := top 18
abbrev N_L_steps_of : List Str := ["_law_shape", "_law_page_here", "_law_wide", "_law_pages", "_law_levels", "_law_row", "_law_refused", "e", "_law_one", "_law_back", "_law_kept"]
theorem sc_L_steps_of : FnScope N_L_steps_of ["_law_shape", "_law_page_here", "_law_wide", "_law_pages", "_law_levels"] (defScope s_L_steps_of) := ⟨rfl, rfl, rfl, by decide +kernel, rfl, by decide +kernel, by decide +kernel⟩
abbrev s_law : Stmt := top 19
abbrev N_law : List Str := ["_law_script", "_law_levels", "_law_fan", "_law_shape", "_law_wide", "_law_pages", "_law_row", "_law_made", "_law_handed", "_law_page_here", "_law_refused", "e", "_law_k"]
theorem sc_law : FnScope N_law ["_law_script"] (defScope s_law) := ⟨rfl, rfl, rfl, by decide +kernel, rfl, by decide +kernel, by decide +kernel⟩
structure Txt (K : PySem.W.Frag) (mg : Str → Option Value) where
  C_FrameError : Addr
  mg_FrameError : mg "FrameError" = some (.ref C_FrameError)
  C_NoShape : Addr
  mg_NoShape : mg "NoShape" = some (.ref C_NoShape)
  C_OutOfRoom : Addr
  mg_OutOfRoom : mg "OutOfRoom" = some (.ref C_OutOfRoom)
  C_OutOfBank : Addr
  mg_OutOfBank : mg "OutOfBank" = some (.ref C_OutOfBank)
  C_Shape : Addr
  mg_Shape : mg "Shape" = some (.ref C_Shape)
  f_is_whole : Addr
  fd_is_whole : FuncData
  F_is_whole : Fun K "is_whole" "is_whole" s_is_whole f_is_whole fd_is_whole
  kp_is_whole : PySem.W.keepIn K (.ref f_is_whole) = true
  b_is_whole_1 : Binds K fd_is_whole ["thing"] []
  mg_is_whole : mg "is_whole" = some (.ref f_is_whole)
  f_is_within : Addr
  fd_is_within : FuncData
  F_is_within : Fun K "is_within" "is_within" s_is_within f_is_within fd_is_within
  kp_is_within : PySem.W.keepIn K (.ref f_is_within) = true
  b_is_within_3 : Binds K fd_is_within ["thing", "low", "high"] []
  mg_is_within : mg "is_within" = some (.ref f_is_within)
  f_Shape_init : Addr
  fd_Shape_init : FuncData
  F_Shape_init : Fun K "__init__" "Shape.__init__" s_Shape_init f_Shape_init fd_Shape_init
  kp_Shape_init : PySem.W.keepIn K (.ref f_Shape_init) = true
  b_Shape_init_4 : Binds K fd_Shape_init ["self", "levels", "fan", "grain"] []
  f_Shape_sheet_size : Addr
  fd_Shape_sheet_size : FuncData
  F_Shape_sheet_size : Fun K "sheet_size" "Shape.sheet_size" s_Shape_sheet_size f_Shape_sheet_size fd_Shape_sheet_size
  kp_Shape_sheet_size : PySem.W.keepIn K (.ref f_Shape_sheet_size) = true
  b_Shape_sheet_size_1 : Binds K fd_Shape_sheet_size ["self"] []
  f_Shape_page_count : Addr
  fd_Shape_page_count : FuncData
  F_Shape_page_count : Fun K "page_count" "Shape.page_count" s_Shape_page_count f_Shape_page_count fd_Shape_page_count
  kp_Shape_page_count : PySem.W.keepIn K (.ref f_Shape_page_count) = true
  b_Shape_page_count_1 : Binds K fd_Shape_page_count ["self"] []
  f_Shape_parted : Addr
  fd_Shape_parted : FuncData
  F_Shape_parted : Fun K "parted" "Shape.parted" s_Shape_parted f_Shape_parted fd_Shape_parted
  kp_Shape_parted : PySem.W.keepIn K (.ref f_Shape_parted) = true
  b_Shape_parted_2 : Binds K fd_Shape_parted ["self", "address"] []
  f_Shape_address : Addr
  fd_Shape_address : FuncData
  F_Shape_address : Fun K "address" "Shape.address" s_Shape_address f_Shape_address fd_Shape_address
  kp_Shape_address : PySem.W.keepIn K (.ref f_Shape_address) = true
  b_Shape_address_3 : Binds K fd_Shape_address ["self", "page", "box"] []
  f_Shape_steps : Addr
  fd_Shape_steps : FuncData
  F_Shape_steps : Fun K "steps" "Shape.steps" s_Shape_steps f_Shape_steps fd_Shape_steps
  kp_Shape_steps : PySem.W.keepIn K (.ref f_Shape_steps) = true
  b_Shape_steps_2 : Binds K fd_Shape_steps ["self", "page"] []
  f_Shape_page_of : Addr
  fd_Shape_page_of : FuncData
  F_Shape_page_of : Fun K "page_of" "Shape.page_of" s_Shape_page_of f_Shape_page_of fd_Shape_page_of
  kp_Shape_page_of : PySem.W.keepIn K (.ref f_Shape_page_of) = true
  b_Shape_page_of_2 : Binds K fd_Shape_page_of ["self", "steps"] []
  f_L_cell_at : Addr
  fd_L_cell_at : FuncData
  F_L_cell_at : Fun K "_law_cell_at" "_law_cell_at" s_L_cell_at f_L_cell_at fd_L_cell_at
  kp_L_cell_at : PySem.W.keepIn K (.ref f_L_cell_at) = true
  b_L_cell_at_2 : Binds K fd_L_cell_at ["_law_script", "_law_k"] []
  mg_L_cell_at : mg "_law_cell_at" = some (.ref f_L_cell_at)
  f_L_whole : Addr
  fd_L_whole : FuncData
  F_L_whole : Fun K "_law_whole" "_law_whole" s_L_whole f_L_whole fd_L_whole
  kp_L_whole : PySem.W.keepIn K (.ref f_L_whole) = true
  b_L_whole_1 : Binds K fd_L_whole ["_law_thing"] []
  mg_L_whole : mg "_law_whole" = some (.ref f_L_whole)
  f_L_doubled : Addr
  fd_L_doubled : FuncData
  F_L_doubled : Fun K "_law_doubled" "_law_doubled" s_L_doubled f_L_doubled fd_L_doubled
  kp_L_doubled : PySem.W.keepIn K (.ref f_L_doubled) = true
  b_L_doubled_1 : Binds K fd_L_doubled ["_law_times"] []
  mg_L_doubled : mg "_law_doubled" = some (.ref f_L_doubled)
  f_L_page : Addr
  fd_L_page : FuncData
  F_L_page : Fun K "_law_page" "_law_page" s_L_page f_L_page fd_L_page
  kp_L_page : PySem.W.keepIn K (.ref f_L_page) = true
  b_L_page_2 : Binds K fd_L_page ["_law_cell", "_law_pages"] []
  mg_L_page : mg "_law_page" = some (.ref f_L_page)
  f_L_counted : Addr
  fd_L_counted : FuncData
  F_L_counted : Fun K "_law_counted" "_law_counted" s_L_counted f_L_counted fd_L_counted
  kp_L_counted : PySem.W.keepIn K (.ref f_L_counted) = true
  b_L_counted_2 : Binds K fd_L_counted ["_law_row", "_law_wide"] []
  mg_L_counted : mg "_law_counted" = some (.ref f_L_counted)
  f_L_spoilt : Addr
  fd_L_spoilt : FuncData
  F_L_spoilt : Fun K "_law_spoilt" "_law_spoilt" s_L_spoilt f_L_spoilt fd_L_spoilt
  kp_L_spoilt : PySem.W.keepIn K (.ref f_L_spoilt) = true
  b_L_spoilt_3 : Binds K fd_L_spoilt ["_law_row", "_law_cell", "_law_wide"] []
  mg_L_spoilt : mg "_law_spoilt" = some (.ref f_L_spoilt)
  f_L_steps_of : Addr
  fd_L_steps_of : FuncData
  F_L_steps_of : Fun K "_law_steps_of" "_law_steps_of" s_L_steps_of f_L_steps_of fd_L_steps_of
  kp_L_steps_of : PySem.W.keepIn K (.ref f_L_steps_of) = true
  b_L_steps_of_5 : Binds K fd_L_steps_of ["_law_shape", "_law_page_here", "_law_wide", "_law_pages", "_law_levels"] []
  mg_L_steps_of : mg "_law_steps_of" = some (.ref f_L_steps_of)
  f_law : Addr
  fd_law : FuncData
  F_law : Fun K "law" "law" s_law f_law fd_law
  kp_law : PySem.W.keepIn K (.ref f_law) = true
  b_law_1 : Binds K fd_law ["_law_script"] []
  mg_law : mg "law" = some (.ref f_law)
  bt_law : ∀ (s : Shared) (v : Value), BindsTo s fd_law ⟨[v], []⟩ [("_law_script", v)]
  xx_NoShape : PySem.W.excIn K C_NoShape [.type "ValueError", .type "Exception", .type "BaseException", .type "object"] "ValueError.__new__" = true
  xk_NoShape : PySem.W.keepIn K (.ref C_NoShape) = true
  xb_NoShape : PySem.W.subIn K (.ref C_NoShape) (.type "BaseException") = some true
  xt_NoShape : PySem.W.typeIn K (.ref C_NoShape) = some (.type "type")
  ec_NoShape : ExcC K C_NoShape
  ex_NoShape_FrameError : PySem.W.exmOne K (.ref C_NoShape) (.ref C_FrameError) = some true
  ki_NoShape_NoShape : PySem.W.kitOne K (.ref C_NoShape) (.ref C_NoShape) = some true
  ki_NoShape_OutOfBank : PySem.W.kitOne K (.ref C_NoShape) (.ref C_OutOfBank) = some false
  ki_NoShape_OutOfRoom : PySem.W.kitOne K (.ref C_NoShape) (.ref C_OutOfRoom) = some false
  xx_OutOfRoom : PySem.W.excIn K C_OutOfRoom [.type "ValueError", .type "Exception", .type "BaseException", .type "object"] "ValueError.__new__" = true
  xk_OutOfRoom : PySem.W.keepIn K (.ref C_OutOfRoom) = true
  xb_OutOfRoom : PySem.W.subIn K (.ref C_OutOfRoom) (.type "BaseException") = some true
  xt_OutOfRoom : PySem.W.typeIn K (.ref C_OutOfRoom) = some (.type "type")
  ec_OutOfRoom : ExcC K C_OutOfRoom
  ex_OutOfRoom_FrameError : PySem.W.exmOne K (.ref C_OutOfRoom) (.ref C_FrameError) = some true
  ki_OutOfRoom_NoShape : PySem.W.kitOne K (.ref C_OutOfRoom) (.ref C_NoShape) = some false
  ki_OutOfRoom_OutOfBank : PySem.W.kitOne K (.ref C_OutOfRoom) (.ref C_OutOfBank) = some false
  ki_OutOfRoom_OutOfRoom : PySem.W.kitOne K (.ref C_OutOfRoom) (.ref C_OutOfRoom) = some true
  cl_Shape : Cls K C_Shape
  na_Shape_levels : NoAttr K C_Shape "levels"
  na_Shape_fan : NoAttr K C_Shape "fan"
  na_Shape_grain : NoAttr K C_Shape "grain"
  mk_Shape : Mk K C_Shape f_Shape_init
  m_Shape_sheet_size : Meth K C_Shape "sheet_size" f_Shape_sheet_size
  m_Shape_page_count : Meth K C_Shape "page_count" f_Shape_page_count
  m_Shape_parted : Meth K C_Shape "parted" f_Shape_parted
  m_Shape_address : Meth K C_Shape "address" f_Shape_address
  m_Shape_steps : Meth K C_Shape "steps" f_Shape_steps
  m_Shape_page_of : Meth K C_Shape "page_of" f_Shape_page_of
  z_bool : mg "bool" = none
  z_int : mg "int" = none
  z_isinstance : mg "isinstance" = none
  z_len : mg "len" = none
  z_list : mg "list" = none
  z_range : mg "range" = none
instance {K : PySem.W.Frag} {mg : Str → Option Value} (T : Txt K mg) : ExK K T.C_NoShape := ⟨T.ec_NoShape⟩
instance {K : PySem.W.Frag} {mg : Str → Option Value} (T : Txt K mg) : Exm K (.ref T.C_NoShape) (.ref T.C_FrameError) true := ⟨T.ex_NoShape_FrameError⟩
instance {K : PySem.W.Frag} {mg : Str → Option Value} (T : Txt K mg) : Ki K (.ref T.C_NoShape) (.ref T.C_NoShape) true := ⟨T.ki_NoShape_NoShape⟩
instance {K : PySem.W.Frag} {mg : Str → Option Value} (T : Txt K mg) : Ki K (.ref T.C_NoShape) (.ref T.C_OutOfBank) false := ⟨T.ki_NoShape_OutOfBank⟩
instance {K : PySem.W.Frag} {mg : Str → Option Value} (T : Txt K mg) : Ki K (.ref T.C_NoShape) (.ref T.C_OutOfRoom) false := ⟨T.ki_NoShape_OutOfRoom⟩
instance {K : PySem.W.Frag} {mg : Str → Option Value} (T : Txt K mg) : ExK K T.C_OutOfRoom := ⟨T.ec_OutOfRoom⟩
instance {K : PySem.W.Frag} {mg : Str → Option Value} (T : Txt K mg) : Exm K (.ref T.C_OutOfRoom) (.ref T.C_FrameError) true := ⟨T.ex_OutOfRoom_FrameError⟩
instance {K : PySem.W.Frag} {mg : Str → Option Value} (T : Txt K mg) : Ki K (.ref T.C_OutOfRoom) (.ref T.C_NoShape) false := ⟨T.ki_OutOfRoom_NoShape⟩
instance {K : PySem.W.Frag} {mg : Str → Option Value} (T : Txt K mg) : Ki K (.ref T.C_OutOfRoom) (.ref T.C_OutOfBank) false := ⟨T.ki_OutOfRoom_OutOfBank⟩
instance {K : PySem.W.Frag} {mg : Str → Option Value} (T : Txt K mg) : Ki K (.ref T.C_OutOfRoom) (.ref T.C_OutOfRoom) true := ⟨T.ki_OutOfRoom_OutOfRoom⟩
instance : NeS "fan" "grain" := ⟨by decide⟩
instance : NeS "fan" "levels" := ⟨by decide⟩
instance : NeS "grain" "fan" := ⟨by decide⟩
instance : NeS "grain" "levels" := ⟨by decide⟩
instance : NeS "levels" "fan" := ⟨by decide⟩
instance : NeS "levels" "grain" := ⟨by decide⟩
set_option hygiene false
local macro_rules | `(tactic| walk_at "nS") => `(tactic| (clear S; (try clear H); rename Star _ _ => S; rename Hp => H))
local macro_rules | `(tactic| walk_at "len") => `(tactic| (intro h; first | (obtain ⟨e, _⟩ := h; subst e; rfl) | (obtain ⟨_, e, _⟩ := h; subst e; rfl) | (obtain ⟨_, _, e, _⟩ := h; subst e; rfl) | (obtain ⟨_, _, _, e, _⟩ := h; subst e; rfl) | (obtain ⟨_, _, _, _, e, _⟩ := h; subst e; rfl) | (obtain ⟨_, _, _, _, _, e, _⟩ := h; subst e; rfl) | (obtain ⟨_, _, _, _, _, _, e, _⟩ := h; subst e; rfl) | (obtain ⟨_, _, _, _, _, _, _, e, _⟩ := h; subst e; rfl) | (obtain ⟨_, _, _, _, _, _, _, _, e, _⟩ := h; subst e; rfl) | (obtain ⟨_, _, _, _, _, _, _, _, _, e, _⟩ := h; subst e; rfl) | (obtain ⟨_, _, _, _, _, _, _, _, _, _, e, _⟩ := h; subst e; rfl) | (obtain ⟨_, _, _, _, _, _, _, _, _, _, _, e, _⟩ := h; subst e; rfl) | (obtain ⟨_, _, _, _, _, _, _, _, _, _, _, _, e, _⟩ := h; subst e; rfl) | (obtain ⟨_, _, _, _, _, _, _, _, _, _, _, _, _, e, _⟩ := h; subst e; rfl) | (obtain ⟨_, _, _, _, _, _, _, _, _, _, _, _, _, _, e, _⟩ := h; subst e; rfl) | (obtain ⟨_, _, _, _, _, _, _, _, _, _, _, _, _, _, _, e, _⟩ := h; subst e; rfl) | (obtain ⟨_, _, _, _, _, _, _, _, _, _, _, _, _, _, _, _, e, _⟩ := h; subst e; rfl) | (obtain ⟨_, _, _, _, _, _, _, _, _, _, _, _, _, _, _, _, _, e, _⟩ := h; subst e; rfl) | (obtain ⟨_, _, _, _, _, _, _, _, _, _, _, _, _, _, _, _, _, _, e, _⟩ := h; subst e; rfl) | (obtain ⟨_, _, _, _, _, _, _, _, _, _, _, _, _, _, _, _, _, _, _, e, _⟩ := h; subst e; rfl) | (obtain ⟨_, _, _, _, _, _, _, _, _, _, _, _, _, _, _, _, _, _, _, _, e, _⟩ := h; subst e; rfl) | (obtain ⟨_, _, _, _, _, _, _, _, _, _, _, _, _, _, _, _, _, _, _, _, _, e, _⟩ := h; subst e; rfl)))
local macro_rules | `(tactic| walk_at "P") => `(tactic| with_reducible (repeat (first | exact Pull.here | apply Pull.there)))
local macro_rules | `(tactic| walk_at "K") => `(tactic| (refine Star.keep S ?_; repeat (first | (with_reducible exact Keep.refl) | exact Keep.nil | refine Keep.cons (by walk_at "P") ?_ | apply Keep.drop)))
local macro_rules | `(tactic| walk_at "set") => `(tactic| ((try simp only [List.set_cons_zero, List.set_cons_succ]); exact rfl))
local macro_rules | `(tactic| walk_at "pre") => `(tactic| first | exact True.intro | assumption | omega | (refine ⟨?_, ?_⟩ <;> first | assumption | omega) | (refine ⟨?_, ?_, ?_⟩ <;> first | assumption | omega) | (refine ⟨?_, ?_, ?_, ?_⟩ <;> first | assumption | omega))
local macro_rules | `(tactic| walk_at "cl") => `(tactic| fail "no call")
local macro_rules | `(tactic| walk_at "tn") => `(tactic| ((try simp only [Int.toNat_natCast, Int.reduceToNat, Int.sub_zero, Int.reduceSub]); exact rfl))
local macro_rules | `(tactic| walk_at "lit") => `(tactic| (simp only [Int.reduceToNat, Int.reducePow, Int.reduceMul]; exact rfl))
local macro_rules | `(tactic| walk_at "un") => `(tactic| first
  | (with_reducible refine fl_id (by walk_at "G") ?_)
  | (with_reducible refine fl_nil (by walk_at "G") ?_)
  | (refine fl_more (rgV_more (by simp only [Int.reduceAdd]; exact rfl)) (by walk_at "G") ?_)
  | (refine fl_nil (by walk_at "G") ?_))
local macro_rules | `(tactic| walk_at "num") => `(tactic| first | assumption | omega | exact ⟨by decide, by decide +kernel⟩ | exact ⟨by decide, by decide, by decide⟩ | exact ⟨by omega, by omega, by decide⟩ | exact .inl ⟨by decide, by decide⟩ | exact .inr ⟨by decide, by decide⟩ | exact .inl ⟨by omega, by omega⟩ | exact .inr ⟨by omega, by omega⟩)
local macro_rules | `(tactic| walk_at "sz") => `(tactic| (refine Evl.sz_lt ?_; (try simp only [List.length_append, List.length_cons, List.length_nil, List.length_map]); omega))
local macro_rules | `(tactic| walk_at "app") => `(tactic| ((try simp only [List.nil_append, List.cons_append]); exact rfl))
local macro_rules | `(tactic| walk_at "sz2") => `(tactic| (refine Evl.sz_of ?_; (try simp only [List.length_append, List.length_cons, List.length_nil, List.length_map]); omega))
local macro_rules | `(tactic| walk_at "len2") => `(tactic| ((try simp only [List.length_append, List.length_cons, List.length_nil, List.length_map]); omega))
local macro_rules | `(tactic| walk_at "G") => `(tactic| first | exact gA | exact gL S (by walk_at "P") | exact gLs S (by walk_at "P") | exact gT S (by walk_at "P") | exact gF S (by walk_at "P"))
local macro_rules | `(tactic| walk_at "bd") => `(tactic| ((simp only [Bool.and_eq_true, Bool.or_eq_true, Bool.and_eq_false_iff, Bool.or_eq_false_iff, Bool.not_eq_true', Bool.not_eq_false', decide_eq_true_eq, decide_eq_false_iff_not, Bool.not_true, Bool.not_false]); omega))
local macro_rules | `(tactic| walk_at "sp") => `(tactic| (refine if_b (fun h => ?_) (fun h => ?_) <;> (try simp only [Bool.and_eq_true, Bool.or_eq_true, Bool.and_eq_false_iff, Bool.or_eq_false_iff, Bool.not_eq_true', Bool.not_eq_false', decide_eq_true_eq, decide_eq_false_iff_not, Bool.not_true, Bool.not_false] at h)))
local macro_rules | `(tactic| walk_at "ixn") => `(tactic| first | assumption | exact ixN_set (by omega) (by omega))
local macro_rules | `(tactic| walk_at "few") => `(tactic| (simp only [List.length_cons, List.length_nil]; omega))
local macro_rules | `(tactic| walk_at "lk") => `(tactic| (first | exact rfl | with_unfolding_all rfl))
local macro_rules | `(tactic| walk_at "pf") => `(tactic| (first | exact rfl | with_unfolding_all rfl))
local macro_rules | `(tactic| walk_at "ln") => `(tactic| ((try simp only [List.length_map, List.length_cons, List.length_nil, List.length_append, List.length_replicate, List.length_range, rgV_len, List.length_reverse, enums_len, List.length_set, Nat.reduceAdd, Nat.zero_add]); exact rfl))
local macro_rules | `(tactic| walk_at "wp") => `(tactic| ((try simp only [wipe, List.map_cons, List.map_nil, List.set_cons_zero, List.set_cons_succ]); exact rfl))
local macro_rules | `(tactic| walk_at "st") => `(tactic| first
  | (with_reducible refine Stp.go ?_)
  | ((with_reducible refine grp 3 ?_); first
      | (walk_at "cl")
      | (with_reducible refine r_kMk S (fun no ndx H2 S2 => ?_); walk_at "nS"))
  | ((with_reducible refine grp 4 ?_); first
      | (with_reducible refine r_kBML S (by walk_at "P") ?_)
      | (with_reducible refine r_appendI S (by walk_at "P") (by walk_at "len2") (fun H2 S2 => ?_); walk_at "nS")
      | (refine r_append S (by walk_at "P") (by walk_at "sz") (by walk_at "app") (fun H2 S2 => ?_); walk_at "nS")
      | (with_reducible refine r_pop S (by walk_at "P") (by assumption) (fun H2 S2 => ?_); walk_at "nS")
      | (with_reducible refine r_slI S (by walk_at "P") (fun nq H2 S2 => ?_); walk_at "nS")
      | (with_reducible refine r_slL S (by walk_at "P") (fun nq H2 S2 => ?_); walk_at "nS")
      | (with_reducible refine r_slS S (by walk_at "P") (fun nq H2 S2 => ?_); walk_at "nS")
      | (with_reducible refine r_catI S (by walk_at "P") (by walk_at "P") (by walk_at "len2") (fun nq H2 S2 => ?_); walk_at "nS")
      | (refine r_cat S (by walk_at "P") (by walk_at "P") (by walk_at "sz2") (fun nq H2 S2 => ?_); walk_at "nS")
      | (with_reducible refine r_clistL S (by walk_at "P") (fun nq H2 S2 => ?_); walk_at "nS")
      | (with_reducible refine r_clistT S (by walk_at "P") (fun nq H2 S2 => ?_); walk_at "nS")
      | (with_reducible refine r_gTup S (by walk_at "P") (by with_unfolding_all rfl) ?_)
      | (with_reducible refine r_setI S (by walk_at "P") (by walk_at "ixn") (fun H2 S2 => ?_); walk_at "nS")
      | (with_reducible refine r_any S (by walk_at "P") ?_)
      | (with_reducible refine r_all S (by walk_at "P") ?_)
      | (refine r_app S (by walk_at "P") (by walk_at "sz") (fun H2 S2 => ?_); walk_at "nS")
      | (refine r_wipe (by with_unfolding_all rfl) ?_)
      | (with_reducible refine r_ixL S (by walk_at "P") (by with_unfolding_all rfl) ?_)
      | (with_reducible refine r_ixT S (by walk_at "P") (by with_unfolding_all rfl) ?_)
      | (with_reducible refine r_lenScr S (by walk_at "P") ?_)
      | (refine r_lenL S (by walk_at "P") (by walk_at "ln") ?_)
      | (refine r_lenT S (by walk_at "P") (by walk_at "ln") ?_)
      | (refine r_kLst S (by walk_at "sz2") (fun np H2 S2 => ?_); walk_at "nS")
      | (refine r_kTup S (by walk_at "sz2") (fun np H2 S2 => ?_); walk_at "nS")
      | (refine r_str (by walk_at "num") ?_))
  | ((with_reducible refine grp 9 ?_); first
      | (with_reducible refine r_eqLI S (by walk_at "P") (by walk_at "P") ?_)
      | (with_reducible refine r_neLI S (by walk_at "P") (by walk_at "P") ?_)
      | (with_reducible refine r_eqTI S (by walk_at "P") (by walk_at "P") ?_)
      | (with_reducible refine r_neTI S (by walk_at "P") (by walk_at "P") ?_)
      | (with_reducible refine r_eqLB S (by walk_at "P") (by walk_at "P") ?_)
      | (with_reducible refine r_neLB S (by walk_at "P") (by walk_at "P") ?_)
      | (refine isi_lst (c := true) S (by walk_at "P") (by decide +kernel) ?_)
      | (refine isi_lst (c := false) S (by walk_at "P") (by decide +kernel) ?_)
      | (refine isi_tup (c := true) S (by walk_at "P") (by decide +kernel) ?_)
      | (refine isi_tup (c := false) S (by walk_at "P") (by decide +kernel) ?_))
  | ((with_reducible refine grp 10 ?_); first
      | ((with_reducible refine r_catch (fun ea σe ee => ?_)); (simp only [List.set_cons_zero, List.set_cons_succ] at ee); subst ee)
      | (with_reducible refine r_catchOn (fun ea => ?_))
      | (with_reducible refine r_isXT S (by walk_at "P") ?_))
  | ((with_reducible refine grp 8 ?_); first
      | (refine r_pow (by walk_at "num") (by walk_at "lit") ?_)
      | (refine r_I (by walk_at "num") ?_))
  | ((with_reducible refine grp 7 ?_); first
      | (with_reducible refine r_fld S (by walk_at "P") ?_)
      | (refine r_sto S (by walk_at "P") (by walk_at "few") (fun H2 S2 => ?_); walk_at "nS")
      | (with_reducible refine r_kMt S (by walk_at "P") (by walk_at "lk") ?_)
      | (with_reducible refine r_augR S (by walk_at "P") ?_)
      | (refine r_augW S (by walk_at "P") (by walk_at "few") (fun H2 S2 => ?_); walk_at "nS"))
  | ((with_reducible refine grp 5 ?_); first
      | (with_reducible refine r_kIsD S (by walk_at "P") ?_)
      | (with_reducible refine r_kIsDT S (by walk_at "P") ?_)
      | (with_reducible refine r_kDGet S (by walk_at "P") (by assumption) ?_)
      | (with_reducible refine r_kDIn S (by walk_at "P") ?_)
      | (with_reducible refine r_kDNot S (by walk_at "P") ?_)
      | (refine r_kDPut S (by walk_at "P") (by walk_at "sz") (fun H2 S2 => ?_); walk_at "nS")
      | (with_reducible refine r_kDg S (by walk_at "P") ?_)
      | (with_reducible refine r_kDp1 S (by walk_at "P") (by assumption) (fun H2 S2 => ?_); walk_at "nS")
      | (with_reducible refine r_disp S (fun nd H2 S2 => ?_); walk_at "nS")
      | (refine r_kDisp S (by walk_at "P") (by simp only [List.length_cons, List.length_nil]; omega) (fun H2 S2 => ?_); walk_at "nS")
      | (with_reducible refine r_dnewK S (fun nd H2 S2 => ?_); walk_at "nS")
      | (with_reducible refine r_dnewT S (fun nd H2 S2 => ?_); walk_at "nS")
      | (with_reducible refine r_lenD S (by walk_at "P") ?_))
  | ((with_reducible refine grp 1 ?_); first
      | (with_reducible refine if_dt rfl ?_)
      | (with_reducible refine if_ndf rfl ?_)
      | (with_reducible refine if_dt (by omega) ?_)
      | (with_reducible refine if_ndf (by omega) ?_)
      | (with_reducible refine if_df (by omega) ?_)
      | (with_reducible refine if_ndt (by omega) ?_)
      | (with_reducible refine if_y (by walk_at "bd") ?_)
      | (with_reducible refine if_n (by walk_at "bd") ?_))
  | ((with_reducible refine grp 2 ?_); first
      | (with_reducible refine kAnd_go rfl ?_)
      | (with_reducible refine kAnd_st rfl ?_)
      | (with_reducible refine kAnd_go (by walk_at "bd") ?_)
      | (with_reducible refine kAnd_st (by walk_at "bd") ?_)
      | ((with_reducible apply kAnd_J); (· exact S); (· (intro hc QB k; walk_at "go"; exact k _ (by walk_at "K"))); intro H2 S2; walk_at "nS")
      | (with_reducible refine kOr_go rfl ?_)
      | (with_reducible refine kOr_st rfl ?_)
      | (with_reducible refine kOr_go (by walk_at "bd") ?_)
      | (with_reducible refine kOr_st (by walk_at "bd") ?_)
      | ((with_reducible apply kOr_J); (· exact S); (· (intro hc QB k; walk_at "go"; exact k _ (by walk_at "K"))); intro H2 S2; walk_at "nS")
      | (with_reducible refine kAndV_go rfl ?_)
      | (with_reducible refine kAndV_st rfl ?_)
      | (with_reducible refine kAndV_go (by walk_at "bd") ?_)
      | (with_reducible refine kAndV_st (by walk_at "bd") ?_)
      | ((with_reducible apply kAndV_J); (· exact S); (· (intro hc QB k; walk_at "go"; exact k _ (by walk_at "K"))); intro H2 S2; walk_at "nS")
      | (with_reducible refine kOrV_go rfl ?_)
      | (with_reducible refine kOrV_st rfl ?_)
      | (with_reducible refine kOrV_go (by walk_at "bd") ?_)
      | (with_reducible refine kOrV_st (by walk_at "bd") ?_)
      | ((with_reducible apply kOrV_J); (· exact S); (· (intro hc QB k; walk_at "go"; exact k _ (by walk_at "K"))); intro H2 S2; walk_at "nS"))
  | ((with_reducible refine grp 6 ?_); first
      | (with_reducible refine r_kIL S (by walk_at "P") ?_)
      | (with_reducible refine r_kILs S (by walk_at "P") ?_)
      | (with_reducible refine r_kIT S (by walk_at "P") ?_)
      | (with_reducible refine r_kIE S (by walk_at "P") ?_)
      | (with_reducible refine r_kIV S (by walk_at "P") ?_)
      | (with_reducible refine r_kIK S (by walk_at "P") ?_)
      | (with_reducible refine r_kIKt S (by walk_at "P") ?_)
      | (with_reducible refine r_kIVa S (by walk_at "P") ?_)
      | (refine r_kIR1 (by walk_at "tn") (by first | omega | decide) ?_)
      | (refine r_kIR2 (by walk_at "tn") (by first | omega | decide) ?_)
      | (with_reducible refine r_wL S (by walk_at "P") ?_)
      | (with_reducible refine r_wLs S (by walk_at "P") ?_)
      | (with_reducible refine r_wT S (by walk_at "P") ?_)
      | (with_reducible refine r_wE S (by walk_at "P") ?_)
      | (with_reducible refine r_wV S (by walk_at "P") ?_)
      | (with_reducible refine r_unl S (by walk_at "P") (fun H2 S2 => ?_); walk_at "nS")
      | (refine r_lwL (by walk_at "wp") S (by walk_at "P") (fun nD H2 S2 => ?_); walk_at "nS")
      | (refine r_lwLs (by walk_at "wp") S (by walk_at "P") (fun nD H2 S2 => ?_); walk_at "nS")
      | (refine r_lwT (by walk_at "wp") S (by walk_at "P") (fun nD H2 S2 => ?_); walk_at "nS")
      | (refine r_lwR (by walk_at "wp") S (fun nD H2 S2 => ?_); walk_at "nS")))
local macro_rules | `(tactic| walk_at "go0") => `(tactic| (refine r_start (by simp only [L2.start, List.map_cons, List.map_nil, List.length_cons, List.length_nil, Nat.reduceAdd, Nat.reduceSub, List.replicate_succ, List.replicate_zero, List.cons_append, List.nil_append]; exact rfl) ?_; repeat (walk_at "st")))
local macro_rules | `(tactic| walk_at "go") => `(tactic| repeat (walk_at "st"))
local macro_rules | `(tactic| walk_at "bs") => `(tactic| (try simp only [Bool.and_eq_true, Bool.or_eq_true, Bool.and_eq_false_iff, Bool.or_eq_false_iff, Bool.not_eq_true', Bool.not_eq_false', decide_eq_true_eq, decide_eq_false_iff_not, Bool.not_true, Bool.not_false] at c1))
local macro_rules | `(tactic| walk_at "cs") => `(tactic| first
  | ((with_reducible refine grp 1 ?_); first
      | (with_reducible refine if_d (fun c1 => ?_) (fun c1 => ?_))
      | (with_reducible refine if_nd (fun c1 => ?_) (fun c1 => ?_))
      | ((with_reducible refine if_b (fun c1 => ?_) (fun c1 => ?_)) <;> walk_at "bs"))
  | ((with_reducible refine grp 2 ?_); first
      | ((with_reducible refine kAnd_sp (fun c1 => ?_) (fun c1 => ?_)) <;> walk_at "bs")
      | ((with_reducible refine kOr_sp (fun c1 => ?_) (fun c1 => ?_)) <;> walk_at "bs")
      | ((with_reducible refine kAndV_sp (fun c1 => ?_) (fun c1 => ?_)) <;> walk_at "bs")
      | ((with_reducible refine kOrV_sp (fun c1 => ?_) (fun c1 => ?_)) <;> walk_at "bs")))
local macro_rules | `(tactic| walk_at "fork") => `(tactic| repeat' (first | walk_at "st" | walk_at "cs"))
local macro_rules | `(tactic| walk_at "PD") => `(tactic| (repeat (first | exact Pull.here | apply Pull.there)))
local macro_rules | `(tactic| walk_at "KD") => `(tactic| (refine Star.keep S ?_; repeat (first | exact Keep.refl | exact Keep.nil | refine Keep.cons (by walk_at "PD") ?_ | apply Keep.drop)))
section
variable {P : Program} {w : World} {K : PySem.W.Frag} {mg : Str → Option Value} {base : Heap}
def sp_L_cell_at {K : PySem.W.Frag} {mg : Str → Option Value} (T : Txt K mg) : Sp := fun vs H Q E => ∃ (a : Addr) (ns : List Int) (k : Int) (l : List Asrt), vs = [.ref a, .int k] ∧ Star (scr K a ns :: l) H ∧ (0 ≤ k) ∧ (∀ (H' : Hp), Star (scr K a ns :: l) H' → Q (.int (cellAt ns k)) H')
theorem c_L_cell_at {T : Txt K mg} {a : Addr} {ns : List Int} {k : Int} {L l : List Asrt} {H : Hp} {Q : VK} {E : XK} (S : Star L H) (P0 : Pull (scr K a ns) L l) (pre : 0 ≤ k) (q : (∀ (H' : Hp), Star (scr K a ns :: l) H' → Q (.int (cellAt ns k)) H')) : kCall (sp_L_cell_at T) [.ref a, .int k] H Q E := ⟨a, ns, k, l, rfl, (S.pull P0), pre, q⟩
local macro_rules | `(tactic| walk_at "cl") => `(tactic| ((with_reducible refine c_L_cell_at S (by walk_at "P") (by walk_at "pre") (fun  H2 S2 => ?_)) <;> walk_at "nS"))
theorem ok_L_cell_at (T : Txt K mg) : FnOk P w K mg base (L2.CX P w) 1 T.f_L_cell_at T.fd_L_cell_at ["_law_script", "_law_k"] (sp_L_cell_at T) := by
  refine T.F_L_cell_at.okX sc_L_cell_at (fun vs H Q E => by walk_at "len") (fun cdv A outer s H vs Q E hr h => ?_)
  have hu := hu_of hr
  refine ⟨_, (pss_cons (ps_if (pt_cmpR op_lt (pv 1) (pe_callB (callLen (K := K) rfl) (by rfl) T.z_len (by decide +kernel) (pa_cons (pv 0) pa_nil)) (nomark _)) (pss_one (ps_ret (pe_ix (ixL (K := K) rfl) (pv 0) (pv 1) (fun _ _ => rfl)))) pss_nil)
      (pss_one (ps_ret pe_int))), ?_⟩
  obtain ⟨a, ns, k, l, rfl, S, pre, q⟩ := h
  walk_at "go0"
  refine if_d (fun h => ?_) (fun h => ?_)
  · walk_at "go"
    refine r_ixScr S (by walk_at "P") (atI_script pre h) ?_
    exact q _ S
  · walk_at "go"
    rw [cellAt_beyond h] at q
    exact q _ S
def spLaw (K : PySem.W.Frag) : Sp := fun vs H Q _ => ∃ (a : Addr) (ns : List Int), vs = [.ref a] ∧ Star [scr K a ns] H ∧ ns.length ≤ 63 ∧ (∀ z ∈ ns, Builtin.Int.intBits z ≤ 1048576) ∧ ∀ H', Q (.bl true) H'
abbrev shp {K : PySem.W.Frag} {mg : Str → Option Value} (T : Txt K mg) (a dx : Addr) (lv fn gr : Int) : Asrt := pt a (.ins T.C_Shape dx [("levels", .int lv), ("fan", .int fn), ("grain", .int gr)])
local macro_rules | `(tactic| walk_at "gs") => `(tactic| (unfold goodS; omega))
local macro_rules | `(tactic| walk_at "pre") => `(tactic| walk_at "gs")
def sp_is_whole {K : PySem.W.Frag} {mg : Str → Option Value} (T : Txt K mg) : Sp := fun vs H Q E => ∃ (i : Int) (l : List Asrt), vs = [.int i] ∧ Star (l) H ∧ (True) ∧ (∀ (H' : Hp), Star (l) H' → Q (.bl true) H')
theorem c_is_whole {T : Txt K mg} {i : Int} {l : List Asrt} {H : Hp} {Q : VK} {E : XK} (S : Star l H) (pre : True) (q : (∀ (H' : Hp), Star (l) H' → Q (.bl true) H')) : kCall (sp_is_whole T) [.int i] H Q E := ⟨i, l, rfl, S, pre, q⟩
local macro_rules | `(tactic| walk_at "cl") => `(tactic| ((with_reducible refine c_is_whole S (by walk_at "pre") (fun  H2 S2 => ?_)) <;> walk_at "nS"))
theorem ok_is_whole (T : Txt K mg) : FnOk P w K mg base (L2.CX P w) 1 T.f_is_whole T.fd_is_whole ["thing"] (sp_is_whole T) := by
  refine T.F_is_whole.okX sc_is_whole (fun vs H Q E => by walk_at "len") (fun cdv A outer s H vs Q E hr h => ?_)
  have hu := hu_of hr
  refine ⟨_, (pss_one (ps_ret (pe_and (pe_callB (callIsi (K := K) rfl) (by rfl) T.z_isinstance (by decide +kernel) (pa_cons (pv 0) (pa_cons (pe_bltn (v := .ty "int") (by rfl) T.z_int (by decide +kernel) rfl) pa_nil))) (pe_one (pe_not (pe_callB (callIsi (K := K) rfl) (by rfl) T.z_isinstance (by decide +kernel) (pa_cons (pv 0) (pa_cons (pe_bltn (v := .ty "bool") (by rfl) T.z_bool (by decide +kernel) rfl) pa_nil)))))))), ?_⟩
  obtain ⟨i, l, rfl, S, pre, q⟩ := h
  walk_at "go0"
  exact q _ S
def sp_is_within {K : PySem.W.Frag} {mg : Str → Option Value} (T : Txt K mg) : Sp := fun vs H Q E => ∃ (i lo hi : Int) (l : List Asrt), vs = [.int i, .int lo, .int hi] ∧ Star (l) H ∧ (True) ∧ (∀ (H' : Hp), Star (l) H' → Q (.bl (decide (lo ≤ i ∧ i ≤ hi))) H')
theorem c_is_within {T : Txt K mg} {i lo hi : Int} {l : List Asrt} {H : Hp} {Q : VK} {E : XK} (S : Star l H) (pre : True) (q : (∀ (H' : Hp), Star (l) H' → Q (.bl (decide (lo ≤ i ∧ i ≤ hi))) H')) : kCall (sp_is_within T) [.int i, .int lo, .int hi] H Q E := ⟨i, lo, hi, l, rfl, S, pre, q⟩
local macro_rules | `(tactic| walk_at "cl") => `(tactic| ((with_reducible refine c_is_within S (by walk_at "pre") (fun  H2 S2 => ?_)) <;> walk_at "nS"))
theorem ok_is_within (T : Txt K mg) : FnOk P w K mg base (L2.CX P w) 2 T.f_is_within T.fd_is_within ["thing", "low", "high"] (sp_is_within T) := by
  refine T.F_is_within.okX sc_is_within (fun vs H Q E => by walk_at "len") (fun cdv A outer s H vs Q E hr h => ?_)
  have hu := hu_of hr
  refine ⟨_, (pss_one (ps_ret (pe_and (pe_cl (ok_is_whole T) (hr.mono (by decide)) T.mg_is_whole T.kp_is_whole T.b_is_whole_1 .nil (fun _ => pass0At) (pa_cons (pv 0) pa_nil)) (pe_one (pe_chain op_le op_le (pv 1) (pv 0) (pv 2)))))), ?_⟩
  obtain ⟨i, lo, hi, l, rfl, S, pre, q⟩ := h
  walk_at "go0"
  refine if_d (fun h1 => ?_) (fun h1 => ?_)
  · walk_at "go"
    have e : decide (lo ≤ i ∧ i ≤ hi) = decide (i ≤ hi) := by simp [h1]
    rw [e] at q; exact q _ (by assumption)
  · have e : decide (lo ≤ i ∧ i ≤ hi) = false := by simp [h1]
    rw [e] at q; exact q _ (by assumption)
def sp_Shape_init {K : PySem.W.Frag} {mg : Str → Option Value} (T : Txt K mg) : Sp := fun vs H Q E => ∃ (a dx : Addr) (lv fn gr : Int) (l : List Asrt), vs = [.ref a, .int lv, .int fn, .int gr] ∧ Star (pt a (.ins T.C_Shape dx []) :: l) H ∧ (goodS lv fn gr) ∧ (∀ (H' : Hp), Star (shp T a dx lv fn gr :: l) H' → Q (.non) H')
theorem c_Shape_init {T : Txt K mg} {a dx : Addr} {lv fn gr : Int} {L l : List Asrt} {H : Hp} {Q : VK} {E : XK} (S : Star L H) (P0 : Pull (pt a (.ins T.C_Shape dx [])) L l) (pre : goodS lv fn gr) (q : (∀ (H' : Hp), Star (shp T a dx lv fn gr :: l) H' → Q (.non) H')) : kCall (sp_Shape_init T) [.ref a, .int lv, .int fn, .int gr] H Q E := ⟨a, dx, lv, fn, gr, l, rfl, (S.pull P0), pre, q⟩
local macro_rules | `(tactic| walk_at "cl") => `(tactic| ((with_reducible refine c_Shape_init S (by walk_at "P") (by walk_at "pre") (fun  H2 S2 => ?_)) <;> walk_at "nS"))
theorem ok_Shape_init (T : Txt K mg) : FnOk P w K mg base (L2.CX P w) 3 T.f_Shape_init T.fd_Shape_init ["self", "levels", "fan", "grain"] (sp_Shape_init T) := by
  refine T.F_Shape_init.okX sc_Shape_init (fun vs H Q E => by walk_at "len") (fun cdv A outer s H vs Q E hr h => ?_)
  have hu := hu_of hr
  refine ⟨_, (pss_cons (ps_if (PW.pt (pw_or (pt_not (pt_val (pe_cl (ok_is_within T) (hr.mono (by decide)) T.mg_is_within T.kp_is_within T.b_is_within_3 .nil (fun σ => passW (takes_of rfl rfl rfl rfl) σ) (pa_cons (pv 1) (pa_cons pe_int (pa_cons pe_int pa_nil)))))) (pw_or (pt_not (pt_val (pe_cl (ok_is_within T) (hr.mono (by decide)) T.mg_is_within T.kp_is_within T.b_is_within_3 .nil (fun σ => passW (takes_of rfl rfl rfl rfl) σ) (pa_cons (pv 2) (pa_cons pe_int (pa_cons pe_int pa_nil)))))) (pw_or1 (pt_not (pt_val (pe_cl (ok_is_within T) (hr.mono (by decide)) T.mg_is_within T.kp_is_within T.b_is_within_3 .nil (fun σ => passW (takes_of rfl rfl rfl rfl) σ) (pa_cons (pv 3) (pa_cons pe_int (pa_cons pe_int pa_nil)))))))))) (pss_one (ps_raiseC rfl (takes_of rfl rfl rfl rfl) PySem.F.excBase_ValueError T.xx_NoShape T.mg_NoShape T.xk_NoShape (raises_own T.xb_NoShape T.xt_NoShape) (by rfl))) pss_nil)
      (pss_cons (ps_fldC T.cl_Shape T.na_Shape_levels (pv 0) (pv 1))
      (pss_cons (ps_fldC T.cl_Shape T.na_Shape_fan (pv 0) (pv 2))
      (pss_one (ps_fldC T.cl_Shape T.na_Shape_grain (pv 0) (pv 3)))))), ?_⟩
  obtain ⟨a, dx, lv, fn, gr, l, rfl, S, pre, q⟩ := h
  obtain ⟨g1, g2, g3, g4, g5, g6⟩ := pre
  walk_at "go0"
  exact q _ (by assumption)
def sp_Shape_sheet_size {K : PySem.W.Frag} {mg : Str → Option Value} (T : Txt K mg) : Sp := fun vs H Q E => ∃ (a dx : Addr) (lv fn gr : Int) (l : List Asrt), vs = [.ref a] ∧ Star (shp T a dx lv fn gr :: l) H ∧ (goodS lv fn gr) ∧ (∀ (H' : Hp), Star (shp T a dx lv fn gr :: l) H' → Q (.int (szs gr)) H')
theorem c_Shape_sheet_size {T : Txt K mg} {a dx : Addr} {lv fn gr : Int} {L l : List Asrt} {H : Hp} {Q : VK} {E : XK} (S : Star L H) (P0 : Pull (shp T a dx lv fn gr) L l) (pre : goodS lv fn gr) (q : (∀ (H' : Hp), Star (shp T a dx lv fn gr :: l) H' → Q (.int (szs gr)) H')) : kCall (sp_Shape_sheet_size T) [.ref a] H Q E := ⟨a, dx, lv, fn, gr, l, rfl, (S.pull P0), pre, q⟩
local macro_rules | `(tactic| walk_at "cl") => `(tactic| ((with_reducible refine c_Shape_sheet_size S (by walk_at "P") (by walk_at "pre") (fun  H2 S2 => ?_)) <;> walk_at "nS"))
theorem ok_Shape_sheet_size (T : Txt K mg) : FnOk P w K mg base (L2.CX P w) 1 T.f_Shape_sheet_size T.fd_Shape_sheet_size ["self"] (sp_Shape_sheet_size T) := by
  refine T.F_Shape_sheet_size.okX sc_Shape_sheet_size (fun vs H Q E => by walk_at "len") (fun cdv A outer s H vs Q E hr h => ?_)
  have hu := hu_of hr
  refine ⟨_, (pss_one (ps_ret (pe_op op_shl pe_int (pe_fldC T.cl_Shape T.na_Shape_grain (pv 0))))), ?_⟩
  obtain ⟨a, dx, lv, fn, gr, l, rfl, S, pre, q⟩ := h
  walk_at "go0"
  refine r_I ⟨by have := pre.2.2.2.2.1; omega, by have := pre.2.2.2.2.2; omega, by decide⟩ ?_
  rw [Int.one_mul]
  exact q _ S
def sp_Shape_page_count {K : PySem.W.Frag} {mg : Str → Option Value} (T : Txt K mg) : Sp := fun vs H Q E => ∃ (a dx : Addr) (lv fn gr : Int) (l : List Asrt), vs = [.ref a] ∧ Star (shp T a dx lv fn gr :: l) H ∧ (goodS lv fn gr) ∧ (∀ (H' : Hp), Star (shp T a dx lv fn gr :: l) H' → Q (.int (pgs lv fn)) H')
theorem c_Shape_page_count {T : Txt K mg} {a dx : Addr} {lv fn gr : Int} {L l : List Asrt} {H : Hp} {Q : VK} {E : XK} (S : Star L H) (P0 : Pull (shp T a dx lv fn gr) L l) (pre : goodS lv fn gr) (q : (∀ (H' : Hp), Star (shp T a dx lv fn gr :: l) H' → Q (.int (pgs lv fn)) H')) : kCall (sp_Shape_page_count T) [.ref a] H Q E := ⟨a, dx, lv, fn, gr, l, rfl, (S.pull P0), pre, q⟩
local macro_rules | `(tactic| walk_at "cl") => `(tactic| ((with_reducible refine c_Shape_page_count S (by walk_at "P") (by walk_at "pre") (fun  H2 S2 => ?_)) <;> walk_at "nS"))
theorem ok_Shape_page_count (T : Txt K mg) : FnOk P w K mg base (L2.CX P w) 1 T.f_Shape_page_count T.fd_Shape_page_count ["self"] (sp_Shape_page_count T) := by
  refine T.F_Shape_page_count.okX sc_Shape_page_count (fun vs H Q E => by walk_at "len") (fun cdv A outer s H vs Q E hr h => ?_)
  have hu := hu_of hr
  refine ⟨_, (pss_one (ps_ret (pe_op op_shl pe_int (pe_op op_mul (pe_fldC T.cl_Shape T.na_Shape_levels (pv 0)) (pe_fldC T.cl_Shape T.na_Shape_fan (pv 0)))))), ?_⟩
  obtain ⟨a, dx, lv, fn, gr, l, rfl, S, pre, q⟩ := h
  walk_at "go0"
  have hm := goodS_mul pre
  refine r_I (.inl ⟨by have := pre.1; omega, by have := pre.2.1; omega⟩) ?_
  refine r_I ⟨by omega, by omega, by decide⟩ ?_
  rw [Int.one_mul]
  exact q _ S
def sp_Shape_parted {K : PySem.W.Frag} {mg : Str → Option Value} (T : Txt K mg) : Sp := fun vs H Q E => ∃ (a dx : Addr) (lv fn gr ad : Int) (l : List Asrt), vs = [.ref a, .int ad] ∧ Star (shp T a dx lv fn gr :: l) H ∧ (goodS lv fn gr) ∧ (∀ (t : Addr) (H' : Hp), ¬ (¬ (0 ≤ ad ∧ ad < pgs lv fn * szs gr)) → Star (pt t (.tup [.int (ad / szs gr), .int (ad % szs gr)]) :: shp T a dx lv fn gr :: l) H' → Q (.ref t) H') ∧ ((¬ (0 ≤ ad ∧ ad < pgs lv fn * szs gr)) → ∀ (H' : Hp), Star (shp T a dx lv fn gr :: l) H' → E (.ref T.C_OutOfRoom) none H')
theorem c_Shape_parted {T : Txt K mg} {a dx : Addr} {lv fn gr ad : Int} {L l : List Asrt} {H : Hp} {Q : VK} {E : XK} (S : Star L H) (P0 : Pull (shp T a dx lv fn gr) L l) (pre : goodS lv fn gr) (q : (∀ (t : Addr) (H' : Hp), ¬ (¬ (0 ≤ ad ∧ ad < pgs lv fn * szs gr)) → Star (pt t (.tup [.int (ad / szs gr), .int (ad % szs gr)]) :: shp T a dx lv fn gr :: l) H' → Q (.ref t) H')) (q1 : ((¬ (0 ≤ ad ∧ ad < pgs lv fn * szs gr)) → ∀ (H' : Hp), Star (shp T a dx lv fn gr :: l) H' → E (.ref T.C_OutOfRoom) none H')) : kCall (sp_Shape_parted T) [.ref a, .int ad] H Q E := ⟨a, dx, lv, fn, gr, ad, l, rfl, (S.pull P0), pre, q, q1⟩
local macro_rules | `(tactic| walk_at "cl") => `(tactic| ((with_reducible refine c_Shape_parted S (by walk_at "P") (by walk_at "pre") (fun ot H2 hn0 S2 => ?_) (fun hx H2 S2 => ?_)) <;> walk_at "nS"))
theorem ok_Shape_parted (T : Txt K mg) : FnOk P w K mg base (L2.CX P w) 2 T.f_Shape_parted T.fd_Shape_parted ["self", "address"] (sp_Shape_parted T) := by
  refine T.F_Shape_parted.okX sc_Shape_parted (fun vs H Q E => by walk_at "len") (fun cdv A outer s H vs Q E hr h => ?_)
  have hu := hu_of hr
  refine ⟨_, (pss_cons (ps_if (pt_not (pt_chain op_le op_lt pe_int (pv 1) (pe_op op_shl (pe_mt0 (pv 0) T.cl_Shape T.m_Shape_page_count (ok_Shape_page_count T) (hr.mono (by decide)) T.b_Shape_page_count_1 .nil (fun σ => passW (takes_of rfl rfl rfl rfl) σ)) (pe_fldC T.cl_Shape T.na_Shape_grain (pv 0))))) (pss_one (ps_raiseC rfl (takes_of rfl rfl rfl rfl) PySem.F.excBase_ValueError T.xx_OutOfRoom T.mg_OutOfRoom T.xk_OutOfRoom (raises_own T.xb_OutOfRoom T.xt_OutOfRoom) (by rfl))) pss_nil)
      (pss_one (ps_ret (pe_tup (pa_cons (pe_op op_shr (pv 1) (pe_fldC T.cl_Shape T.na_Shape_grain (pv 0))) (pa_cons (pe_op op_and (pv 1) (pe_op op_sub (pe_mt0 (pv 0) T.cl_Shape T.m_Shape_sheet_size (ok_Shape_sheet_size T) (hr.mono (by decide)) T.b_Shape_sheet_size_1 .nil (fun σ => passW (takes_of rfl rfl rfl rfl) σ)) pe_int)) pa_nil)))))), ?_⟩
  obtain ⟨a, dx, lv, fn, gr, ad, l, rfl, S, pre, q, q1⟩ := h
  have hp := pgs_b pre
  have g5 : 0 ≤ gr := pre.2.2.2.2.1
  have g6 : gr ≤ 4 := pre.2.2.2.2.2
  walk_at "go0"
  refine if_d (fun h1 => ?_) (fun h1 => ?_)
  · walk_at "go"
    refine r_I ⟨g5, by omega, by omega⟩ ?_
    rw [show pgs lv fn * 2 ^ gr.toNat = pgs lv fn * szs gr from rfl]
    walk_at "go"
    refine if_nd (fun h2 => ?_) (fun h2 => ?_)
    · walk_at "go"
      exact q1 (by omega) _ (by assumption)
    walk_at "go"
    rw [show Builtin.bitAnd ad (szs gr - 1) = ad % szs gr from Bits.bitAnd_mask gr.toNat h1] at S
    exact q _ _ (by omega) S
  · walk_at "go"
    exact q1 (by omega) _ (by assumption)
def sp_Shape_address {K : PySem.W.Frag} {mg : Str → Option Value} (T : Txt K mg) : Sp := fun vs H Q E => ∃ (a dx : Addr) (lv fn gr p b : Int) (l : List Asrt), vs = [.ref a, .int p, .int b] ∧ Star (shp T a dx lv fn gr :: l) H ∧ (goodS lv fn gr) ∧ (∀ (H' : Hp), ¬ (¬ (0 ≤ p ∧ p < pgs lv fn ∧ 0 ≤ b ∧ b < szs gr)) → Star (shp T a dx lv fn gr :: l) H' → Q (.int (p * szs gr + b)) H') ∧ ((¬ (0 ≤ p ∧ p < pgs lv fn ∧ 0 ≤ b ∧ b < szs gr)) → ∀ (H' : Hp), Star (shp T a dx lv fn gr :: l) H' → E (.ref T.C_OutOfRoom) none H')
theorem c_Shape_address {T : Txt K mg} {a dx : Addr} {lv fn gr p b : Int} {L l : List Asrt} {H : Hp} {Q : VK} {E : XK} (S : Star L H) (P0 : Pull (shp T a dx lv fn gr) L l) (pre : goodS lv fn gr) (q : (∀ (H' : Hp), ¬ (¬ (0 ≤ p ∧ p < pgs lv fn ∧ 0 ≤ b ∧ b < szs gr)) → Star (shp T a dx lv fn gr :: l) H' → Q (.int (p * szs gr + b)) H')) (q1 : ((¬ (0 ≤ p ∧ p < pgs lv fn ∧ 0 ≤ b ∧ b < szs gr)) → ∀ (H' : Hp), Star (shp T a dx lv fn gr :: l) H' → E (.ref T.C_OutOfRoom) none H')) : kCall (sp_Shape_address T) [.ref a, .int p, .int b] H Q E := ⟨a, dx, lv, fn, gr, p, b, l, rfl, (S.pull P0), pre, q, q1⟩
local macro_rules | `(tactic| walk_at "cl") => `(tactic| ((with_reducible refine c_Shape_address S (by walk_at "P") (by walk_at "pre") (fun  H2 hn0 S2 => ?_) (fun hx H2 S2 => ?_)) <;> walk_at "nS"))
theorem ok_Shape_address (T : Txt K mg) : FnOk P w K mg base (L2.CX P w) 2 T.f_Shape_address T.fd_Shape_address ["self", "page", "box"] (sp_Shape_address T) := by
  refine T.F_Shape_address.okX sc_Shape_address (fun vs H Q E => by walk_at "len") (fun cdv A outer s H vs Q E hr h => ?_)
  have hu := hu_of hr
  refine ⟨_, (pss_cons (ps_if (PW.pt (pw_or (pt_not (pt_chain op_le op_lt pe_int (pv 1) (pe_mt0 (pv 0) T.cl_Shape T.m_Shape_page_count (ok_Shape_page_count T) (hr.mono (by decide)) T.b_Shape_page_count_1 .nil (fun σ => passW (takes_of rfl rfl rfl rfl) σ)))) (pw_or1 (pt_not (pt_chain op_le op_lt pe_int (pv 2) (pe_mt0 (pv 0) T.cl_Shape T.m_Shape_sheet_size (ok_Shape_sheet_size T) (hr.mono (by decide)) T.b_Shape_sheet_size_1 .nil (fun σ => passW (takes_of rfl rfl rfl rfl) σ))))))) (pss_one (ps_raiseC rfl (takes_of rfl rfl rfl rfl) PySem.F.excBase_ValueError T.xx_OutOfRoom T.mg_OutOfRoom T.xk_OutOfRoom (raises_own T.xb_OutOfRoom T.xt_OutOfRoom) (by rfl))) pss_nil)
      (pss_one (ps_ret (pe_op opOrL (pe_op op_shl (pv 1) (pe_fldC T.cl_Shape T.na_Shape_grain (pv 0))) (pv 2))))), ?_⟩
  obtain ⟨a, dx, lv, fn, gr, p, b, l, rfl, S, pre, q, q1⟩ := h
  have hp := pgs_b pre
  have g5 : 0 ≤ gr := pre.2.2.2.2.1
  have g6 : gr ≤ 4 := pre.2.2.2.2.2
  walk_at "go0"
  refine if_d (fun h1 => ?_) (fun h1 => ?_)
  rotate_left
  · walk_at "go"
    exact q1 (by omega) _ (by assumption)
  walk_at "go"
  refine kOr_sp (fun h2 => ?_) (fun h2 => ?_)
  rotate_left
  · rw [Bool.not_eq_true', decide_eq_false_iff_not] at h2
    walk_at "go"
    exact q1 (by omega) _ (by assumption)
  rw [Bool.not_eq_false', decide_eq_true_eq] at h2
  walk_at "go"
  refine if_d (fun h3 => ?_) (fun h3 => ?_)
  rotate_left
  · walk_at "go"
    exact q1 (by omega) _ (by assumption)
  walk_at "go"
  refine if_nd (fun h4 => ?_) (fun h4 => ?_)
  · walk_at "go"
    exact q1 (by omega) _ (by assumption)
  walk_at "go"
  refine r_I ⟨g5, by omega, by omega⟩ ?_
  walk_at "go"
  refine r_orL (k := gr.toNat) ⟨h1, h3, h4⟩ ?_
  walk_at "go"
  exact q _ (by omega) (by assumption)
def sp_Shape_steps {K : PySem.W.Frag} {mg : Str → Option Value} (T : Txt K mg) : Sp := fun vs H Q E => ∃ (a dx : Addr) (lv fn gr p : Int) (l : List Asrt), vs = [.ref a, .int p] ∧ Star (shp T a dx lv fn gr :: l) H ∧ (goodS lv fn gr) ∧ (∀ (r : Addr) (H' : Hp), ¬ (¬ (0 ≤ p ∧ p < pgs lv fn)) → Star (pt r (.lst ((stepsL lv fn p).map V.int)) :: shp T a dx lv fn gr :: l) H' → Q (.ref r) H') ∧ ((¬ (0 ≤ p ∧ p < pgs lv fn)) → ∀ (H' : Hp), Star (shp T a dx lv fn gr :: l) H' → E (.ref T.C_OutOfRoom) none H')
theorem c_Shape_steps {T : Txt K mg} {a dx : Addr} {lv fn gr p : Int} {L l : List Asrt} {H : Hp} {Q : VK} {E : XK} (S : Star L H) (P0 : Pull (shp T a dx lv fn gr) L l) (pre : goodS lv fn gr) (q : (∀ (r : Addr) (H' : Hp), ¬ (¬ (0 ≤ p ∧ p < pgs lv fn)) → Star (pt r (.lst ((stepsL lv fn p).map V.int)) :: shp T a dx lv fn gr :: l) H' → Q (.ref r) H')) (q1 : ((¬ (0 ≤ p ∧ p < pgs lv fn)) → ∀ (H' : Hp), Star (shp T a dx lv fn gr :: l) H' → E (.ref T.C_OutOfRoom) none H')) : kCall (sp_Shape_steps T) [.ref a, .int p] H Q E := ⟨a, dx, lv, fn, gr, p, l, rfl, (S.pull P0), pre, q, q1⟩
local macro_rules | `(tactic| walk_at "cl") => `(tactic| ((with_reducible refine c_Shape_steps S (by walk_at "P") (by walk_at "pre") (fun or H2 hn0 S2 => ?_) (fun hx H2 S2 => ?_)) <;> walk_at "nS"))
theorem ok_Shape_steps (T : Txt K mg) : FnOk P w K mg base (L2.CX P w) 2 T.f_Shape_steps T.fd_Shape_steps ["self", "page"] (sp_Shape_steps T) := by
  refine T.F_Shape_steps.okX sc_Shape_steps (fun vs H Q E => by walk_at "len") (fun cdv A outer s H vs Q E hr h => ?_)
  have hu := hu_of hr
  refine ⟨_, (pss_cons (ps_if (pt_not (pt_chain op_le op_lt pe_int (pv 1) (pe_mt0 (pv 0) T.cl_Shape T.m_Shape_page_count (ok_Shape_page_count T) (hr.mono (by decide)) T.b_Shape_page_count_1 .nil (fun σ => passW (takes_of rfl rfl rfl rfl) σ)))) (pss_one (ps_raiseC rfl (takes_of rfl rfl rfl rfl) PySem.F.excBase_ValueError T.xx_OutOfRoom T.mg_OutOfRoom T.xk_OutOfRoom (raises_own T.xb_OutOfRoom T.xt_OutOfRoom) (by rfl))) pss_nil)
      (pss_cons (ps_set (i := 2) sc_Shape_steps.nd rfl (Or.inl rfl) (pe_op op_sub (pe_op op_shl pe_int (pe_fldC T.cl_Shape T.na_Shape_fan (pv 0))) pe_int))
      (pss_cons (ps_set (i := 3) sc_Shape_steps.nd rfl (Or.inl rfl) (pe_lst pa_nil))
      (pss_cons (ps_for (passes_of rfl) rfl (pi_range1 (by rfl) T.z_range (pa_cons (pe_fldC T.cl_Shape T.na_Shape_levels (pv 0)) pa_nil)) (pg_name (i := 4) sc_Shape_steps.nd rfl (Or.inl rfl)) (pss_one (ps_expr (pe_bm PySem.F.plainAttrs_list PySem.F.slot_list_append PySem.F.type_list_append mt_append (pv 3) (pa_cons (pe_op op_and (pe_op op_shr (pv 1) (pe_op op_mul (pe_fldC T.cl_Shape T.na_Shape_fan (pv 0)) (pe_op op_sub (pe_op op_sub (pe_fldC T.cl_Shape T.na_Shape_levels (pv 0)) pe_int) (pv 4)))) (pv 2)) pa_nil)))))
      (pss_one (ps_ret (pv 3))))))), ?_⟩
  obtain ⟨a, dx, lv, fn, gr, p, l, rfl, S, pre, q, q1⟩ := h
  have hp := pgs_b pre
  have gg := pre
  obtain ⟨g1, g2, g3, g4, g5, g6⟩ := gg
  walk_at "go0"
  refine if_d (fun h1 => ?_) (fun h1 => ?_)
  rotate_left
  · walk_at "go"
    exact q1 (by omega) _ (by assumption)
  walk_at "go"
  refine if_nd (fun h2 => ?_) (fun h2 => ?_)
  · walk_at "go"
    exact q1 (by omega) _ (by assumption)
  walk_at "go"
  rw [Int.one_mul, show (2 : Int) ^ fn.toNat = wid fn from rfl]
  refine fl_indR0 (fun k σ H => ∃ x4, σ = [some (.ref a), some (.int p), some (.int (wid fn - 1)), some (.ref np), x4] ∧ Star (pt np (.lst (((List.range k).map (stepAt lv fn p)).map V.int)) :: shp T a dx lv fn gr :: l) H) ⟨_, rfl, S⟩ ?_ ?_
  · rintro σ H ⟨x4, rfl, S⟩
    refine ⟨by walk_at "G", ?_⟩
    walk_at "go"
    exact q _ _ (by omega) S
  · rintro k σ H hk ⟨x4, rfl, S⟩ N hN
    have hz : k ≤ 3 := by omega
    refine ⟨by walk_at "G", ?_⟩
    walk_at "go"
    have hm : 0 ≤ fn * (lv - 1 - k) := Int.mul_nonneg (by omega) (by omega)
    refine r_I hm ?_
    walk_at "go"
    rw [show wid fn - 1 = 2 ^ fn.toNat - 1 from rfl, Bits.bitAnd_mask _ (Int.ediv_nonneg h1 (Int.le_of_lt (p2pos _)))]
    walk_at "go"
    refine r_append S (by walk_at "P") (Evl.sz_lt (by simp; omega)) rfl (fun H2 S2 => ?_); walk_at "nS"
    walk_at "go"
    exact hN _ _ ⟨_, rfl, by rw [List.range_succ, List.map_append, List.map_append]; exact S⟩
def sp_Shape_page_of {K : PySem.W.Frag} {mg : Str → Option Value} (T : Txt K mg) : Sp := fun vs H Q E => ∃ (a dx s : Addr) (lv fn gr : Int) (ds : List Int) (l : List Asrt), vs = [.ref a, .ref s] ∧ Star (shp T a dx lv fn gr :: pt s (.lst (ds.map V.int)) :: l) H ∧ (goodS lv fn gr) ∧ (∀ (H' : Hp), ¬ (¬ okSteps lv fn ds) → Star (shp T a dx lv fn gr :: pt s (.lst (ds.map V.int)) :: l) H' → Q (.int (pageOf fn ds)) H') ∧ ((¬ okSteps lv fn ds) → ∀ (H' : Hp), Star (shp T a dx lv fn gr :: pt s (.lst (ds.map V.int)) :: l) H' → E (.ref T.C_OutOfRoom) none H')
theorem c_Shape_page_of {T : Txt K mg} {a dx s : Addr} {lv fn gr : Int} {ds : List Int} {L l0 l : List Asrt} {H : Hp} {Q : VK} {E : XK} (S : Star L H) (P0 : Pull (shp T a dx lv fn gr) L l0) (P1 : Pull (pt s (.lst (ds.map V.int))) l0 l) (pre : goodS lv fn gr) (q : (∀ (H' : Hp), ¬ (¬ okSteps lv fn ds) → Star (shp T a dx lv fn gr :: pt s (.lst (ds.map V.int)) :: l) H' → Q (.int (pageOf fn ds)) H')) (q1 : ((¬ okSteps lv fn ds) → ∀ (H' : Hp), Star (shp T a dx lv fn gr :: pt s (.lst (ds.map V.int)) :: l) H' → E (.ref T.C_OutOfRoom) none H')) : kCall (sp_Shape_page_of T) [.ref a, .ref s] H Q E := ⟨a, dx, s, lv, fn, gr, ds, l, rfl, ((S.pull P0).under fun _ S => (S.pull P1)), pre, q, q1⟩
local macro_rules | `(tactic| walk_at "cl") => `(tactic| ((with_reducible refine c_Shape_page_of S (by walk_at "P") (by walk_at "P") (by walk_at "pre") (fun  H2 hn0 S2 => ?_) (fun hx H2 S2 => ?_)) <;> walk_at "nS"))
theorem ok_Shape_page_of (T : Txt K mg) : FnOk P w K mg base (L2.CX P w) 1 T.f_Shape_page_of T.fd_Shape_page_of ["self", "steps"] (sp_Shape_page_of T) := by
  refine T.F_Shape_page_of.okX sc_Shape_page_of (fun vs H Q E => by walk_at "len") (fun cdv A outer s H vs Q E hr h => ?_)
  have hu := hu_of hr
  refine ⟨_, (pss_cons (ps_if (pt_cmpR op_ne (pe_callB (callLen (K := K) rfl) (by rfl) T.z_len (by decide +kernel) (pa_cons (pv 1) pa_nil)) (pe_fldC T.cl_Shape T.na_Shape_levels (pv 0)) (nomark _)) (pss_one (ps_raiseC rfl (takes_of rfl rfl rfl rfl) PySem.F.excBase_ValueError T.xx_OutOfRoom T.mg_OutOfRoom T.xk_OutOfRoom (raises_own T.xb_OutOfRoom T.xt_OutOfRoom) (by rfl))) pss_nil)
      (pss_cons (ps_set (i := 2) sc_Shape_page_of.nd rfl (Or.inl rfl) pe_int)
      (pss_cons (ps_for (passes_of rfl) rfl (piList (K := K) rfl (pv 1)) (pg_name (i := 3) sc_Shape_page_of.nd rfl (Or.inl rfl)) (pss_cons (ps_if (pt_not (pt_chain op_le op_lt pe_int (pv 3) (pe_op op_shl pe_int (pe_fldC T.cl_Shape T.na_Shape_fan (pv 0))))) (pss_one (ps_raiseC rfl (takes_of rfl rfl rfl rfl) PySem.F.excBase_ValueError T.xx_OutOfRoom T.mg_OutOfRoom T.xk_OutOfRoom (raises_own T.xb_OutOfRoom T.xt_OutOfRoom) (by rfl))) pss_nil)
      (pss_one (ps_set (i := 2) sc_Shape_page_of.nd rfl (Or.inl rfl) (pe_op opOrL (pe_op op_shl (pv 2) (pe_fldC T.cl_Shape T.na_Shape_fan (pv 0))) (pv 3))))))
      (pss_one (ps_ret (pv 2)))))), ?_⟩
  obtain ⟨a, dx, s, lv, fn, gr, ds, l, rfl, S, pre, q, q1⟩ := h
  have gg := pre
  obtain ⟨g1, g2, g3, g4, g5, g6⟩ := gg
  have hw := wid_b pre
  walk_at "go0"
  refine if_nd (fun h1 => ?_) (fun h1 => ?_)
  · walk_at "go"
    exact q1 (fun z => h1 z.1) _ (by walk_at "K")
  walk_at "go"
  refine fl_indM (fun r σ H => ∃ x3 done, σ = [some (.ref a), some (.ref s), some (.int (pageOf fn done)), x3] ∧ ds = done ++ r ∧ (∀ d ∈ done, 0 ≤ d ∧ d < wid fn) ∧ Star (shp T a dx lv fn gr :: pt s (.lst (ds.map V.int)) :: l) H) ⟨none, [], rfl, rfl, by simp, by walk_at "K"⟩ ?_ ?_
  · rintro σ H ⟨x3, done, rfl, e, hd, S⟩
    rw [List.append_nil] at e
    subst e
    refine ⟨by walk_at "G", ?_⟩
    walk_at "go"
    exact q _ (fun z => z ⟨h1, hd⟩) (by walk_at "K")
  · rintro x r σ H ⟨x3, done, rfl, e, hd, S⟩ N hN
    have hp := pageOf_64 (ds := done) pre (by have := congrArg List.length e; rw [List.length_append] at this; omega) hd
    refine ⟨by walk_at "G", ?_⟩
    walk_at "go"
    refine if_d (fun h2 => ?_) (fun h2 => ?_)
    rotate_left
    · walk_at "go"
      exact q1 (fun z => by have := z.2 x (by rw [e]; simp); omega) _ (by walk_at "K")
    walk_at "go"
    rw [Int.one_mul, show (2 : Int) ^ fn.toNat = wid fn from rfl]
    refine if_nd (fun h3 => ?_) (fun h3 => ?_)
    · walk_at "go"
      exact q1 (fun z => by have := z.2 x (by rw [e]; simp); omega) _ (by walk_at "K")
    walk_at "go"
    refine r_I ⟨by omega, by omega, by omega⟩ ?_
    walk_at "go"
    refine r_orL (k := fn.toNat) ⟨hp.1, h2, h3⟩ ?_
    walk_at "go"
    refine hN _ _ ⟨_, done ++ [x], by rw [pageOf_snoc]; rfl, by rw [e]; simp, fun d hd' => ?_, by walk_at "K"⟩
    rcases List.mem_append.mp hd' with h | h
    · exact hd d h
    · rw [List.mem_singleton] at h; subst h; exact ⟨h2, h3⟩
def sp_L_doubled {K : PySem.W.Frag} {mg : Str → Option Value} (T : Txt K mg) : Sp := fun vs H Q E => ∃ (n : Int) (l : List Asrt), vs = [.int n] ∧ Star (l) H ∧ (0 ≤ n ∧ n < 100) ∧ (∀ (H' : Hp), Star (l) H' → Q (.int (2 ^ n.toNat)) H')
theorem c_L_doubled {T : Txt K mg} {n : Int} {l : List Asrt} {H : Hp} {Q : VK} {E : XK} (S : Star l H) (pre : 0 ≤ n ∧ n < 100) (q : (∀ (H' : Hp), Star (l) H' → Q (.int (2 ^ n.toNat)) H')) : kCall (sp_L_doubled T) [.int n] H Q E := ⟨n, l, rfl, S, pre, q⟩
local macro_rules | `(tactic| walk_at "cl") => `(tactic| ((with_reducible refine c_L_doubled S (by walk_at "pre") (fun  H2 S2 => ?_)) <;> walk_at "nS"))
theorem ok_L_doubled (T : Txt K mg) : FnOk P w K mg base (L2.CX P w) 1 T.f_L_doubled T.fd_L_doubled ["_law_times"] (sp_L_doubled T) := by
  refine T.F_L_doubled.okX sc_L_doubled (fun vs H Q E => by walk_at "len") (fun cdv A outer s H vs Q E hr h => ?_)
  have hu := hu_of hr
  refine ⟨_, (pss_cons (ps_set (i := 1) sc_L_doubled.nd rfl (Or.inl rfl) pe_int)
      (pss_cons (ps_for (passes_of rfl) rfl (pi_range1 (by rfl) T.z_range (pa_cons (pv 0) pa_nil)) (pg_name (i := 2) sc_L_doubled.nd rfl (Or.inl rfl)) (pss_one (ps_set (i := 1) sc_L_doubled.nd rfl (Or.inl rfl) (pe_op op_add (pv 1) (pv 1)))))
      (pss_one (ps_ret (pv 1))))), ?_⟩
  obtain ⟨n, l, rfl, S, pre, q⟩ := h
  walk_at "go0"
  refine fl_indR0 (fun k σ H => ∃ x, σ = [some (.int n), some (.int (2 ^ k)), x] ∧ Star l H) ⟨none, rfl, S⟩ ?_ ?_
  · rintro σ H ⟨x, rfl, S⟩
    refine ⟨by walk_at "G", ?_⟩
    walk_at "go"
    exact q _ S
  · rintro k σ H hk ⟨x, rfl, S⟩ N hN
    refine ⟨by walk_at "G", ?_⟩
    walk_at "go"
    exact hN _ _ ⟨_, by rw [show (2 : Int) ^ (k + 1) = 2 ^ k + 2 ^ k by rw [Int.pow_succ]; omega], S⟩
def sp_L_whole {K : PySem.W.Frag} {mg : Str → Option Value} (T : Txt K mg) : Sp := fun vs H Q E => ∃ (i : Int) (l : List Asrt), vs = [.int i] ∧ Star (l) H ∧ (True) ∧ (∀ (H' : Hp), Star (l) H' → Q (.bl true) H')
theorem c_L_whole {T : Txt K mg} {i : Int} {l : List Asrt} {H : Hp} {Q : VK} {E : XK} (S : Star l H) (pre : True) (q : (∀ (H' : Hp), Star (l) H' → Q (.bl true) H')) : kCall (sp_L_whole T) [.int i] H Q E := ⟨i, l, rfl, S, pre, q⟩
local macro_rules | `(tactic| walk_at "cl") => `(tactic| ((with_reducible refine c_L_whole S (by walk_at "pre") (fun  H2 S2 => ?_)) <;> walk_at "nS"))
theorem ok_L_whole (T : Txt K mg) : FnOk P w K mg base (L2.CX P w) 1 T.f_L_whole T.fd_L_whole ["_law_thing"] (sp_L_whole T) := by
  refine T.F_L_whole.okX sc_L_whole (fun vs H Q E => by walk_at "len") (fun cdv A outer s H vs Q E hr h => ?_)
  have hu := hu_of hr
  refine ⟨_, (pss_one (ps_ret (pe_and (pe_callB (callIsi (K := K) rfl) (by rfl) T.z_isinstance (by decide +kernel) (pa_cons (pv 0) (pa_cons (pe_bltn (v := .ty "int") (by rfl) T.z_int (by decide +kernel) rfl) pa_nil))) (pe_one (pe_not (pe_callB (callIsi (K := K) rfl) (by rfl) T.z_isinstance (by decide +kernel) (pa_cons (pv 0) (pa_cons (pe_bltn (v := .ty "bool") (by rfl) T.z_bool (by decide +kernel) rfl) pa_nil)))))))), ?_⟩
  obtain ⟨i, l, rfl, S, pre, q⟩ := h
  walk_at "go0"
  exact q _ S
def sp_L_page {K : PySem.W.Frag} {mg : Str → Option Value} (T : Txt K mg) : Sp := fun vs H Q E => ∃ (c p : Int) (l : List Asrt), vs = [.int c, .int p] ∧ Star (l) H ∧ (0 < p) ∧ (∀ (r : Int) (H' : Hp), Star (l) H' → Q (.int r) H')
theorem c_L_page {T : Txt K mg} {c p : Int} {l : List Asrt} {H : Hp} {Q : VK} {E : XK} (S : Star l H) (pre : 0 < p) (q : (∀ (r : Int) (H' : Hp), Star (l) H' → Q (.int r) H')) : kCall (sp_L_page T) [.int c, .int p] H Q E := ⟨c, p, l, rfl, S, pre, q⟩
local macro_rules | `(tactic| walk_at "cl") => `(tactic| ((with_reducible refine c_L_page S (by walk_at "pre") (fun or H2 S2 => ?_)) <;> walk_at "nS"))
theorem ok_L_page (T : Txt K mg) : FnOk P w K mg base (L2.CX P w) 1 T.f_L_page T.fd_L_page ["_law_cell", "_law_pages"] (sp_L_page T) := by
  refine T.F_L_page.okX sc_L_page (fun vs H Q E => by walk_at "len") (fun cdv A outer s H vs Q E hr h => ?_)
  have hu := hu_of hr
  refine ⟨_, (pss_cons (ps_set (i := 2) sc_L_page.nd rfl (Or.inl rfl) (pe_op op_mod (pv 0) pe_int))
      (pss_cons (ps_set (i := 3) sc_L_page.nd rfl (Or.inl rfl) (pe_op op_fdivW (pv 0) pe_int))
      (pss_cons (ps_if (pt_cmpR op_lt (pv 2) pe_int (nomark _)) (pss_one (ps_ret (pe_ix (ixL (K := K) rfl) (pe_lst (pa_cons pe_int (pa_cons (pe_op op_sub (pv 1) pe_int) pa_nil))) (pv 2) (fun _ _ => rfl)))) pss_nil)
      (pss_cons (ps_if (pt_cmpR op_eq (pv 2) pe_int (nomark _)) (pss_one (ps_ret (pe_op op_add (pv 1) (pe_op op_mod (pv 3) (pe_op op_pow pe_int pe_int))))) pss_nil)
      (pss_cons (ps_if (pt_cmpR op_eq (pv 2) pe_int (nomark _)) (pss_one (ps_ret (pe_op op_sub (pe_un un_neg pe_int) (pe_op op_mod (pv 3) (pe_op op_pow pe_int pe_int))))) pss_nil)
      (pss_one (ps_ret (pe_op op_mod (pv 3) (pv 1))))))))), ?_⟩
  obtain ⟨c, p, l, rfl, S, pre, q⟩ := h
  walk_at "go0"
  refine if_d (fun h1 => ?_) (fun h1 => ?_)
  · walk_at "go"
    obtain h2 | h2 : c % 8 = 0 ∨ c % 8 = 1 := by omega
    all_goals (rw [h2]; walk_at "go"; exact q _ _ (by walk_at "K"))
  walk_at "fork"
  all_goals exact q _ _ S
def sp_L_counted {K : PySem.W.Frag} {mg : Str → Option Value} (T : Txt K mg) : Sp := fun vs H Q E => ∃ (p : Addr) (ds : List Int) (fn : Int) (l : List Asrt), vs = [.ref p, .int (wid fn)] ∧ Star (pt p (.lst (ds.map V.int)) :: l) H ∧ (2 ≤ wid fn ∧ wid fn ≤ 256) ∧ (∀ (H' : Hp), Star (pt p (.lst (ds.map V.int)) :: l) H' → Q (.int (pageOf fn ds)) H')
theorem c_L_counted {T : Txt K mg} {p : Addr} {ds : List Int} {fn : Int} {L l : List Asrt} {H : Hp} {Q : VK} {E : XK} (S : Star L H) (P0 : Pull (pt p (.lst (ds.map V.int))) L l) (pre : 2 ≤ wid fn ∧ wid fn ≤ 256) (q : (∀ (H' : Hp), Star (pt p (.lst (ds.map V.int)) :: l) H' → Q (.int (pageOf fn ds)) H')) : kCall (sp_L_counted T) [.ref p, .int (wid fn)] H Q E := ⟨p, ds, fn, l, rfl, (S.pull P0), pre, q⟩
local macro_rules | `(tactic| walk_at "cl") => `(tactic| ((with_reducible refine c_L_counted S (by walk_at "P") (by walk_at "pre") (fun  H2 S2 => ?_)) <;> walk_at "nS"))
theorem ok_L_counted (T : Txt K mg) : FnOk P w K mg base (L2.CX P w) 1 T.f_L_counted T.fd_L_counted ["_law_row", "_law_wide"] (sp_L_counted T) := by
  refine T.F_L_counted.okX sc_L_counted (fun vs H Q E => by walk_at "len") (fun cdv A outer s H vs Q E hr h => ?_)
  have hu := hu_of hr
  refine ⟨_, (pss_cons (ps_set (i := 2) sc_L_counted.nd rfl (Or.inl rfl) pe_int)
      (pss_cons (ps_for (passes_of rfl) rfl (piList (K := K) rfl (pv 0)) (pg_name (i := 3) sc_L_counted.nd rfl (Or.inl rfl)) (pss_one (ps_set (i := 2) sc_L_counted.nd rfl (Or.inl rfl) (pe_op op_add (pe_op op_mul (pv 2) (pv 1)) (pv 3)))))
      (pss_one (ps_ret (pv 2))))), ?_⟩
  obtain ⟨p, ds, fn, l, rfl, S, pre, q⟩ := h
  walk_at "go0"
  refine fl_indM (fun r σ H => ∃ x3 done, σ = [some (.ref p), some (.int (wid fn)), some (.int (pageOf fn done)), x3] ∧ ds = done ++ r ∧ Star (pt p (.lst (ds.map V.int)) :: l) H) ⟨none, [], rfl, rfl, S⟩ ?_ ?_
  · rintro σ H ⟨x3, done, rfl, e, S⟩
    rw [List.append_nil] at e
    subst e
    refine ⟨by walk_at "G", ?_⟩
    walk_at "go"
    exact q _ S
  · rintro x r σ H ⟨x3, done, rfl, e, S⟩ N hN
    refine ⟨by walk_at "G", ?_⟩
    walk_at "go"
    refine hN _ _ ⟨_, done ++ [x], by rw [pageOf_snoc], by rw [e]; simp, S⟩
theorem notOk_len {lv fn : Int} {ds : List Int} (h : (ds.length : Int) ≠ lv) : ¬ okSteps lv fn ds := fun z => h z.1
theorem notOk_mem {lv fn d : Int} {ds : List Int} (hm : d ∈ ds) (h : ¬ (0 ≤ d ∧ d < wid fn)) : ¬ okSteps lv fn ds := fun z => h (z.2 d hm)
def sp_L_spoilt {K : PySem.W.Frag} {mg : Str → Option Value} (T : Txt K mg) : Sp := fun vs H Q E => ∃ (p : Addr) (ds : List Int) (lv fn c : Int) (l : List Asrt), vs = [.ref p, .int c, .int (wid fn)] ∧ Star (pt p (.lst (ds.map V.int)) :: l) H ∧ ((ds.length : Int) = lv ∧ 2 ≤ lv ∧ lv ≤ 3 ∧ 2 ≤ wid fn) ∧ (∀ (m : Addr) (es : List Int) (H' : Hp), (es.length ≤ 4 ∧ (es = ds ∨ ¬ okSteps lv fn es)) → Star (pt m (.lst (es.map V.int)) :: pt p (.lst (ds.map V.int)) :: l) H' → Q (.ref m) H')
theorem c_L_spoilt {T : Txt K mg} {p : Addr} {ds : List Int} {lv fn c : Int} {L l : List Asrt} {H : Hp} {Q : VK} {E : XK} (S : Star L H) (P0 : Pull (pt p (.lst (ds.map V.int))) L l) (pre : (ds.length : Int) = lv ∧ 2 ≤ lv ∧ lv ≤ 3 ∧ 2 ≤ wid fn) (q : (∀ (m : Addr) (es : List Int) (H' : Hp), (es.length ≤ 4 ∧ (es = ds ∨ ¬ okSteps lv fn es)) → Star (pt m (.lst (es.map V.int)) :: pt p (.lst (ds.map V.int)) :: l) H' → Q (.ref m) H')) : kCall (sp_L_spoilt T) [.ref p, .int c, .int (wid fn)] H Q E := ⟨p, ds, lv, fn, c, l, rfl, (S.pull P0), pre, q⟩
local macro_rules | `(tactic| walk_at "cl") => `(tactic| ((with_reducible refine c_L_spoilt S (by walk_at "P") (by walk_at "pre") (fun om oes H2 oc S2 => ?_)) <;> walk_at "nS"))
theorem ok_L_spoilt (T : Txt K mg) : FnOk P w K mg base (L2.CX P w) 1 T.f_L_spoilt T.fd_L_spoilt ["_law_row", "_law_cell", "_law_wide"] (sp_L_spoilt T) := by
  refine T.F_L_spoilt.okX sc_L_spoilt (fun vs H Q E => by walk_at "len") (fun cdv A outer s H vs Q E hr h => ?_)
  have hu := hu_of hr
  refine ⟨_, (pss_cons (ps_set (i := 3) sc_L_spoilt.nd rfl (Or.inl rfl) (pe_op op_mod (pv 1) pe_int))
      (pss_cons (ps_set (i := 4) sc_L_spoilt.nd rfl (Or.inl rfl) (pe_op op_fdivW (pv 1) pe_int))
      (pss_cons (ps_set (i := 5) sc_L_spoilt.nd rfl (Or.inl rfl) (pe_callTy (callList (K := K) rfl) (by rfl) T.z_list (by decide +kernel) (pa_cons (pv 0) pa_nil)))
      (pss_cons (ps_if (pt_cmpR op_eq (pv 3) pe_int (nomark _)) (pss_one (ps_expr (pe_bm PySem.F.plainAttrs_list PySem.F.slot_list_append PySem.F.type_list_append mt_append (pv 5) (pa_cons (pe_op op_mod (pv 4) (pv 2)) pa_nil)))) pss_nil)
      (pss_cons (ps_if (pt_cmpR op_eq (pv 3) pe_int (nomark _)) (pss_one (ps_set (i := 5) sc_L_spoilt.nd rfl (Or.inl rfl) (pe_slice (slL (K := K) rfl) (pv 5) (po_some pe_int) po_none))) pss_nil)
      (pss_cons (ps_if (pt_cmpR op_eq (pv 3) pe_int (nomark _)) (pss_one (ps_asg (pe_un un_neg pe_int) (pg_sub (pv 5) (pe_op op_mod (pv 4) (pe_callB (callLen (K := K) rfl) (by rfl) T.z_len (by decide +kernel) (pa_cons (pv 0) pa_nil))) set_list))) pss_nil)
      (pss_cons (ps_if (pt_cmpR op_eq (pv 3) pe_int (nomark _)) (pss_one (ps_asg (pv 2) (pg_sub (pv 5) (pe_op op_mod (pv 4) (pe_callB (callLen (K := K) rfl) (by rfl) T.z_len (by decide +kernel) (pa_cons (pv 0) pa_nil))) set_list))) pss_nil)
      (pss_cons (ps_if (pt_cmpR op_eq (pv 3) pe_int (nomark _)) (pss_one (ps_asg (pe_op op_add (pv 2) (pe_op op_mod (pv 4) (pe_op op_pow pe_int pe_int))) (pg_sub (pv 5) (pe_op op_mod (pv 4) (pe_callB (callLen (K := K) rfl) (by rfl) T.z_len (by decide +kernel) (pa_cons (pv 0) pa_nil))) set_list))) pss_nil)
      (pss_cons (ps_if (pt_cmpR op_eq (pv 3) pe_int (nomark _)) (pss_one (ps_set (i := 5) sc_L_spoilt.nd rfl (Or.inl rfl) (pe_op op_cat (pe_lst (pa_cons pe_int pa_nil)) (pv 0)))) pss_nil)
      (pss_cons (ps_if (pt_cmpR op_eq (pv 3) pe_int (nomark _)) (pss_one (ps_set (i := 5) sc_L_spoilt.nd rfl (Or.inl rfl) (pe_lst pa_nil))) pss_nil)
      (pss_one (ps_ret (pv 5))))))))))))), ?_⟩
  obtain ⟨p, ds, lv, fn, c, l, rfl, S, pre, q⟩ := h
  have hk : 0 ≤ c / 12 % (ds.length : Int) := Int.emod_nonneg _ (by omega)
  have hk2 : c / 12 % (ds.length : Int) < ds.length := Int.emod_lt_of_pos _ (by omega)
  have hd : ds.length ≤ 3 := by omega
  have hi := ixN_set hk hk2
  have hj : (c / 12 % (ds.length : Int)).toNat < ds.length := by omega
  walk_at "go0"
  walk_at "fork"
  · exact q _ (ds ++ [c / 12 % wid fn]) _ ⟨by rw [List.length_append]; simp; omega, .inr (notOk_len (by rw [List.length_append]; simp; omega))⟩ (by walk_at "K")
  · rw [show cutI ds (some 1) none = ds.drop 1 from cutI_from 1] at S
    exact q _ (ds.drop 1) _ ⟨by rw [List.length_drop]; omega, .inr (notOk_len (by rw [List.length_drop]; omega))⟩ (by walk_at "K")
  · exact q _ (ds.set (c / 12 % (ds.length : Int)).toNat (-1)) _ ⟨by rw [List.length_set]; omega, .inr (notOk_mem (List.mem_set hj _) (by omega))⟩ (by walk_at "K")
  · exact q _ (ds.set (c / 12 % (ds.length : Int)).toNat (wid fn)) _ ⟨by rw [List.length_set]; omega, .inr (notOk_mem (List.mem_set hj _) (by omega))⟩ (by walk_at "K")
  · exact q _ (ds.set (c / 12 % (ds.length : Int)).toNat (wid fn + c / 12 % 1000000000000000000000000000000)) _ ⟨by rw [List.length_set]; omega, .inr (notOk_mem (List.mem_set hj _) (by have := Int.emod_nonneg (c / 12) (show (1000000000000000000000000000000 : Int) ≠ 0 by decide); omega))⟩ (by walk_at "K")
  · exact q _ ([0] ++ ds) _ ⟨by rw [List.length_append]; simp; omega, .inr (notOk_len (by rw [List.length_append]; simp; omega))⟩ (by walk_at "K")
  · exact q _ [] _ ⟨by simp, .inr (notOk_len (by simp; omega))⟩ (by walk_at "KD")
  · exact q _ ds _ ⟨by omega, .inl rfl⟩ (by walk_at "K")
def sp_L_steps_of {K : PySem.W.Frag} {mg : Str → Option Value} (T : Txt K mg) : Sp := fun vs H Q E => ∃ (a dx : Addr) (lv fn gr p : Int) (l : List Asrt), vs = [.ref a, .int p, .int (wid fn), .int (pgs lv fn), .int lv] ∧ Star (shp T a dx lv fn gr :: l) H ∧ (goodS lv fn gr) ∧ (∀ (H' : Hp), Star (shp T a dx lv fn gr :: l) H' → Q (.bl true) H')
theorem c_L_steps_of {T : Txt K mg} {a dx : Addr} {lv fn gr p : Int} {L l : List Asrt} {H : Hp} {Q : VK} {E : XK} (S : Star L H) (P0 : Pull (shp T a dx lv fn gr) L l) (pre : goodS lv fn gr) (q : (∀ (H' : Hp), Star (shp T a dx lv fn gr :: l) H' → Q (.bl true) H')) : kCall (sp_L_steps_of T) [.ref a, .int p, .int (wid fn), .int (pgs lv fn), .int lv] H Q E := ⟨a, dx, lv, fn, gr, p, l, rfl, (S.pull P0), pre, q⟩
local macro_rules | `(tactic| walk_at "cl") => `(tactic| ((with_reducible refine c_L_steps_of S (by walk_at "P") (by walk_at "pre") (fun  H2 S2 => ?_)) <;> walk_at "nS"))
theorem ok_L_steps_of (T : Txt K mg) : FnOk P w K mg base (L2.CX P w) 3 T.f_L_steps_of T.fd_L_steps_of ["_law_shape", "_law_page_here", "_law_wide", "_law_pages", "_law_levels"] (sp_L_steps_of T) := by
  refine T.F_L_steps_of.okX sc_L_steps_of (fun vs H Q E => by walk_at "len") (fun cdv A outer s H vs Q E hr h => ?_)
  have hu := hu_of hr
  refine ⟨_, (pss_cons (ps_set (i := 5) sc_L_steps_of.nd rfl (Or.inl rfl) pe_non)
      (pss_cons (ps_set (i := 6) sc_L_steps_of.nd rfl (Or.inl rfl) pe_bl)
      (pss_cons (ps_tryAs (K := K) (i := 7) rfl rfl rfl sc_L_steps_of.nd rfl rfl ⟨rfl, by decide, .inl T.mg_FrameError⟩ takes0 (fun W pn xe tk _ => (pss_one (ps_set (i := 5) sc_L_steps_of.nd rfl (Or.inl rfl) (pe_mt (pv 0) T.cl_Shape T.m_Shape_steps (ok_Shape_steps T) (hr.mono (by decide)) T.b_Shape_steps_2 .nil (fun σ => passW tk σ) (pa_cons (pv 1) pa_nil))))) (fun a oe cls d pn hz hf => (pss_one (ps_set (i := 6) sc_L_steps_of.nd rfl (Or.inl rfl) (pe_and (pe_callB (callIsX (K := K) rfl hz hf) (by rfl) T.z_isinstance (by decide +kernel) (pa_cons (pv 7) (pa_cons (pe_glob (v := .ref T.C_OutOfRoom) (by rfl) T.mg_OutOfRoom rfl) pa_nil))) (pe_one (pe_not (pe_callB (callIsX (K := K) rfl hz hf) (by rfl) T.z_isinstance (by decide +kernel) (pa_cons (pv 7) (pa_cons (pe_tup (pa_cons (pe_glob (v := .ref T.C_NoShape) (by rfl) T.mg_NoShape rfl) (pa_cons (pe_glob (v := .ref T.C_OutOfBank) (by rfl) T.mg_OutOfBank rfl) pa_nil))) pa_nil))))))))))
      (pss_cons (ps_if (pt_not (pt_chain op_le op_lt pe_int (pv 1) (pv 3))) (pss_one (ps_ret (pv 6))) pss_nil)
      (pss_cons (ps_if (PW.pt (pw_or (pt_not (pt_val (pe_callB (callIsi (K := K) rfl) (by rfl) T.z_isinstance (by decide +kernel) (pa_cons (pv 5) (pa_cons (pe_bltn (v := .ty "list") (by rfl) T.z_list (by decide +kernel) rfl) pa_nil))))) (pw_or1 (pt_cmpR op_ne (pe_callB (callLen (K := K) rfl) (by rfl) T.z_len (by decide +kernel) (pa_cons (pv 5) pa_nil)) (pv 4) (nomark _))))) (pss_one (ps_ret pe_bl)) pss_nil)
      (pss_cons (ps_for (passes_of rfl) rfl (piList (K := K) rfl (pv 5)) (pg_name (i := 8) sc_L_steps_of.nd rfl (Or.inl rfl)) (pss_one (ps_if (PW.pt (pw_or (pt_not (pt_val (pe_cl (ok_L_whole T) (hr.mono (by decide)) T.mg_L_whole T.kp_L_whole T.b_L_whole_1 .nil (fun _ => pass0At) (pa_cons (pv 8) pa_nil)))) (pw_or1 (pt_not (pt_chain op_le op_lt pe_int (pv 8) (pv 2)))))) (pss_one (ps_ret pe_bl)) pss_nil)))
      (pss_cons (ps_set (i := 9) sc_L_steps_of.nd rfl (Or.inl rfl) (pe_mt (pv 0) T.cl_Shape T.m_Shape_page_of (ok_Shape_page_of T) (hr.mono (by decide)) T.b_Shape_page_of_2 .nil (fun _ => pass0At) (pa_cons (pe_callTy (callList (K := K) rfl) (by rfl) T.z_list (by decide +kernel) (pa_cons (pv 5) pa_nil)) pa_nil)))
      (pss_cons (ps_if (PW.pt (pw_or (pt_cmpR op_ne (pe_cl (ok_L_counted T) (hr.mono (by decide)) T.mg_L_counted T.kp_L_counted T.b_L_counted_2 .nil (fun _ => pass0At) (pa_cons (pv 5) (pa_cons (pv 2) pa_nil))) (pv 1) (nomark _)) (pw_or (pt_not (pt_val (pe_cl (ok_L_whole T) (hr.mono (by decide)) T.mg_L_whole T.kp_L_whole T.b_L_whole_1 .nil (fun _ => pass0At) (pa_cons (pv 9) pa_nil)))) (pw_or1 (pt_cmpR op_ne (pv 9) (pv 1) (nomark _)))))) (pss_one (ps_ret pe_bl)) pss_nil)
      (pss_cons (ps_set (i := 10) sc_L_steps_of.nd rfl (Or.inl rfl) (pe_callTy (callList (K := K) rfl) (by rfl) T.z_list (by decide +kernel) (pa_cons (pv 5) pa_nil)))
      (pss_cons (ps_expr (pe_bm PySem.F.plainAttrs_list PySem.F.slot_list_append PySem.F.type_list_append mt_append (pv 5) (pa_cons (pv 2) pa_nil)))
      (pss_cons (ps_asg (pe_un un_neg pe_int) (pg_sub (pv 5) pe_int set_list))
      (pss_one (ps_ret (pe_cmpR (opEqD (K := K) rfl hr.units) (pe_mt (pv 0) T.cl_Shape T.m_Shape_steps (ok_Shape_steps T) (hr.mono (by decide)) T.b_Shape_steps_2 .nil (fun _ => pass0At) (pa_cons (pv 1) pa_nil)) (pv 10) (nomark _))))))))))))))), ?_⟩
  obtain ⟨a, dx, lv, fn, gr, p, l, rfl, S, pre, q⟩ := h
  have hp := pgs_b pre
  have hw := wid_b pre
  have gg := pre
  obtain ⟨g1, g2, g3, g4, g5, g6⟩ := gg
  have hL : ((stepsL lv fn p).length : Int) = lv := by rw [stepsL_len]; omega
  walk_at "go0"
  rotate_left
  · walk_at "fork"
    all_goals first | exact q _ (by walk_at "K") | exact absurd (by omega) hx
  have hn := Classical.not_not.mp hn0
  have hs := pageOf_steps pre hn.1 hn.2
  refine fl_indM (fun r σ H => ∃ x8 done, σ = [some (.ref a), some (.int p), some (.int (wid fn)), some (.int (pgs lv fn)), some (.int lv), some (.ref or), some (.bl false), none, x8, none, none] ∧ stepsL lv fn p = done ++ r ∧ Star (pt or (.lst ((stepsL lv fn p).map V.int)) :: shp T a dx lv fn gr :: l) H) ⟨_, [], rfl, rfl, S⟩ ?_ ?_
  · rintro σ H ⟨x8, done, rfl, e, S⟩
    refine ⟨by walk_at "G", ?_⟩
    walk_at "go"
    · rw [hs]
      walk_at "go"
      refine r_setI S (by walk_at "P") (ixN_set (by decide) (by rw [List.length_append]; simp)) (fun H2 S2 => ?_); walk_at "nS"
      walk_at "go"
      · rw [decide_eq_true rfl]
        exact q _ (by walk_at "K")
      · exact absurd hn hx
    · exact absurd ⟨hL, fun d hd => stepsL_b pre hd⟩ hx
  · rintro d r σ H ⟨x8, done, rfl, e, S⟩ N hN
    have hd := stepsL_b pre (show d ∈ stepsL lv fn p by rw [e]; simp)
    refine ⟨by walk_at "G", ?_⟩
    walk_at "go"
    exact hN _ _ ⟨_, done ++ [d], rfl, by rw [e]; simp, by walk_at "K"⟩
theorem ok_law (T : Txt K mg) : FnOk P w K mg base (L2.CX P w) 5 T.f_law T.fd_law ["_law_script"] (spLaw K) := by
  refine T.F_law.okX sc_law (fun vs H Q E => by walk_at "len") (fun cdv A outer s H vs Q E hr h => ?_)
  have hu := hu_of hr
  refine ⟨_, (pss_cons (ps_set (i := 1) sc_law.nd rfl (Or.inl rfl) (pe_op op_add pe_int (pe_op op_mod (pe_cl (ok_L_cell_at T) (hr.mono (by decide)) T.mg_L_cell_at T.kp_L_cell_at T.b_L_cell_at_2 .nil (fun _ => pass0At) (pa_cons (pv 0) (pa_cons pe_int pa_nil))) pe_int)))
      (pss_cons (ps_set (i := 2) sc_law.nd rfl (Or.inl rfl) (pe_op op_add pe_int (pe_op op_mod (pe_cl (ok_L_cell_at T) (hr.mono (by decide)) T.mg_L_cell_at T.kp_L_cell_at T.b_L_cell_at_2 .nil (fun _ => pass0At) (pa_cons (pv 0) (pa_cons pe_int pa_nil))) pe_int)))
      (pss_cons (ps_set (i := 3) sc_law.nd rfl (Or.inl rfl) (pe_mk T.mk_Shape (ok_Shape_init T) (hr.mono (by decide)) T.mg_Shape T.b_Shape_init_4 .nil (fun _ => pass0At) (pa_cons (pv 1) (pa_cons (pv 2) (pa_cons (pe_op op_mod (pe_cl (ok_L_cell_at T) (hr.mono (by decide)) T.mg_L_cell_at T.kp_L_cell_at T.b_L_cell_at_2 .nil (fun _ => pass0At) (pa_cons (pv 0) (pa_cons pe_int pa_nil))) pe_int) pa_nil)))))
      (pss_cons (ps_set (i := 4) sc_law.nd rfl (Or.inr rfl) (pe_cl (ok_L_doubled T) (hr.mono (by decide)) T.mg_L_doubled T.kp_L_doubled T.b_L_doubled_1 .nil (fun _ => pass0At) (pa_cons (pv 2) pa_nil)))
      (pss_cons (ps_set (i := 5) sc_law.nd rfl (Or.inl rfl) (pe_cl (ok_L_doubled T) (hr.mono (by decide)) T.mg_L_doubled T.kp_L_doubled T.b_L_doubled_1 .nil (fun _ => pass0At) (pa_cons (pe_op op_mul (pv 1) (pv 2)) pa_nil)))
      (pss_cons (ps_if (pt_not (pt_val (pe_cl (ok_L_steps_of T) (hr.mono (by decide)) T.mg_L_steps_of T.kp_L_steps_of T.b_L_steps_of_5 .nil (fun _ => pass0At) (pa_cons (pv 3) (pa_cons (pe_cl (ok_L_page T) (hr.mono (by decide)) T.mg_L_page T.kp_L_page T.b_L_page_2 .nil (fun _ => pass0At) (pa_cons (pe_cl (ok_L_cell_at T) (hr.mono (by decide)) T.mg_L_cell_at T.kp_L_cell_at T.b_L_cell_at_2 .nil (fun _ => pass0At) (pa_cons (pv 0) (pa_cons pe_int pa_nil))) (pa_cons (pv 5) pa_nil))) (pa_cons (pv 4) (pa_cons (pv 5) (pa_cons (pv 1) pa_nil)))))))) (pss_one (ps_ret pe_bl)) pss_nil)
      (pss_cons (ps_setLc (i := 6) (own := [("_law_k", 12)]) rfl sc_law.nd rfl rfl (sw_true rfl rfl rfl (by decide +kernel)) (pi_range1 (by rfl) T.z_range (pa_cons (pv 1) pa_nil)) (blkOk_by (own := [("_law_k", 12)]) (N := N_law) (sc := defScope s_law) (by decide +kernel)) (fun _ _ _ _ _ => pg_name (i := 12) sc_law.nd rfl (Or.inl rfl)) (fun _ _ _ _ _ => pts_nil) (fun _ _ _ _ _ => (pe_op op_mod (pe_cl (ok_L_cell_at T) (hr.mono (by decide)) T.mg_L_cell_at T.kp_L_cell_at T.b_L_cell_at_2 .nil (fun _ => pass0At) (pa_cons (pv 0) (pa_cons (pe_op op_add pe_int (pv 12)) pa_nil))) (pv 4))))
      (pss_cons (ps_set (i := 7) sc_law.nd rfl (Or.inl rfl) (pe_cl (ok_L_spoilt T) (hr.mono (by decide)) T.mg_L_spoilt T.kp_L_spoilt T.b_L_spoilt_3 .nil (fun _ => pass0At) (pa_cons (pv 6) (pa_cons (pe_cl (ok_L_cell_at T) (hr.mono (by decide)) T.mg_L_cell_at T.kp_L_cell_at T.b_L_cell_at_2 .nil (fun _ => pass0At) (pa_cons (pv 0) (pa_cons pe_int pa_nil))) (pa_cons (pv 4) pa_nil)))))
      (pss_cons (ps_set (i := 8) sc_law.nd rfl (Or.inl rfl) (pe_callTy (callList (K := K) rfl) (by rfl) T.z_list (by decide +kernel) (pa_cons (pv 7) pa_nil)))
      (pss_cons (ps_set (i := 9) sc_law.nd rfl (Or.inl rfl) pe_non)
      (pss_cons (ps_set (i := 10) sc_law.nd rfl (Or.inl rfl) pe_bl)
      (pss_cons (ps_tryAs (K := K) (i := 11) rfl rfl rfl sc_law.nd rfl rfl ⟨rfl, by decide, .inl T.mg_FrameError⟩ takes0 (fun W pn xe tk _ => (pss_one (ps_set (i := 9) sc_law.nd rfl (Or.inl rfl) (pe_mt (pv 3) T.cl_Shape T.m_Shape_page_of (ok_Shape_page_of T) (hr.mono (by decide)) T.b_Shape_page_of_2 .nil (fun σ => passW tk σ) (pa_cons (pv 8) pa_nil))))) (fun a oe cls d pn hz hf => (pss_one (ps_set (i := 10) sc_law.nd rfl (Or.inl rfl) (pe_and (pe_callB (callIsX (K := K) rfl hz hf) (by rfl) T.z_isinstance (by decide +kernel) (pa_cons (pv 11) (pa_cons (pe_glob (v := .ref T.C_OutOfRoom) (by rfl) T.mg_OutOfRoom rfl) pa_nil))) (pe_one (pe_not (pe_callB (callIsX (K := K) rfl hz hf) (by rfl) T.z_isinstance (by decide +kernel) (pa_cons (pv 11) (pa_cons (pe_tup (pa_cons (pe_glob (v := .ref T.C_NoShape) (by rfl) T.mg_NoShape rfl) (pa_cons (pe_glob (v := .ref T.C_OutOfBank) (by rfl) T.mg_OutOfBank rfl) pa_nil))) pa_nil))))))))))
      (pss_cons (ps_if (pt_cmpR (opNeD (K := K) rfl hr.units) (pv 8) (pv 7) (nomark _)) (pss_one (ps_ret pe_bl)) pss_nil)
      (pss_cons (ps_if (pt_cmpR (opNeD (K := K) rfl hr.units) (pv 7) (pv 6) (nomark _)) (pss_one (ps_ret (pv 10))) pss_nil)
      (pss_cons (ps_if (PW.pt (pw_or (pt_not (pt_val (pe_cl (ok_L_whole T) (hr.mono (by decide)) T.mg_L_whole T.kp_L_whole T.b_L_whole_1 .nil (fun _ => pass0At) (pa_cons (pv 9) pa_nil)))) (pw_or1 (pt_cmpR op_ne (pv 9) (pe_cl (ok_L_counted T) (hr.mono (by decide)) T.mg_L_counted T.kp_L_counted T.b_L_counted_2 .nil (fun _ => pass0At) (pa_cons (pv 6) (pa_cons (pv 4) pa_nil))) (nomark _))))) (pss_one (ps_ret pe_bl)) pss_nil)
      (pss_one (ps_ret (pe_cmpR (opEqD (K := K) rfl hr.units) (pe_mt (pv 3) T.cl_Shape T.m_Shape_steps (ok_Shape_steps T) (hr.mono (by decide)) T.b_Shape_steps_2 .nil (fun _ => pass0At) (pa_cons (pv 9) pa_nil)) (pv 6) (nomark _))))))))))))))))))), ?_⟩
  obtain ⟨a, ns, rfl, S, hl, hb, q⟩ := h
  walk_at "go0"
  have hg : goodS (2 + cellAt ns 0 % 2) (1 + cellAt ns 1 % 8) (cellAt ns 2 % 5) := by unfold goodS; omega
  generalize 2 + cellAt ns 0 % 2 = lv at *
  generalize 1 + cellAt ns 1 % 8 = fn at *
  generalize cellAt ns 2 % 5 = gr at *
  have hm := goodS_mul hg
  have hp := pgs_b hg
  have hw := wid_b hg
  have hg2 := hg
  obtain ⟨g1, g2, g3, g4, g5, g6⟩ := hg2
  walk_at "go"
  rw [show (2 : Int) ^ (lv * fn).toNat = pgs lv fn from rfl, show (2 : Int) ^ fn.toNat = wid fn from rfl]
  walk_at "go"
  refine cl_rg (h := fun k => V.int (cellAt ns (5 + (k : Int)) % wid fn)) S (by omega) ?_ ?_
  · intro k hk acc H hz S N hN
    refine ⟨by walk_at "G", ?_⟩
    walk_at "go"
    exact hN _ (by walk_at "K")
  intro H S
  refine ⟨by walk_at "G", ?_⟩
  obtain ⟨ds, hds, hok⟩ : ∃ ds : List Int, (List.range lv.toNat).map (fun k : Nat => V.int (cellAt ns (5 + (k : Int)) % wid fn)) = ds.map V.int ∧ okSteps lv fn ds := by
    refine ⟨(List.range lv.toNat).map (fun k : Nat => cellAt ns (5 + (k : Int)) % wid fn), by rw [List.map_map]; rfl, by simp; omega, fun d hd => ?_⟩
    obtain ⟨k, _, rfl⟩ := List.mem_map.mp hd
    exact ⟨Int.emod_nonneg _ (by omega), Int.emod_lt_of_pos _ (by omega)⟩
  rw [hds] at S
  have hl := hok.1
  have hpo := pageOf_b hg hok
  walk_at "go"
  · have hok2 := Classical.not_not.mp hn0
    have e := oc.2.resolve_right (fun z => z hok2)
    subst e
    walk_at "go"
    · rw [hpo.2.2, decide_eq_true rfl]
      exact q _
    · exact absurd ⟨hpo.1, hpo.2.1⟩ hx
  · walk_at "go"
    refine if_ndt (fun e => hx (e ▸ hok)) ?_
    walk_at "go"
    exact q _
end
theorem all_mk {w : World} {K : PySem.W.Frag} {h : Heap} {mg : Str → Option Value} {fa : Addr} (X : K.In h) (G : h.Ns mainGlobals mg) (hfa : mg "law" = some (.ref fa))
    {C_FrameError C_NoShape C_OutOfRoom C_OutOfBank C_Shape f_is_whole f_is_within f_Shape_init f_Shape_sheet_size f_Shape_page_count f_Shape_parted f_Shape_address f_Shape_steps f_Shape_page_of f_L_cell_at f_L_whole f_L_doubled f_L_page f_L_counted f_L_spoilt f_L_steps_of f_law : Addr}
    {od_is_whole an_is_whole : Option Addr} {sl_is_whole : Array (Option Value)} {oc_is_whole kV_is_whole dc_is_whole pm_is_whole cd_is_whole ct_is_whole : Value}
    {od_is_within an_is_within : Option Addr} {sl_is_within : Array (Option Value)} {oc_is_within kV_is_within dc_is_within pm_is_within cd_is_within ct_is_within : Value}
    {od_Shape_init an_Shape_init : Option Addr} {sl_Shape_init : Array (Option Value)} {oc_Shape_init kV_Shape_init dc_Shape_init pm_Shape_init cd_Shape_init ct_Shape_init : Value}
    {od_Shape_sheet_size an_Shape_sheet_size : Option Addr} {sl_Shape_sheet_size : Array (Option Value)} {oc_Shape_sheet_size kV_Shape_sheet_size dc_Shape_sheet_size pm_Shape_sheet_size cd_Shape_sheet_size ct_Shape_sheet_size : Value}
    {od_Shape_page_count an_Shape_page_count : Option Addr} {sl_Shape_page_count : Array (Option Value)} {oc_Shape_page_count kV_Shape_page_count dc_Shape_page_count pm_Shape_page_count cd_Shape_page_count ct_Shape_page_count : Value}
    {od_Shape_parted an_Shape_parted : Option Addr} {sl_Shape_parted : Array (Option Value)} {oc_Shape_parted kV_Shape_parted dc_Shape_parted pm_Shape_parted cd_Shape_parted ct_Shape_parted : Value}
    {od_Shape_address an_Shape_address : Option Addr} {sl_Shape_address : Array (Option Value)} {oc_Shape_address kV_Shape_address dc_Shape_address pm_Shape_address cd_Shape_address ct_Shape_address : Value}
    {od_Shape_steps an_Shape_steps : Option Addr} {sl_Shape_steps : Array (Option Value)} {oc_Shape_steps kV_Shape_steps dc_Shape_steps pm_Shape_steps cd_Shape_steps ct_Shape_steps : Value}
    {od_Shape_page_of an_Shape_page_of : Option Addr} {sl_Shape_page_of : Array (Option Value)} {oc_Shape_page_of kV_Shape_page_of dc_Shape_page_of pm_Shape_page_of cd_Shape_page_of ct_Shape_page_of : Value}
    {od_L_cell_at an_L_cell_at : Option Addr} {sl_L_cell_at : Array (Option Value)} {oc_L_cell_at kV_L_cell_at dc_L_cell_at pm_L_cell_at cd_L_cell_at ct_L_cell_at : Value}
    {od_L_whole an_L_whole : Option Addr} {sl_L_whole : Array (Option Value)} {oc_L_whole kV_L_whole dc_L_whole pm_L_whole cd_L_whole ct_L_whole : Value}
    {od_L_doubled an_L_doubled : Option Addr} {sl_L_doubled : Array (Option Value)} {oc_L_doubled kV_L_doubled dc_L_doubled pm_L_doubled cd_L_doubled ct_L_doubled : Value}
    {od_L_page an_L_page : Option Addr} {sl_L_page : Array (Option Value)} {oc_L_page kV_L_page dc_L_page pm_L_page cd_L_page ct_L_page : Value}
    {od_L_counted an_L_counted : Option Addr} {sl_L_counted : Array (Option Value)} {oc_L_counted kV_L_counted dc_L_counted pm_L_counted cd_L_counted ct_L_counted : Value}
    {od_L_spoilt an_L_spoilt : Option Addr} {sl_L_spoilt : Array (Option Value)} {oc_L_spoilt kV_L_spoilt dc_L_spoilt pm_L_spoilt cd_L_spoilt ct_L_spoilt : Value}
    {od_L_steps_of an_L_steps_of : Option Addr} {sl_L_steps_of : Array (Option Value)} {oc_L_steps_of kV_L_steps_of dc_L_steps_of pm_L_steps_of cd_L_steps_of ct_L_steps_of : Value}
    {od_law an_law : Option Addr} {sl_law : Array (Option Value)} {oc_law kV_law dc_law pm_law cd_law ct_law : Value}
    (e_hn : PySem.W.specialIn K (.builtin "object.__class__") "__get__" = some (some (.builtin "getset_descriptor.__get__")))
    (e_ht : PySem.W.takesIn K (.builtin "object.__class__") = some true)
    (aC_FrameError : PySem.W.nsIn K mainGlobals "FrameError" = some (some (.ref C_FrameError)))
    (aC_NoShape : PySem.W.nsIn K mainGlobals "NoShape" = some (some (.ref C_NoShape)))
    (aC_OutOfRoom : PySem.W.nsIn K mainGlobals "OutOfRoom" = some (some (.ref C_OutOfRoom)))
    (aC_OutOfBank : PySem.W.nsIn K mainGlobals "OutOfBank" = some (some (.ref C_OutOfBank)))
    (aC_Shape : PySem.W.nsIn K mainGlobals "Shape" = some (some (.ref C_Shape)))
    (a_is_whole : PySem.W.nsIn K mainGlobals "is_whole" = some (some (.ref f_is_whole)))
    (l_is_whole : K.lookup f_is_whole = some ⟨oc_is_whole, od_is_whole, .func (PySem.W.fnOf "is_whole" "is_whole" (defArgs s_is_whole) (defBody s_is_whole) (defScope s_is_whole) .none kV_is_whole dc_is_whole pm_is_whole an_is_whole cd_is_whole ct_is_whole), sl_is_whole⟩)
    (c_is_whole : PySem.W.codeIn K cd_is_whole "is_whole" = true)
    (k_is_whole : PySem.W.keepIn K (.ref f_is_whole) = true)
    (a_is_within : PySem.W.nsIn K mainGlobals "is_within" = some (some (.ref f_is_within)))
    (l_is_within : K.lookup f_is_within = some ⟨oc_is_within, od_is_within, .func (PySem.W.fnOf "is_within" "is_within" (defArgs s_is_within) (defBody s_is_within) (defScope s_is_within) .none kV_is_within dc_is_within pm_is_within an_is_within cd_is_within ct_is_within), sl_is_within⟩)
    (c_is_within : PySem.W.codeIn K cd_is_within "is_within" = true)
    (k_is_within : PySem.W.keepIn K (.ref f_is_within) = true)
    (a_Shape_init : PySem.W.findIn K (.ref C_Shape) "__init__" = some (some (.ref f_Shape_init)))
    (l_Shape_init : K.lookup f_Shape_init = some ⟨oc_Shape_init, od_Shape_init, .func (PySem.W.fnOf "__init__" "Shape.__init__" (defArgs s_Shape_init) (defBody s_Shape_init) (defScope s_Shape_init) .none kV_Shape_init dc_Shape_init pm_Shape_init an_Shape_init cd_Shape_init ct_Shape_init), sl_Shape_init⟩)
    (c_Shape_init : PySem.W.codeIn K cd_Shape_init "Shape.__init__" = true)
    (k_Shape_init : PySem.W.keepIn K (.ref f_Shape_init) = true)
    (i_Shape_init : PySem.W.isFn K (.ref f_Shape_init) = true)
    (a_Shape_sheet_size : PySem.W.findIn K (.ref C_Shape) "sheet_size" = some (some (.ref f_Shape_sheet_size)))
    (l_Shape_sheet_size : K.lookup f_Shape_sheet_size = some ⟨oc_Shape_sheet_size, od_Shape_sheet_size, .func (PySem.W.fnOf "sheet_size" "Shape.sheet_size" (defArgs s_Shape_sheet_size) (defBody s_Shape_sheet_size) (defScope s_Shape_sheet_size) .none kV_Shape_sheet_size dc_Shape_sheet_size pm_Shape_sheet_size an_Shape_sheet_size cd_Shape_sheet_size ct_Shape_sheet_size), sl_Shape_sheet_size⟩)
    (c_Shape_sheet_size : PySem.W.codeIn K cd_Shape_sheet_size "Shape.sheet_size" = true)
    (k_Shape_sheet_size : PySem.W.keepIn K (.ref f_Shape_sheet_size) = true)
    (i_Shape_sheet_size : PySem.W.isFn K (.ref f_Shape_sheet_size) = true)
    (a_Shape_page_count : PySem.W.findIn K (.ref C_Shape) "page_count" = some (some (.ref f_Shape_page_count)))
    (l_Shape_page_count : K.lookup f_Shape_page_count = some ⟨oc_Shape_page_count, od_Shape_page_count, .func (PySem.W.fnOf "page_count" "Shape.page_count" (defArgs s_Shape_page_count) (defBody s_Shape_page_count) (defScope s_Shape_page_count) .none kV_Shape_page_count dc_Shape_page_count pm_Shape_page_count an_Shape_page_count cd_Shape_page_count ct_Shape_page_count), sl_Shape_page_count⟩)
    (c_Shape_page_count : PySem.W.codeIn K cd_Shape_page_count "Shape.page_count" = true)
    (k_Shape_page_count : PySem.W.keepIn K (.ref f_Shape_page_count) = true)
    (i_Shape_page_count : PySem.W.isFn K (.ref f_Shape_page_count) = true)
    (a_Shape_parted : PySem.W.findIn K (.ref C_Shape) "parted" = some (some (.ref f_Shape_parted)))
    (l_Shape_parted : K.lookup f_Shape_parted = some ⟨oc_Shape_parted, od_Shape_parted, .func (PySem.W.fnOf "parted" "Shape.parted" (defArgs s_Shape_parted) (defBody s_Shape_parted) (defScope s_Shape_parted) .none kV_Shape_parted dc_Shape_parted pm_Shape_parted an_Shape_parted cd_Shape_parted ct_Shape_parted), sl_Shape_parted⟩)
    (c_Shape_parted : PySem.W.codeIn K cd_Shape_parted "Shape.parted" = true)
    (k_Shape_parted : PySem.W.keepIn K (.ref f_Shape_parted) = true)
    (i_Shape_parted : PySem.W.isFn K (.ref f_Shape_parted) = true)
    (a_Shape_address : PySem.W.findIn K (.ref C_Shape) "address" = some (some (.ref f_Shape_address)))
    (l_Shape_address : K.lookup f_Shape_address = some ⟨oc_Shape_address, od_Shape_address, .func (PySem.W.fnOf "address" "Shape.address" (defArgs s_Shape_address) (defBody s_Shape_address) (defScope s_Shape_address) .none kV_Shape_address dc_Shape_address pm_Shape_address an_Shape_address cd_Shape_address ct_Shape_address), sl_Shape_address⟩)
    (c_Shape_address : PySem.W.codeIn K cd_Shape_address "Shape.address" = true)
    (k_Shape_address : PySem.W.keepIn K (.ref f_Shape_address) = true)
    (i_Shape_address : PySem.W.isFn K (.ref f_Shape_address) = true)
    (a_Shape_steps : PySem.W.findIn K (.ref C_Shape) "steps" = some (some (.ref f_Shape_steps)))
    (l_Shape_steps : K.lookup f_Shape_steps = some ⟨oc_Shape_steps, od_Shape_steps, .func (PySem.W.fnOf "steps" "Shape.steps" (defArgs s_Shape_steps) (defBody s_Shape_steps) (defScope s_Shape_steps) .none kV_Shape_steps dc_Shape_steps pm_Shape_steps an_Shape_steps cd_Shape_steps ct_Shape_steps), sl_Shape_steps⟩)
    (c_Shape_steps : PySem.W.codeIn K cd_Shape_steps "Shape.steps" = true)
    (k_Shape_steps : PySem.W.keepIn K (.ref f_Shape_steps) = true)
    (i_Shape_steps : PySem.W.isFn K (.ref f_Shape_steps) = true)
    (a_Shape_page_of : PySem.W.findIn K (.ref C_Shape) "page_of" = some (some (.ref f_Shape_page_of)))
    (l_Shape_page_of : K.lookup f_Shape_page_of = some ⟨oc_Shape_page_of, od_Shape_page_of, .func (PySem.W.fnOf "page_of" "Shape.page_of" (defArgs s_Shape_page_of) (defBody s_Shape_page_of) (defScope s_Shape_page_of) .none kV_Shape_page_of dc_Shape_page_of pm_Shape_page_of an_Shape_page_of cd_Shape_page_of ct_Shape_page_of), sl_Shape_page_of⟩)
    (c_Shape_page_of : PySem.W.codeIn K cd_Shape_page_of "Shape.page_of" = true)
    (k_Shape_page_of : PySem.W.keepIn K (.ref f_Shape_page_of) = true)
    (i_Shape_page_of : PySem.W.isFn K (.ref f_Shape_page_of) = true)
    (a_L_cell_at : PySem.W.nsIn K mainGlobals "_law_cell_at" = some (some (.ref f_L_cell_at)))
    (l_L_cell_at : K.lookup f_L_cell_at = some ⟨oc_L_cell_at, od_L_cell_at, .func (PySem.W.fnOf "_law_cell_at" "_law_cell_at" (defArgs s_L_cell_at) (defBody s_L_cell_at) (defScope s_L_cell_at) .none kV_L_cell_at dc_L_cell_at pm_L_cell_at an_L_cell_at cd_L_cell_at ct_L_cell_at), sl_L_cell_at⟩)
    (c_L_cell_at : PySem.W.codeIn K cd_L_cell_at "_law_cell_at" = true)
    (k_L_cell_at : PySem.W.keepIn K (.ref f_L_cell_at) = true)
    (a_L_whole : PySem.W.nsIn K mainGlobals "_law_whole" = some (some (.ref f_L_whole)))
    (l_L_whole : K.lookup f_L_whole = some ⟨oc_L_whole, od_L_whole, .func (PySem.W.fnOf "_law_whole" "_law_whole" (defArgs s_L_whole) (defBody s_L_whole) (defScope s_L_whole) .none kV_L_whole dc_L_whole pm_L_whole an_L_whole cd_L_whole ct_L_whole), sl_L_whole⟩)
    (c_L_whole : PySem.W.codeIn K cd_L_whole "_law_whole" = true)
    (k_L_whole : PySem.W.keepIn K (.ref f_L_whole) = true)
    (a_L_doubled : PySem.W.nsIn K mainGlobals "_law_doubled" = some (some (.ref f_L_doubled)))
    (l_L_doubled : K.lookup f_L_doubled = some ⟨oc_L_doubled, od_L_doubled, .func (PySem.W.fnOf "_law_doubled" "_law_doubled" (defArgs s_L_doubled) (defBody s_L_doubled) (defScope s_L_doubled) .none kV_L_doubled dc_L_doubled pm_L_doubled an_L_doubled cd_L_doubled ct_L_doubled), sl_L_doubled⟩)
    (c_L_doubled : PySem.W.codeIn K cd_L_doubled "_law_doubled" = true)
    (k_L_doubled : PySem.W.keepIn K (.ref f_L_doubled) = true)
    (a_L_page : PySem.W.nsIn K mainGlobals "_law_page" = some (some (.ref f_L_page)))
    (l_L_page : K.lookup f_L_page = some ⟨oc_L_page, od_L_page, .func (PySem.W.fnOf "_law_page" "_law_page" (defArgs s_L_page) (defBody s_L_page) (defScope s_L_page) .none kV_L_page dc_L_page pm_L_page an_L_page cd_L_page ct_L_page), sl_L_page⟩)
    (c_L_page : PySem.W.codeIn K cd_L_page "_law_page" = true)
    (k_L_page : PySem.W.keepIn K (.ref f_L_page) = true)
    (a_L_counted : PySem.W.nsIn K mainGlobals "_law_counted" = some (some (.ref f_L_counted)))
    (l_L_counted : K.lookup f_L_counted = some ⟨oc_L_counted, od_L_counted, .func (PySem.W.fnOf "_law_counted" "_law_counted" (defArgs s_L_counted) (defBody s_L_counted) (defScope s_L_counted) .none kV_L_counted dc_L_counted pm_L_counted an_L_counted cd_L_counted ct_L_counted), sl_L_counted⟩)
    (c_L_counted : PySem.W.codeIn K cd_L_counted "_law_counted" = true)
    (k_L_counted : PySem.W.keepIn K (.ref f_L_counted) = true)
    (a_L_spoilt : PySem.W.nsIn K mainGlobals "_law_spoilt" = some (some (.ref f_L_spoilt)))
    (l_L_spoilt : K.lookup f_L_spoilt = some ⟨oc_L_spoilt, od_L_spoilt, .func (PySem.W.fnOf "_law_spoilt" "_law_spoilt" (defArgs s_L_spoilt) (defBody s_L_spoilt) (defScope s_L_spoilt) .none kV_L_spoilt dc_L_spoilt pm_L_spoilt an_L_spoilt cd_L_spoilt ct_L_spoilt), sl_L_spoilt⟩)
    (c_L_spoilt : PySem.W.codeIn K cd_L_spoilt "_law_spoilt" = true)
    (k_L_spoilt : PySem.W.keepIn K (.ref f_L_spoilt) = true)
    (a_L_steps_of : PySem.W.nsIn K mainGlobals "_law_steps_of" = some (some (.ref f_L_steps_of)))
    (l_L_steps_of : K.lookup f_L_steps_of = some ⟨oc_L_steps_of, od_L_steps_of, .func (PySem.W.fnOf "_law_steps_of" "_law_steps_of" (defArgs s_L_steps_of) (defBody s_L_steps_of) (defScope s_L_steps_of) .none kV_L_steps_of dc_L_steps_of pm_L_steps_of an_L_steps_of cd_L_steps_of ct_L_steps_of), sl_L_steps_of⟩)
    (c_L_steps_of : PySem.W.codeIn K cd_L_steps_of "_law_steps_of" = true)
    (k_L_steps_of : PySem.W.keepIn K (.ref f_L_steps_of) = true)
    (a_law : PySem.W.nsIn K mainGlobals "law" = some (some (.ref f_law)))
    (l_law : K.lookup f_law = some ⟨oc_law, od_law, .func (PySem.W.fnOf "law" "law" (defArgs s_law) (defBody s_law) (defScope s_law) .none kV_law dc_law pm_law an_law cd_law ct_law), sl_law⟩)
    (c_law : PySem.W.codeIn K cd_law "law" = true)
    (k_law : PySem.W.keepIn K (.ref f_law) = true)
    (xb_FrameError : PySem.W.subIn K (.ref C_FrameError) (.type "BaseException") = some true)
    (xt_FrameError : PySem.W.typeIn K (.ref C_FrameError) = some (.type "type"))
    (ed_FrameError : PySem.W.hasDictIn K C_FrameError = true)
    (xb_NoShape : PySem.W.subIn K (.ref C_NoShape) (.type "BaseException") = some true)
    (xt_NoShape : PySem.W.typeIn K (.ref C_NoShape) = some (.type "type"))
    (ed_NoShape : PySem.W.hasDictIn K C_NoShape = true)
    (xx_NoShape : PySem.W.excIn K C_NoShape [.type "ValueError", .type "Exception", .type "BaseException", .type "object"] "ValueError.__new__" = true)
    (xk_NoShape : PySem.W.keepIn K (.ref C_NoShape) = true)
    (eg_NoShape : PySem.W.findIn K (.ref C_NoShape) "__getattribute__" = some (some (.builtin "BaseException.__getattribute__")))
    (ek_NoShape : PySem.W.findIn K (.ref C_NoShape) "__getattr__" = some none)
    (ea_NoShape : PySem.W.findIn K (.ref C_NoShape) "__class__" = some (some (.builtin "object.__class__")))
    (em_NoShape : PySem.W.mroIn K C_NoShape (.type "object") = some true)
    (sb_NoShape_FrameError : PySem.W.subIn K (.ref C_NoShape) (.ref C_FrameError) = some true)
    (ki_NoShape_NoShape : PySem.W.kitOne K (.ref C_NoShape) (.ref C_NoShape) = some true)
    (ki_NoShape_OutOfBank : PySem.W.kitOne K (.ref C_NoShape) (.ref C_OutOfBank) = some false)
    (ki_NoShape_OutOfRoom : PySem.W.kitOne K (.ref C_NoShape) (.ref C_OutOfRoom) = some false)
    (xb_OutOfRoom : PySem.W.subIn K (.ref C_OutOfRoom) (.type "BaseException") = some true)
    (xt_OutOfRoom : PySem.W.typeIn K (.ref C_OutOfRoom) = some (.type "type"))
    (ed_OutOfRoom : PySem.W.hasDictIn K C_OutOfRoom = true)
    (xx_OutOfRoom : PySem.W.excIn K C_OutOfRoom [.type "ValueError", .type "Exception", .type "BaseException", .type "object"] "ValueError.__new__" = true)
    (xk_OutOfRoom : PySem.W.keepIn K (.ref C_OutOfRoom) = true)
    (eg_OutOfRoom : PySem.W.findIn K (.ref C_OutOfRoom) "__getattribute__" = some (some (.builtin "BaseException.__getattribute__")))
    (ek_OutOfRoom : PySem.W.findIn K (.ref C_OutOfRoom) "__getattr__" = some none)
    (ea_OutOfRoom : PySem.W.findIn K (.ref C_OutOfRoom) "__class__" = some (some (.builtin "object.__class__")))
    (em_OutOfRoom : PySem.W.mroIn K C_OutOfRoom (.type "object") = some true)
    (sb_OutOfRoom_FrameError : PySem.W.subIn K (.ref C_OutOfRoom) (.ref C_FrameError) = some true)
    (ki_OutOfRoom_NoShape : PySem.W.kitOne K (.ref C_OutOfRoom) (.ref C_NoShape) = some false)
    (ki_OutOfRoom_OutOfBank : PySem.W.kitOne K (.ref C_OutOfRoom) (.ref C_OutOfBank) = some false)
    (ki_OutOfRoom_OutOfRoom : PySem.W.kitOne K (.ref C_OutOfRoom) (.ref C_OutOfRoom) = some true)
    (pg_Shape : PySem.W.plainGet K C_Shape Str.empty = true)
    (hd_Shape : PySem.W.hasDictIn K C_Shape = true)
    (po_Shape : PySem.W.plainOver K C_Shape = true)
    (sa_Shape : PySem.W.findIn K (.ref C_Shape) "__setattr__" = some (some (.builtin "object.__setattr__")))
    (mk_Shape : PySem.W.makesIn K C_Shape = true)
    (kc_Shape : PySem.W.keepIn K (.ref C_Shape) = true)
    (na_Shape_levels : PySem.W.findIn K (.ref C_Shape) "levels" = some none)
    (na_Shape_fan : PySem.W.findIn K (.ref C_Shape) "fan" = some none)
    (na_Shape_grain : PySem.W.findIn K (.ref C_Shape) "grain" = some none)
    (z_bool : PySem.W.nsIn K mainGlobals "bool" = some none)
    (z_int : PySem.W.nsIn K mainGlobals "int" = some none)
    (z_isinstance : PySem.W.nsIn K mainGlobals "isinstance" = some none)
    (z_len : PySem.W.nsIn K mainGlobals "len" = some none)
    (z_list : PySem.W.nsIn K mainGlobals "list" = some none)
    (z_range : PySem.W.nsIn K mainGlobals "range" = some none)
    : ∃ T : Txt K mg, T.f_law = fa := by
  have e : f_law = fa := by
    have q : Value.ref f_law = Value.ref fa := Option.some.inj ((PySem.W.mg_of X G a_law).symm.trans hfa)
    injection q
  exact ⟨{
    mg_FrameError := (PySem.W.mg_of X G aC_FrameError),
    C_FrameError := C_FrameError,
    mg_NoShape := (PySem.W.mg_of X G aC_NoShape),
    C_NoShape := C_NoShape,
    mg_OutOfRoom := (PySem.W.mg_of X G aC_OutOfRoom),
    C_OutOfRoom := C_OutOfRoom,
    mg_OutOfBank := (PySem.W.mg_of X G aC_OutOfBank),
    C_OutOfBank := C_OutOfBank,
    mg_Shape := (PySem.W.mg_of X G aC_Shape),
    C_Shape := C_Shape,
    f_is_whole := f_is_whole,
    fd_is_whole := (PySem.W.fnOf "is_whole" "is_whole" (defArgs s_is_whole) (defBody s_is_whole) (defScope s_is_whole) .none kV_is_whole dc_is_whole pm_is_whole an_is_whole cd_is_whole ct_is_whole),
    F_is_whole := (fun_mk (st := s_is_whole) l_is_whole c_is_whole k_is_whole),
    kp_is_whole := k_is_whole,
    b_is_whole_1 := (.all fun us hl => match us, hl with | [_], _ => rfl),
    mg_is_whole := (PySem.W.mg_of X G a_is_whole),
    f_is_within := f_is_within,
    fd_is_within := (PySem.W.fnOf "is_within" "is_within" (defArgs s_is_within) (defBody s_is_within) (defScope s_is_within) .none kV_is_within dc_is_within pm_is_within an_is_within cd_is_within ct_is_within),
    F_is_within := (fun_mk (st := s_is_within) l_is_within c_is_within k_is_within),
    kp_is_within := k_is_within,
    b_is_within_3 := (.all fun us hl => match us, hl with | [_, _, _], _ => rfl),
    mg_is_within := (PySem.W.mg_of X G a_is_within),
    f_Shape_init := f_Shape_init,
    fd_Shape_init := (PySem.W.fnOf "__init__" "Shape.__init__" (defArgs s_Shape_init) (defBody s_Shape_init) (defScope s_Shape_init) .none kV_Shape_init dc_Shape_init pm_Shape_init an_Shape_init cd_Shape_init ct_Shape_init),
    F_Shape_init := (fun_mk (st := s_Shape_init) l_Shape_init c_Shape_init k_Shape_init),
    kp_Shape_init := k_Shape_init,
    b_Shape_init_4 := (.all fun us hl => match us, hl with | [_, _, _, _], _ => rfl),
    f_Shape_sheet_size := f_Shape_sheet_size,
    fd_Shape_sheet_size := (PySem.W.fnOf "sheet_size" "Shape.sheet_size" (defArgs s_Shape_sheet_size) (defBody s_Shape_sheet_size) (defScope s_Shape_sheet_size) .none kV_Shape_sheet_size dc_Shape_sheet_size pm_Shape_sheet_size an_Shape_sheet_size cd_Shape_sheet_size ct_Shape_sheet_size),
    F_Shape_sheet_size := (fun_mk (st := s_Shape_sheet_size) l_Shape_sheet_size c_Shape_sheet_size k_Shape_sheet_size),
    kp_Shape_sheet_size := k_Shape_sheet_size,
    b_Shape_sheet_size_1 := (.all fun us hl => match us, hl with | [_], _ => rfl),
    f_Shape_page_count := f_Shape_page_count,
    fd_Shape_page_count := (PySem.W.fnOf "page_count" "Shape.page_count" (defArgs s_Shape_page_count) (defBody s_Shape_page_count) (defScope s_Shape_page_count) .none kV_Shape_page_count dc_Shape_page_count pm_Shape_page_count an_Shape_page_count cd_Shape_page_count ct_Shape_page_count),
    F_Shape_page_count := (fun_mk (st := s_Shape_page_count) l_Shape_page_count c_Shape_page_count k_Shape_page_count),
    kp_Shape_page_count := k_Shape_page_count,
    b_Shape_page_count_1 := (.all fun us hl => match us, hl with | [_], _ => rfl),
    f_Shape_parted := f_Shape_parted,
    fd_Shape_parted := (PySem.W.fnOf "parted" "Shape.parted" (defArgs s_Shape_parted) (defBody s_Shape_parted) (defScope s_Shape_parted) .none kV_Shape_parted dc_Shape_parted pm_Shape_parted an_Shape_parted cd_Shape_parted ct_Shape_parted),
    F_Shape_parted := (fun_mk (st := s_Shape_parted) l_Shape_parted c_Shape_parted k_Shape_parted),
    kp_Shape_parted := k_Shape_parted,
    b_Shape_parted_2 := (.all fun us hl => match us, hl with | [_, _], _ => rfl),
    f_Shape_address := f_Shape_address,
    fd_Shape_address := (PySem.W.fnOf "address" "Shape.address" (defArgs s_Shape_address) (defBody s_Shape_address) (defScope s_Shape_address) .none kV_Shape_address dc_Shape_address pm_Shape_address an_Shape_address cd_Shape_address ct_Shape_address),
    F_Shape_address := (fun_mk (st := s_Shape_address) l_Shape_address c_Shape_address k_Shape_address),
    kp_Shape_address := k_Shape_address,
    b_Shape_address_3 := (.all fun us hl => match us, hl with | [_, _, _], _ => rfl),
    f_Shape_steps := f_Shape_steps,
    fd_Shape_steps := (PySem.W.fnOf "steps" "Shape.steps" (defArgs s_Shape_steps) (defBody s_Shape_steps) (defScope s_Shape_steps) .none kV_Shape_steps dc_Shape_steps pm_Shape_steps an_Shape_steps cd_Shape_steps ct_Shape_steps),
    F_Shape_steps := (fun_mk (st := s_Shape_steps) l_Shape_steps c_Shape_steps k_Shape_steps),
    kp_Shape_steps := k_Shape_steps,
    b_Shape_steps_2 := (.all fun us hl => match us, hl with | [_, _], _ => rfl),
    f_Shape_page_of := f_Shape_page_of,
    fd_Shape_page_of := (PySem.W.fnOf "page_of" "Shape.page_of" (defArgs s_Shape_page_of) (defBody s_Shape_page_of) (defScope s_Shape_page_of) .none kV_Shape_page_of dc_Shape_page_of pm_Shape_page_of an_Shape_page_of cd_Shape_page_of ct_Shape_page_of),
    F_Shape_page_of := (fun_mk (st := s_Shape_page_of) l_Shape_page_of c_Shape_page_of k_Shape_page_of),
    kp_Shape_page_of := k_Shape_page_of,
    b_Shape_page_of_2 := (.all fun us hl => match us, hl with | [_, _], _ => rfl),
    f_L_cell_at := f_L_cell_at,
    fd_L_cell_at := (PySem.W.fnOf "_law_cell_at" "_law_cell_at" (defArgs s_L_cell_at) (defBody s_L_cell_at) (defScope s_L_cell_at) .none kV_L_cell_at dc_L_cell_at pm_L_cell_at an_L_cell_at cd_L_cell_at ct_L_cell_at),
    F_L_cell_at := (fun_mk (st := s_L_cell_at) l_L_cell_at c_L_cell_at k_L_cell_at),
    kp_L_cell_at := k_L_cell_at,
    b_L_cell_at_2 := (.all fun us hl => match us, hl with | [_, _], _ => rfl),
    mg_L_cell_at := (PySem.W.mg_of X G a_L_cell_at),
    f_L_whole := f_L_whole,
    fd_L_whole := (PySem.W.fnOf "_law_whole" "_law_whole" (defArgs s_L_whole) (defBody s_L_whole) (defScope s_L_whole) .none kV_L_whole dc_L_whole pm_L_whole an_L_whole cd_L_whole ct_L_whole),
    F_L_whole := (fun_mk (st := s_L_whole) l_L_whole c_L_whole k_L_whole),
    kp_L_whole := k_L_whole,
    b_L_whole_1 := (.all fun us hl => match us, hl with | [_], _ => rfl),
    mg_L_whole := (PySem.W.mg_of X G a_L_whole),
    f_L_doubled := f_L_doubled,
    fd_L_doubled := (PySem.W.fnOf "_law_doubled" "_law_doubled" (defArgs s_L_doubled) (defBody s_L_doubled) (defScope s_L_doubled) .none kV_L_doubled dc_L_doubled pm_L_doubled an_L_doubled cd_L_doubled ct_L_doubled),
    F_L_doubled := (fun_mk (st := s_L_doubled) l_L_doubled c_L_doubled k_L_doubled),
    kp_L_doubled := k_L_doubled,
    b_L_doubled_1 := (.all fun us hl => match us, hl with | [_], _ => rfl),
    mg_L_doubled := (PySem.W.mg_of X G a_L_doubled),
    f_L_page := f_L_page,
    fd_L_page := (PySem.W.fnOf "_law_page" "_law_page" (defArgs s_L_page) (defBody s_L_page) (defScope s_L_page) .none kV_L_page dc_L_page pm_L_page an_L_page cd_L_page ct_L_page),
    F_L_page := (fun_mk (st := s_L_page) l_L_page c_L_page k_L_page),
    kp_L_page := k_L_page,
    b_L_page_2 := (.all fun us hl => match us, hl with | [_, _], _ => rfl),
    mg_L_page := (PySem.W.mg_of X G a_L_page),
    f_L_counted := f_L_counted,
    fd_L_counted := (PySem.W.fnOf "_law_counted" "_law_counted" (defArgs s_L_counted) (defBody s_L_counted) (defScope s_L_counted) .none kV_L_counted dc_L_counted pm_L_counted an_L_counted cd_L_counted ct_L_counted),
    F_L_counted := (fun_mk (st := s_L_counted) l_L_counted c_L_counted k_L_counted),
    kp_L_counted := k_L_counted,
    b_L_counted_2 := (.all fun us hl => match us, hl with | [_, _], _ => rfl),
    mg_L_counted := (PySem.W.mg_of X G a_L_counted),
    f_L_spoilt := f_L_spoilt,
    fd_L_spoilt := (PySem.W.fnOf "_law_spoilt" "_law_spoilt" (defArgs s_L_spoilt) (defBody s_L_spoilt) (defScope s_L_spoilt) .none kV_L_spoilt dc_L_spoilt pm_L_spoilt an_L_spoilt cd_L_spoilt ct_L_spoilt),
    F_L_spoilt := (fun_mk (st := s_L_spoilt) l_L_spoilt c_L_spoilt k_L_spoilt),
    kp_L_spoilt := k_L_spoilt,
    b_L_spoilt_3 := (.all fun us hl => match us, hl with | [_, _, _], _ => rfl),
    mg_L_spoilt := (PySem.W.mg_of X G a_L_spoilt),
    f_L_steps_of := f_L_steps_of,
    fd_L_steps_of := (PySem.W.fnOf "_law_steps_of" "_law_steps_of" (defArgs s_L_steps_of) (defBody s_L_steps_of) (defScope s_L_steps_of) .none kV_L_steps_of dc_L_steps_of pm_L_steps_of an_L_steps_of cd_L_steps_of ct_L_steps_of),
    F_L_steps_of := (fun_mk (st := s_L_steps_of) l_L_steps_of c_L_steps_of k_L_steps_of),
    kp_L_steps_of := k_L_steps_of,
    b_L_steps_of_5 := (.all fun us hl => match us, hl with | [_, _, _, _, _], _ => rfl),
    mg_L_steps_of := (PySem.W.mg_of X G a_L_steps_of),
    f_law := f_law,
    fd_law := (PySem.W.fnOf "law" "law" (defArgs s_law) (defBody s_law) (defScope s_law) .none kV_law dc_law pm_law an_law cd_law ct_law),
    F_law := (fun_mk (st := s_law) l_law c_law k_law),
    kp_law := k_law,
    b_law_1 := (.all fun us hl => match us, hl with | [_], _ => rfl),
    mg_law := (PySem.W.mg_of X G a_law),
    bt_law := (fun s v => .of_eq rfl),
    xx_NoShape := xx_NoShape,
    xk_NoShape := xk_NoShape,
    xb_NoShape := xb_NoShape,
    xt_NoShape := xt_NoShape,
    ec_NoShape := ⟨eg_NoShape, ek_NoShape, xb_NoShape, ed_NoShape, ea_NoShape, e_hn, e_ht, em_NoShape⟩,
    ex_NoShape_FrameError := (PySem.W.exm_ref xb_FrameError ed_FrameError xt_FrameError sb_NoShape_FrameError),
    ki_NoShape_NoShape := ki_NoShape_NoShape,
    ki_NoShape_OutOfBank := ki_NoShape_OutOfBank,
    ki_NoShape_OutOfRoom := ki_NoShape_OutOfRoom,
    xx_OutOfRoom := xx_OutOfRoom,
    xk_OutOfRoom := xk_OutOfRoom,
    xb_OutOfRoom := xb_OutOfRoom,
    xt_OutOfRoom := xt_OutOfRoom,
    ec_OutOfRoom := ⟨eg_OutOfRoom, ek_OutOfRoom, xb_OutOfRoom, ed_OutOfRoom, ea_OutOfRoom, e_hn, e_ht, em_OutOfRoom⟩,
    ex_OutOfRoom_FrameError := (PySem.W.exm_ref xb_FrameError ed_FrameError xt_FrameError sb_OutOfRoom_FrameError),
    ki_OutOfRoom_NoShape := ki_OutOfRoom_NoShape,
    ki_OutOfRoom_OutOfBank := ki_OutOfRoom_OutOfBank,
    ki_OutOfRoom_OutOfRoom := ki_OutOfRoom_OutOfRoom,
    cl_Shape := ⟨pg_Shape, hd_Shape, po_Shape, sa_Shape⟩,
    na_Shape_levels := na_Shape_levels,
    na_Shape_fan := na_Shape_fan,
    na_Shape_grain := na_Shape_grain,
    mk_Shape := ⟨mk_Shape, a_Shape_init, i_Shape_init, kc_Shape⟩,
    m_Shape_sheet_size := ⟨a_Shape_sheet_size, i_Shape_sheet_size, k_Shape_sheet_size⟩,
    m_Shape_page_count := ⟨a_Shape_page_count, i_Shape_page_count, k_Shape_page_count⟩,
    m_Shape_parted := ⟨a_Shape_parted, i_Shape_parted, k_Shape_parted⟩,
    m_Shape_address := ⟨a_Shape_address, i_Shape_address, k_Shape_address⟩,
    m_Shape_steps := ⟨a_Shape_steps, i_Shape_steps, k_Shape_steps⟩,
    m_Shape_page_of := ⟨a_Shape_page_of, i_Shape_page_of, k_Shape_page_of⟩,
    z_bool := (PySem.W.mg_none_of X G z_bool),
    z_int := (PySem.W.mg_none_of X G z_int),
    z_isinstance := (PySem.W.mg_none_of X G z_isinstance),
    z_len := (PySem.W.mg_none_of X G z_len),
    z_list := (PySem.W.mg_none_of X G z_list),
    z_range := (PySem.W.mg_none_of X G z_range) }, e⟩
theorem all_fin {l : PySem.W.OpenLaw} {w : World} {K : PySem.W.Frag} {h : Heap} {mg : Str → Option Value} {fa : Addr} (X : K.In h) (G : h.Ns mainGlobals mg) (hfa : mg "law" = some (.ref fa))
    {C_FrameError C_NoShape C_OutOfRoom C_OutOfBank C_Shape f_is_whole f_is_within f_Shape_init f_Shape_sheet_size f_Shape_page_count f_Shape_parted f_Shape_address f_Shape_steps f_Shape_page_of f_L_cell_at f_L_whole f_L_doubled f_L_page f_L_counted f_L_spoilt f_L_steps_of f_law : Addr}
    {od_is_whole an_is_whole : Option Addr} {sl_is_whole : Array (Option Value)} {oc_is_whole kV_is_whole dc_is_whole pm_is_whole cd_is_whole ct_is_whole : Value}
    {od_is_within an_is_within : Option Addr} {sl_is_within : Array (Option Value)} {oc_is_within kV_is_within dc_is_within pm_is_within cd_is_within ct_is_within : Value}
    {od_Shape_init an_Shape_init : Option Addr} {sl_Shape_init : Array (Option Value)} {oc_Shape_init kV_Shape_init dc_Shape_init pm_Shape_init cd_Shape_init ct_Shape_init : Value}
    {od_Shape_sheet_size an_Shape_sheet_size : Option Addr} {sl_Shape_sheet_size : Array (Option Value)} {oc_Shape_sheet_size kV_Shape_sheet_size dc_Shape_sheet_size pm_Shape_sheet_size cd_Shape_sheet_size ct_Shape_sheet_size : Value}
    {od_Shape_page_count an_Shape_page_count : Option Addr} {sl_Shape_page_count : Array (Option Value)} {oc_Shape_page_count kV_Shape_page_count dc_Shape_page_count pm_Shape_page_count cd_Shape_page_count ct_Shape_page_count : Value}
    {od_Shape_parted an_Shape_parted : Option Addr} {sl_Shape_parted : Array (Option Value)} {oc_Shape_parted kV_Shape_parted dc_Shape_parted pm_Shape_parted cd_Shape_parted ct_Shape_parted : Value}
    {od_Shape_address an_Shape_address : Option Addr} {sl_Shape_address : Array (Option Value)} {oc_Shape_address kV_Shape_address dc_Shape_address pm_Shape_address cd_Shape_address ct_Shape_address : Value}
    {od_Shape_steps an_Shape_steps : Option Addr} {sl_Shape_steps : Array (Option Value)} {oc_Shape_steps kV_Shape_steps dc_Shape_steps pm_Shape_steps cd_Shape_steps ct_Shape_steps : Value}
    {od_Shape_page_of an_Shape_page_of : Option Addr} {sl_Shape_page_of : Array (Option Value)} {oc_Shape_page_of kV_Shape_page_of dc_Shape_page_of pm_Shape_page_of cd_Shape_page_of ct_Shape_page_of : Value}
    {od_L_cell_at an_L_cell_at : Option Addr} {sl_L_cell_at : Array (Option Value)} {oc_L_cell_at kV_L_cell_at dc_L_cell_at pm_L_cell_at cd_L_cell_at ct_L_cell_at : Value}
    {od_L_whole an_L_whole : Option Addr} {sl_L_whole : Array (Option Value)} {oc_L_whole kV_L_whole dc_L_whole pm_L_whole cd_L_whole ct_L_whole : Value}
    {od_L_doubled an_L_doubled : Option Addr} {sl_L_doubled : Array (Option Value)} {oc_L_doubled kV_L_doubled dc_L_doubled pm_L_doubled cd_L_doubled ct_L_doubled : Value}
    {od_L_page an_L_page : Option Addr} {sl_L_page : Array (Option Value)} {oc_L_page kV_L_page dc_L_page pm_L_page cd_L_page ct_L_page : Value}
    {od_L_counted an_L_counted : Option Addr} {sl_L_counted : Array (Option Value)} {oc_L_counted kV_L_counted dc_L_counted pm_L_counted cd_L_counted ct_L_counted : Value}
    {od_L_spoilt an_L_spoilt : Option Addr} {sl_L_spoilt : Array (Option Value)} {oc_L_spoilt kV_L_spoilt dc_L_spoilt pm_L_spoilt cd_L_spoilt ct_L_spoilt : Value}
    {od_L_steps_of an_L_steps_of : Option Addr} {sl_L_steps_of : Array (Option Value)} {oc_L_steps_of kV_L_steps_of dc_L_steps_of pm_L_steps_of cd_L_steps_of ct_L_steps_of : Value}
    {od_law an_law : Option Addr} {sl_law : Array (Option Value)} {oc_law kV_law dc_law pm_law cd_law ct_law : Value}
    (e_hn : PySem.W.specialIn K (.builtin "object.__class__") "__get__" = some (some (.builtin "getset_descriptor.__get__")))
    (e_ht : PySem.W.takesIn K (.builtin "object.__class__") = some true)
    (aC_FrameError : PySem.W.nsIn K mainGlobals "FrameError" = some (some (.ref C_FrameError)))
    (aC_NoShape : PySem.W.nsIn K mainGlobals "NoShape" = some (some (.ref C_NoShape)))
    (aC_OutOfRoom : PySem.W.nsIn K mainGlobals "OutOfRoom" = some (some (.ref C_OutOfRoom)))
    (aC_OutOfBank : PySem.W.nsIn K mainGlobals "OutOfBank" = some (some (.ref C_OutOfBank)))
    (aC_Shape : PySem.W.nsIn K mainGlobals "Shape" = some (some (.ref C_Shape)))
    (a_is_whole : PySem.W.nsIn K mainGlobals "is_whole" = some (some (.ref f_is_whole)))
    (l_is_whole : K.lookup f_is_whole = some ⟨oc_is_whole, od_is_whole, .func (PySem.W.fnOf "is_whole" "is_whole" (defArgs s_is_whole) (defBody s_is_whole) (defScope s_is_whole) .none kV_is_whole dc_is_whole pm_is_whole an_is_whole cd_is_whole ct_is_whole), sl_is_whole⟩)
    (c_is_whole : PySem.W.codeIn K cd_is_whole "is_whole" = true)
    (k_is_whole : PySem.W.keepIn K (.ref f_is_whole) = true)
    (a_is_within : PySem.W.nsIn K mainGlobals "is_within" = some (some (.ref f_is_within)))
    (l_is_within : K.lookup f_is_within = some ⟨oc_is_within, od_is_within, .func (PySem.W.fnOf "is_within" "is_within" (defArgs s_is_within) (defBody s_is_within) (defScope s_is_within) .none kV_is_within dc_is_within pm_is_within an_is_within cd_is_within ct_is_within), sl_is_within⟩)
    (c_is_within : PySem.W.codeIn K cd_is_within "is_within" = true)
    (k_is_within : PySem.W.keepIn K (.ref f_is_within) = true)
    (a_Shape_init : PySem.W.findIn K (.ref C_Shape) "__init__" = some (some (.ref f_Shape_init)))
    (l_Shape_init : K.lookup f_Shape_init = some ⟨oc_Shape_init, od_Shape_init, .func (PySem.W.fnOf "__init__" "Shape.__init__" (defArgs s_Shape_init) (defBody s_Shape_init) (defScope s_Shape_init) .none kV_Shape_init dc_Shape_init pm_Shape_init an_Shape_init cd_Shape_init ct_Shape_init), sl_Shape_init⟩)
    (c_Shape_init : PySem.W.codeIn K cd_Shape_init "Shape.__init__" = true)
    (k_Shape_init : PySem.W.keepIn K (.ref f_Shape_init) = true)
    (i_Shape_init : PySem.W.isFn K (.ref f_Shape_init) = true)
    (a_Shape_sheet_size : PySem.W.findIn K (.ref C_Shape) "sheet_size" = some (some (.ref f_Shape_sheet_size)))
    (l_Shape_sheet_size : K.lookup f_Shape_sheet_size = some ⟨oc_Shape_sheet_size, od_Shape_sheet_size, .func (PySem.W.fnOf "sheet_size" "Shape.sheet_size" (defArgs s_Shape_sheet_size) (defBody s_Shape_sheet_size) (defScope s_Shape_sheet_size) .none kV_Shape_sheet_size dc_Shape_sheet_size pm_Shape_sheet_size an_Shape_sheet_size cd_Shape_sheet_size ct_Shape_sheet_size), sl_Shape_sheet_size⟩)
    (c_Shape_sheet_size : PySem.W.codeIn K cd_Shape_sheet_size "Shape.sheet_size" = true)
    (k_Shape_sheet_size : PySem.W.keepIn K (.ref f_Shape_sheet_size) = true)
    (i_Shape_sheet_size : PySem.W.isFn K (.ref f_Shape_sheet_size) = true)
    (a_Shape_page_count : PySem.W.findIn K (.ref C_Shape) "page_count" = some (some (.ref f_Shape_page_count)))
    (l_Shape_page_count : K.lookup f_Shape_page_count = some ⟨oc_Shape_page_count, od_Shape_page_count, .func (PySem.W.fnOf "page_count" "Shape.page_count" (defArgs s_Shape_page_count) (defBody s_Shape_page_count) (defScope s_Shape_page_count) .none kV_Shape_page_count dc_Shape_page_count pm_Shape_page_count an_Shape_page_count cd_Shape_page_count ct_Shape_page_count), sl_Shape_page_count⟩)
    (c_Shape_page_count : PySem.W.codeIn K cd_Shape_page_count "Shape.page_count" = true)
    (k_Shape_page_count : PySem.W.keepIn K (.ref f_Shape_page_count) = true)
    (i_Shape_page_count : PySem.W.isFn K (.ref f_Shape_page_count) = true)
    (a_Shape_parted : PySem.W.findIn K (.ref C_Shape) "parted" = some (some (.ref f_Shape_parted)))
    (l_Shape_parted : K.lookup f_Shape_parted = some ⟨oc_Shape_parted, od_Shape_parted, .func (PySem.W.fnOf "parted" "Shape.parted" (defArgs s_Shape_parted) (defBody s_Shape_parted) (defScope s_Shape_parted) .none kV_Shape_parted dc_Shape_parted pm_Shape_parted an_Shape_parted cd_Shape_parted ct_Shape_parted), sl_Shape_parted⟩)
    (c_Shape_parted : PySem.W.codeIn K cd_Shape_parted "Shape.parted" = true)
    (k_Shape_parted : PySem.W.keepIn K (.ref f_Shape_parted) = true)
    (i_Shape_parted : PySem.W.isFn K (.ref f_Shape_parted) = true)
    (a_Shape_address : PySem.W.findIn K (.ref C_Shape) "address" = some (some (.ref f_Shape_address)))
    (l_Shape_address : K.lookup f_Shape_address = some ⟨oc_Shape_address, od_Shape_address, .func (PySem.W.fnOf "address" "Shape.address" (defArgs s_Shape_address) (defBody s_Shape_address) (defScope s_Shape_address) .none kV_Shape_address dc_Shape_address pm_Shape_address an_Shape_address cd_Shape_address ct_Shape_address), sl_Shape_address⟩)
    (c_Shape_address : PySem.W.codeIn K cd_Shape_address "Shape.address" = true)
    (k_Shape_address : PySem.W.keepIn K (.ref f_Shape_address) = true)
    (i_Shape_address : PySem.W.isFn K (.ref f_Shape_address) = true)
    (a_Shape_steps : PySem.W.findIn K (.ref C_Shape) "steps" = some (some (.ref f_Shape_steps)))
    (l_Shape_steps : K.lookup f_Shape_steps = some ⟨oc_Shape_steps, od_Shape_steps, .func (PySem.W.fnOf "steps" "Shape.steps" (defArgs s_Shape_steps) (defBody s_Shape_steps) (defScope s_Shape_steps) .none kV_Shape_steps dc_Shape_steps pm_Shape_steps an_Shape_steps cd_Shape_steps ct_Shape_steps), sl_Shape_steps⟩)
    (c_Shape_steps : PySem.W.codeIn K cd_Shape_steps "Shape.steps" = true)
    (k_Shape_steps : PySem.W.keepIn K (.ref f_Shape_steps) = true)
    (i_Shape_steps : PySem.W.isFn K (.ref f_Shape_steps) = true)
    (a_Shape_page_of : PySem.W.findIn K (.ref C_Shape) "page_of" = some (some (.ref f_Shape_page_of)))
    (l_Shape_page_of : K.lookup f_Shape_page_of = some ⟨oc_Shape_page_of, od_Shape_page_of, .func (PySem.W.fnOf "page_of" "Shape.page_of" (defArgs s_Shape_page_of) (defBody s_Shape_page_of) (defScope s_Shape_page_of) .none kV_Shape_page_of dc_Shape_page_of pm_Shape_page_of an_Shape_page_of cd_Shape_page_of ct_Shape_page_of), sl_Shape_page_of⟩)
    (c_Shape_page_of : PySem.W.codeIn K cd_Shape_page_of "Shape.page_of" = true)
    (k_Shape_page_of : PySem.W.keepIn K (.ref f_Shape_page_of) = true)
    (i_Shape_page_of : PySem.W.isFn K (.ref f_Shape_page_of) = true)
    (a_L_cell_at : PySem.W.nsIn K mainGlobals "_law_cell_at" = some (some (.ref f_L_cell_at)))
    (l_L_cell_at : K.lookup f_L_cell_at = some ⟨oc_L_cell_at, od_L_cell_at, .func (PySem.W.fnOf "_law_cell_at" "_law_cell_at" (defArgs s_L_cell_at) (defBody s_L_cell_at) (defScope s_L_cell_at) .none kV_L_cell_at dc_L_cell_at pm_L_cell_at an_L_cell_at cd_L_cell_at ct_L_cell_at), sl_L_cell_at⟩)
    (c_L_cell_at : PySem.W.codeIn K cd_L_cell_at "_law_cell_at" = true)
    (k_L_cell_at : PySem.W.keepIn K (.ref f_L_cell_at) = true)
    (a_L_whole : PySem.W.nsIn K mainGlobals "_law_whole" = some (some (.ref f_L_whole)))
    (l_L_whole : K.lookup f_L_whole = some ⟨oc_L_whole, od_L_whole, .func (PySem.W.fnOf "_law_whole" "_law_whole" (defArgs s_L_whole) (defBody s_L_whole) (defScope s_L_whole) .none kV_L_whole dc_L_whole pm_L_whole an_L_whole cd_L_whole ct_L_whole), sl_L_whole⟩)
    (c_L_whole : PySem.W.codeIn K cd_L_whole "_law_whole" = true)
    (k_L_whole : PySem.W.keepIn K (.ref f_L_whole) = true)
    (a_L_doubled : PySem.W.nsIn K mainGlobals "_law_doubled" = some (some (.ref f_L_doubled)))
    (l_L_doubled : K.lookup f_L_doubled = some ⟨oc_L_doubled, od_L_doubled, .func (PySem.W.fnOf "_law_doubled" "_law_doubled" (defArgs s_L_doubled) (defBody s_L_doubled) (defScope s_L_doubled) .none kV_L_doubled dc_L_doubled pm_L_doubled an_L_doubled cd_L_doubled ct_L_doubled), sl_L_doubled⟩)
    (c_L_doubled : PySem.W.codeIn K cd_L_doubled "_law_doubled" = true)
    (k_L_doubled : PySem.W.keepIn K (.ref f_L_doubled) = true)
    (a_L_page : PySem.W.nsIn K mainGlobals "_law_page" = some (some (.ref f_L_page)))
    (l_L_page : K.lookup f_L_page = some ⟨oc_L_page, od_L_page, .func (PySem.W.fnOf "_law_page" "_law_page" (defArgs s_L_page) (defBody s_L_page) (defScope s_L_page) .none kV_L_page dc_L_page pm_L_page an_L_page cd_L_page ct_L_page), sl_L_page⟩)
    (c_L_page : PySem.W.codeIn K cd_L_page "_law_page" = true)
    (k_L_page : PySem.W.keepIn K (.ref f_L_page) = true)
    (a_L_counted : PySem.W.nsIn K mainGlobals "_law_counted" = some (some (.ref f_L_counted)))
    (l_L_counted : K.lookup f_L_counted = some ⟨oc_L_counted, od_L_counted, .func (PySem.W.fnOf "_law_counted" "_law_counted" (defArgs s_L_counted) (defBody s_L_counted) (defScope s_L_counted) .none kV_L_counted dc_L_counted pm_L_counted an_L_counted cd_L_counted ct_L_counted), sl_L_counted⟩)
    (c_L_counted : PySem.W.codeIn K cd_L_counted "_law_counted" = true)
    (k_L_counted : PySem.W.keepIn K (.ref f_L_counted) = true)
    (a_L_spoilt : PySem.W.nsIn K mainGlobals "_law_spoilt" = some (some (.ref f_L_spoilt)))
    (l_L_spoilt : K.lookup f_L_spoilt = some ⟨oc_L_spoilt, od_L_spoilt, .func (PySem.W.fnOf "_law_spoilt" "_law_spoilt" (defArgs s_L_spoilt) (defBody s_L_spoilt) (defScope s_L_spoilt) .none kV_L_spoilt dc_L_spoilt pm_L_spoilt an_L_spoilt cd_L_spoilt ct_L_spoilt), sl_L_spoilt⟩)
    (c_L_spoilt : PySem.W.codeIn K cd_L_spoilt "_law_spoilt" = true)
    (k_L_spoilt : PySem.W.keepIn K (.ref f_L_spoilt) = true)
    (a_L_steps_of : PySem.W.nsIn K mainGlobals "_law_steps_of" = some (some (.ref f_L_steps_of)))
    (l_L_steps_of : K.lookup f_L_steps_of = some ⟨oc_L_steps_of, od_L_steps_of, .func (PySem.W.fnOf "_law_steps_of" "_law_steps_of" (defArgs s_L_steps_of) (defBody s_L_steps_of) (defScope s_L_steps_of) .none kV_L_steps_of dc_L_steps_of pm_L_steps_of an_L_steps_of cd_L_steps_of ct_L_steps_of), sl_L_steps_of⟩)
    (c_L_steps_of : PySem.W.codeIn K cd_L_steps_of "_law_steps_of" = true)
    (k_L_steps_of : PySem.W.keepIn K (.ref f_L_steps_of) = true)
    (a_law : PySem.W.nsIn K mainGlobals "law" = some (some (.ref f_law)))
    (l_law : K.lookup f_law = some ⟨oc_law, od_law, .func (PySem.W.fnOf "law" "law" (defArgs s_law) (defBody s_law) (defScope s_law) .none kV_law dc_law pm_law an_law cd_law ct_law), sl_law⟩)
    (c_law : PySem.W.codeIn K cd_law "law" = true)
    (k_law : PySem.W.keepIn K (.ref f_law) = true)
    (xb_FrameError : PySem.W.subIn K (.ref C_FrameError) (.type "BaseException") = some true)
    (xt_FrameError : PySem.W.typeIn K (.ref C_FrameError) = some (.type "type"))
    (ed_FrameError : PySem.W.hasDictIn K C_FrameError = true)
    (xb_NoShape : PySem.W.subIn K (.ref C_NoShape) (.type "BaseException") = some true)
    (xt_NoShape : PySem.W.typeIn K (.ref C_NoShape) = some (.type "type"))
    (ed_NoShape : PySem.W.hasDictIn K C_NoShape = true)
    (xx_NoShape : PySem.W.excIn K C_NoShape [.type "ValueError", .type "Exception", .type "BaseException", .type "object"] "ValueError.__new__" = true)
    (xk_NoShape : PySem.W.keepIn K (.ref C_NoShape) = true)
    (eg_NoShape : PySem.W.findIn K (.ref C_NoShape) "__getattribute__" = some (some (.builtin "BaseException.__getattribute__")))
    (ek_NoShape : PySem.W.findIn K (.ref C_NoShape) "__getattr__" = some none)
    (ea_NoShape : PySem.W.findIn K (.ref C_NoShape) "__class__" = some (some (.builtin "object.__class__")))
    (em_NoShape : PySem.W.mroIn K C_NoShape (.type "object") = some true)
    (sb_NoShape_FrameError : PySem.W.subIn K (.ref C_NoShape) (.ref C_FrameError) = some true)
    (ki_NoShape_NoShape : PySem.W.kitOne K (.ref C_NoShape) (.ref C_NoShape) = some true)
    (ki_NoShape_OutOfBank : PySem.W.kitOne K (.ref C_NoShape) (.ref C_OutOfBank) = some false)
    (ki_NoShape_OutOfRoom : PySem.W.kitOne K (.ref C_NoShape) (.ref C_OutOfRoom) = some false)
    (xb_OutOfRoom : PySem.W.subIn K (.ref C_OutOfRoom) (.type "BaseException") = some true)
    (xt_OutOfRoom : PySem.W.typeIn K (.ref C_OutOfRoom) = some (.type "type"))
    (ed_OutOfRoom : PySem.W.hasDictIn K C_OutOfRoom = true)
    (xx_OutOfRoom : PySem.W.excIn K C_OutOfRoom [.type "ValueError", .type "Exception", .type "BaseException", .type "object"] "ValueError.__new__" = true)
    (xk_OutOfRoom : PySem.W.keepIn K (.ref C_OutOfRoom) = true)
    (eg_OutOfRoom : PySem.W.findIn K (.ref C_OutOfRoom) "__getattribute__" = some (some (.builtin "BaseException.__getattribute__")))
    (ek_OutOfRoom : PySem.W.findIn K (.ref C_OutOfRoom) "__getattr__" = some none)
    (ea_OutOfRoom : PySem.W.findIn K (.ref C_OutOfRoom) "__class__" = some (some (.builtin "object.__class__")))
    (em_OutOfRoom : PySem.W.mroIn K C_OutOfRoom (.type "object") = some true)
    (sb_OutOfRoom_FrameError : PySem.W.subIn K (.ref C_OutOfRoom) (.ref C_FrameError) = some true)
    (ki_OutOfRoom_NoShape : PySem.W.kitOne K (.ref C_OutOfRoom) (.ref C_NoShape) = some false)
    (ki_OutOfRoom_OutOfBank : PySem.W.kitOne K (.ref C_OutOfRoom) (.ref C_OutOfBank) = some false)
    (ki_OutOfRoom_OutOfRoom : PySem.W.kitOne K (.ref C_OutOfRoom) (.ref C_OutOfRoom) = some true)
    (pg_Shape : PySem.W.plainGet K C_Shape Str.empty = true)
    (hd_Shape : PySem.W.hasDictIn K C_Shape = true)
    (po_Shape : PySem.W.plainOver K C_Shape = true)
    (sa_Shape : PySem.W.findIn K (.ref C_Shape) "__setattr__" = some (some (.builtin "object.__setattr__")))
    (mk_Shape : PySem.W.makesIn K C_Shape = true)
    (kc_Shape : PySem.W.keepIn K (.ref C_Shape) = true)
    (na_Shape_levels : PySem.W.findIn K (.ref C_Shape) "levels" = some none)
    (na_Shape_fan : PySem.W.findIn K (.ref C_Shape) "fan" = some none)
    (na_Shape_grain : PySem.W.findIn K (.ref C_Shape) "grain" = some none)
    (z_bool : PySem.W.nsIn K mainGlobals "bool" = some none)
    (z_int : PySem.W.nsIn K mainGlobals "int" = some none)
    (z_isinstance : PySem.W.nsIn K mainGlobals "isinstance" = some none)
    (z_len : PySem.W.nsIn K mainGlobals "len" = some none)
    (z_list : PySem.W.nsIn K mainGlobals "list" = some none)
    (z_range : PySem.W.nsIn K mainGlobals "range" = some none)
    : ∃ fd : FuncData, (∀ (s : Shared) (v : Value), BindsTo s fd ⟨[v], []⟩ [("_law_script", v)]) ∧ ∀ base : Heap, K.In base → base.Ns mainGlobals mg → FnOk l.prog w K mg base (L2.CX l.prog w) 5 fa fd ["_law_script"] (spLaw K) := by
  obtain ⟨T, rfl⟩ := all_mk (w := w) X G hfa e_hn e_ht aC_FrameError aC_NoShape aC_OutOfRoom aC_OutOfBank aC_Shape a_is_whole l_is_whole c_is_whole k_is_whole a_is_within l_is_within c_is_within k_is_within a_Shape_init l_Shape_init c_Shape_init k_Shape_init i_Shape_init a_Shape_sheet_size l_Shape_sheet_size c_Shape_sheet_size k_Shape_sheet_size i_Shape_sheet_size a_Shape_page_count l_Shape_page_count c_Shape_page_count k_Shape_page_count i_Shape_page_count a_Shape_parted l_Shape_parted c_Shape_parted k_Shape_parted i_Shape_parted a_Shape_address l_Shape_address c_Shape_address k_Shape_address i_Shape_address a_Shape_steps l_Shape_steps c_Shape_steps k_Shape_steps i_Shape_steps a_Shape_page_of l_Shape_page_of c_Shape_page_of k_Shape_page_of i_Shape_page_of a_L_cell_at l_L_cell_at c_L_cell_at k_L_cell_at a_L_whole l_L_whole c_L_whole k_L_whole a_L_doubled l_L_doubled c_L_doubled k_L_doubled a_L_page l_L_page c_L_page k_L_page a_L_counted l_L_counted c_L_counted k_L_counted a_L_spoilt l_L_spoilt c_L_spoilt k_L_spoilt a_L_steps_of l_L_steps_of c_L_steps_of k_L_steps_of a_law l_law c_law k_law xb_FrameError xt_FrameError ed_FrameError xb_NoShape xt_NoShape ed_NoShape xx_NoShape xk_NoShape eg_NoShape ek_NoShape ea_NoShape em_NoShape sb_NoShape_FrameError ki_NoShape_NoShape ki_NoShape_OutOfBank ki_NoShape_OutOfRoom xb_OutOfRoom xt_OutOfRoom ed_OutOfRoom xx_OutOfRoom xk_OutOfRoom eg_OutOfRoom ek_OutOfRoom ea_OutOfRoom em_OutOfRoom sb_OutOfRoom_FrameError ki_OutOfRoom_NoShape ki_OutOfRoom_OutOfBank ki_OutOfRoom_OutOfRoom pg_Shape hd_Shape po_Shape sa_Shape mk_Shape kc_Shape na_Shape_levels na_Shape_fan na_Shape_grain z_bool z_int z_isinstance z_len z_list z_range
  exact ⟨T.fd_law, T.bt_law, fun base _ _ => ok_law T⟩
theorem walk {l : PySem.W.OpenLaw} {q : Program} {loose : List Str} {XP : (Str → Option Value) → Heap → Prop} {YP : World → Heap → Prop} {d : DefRec} {K : Params → PySem.W.Frag} (hn : l.most = some 63) (hdf : d.params.defaults = [])
    (hY : ∀ (w : World) (h : Heap), YP w h → (K w.params).In h)
    (F : ∀ (w : World) (mg : Str → Option Value) (fa : Addr) (h : Heap), (K w.params).In h → h.Ns mainGlobals mg → mg d.name = some (.ref fa) →
      ∃ fd : FuncData, (∀ (s : Shared) (u : Value), BindsTo s fd ⟨[u], []⟩ [("_law_script", u)]) ∧ ∀ base : Heap, (K w.params).In base → base.Ns mainGlobals mg → FnOk l.prog w (K w.params) mg base (L2.CX l.prog w) 5 fa fd ["_law_script"] (spLaw (K w.params))) :
    PySem.W.WalkO q loose XP YP l.row.toRowW d [] (fun f vs => PySem.call f vs) :=
  L2.walk_ofB (n := 63) (k := 5) (x := "_law_script") (CX := fun w => L2.CX l.prog w) (sp := fun w => spLaw (K w.params)) hn (by decide) hdf ⟨rfl, by decide, by decide⟩ hY F (fun _ _ a ns hl hb _ hS => ⟨a, ns, rfl, Star.ofScr hS, hl, hb, fun _ => rfl⟩) fun _ _ _ _ _ z => by
    obtain ⟨_, _, _, _, _, _, _, _, _, _, _, _, z⟩ := z
    exact z.elim
end Fl
open PySem PySem.W PyProof.Rows
set_option maxRecDepth 100000 in
set_option maxHeartbeats 0 in
theorem PySem.Challenge.cw_frameland_k03_steps_holds : PySem.Challenge.rw_frameland_k03_steps.Holds := by
  w_on; o_law; k_head; (case hw => w_witness2)
  k_fill
  refine Fl.walk (l := PySem.Challenge.rw_frameland_k03_steps) rfl rfl (fun w h Y => PySem.W.kIn_of Y) ?F
  case F =>
    intro w mg fa h KX G hmg
    refine' Fl.all_fin (l := PySem.Challenge.rw_frameland_k03_steps) (w := w) KX G hmg ?e_hn ?e_ht ?aC_FrameError ?aC_NoShape ?aC_OutOfRoom ?aC_OutOfBank ?aC_Shape ?a_is_whole ?l_is_whole ?c_is_whole ?k_is_whole ?a_is_within ?l_is_within ?c_is_within ?k_is_within ?a_Shape_init ?l_Shape_init ?c_Shape_init ?k_Shape_init ?i_Shape_init ?a_Shape_sheet_size ?l_Shape_sheet_size ?c_Shape_sheet_size ?k_Shape_sheet_size ?i_Shape_sheet_size ?a_Shape_page_count ?l_Shape_page_count ?c_Shape_page_count ?k_Shape_page_count ?i_Shape_page_count ?a_Shape_parted ?l_Shape_parted ?c_Shape_parted ?k_Shape_parted ?i_Shape_parted ?a_Shape_address ?l_Shape_address ?c_Shape_address ?k_Shape_address ?i_Shape_address ?a_Shape_steps ?l_Shape_steps ?c_Shape_steps ?k_Shape_steps ?i_Shape_steps ?a_Shape_page_of ?l_Shape_page_of ?c_Shape_page_of ?k_Shape_page_of ?i_Shape_page_of ?a_L_cell_at ?l_L_cell_at ?c_L_cell_at ?k_L_cell_at ?a_L_whole ?l_L_whole ?c_L_whole ?k_L_whole ?a_L_doubled ?l_L_doubled ?c_L_doubled ?k_L_doubled ?a_L_page ?l_L_page ?c_L_page ?k_L_page ?a_L_counted ?l_L_counted ?c_L_counted ?k_L_counted ?a_L_spoilt ?l_L_spoilt ?c_L_spoilt ?k_L_spoilt ?a_L_steps_of ?l_L_steps_of ?c_L_steps_of ?k_L_steps_of ?a_law ?l_law ?c_law ?k_law ?xb_FrameError ?xt_FrameError ?ed_FrameError ?xb_NoShape ?xt_NoShape ?ed_NoShape ?xx_NoShape ?xk_NoShape ?eg_NoShape ?ek_NoShape ?ea_NoShape ?em_NoShape ?sb_NoShape_FrameError ?ki_NoShape_NoShape ?ki_NoShape_OutOfBank ?ki_NoShape_OutOfRoom ?xb_OutOfRoom ?xt_OutOfRoom ?ed_OutOfRoom ?xx_OutOfRoom ?xk_OutOfRoom ?eg_OutOfRoom ?ek_OutOfRoom ?ea_OutOfRoom ?em_OutOfRoom ?sb_OutOfRoom_FrameError ?ki_OutOfRoom_NoShape ?ki_OutOfRoom_OutOfBank ?ki_OutOfRoom_OutOfRoom ?pg_Shape ?hd_Shape ?po_Shape ?sa_Shape ?mk_Shape ?kc_Shape ?na_Shape_levels ?na_Shape_fan ?na_Shape_grain ?z_bool ?z_int ?z_isinstance ?z_len ?z_list ?z_range
    (case e_hn => k_is)
    (case e_ht => k_is)
    (case aC_FrameError => k_is)
    (case aC_NoShape => k_is)
    (case aC_OutOfRoom => k_is)
    (case aC_OutOfBank => k_is)
    (case aC_Shape => k_is)
    (case a_is_whole => k_is)
    (case l_is_whole => k_is)
    (case c_is_whole => k_is)
    (case k_is_whole => k_is)
    (case a_is_within => k_is)
    (case l_is_within => k_is)
    (case c_is_within => k_is)
    (case k_is_within => k_is)
    (case a_Shape_init => k_is)
    (case l_Shape_init => k_is)
    (case c_Shape_init => k_is)
    (case k_Shape_init => k_is)
    (case i_Shape_init => k_is)
    (case a_Shape_sheet_size => k_is)
    (case l_Shape_sheet_size => k_is)
    (case c_Shape_sheet_size => k_is)
    (case k_Shape_sheet_size => k_is)
    (case i_Shape_sheet_size => k_is)
    (case a_Shape_page_count => k_is)
    (case l_Shape_page_count => k_is)
    (case c_Shape_page_count => k_is)
    (case k_Shape_page_count => k_is)
    (case i_Shape_page_count => k_is)
    (case a_Shape_parted => k_is)
    (case l_Shape_parted => k_is)
    (case c_Shape_parted => k_is)
    (case k_Shape_parted => k_is)
    (case i_Shape_parted => k_is)
    (case a_Shape_address => k_is)
    (case l_Shape_address => k_is)
    (case c_Shape_address => k_is)
    (case k_Shape_address => k_is)
    (case i_Shape_address => k_is)
    (case a_Shape_steps => k_is)
    (case l_Shape_steps => k_is)
    (case c_Shape_steps => k_is)
    (case k_Shape_steps => k_is)
    (case i_Shape_steps => k_is)
    (case a_Shape_page_of => k_is)
    (case l_Shape_page_of => k_is)
    (case c_Shape_page_of => k_is)
    (case k_Shape_page_of => k_is)
    (case i_Shape_page_of => k_is)
    (case a_L_cell_at => k_is)
    (case l_L_cell_at => k_is)
    (case c_L_cell_at => k_is)
    (case k_L_cell_at => k_is)
    (case a_L_whole => k_is)
    (case l_L_whole => k_is)
    (case c_L_whole => k_is)
    (case k_L_whole => k_is)
    (case a_L_doubled => k_is)
    (case l_L_doubled => k_is)
    (case c_L_doubled => k_is)
    (case k_L_doubled => k_is)
    (case a_L_page => k_is)
    (case l_L_page => k_is)
    (case c_L_page => k_is)
    (case k_L_page => k_is)
    (case a_L_counted => k_is)
    (case l_L_counted => k_is)
    (case c_L_counted => k_is)
    (case k_L_counted => k_is)
    (case a_L_spoilt => k_is)
    (case l_L_spoilt => k_is)
    (case c_L_spoilt => k_is)
    (case k_L_spoilt => k_is)
    (case a_L_steps_of => k_is)
    (case l_L_steps_of => k_is)
    (case c_L_steps_of => k_is)
    (case k_L_steps_of => k_is)
    (case a_law => k_is)
    (case l_law => k_is)
    (case c_law => k_is)
    (case k_law => k_is)
    (case xb_FrameError => k_is)
    (case xt_FrameError => k_is)
    (case ed_FrameError => k_is)
    (case xb_NoShape => k_is)
    (case xt_NoShape => k_is)
    (case ed_NoShape => k_is)
    (case xx_NoShape => k_exc)
    (case xk_NoShape => k_is)
    (case eg_NoShape => k_is)
    (case ek_NoShape => k_is)
    (case ea_NoShape => k_is)
    (case em_NoShape => k_is)
    (case sb_NoShape_FrameError => k_is)
    (case ki_NoShape_NoShape => kit_is)
    (case ki_NoShape_OutOfBank => kit_is)
    (case ki_NoShape_OutOfRoom => kit_is)
    (case xb_OutOfRoom => k_is)
    (case xt_OutOfRoom => k_is)
    (case ed_OutOfRoom => k_is)
    (case xx_OutOfRoom => k_exc)
    (case xk_OutOfRoom => k_is)
    (case eg_OutOfRoom => k_is)
    (case ek_OutOfRoom => k_is)
    (case ea_OutOfRoom => k_is)
    (case em_OutOfRoom => k_is)
    (case sb_OutOfRoom_FrameError => k_is)
    (case ki_OutOfRoom_NoShape => kit_is)
    (case ki_OutOfRoom_OutOfBank => kit_is)
    (case ki_OutOfRoom_OutOfRoom => kit_is)
    (case pg_Shape => k_is)
    (case hd_Shape => k_is)
    (case po_Shape => k_is)
    (case sa_Shape => k_is)
    (case mk_Shape => k_is)
    (case kc_Shape => k_is)
    (case na_Shape_levels => k_is)
    (case na_Shape_fan => k_is)
    (case na_Shape_grain => k_is)
    (case z_bool => k_is)
    (case z_int => k_is)
    (case z_isinstance => k_is)
    (case z_len => k_is)
    (case z_list => k_is)
    (case z_range => k_is)
