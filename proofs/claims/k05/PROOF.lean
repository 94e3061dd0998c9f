import PyProof.Rows.All
import Wide.All
import OpenK.AllK
import Wide.FinOn
import HandS.ForMost
import HandS.ForExc
import HandS.IsInst
import HandS.ExcIs
import HandS.Style
import HandS.Wide
import HandS.WideMore
import HandS.WideBits
import HandS.EndBits
import HandS.SortInts
import HandS.SortKw
import HandS.DictTup
import HandS.TryMany
import HandS.NoneIn
import HandS.Flow
import HandS.Steps
import HandS.Walk
import HandS.Evl
import HandS.Conv
import PySem.Challenge.RW_frameland_k05_entry_numbers
set_option Elab.async false
set_option linter.all false
set_option maxRecDepth 100000
set_option maxHeartbeats 8000000
/-! Fl: a small logic of parted heaps over the hand layer. -/
namespace Fl
open PySem L2
abbrev Asrt := Hp → Prop
def Sub (h H : Hp) : Prop := ∀ a o, h a = some o → H a = some o
def IsTup (o : HO) : Prop := ∃ xs, o = .tup xs
/-- apart, but for tuples -/
def Dsj (h k : Hp) : Prop := ∀ a o u, h a = some o → k a = some u → o = u ∧ IsTup o
def Star : List Asrt → Asrt
  | [] => fun _ => True
  | A :: l => fun h => ∃ h1 h2, Dsj h1 h2 ∧ Sub h1 h ∧ Sub h2 h ∧ A h1 ∧ Star l h2
def pt (a : Addr) (o : HO) : Asrt := fun h => h a = some o
def pu (p : Prop) : Asrt := fun _ => p
def single (a : Addr) (o : HO) : Hp := fun b => if b = a then some o else none
def join (h k : Hp) : Hp := fun b => match h b with | some o => some o | none => k b
theorem Sub.refl (h : Hp) : Sub h h := fun _ _ e => e
theorem Sub.trans {h k l : Hp} (a : Sub h k) (b : Sub k l) : Sub h l := fun c o e => b c o (a c o e)
theorem single_self {a : Addr} {o : HO} : single a o a = some o := if_pos rfl
theorem single_sub {a : Addr} {o : HO} {H : Hp} (e : H a = some o) : Sub (single a o) H := fun b u q => by
  unfold single at q
  split at q
  · next h => subst h; cases q; exact e
  · cases q
theorem Dsj.symm {h k : Hp} (d : Dsj h k) : Dsj k h := fun a o u e1 e2 => by
  obtain ⟨rfl, t⟩ := d a u o e2 e1
  exact ⟨rfl, t⟩
theorem Dsj.mono {h k h' k' : Hp} (d : Dsj h k) (a : Sub h' h) (b : Sub k' k) : Dsj h' k' := fun c o u e1 e2 => d c o u (a c o e1) (b c u e2)
theorem join_l {h k : Hp} : Sub h (join h k) := fun a o e => by unfold join; rw [e]
theorem join_r {h k : Hp} (d : Dsj h k) : Sub k (join h k) := fun a o e => by
  unfold join
  cases q : h a with
  | none => exact e
  | some u =>
    obtain ⟨rfl, _⟩ := d a u o q e
    rfl
theorem join_sub {h k H : Hp} (a : Sub h H) (b : Sub k H) : Sub (join h k) H := fun c o e => by
  unfold join at e
  cases q : h c with
  | none => rw [q] at e; exact b c o e
  | some u => rw [q] at e; cases e; exact a c o q
theorem join_dsj {h k l : Hp} (a : Dsj h l) (b : Dsj k l) : Dsj (join h k) l := fun c o u e1 e2 => by
  unfold join at e1
  cases q : h c with
  | none => rw [q] at e1; exact b c o u e1 e2
  | some v => rw [q] at e1; cases e1; exact a c o u q e2
theorem Star.mono {l : List Asrt} {h H : Hp} (s : Sub h H) (S : Star l h) : Star l H := by
  cases l with
  | nil => trivial
  | cons A l =>
    obtain ⟨h1, h2, d, a, b, x, y⟩ := S
    exact ⟨h1, h2, d, a.trans s, b.trans s, x, y⟩
theorem Star.tail {A : Asrt} {l : List Asrt} {H : Hp} (S : Star (A :: l) H) : Star l H := by
  obtain ⟨h1, h2, d, a, b, x, y⟩ := S
  exact y.mono b
theorem Star.swap {A B : Asrt} {l : List Asrt} {H : Hp} (S : Star (A :: B :: l) H) : Star (B :: A :: l) H := by
  obtain ⟨h1, h2, d, a, b, x, h3, h4, d', a', b', x', y⟩ := S
  refine ⟨h3, join h1 h4, ?_, a'.trans b, join_sub a (b'.trans b), x', h1, h4, d.mono (Sub.refl _) b', join_l, join_r (d.mono (Sub.refl _) b'), x, y⟩
  exact (join_dsj (d.mono (Sub.refl _) a') d'.symm).symm
theorem Star.under {A : Asrt} {l l' : List Asrt} {H : Hp} (f : ∀ h, Star l h → Star l' h) (S : Star (A :: l) H) : Star (A :: l') H := by
  obtain ⟨h1, h2, d, a, b, x, y⟩ := S
  exact ⟨h1, h2, d, a, b, x, f _ y⟩
theorem Star.hd {A B : Asrt} {l : List Asrt} {H : Hp} (f : ∀ h, A h → B h) (S : Star (A :: l) H) : Star (B :: l) H := by
  obtain ⟨h1, h2, d, a, b, x, y⟩ := S
  exact ⟨h1, h2, d, a, b, f _ x, y⟩
theorem Star.p1 {A B : Asrt} {l : List Asrt} {H : Hp} (S : Star (A :: B :: l) H) : Star (B :: A :: l) H := S.swap
theorem Star.p2 {A B C : Asrt} {l : List Asrt} {H : Hp} (S : Star (A :: B :: C :: l) H) : Star (C :: A :: B :: l) H := Star.swap (Star.under (fun _ => Star.p1) S)
theorem Star.p3 {A B C D : Asrt} {l : List Asrt} {H : Hp} (S : Star (A :: B :: C :: D :: l) H) : Star (D :: A :: B :: C :: l) H := Star.swap (Star.under (fun _ => Star.p2) S)
theorem Star.p4 {A B C D E : Asrt} {l : List Asrt} {H : Hp} (S : Star (A :: B :: C :: D :: E :: l) H) : Star (E :: A :: B :: C :: D :: l) H := Star.swap (Star.under (fun _ => Star.p3) S)
theorem Star.p5 {A B C D E F : Asrt} {l : List Asrt} {H : Hp} (S : Star (A :: B :: C :: D :: E :: F :: l) H) : Star (F :: A :: B :: C :: D :: E :: l) H := Star.swap (Star.under (fun _ => Star.p4) S)
theorem Star.p6 {A B C D E F G : Asrt} {l : List Asrt} {H : Hp} (S : Star (A :: B :: C :: D :: E :: F :: G :: l) H) : Star (G :: A :: B :: C :: D :: E :: F :: l) H := Star.swap (Star.under (fun _ => Star.p5) S)
theorem Star.p7 {A B C D E F G I : Asrt} {l : List Asrt} {H : Hp} (S : Star (A :: B :: C :: D :: E :: F :: G :: I :: l) H) : Star (I :: A :: B :: C :: D :: E :: F :: G :: l) H := Star.swap (Star.under (fun _ => Star.p6) S)
theorem Star.p8 {A B C D E F G I J : Asrt} {l : List Asrt} {H : Hp} (S : Star (A :: B :: C :: D :: E :: F :: G :: I :: J :: l) H) : Star (J :: A :: B :: C :: D :: E :: F :: G :: I :: l) H := Star.swap (Star.under (fun _ => Star.p7) S)
theorem Star.p9 {A B C D E F G I J K : Asrt} {l : List Asrt} {H : Hp} (S : Star (A :: B :: C :: D :: E :: F :: G :: I :: J :: K :: l) H) : Star (K :: A :: B :: C :: D :: E :: F :: G :: I :: J :: l) H := Star.swap (Star.under (fun _ => Star.p8) S)
/-- lists in a row -/
theorem Star.split : ∀ {l : List Asrt} {m : List Asrt} {H : Hp}, Star (l ++ m) H → Star [Star l, Star m] H
  | [], m, H, S => ⟨fun _ => none, H, (fun _ _ _ e => nomatch e), (fun _ _ e => nomatch e), Sub.refl _, trivial, H, fun _ => none, (fun _ _ _ _ e => nomatch e), Sub.refl _, (fun _ _ e => nomatch e), S, trivial⟩
  | A :: l, m, H, S => by
    obtain ⟨h1, h2, d, a, b, x, y⟩ := S
    obtain ⟨h3, h4, d', a', b', x', h5, h6, d2, a2, b2, x2, _⟩ := Star.split y
    have e13 : Dsj h1 h3 := d.mono (Sub.refl _) a'
    refine ⟨join h1 h3, h5, ?_, join_sub a (a'.trans b), (a2.trans b').trans b, ⟨h1, h3, e13, join_l, join_r e13, x, x'⟩, h5, fun _ => none, (fun _ _ _ _ e => nomatch e), Sub.refl _, (fun _ _ e => nomatch e), x2, trivial⟩
    exact join_dsj (d.mono (Sub.refl _) (a2.trans b')) (d'.mono (Sub.refl _) a2)
theorem Star.glue : ∀ {l : List Asrt} {m : List Asrt} {H : Hp}, Star (Star l :: m) H → Star (l ++ m) H
  | [], m, H, S => S.tail
  | A :: l, m, H, S => by
    obtain ⟨h1, h2, d, a, b, ⟨h3, h4, d', a', b', x', y'⟩, y⟩ := S
    have e : Dsj h4 h2 := d.mono b' (Sub.refl _)
    refine ⟨h3, join h4 h2, ?_, a'.trans a, join_sub (b'.trans a) b, x', Star.glue (l := l) ⟨h4, h2, e, join_l, join_r e, y', y⟩⟩
    exact (join_dsj d'.symm (d.mono a' (Sub.refl _)).symm).symm
theorem Star.glue' {l m : List Asrt} {H : Hp} (S : Star (l ++ m) H) : Star (Star l :: m) H := by
  obtain ⟨h1, h2, d, a, b, x, h3, h4, d', a', b', x', _⟩ := Star.split S
  exact ⟨h1, h3, d.mono (Sub.refl _) a', a, a'.trans b, x, x'⟩
/-- an assertion opened: A's own list, then the rest -/
theorem Star.op {A : Asrt} {k l : List Asrt} {H : Hp} (S : Star (A :: l) H) (f : ∀ h, A h → Star k h) : Star (k ++ l) H := Star.glue (S.hd f)
theorem Star.cl {A : Asrt} {k l : List Asrt} {H : Hp} (S : Star (k ++ l) H) (f : ∀ h, Star k h → A h) : Star (A :: l) H := (Star.glue' S).hd f
theorem Star.ex {α : Type} {K : α → List Asrt} {l : List Asrt} {H : Hp} (S : Star ((fun h => ∃ x, Star (K x) h) :: l) H) : ∃ x, Star (K x ++ l) H := by
  obtain ⟨h1, h2, d, a, b, ⟨x, y⟩, z⟩ := S
  exact ⟨x, Star.glue ⟨h1, h2, d, a, b, y, z⟩⟩
theorem Star.ex2 {α β : Type} {K : α → β → List Asrt} {l : List Asrt} {H : Hp} (S : Star ((fun h => ∃ x y, Star (K x y) h) :: l) H) : ∃ x y, Star (K x y ++ l) H := by
  obtain ⟨h1, h2, d, a, b, ⟨x, y, q⟩, z⟩ := S
  exact ⟨x, y, Star.glue ⟨h1, h2, d, a, b, q, z⟩⟩
theorem Star.ex3 {α β γ : Type} {K : α → β → γ → List Asrt} {l : List Asrt} {H : Hp} (S : Star ((fun h => ∃ x y z, Star (K x y z) h) :: l) H) : ∃ x y z, Star (K x y z ++ l) H := by
  obtain ⟨h1, h2, d, a, b, ⟨x, y, z, q⟩, w⟩ := S
  exact ⟨x, y, z, Star.glue ⟨h1, h2, d, a, b, q, w⟩⟩
theorem Star.ex4 {α β γ δ : Type} {K : α → β → γ → δ → List Asrt} {l : List Asrt} {H : Hp} (S : Star ((fun h => ∃ x y z w, Star (K x y z w) h) :: l) H) : ∃ x y z w, Star (K x y z w ++ l) H := by
  obtain ⟨h1, h2, d, a, b, ⟨x, y, z, w, q⟩, v⟩ := S
  exact ⟨x, y, z, w, Star.glue ⟨h1, h2, d, a, b, q, v⟩⟩
theorem Star.exA {α : Type} {K : α → Asrt} {l : List Asrt} {H : Hp} (S : Star ((fun h => ∃ x, K x h) :: l) H) : ∃ x, Star (K x :: l) H := by
  obtain ⟨h1, h2, d, a, b, ⟨x, y⟩, z⟩ := S
  exact ⟨x, h1, h2, d, a, b, y, z⟩
/-- a fact comes out -/
theorem Star.fact {p : Prop} {l : List Asrt} {H : Hp} (S : Star (pu p :: l) H) : p := by
  obtain ⟨h1, h2, d, a, b, x, y⟩ := S
  exact x
theorem Star.put {p : Prop} {l : List Asrt} {H : Hp} (x : p) (S : Star l H) : Star (pu p :: l) H := ⟨fun _ => none, H, (fun _ _ _ e => nomatch e), (fun _ _ e => nomatch e), Sub.refl _, x, S⟩
/-- what needs nothing of its own -/
theorem Star.free {A : Asrt} {l : List Asrt} {H : Hp} (x : A fun _ => none) (S : Star l H) : Star (A :: l) H := ⟨fun _ => none, H, (fun _ _ _ e => nomatch e), (fun _ _ e => nomatch e), Sub.refl _, x, S⟩
/-! ### one of a list -/
inductive Pull (A : Asrt) : List Asrt → List Asrt → Prop where
  | here {l : List Asrt} : Pull A (A :: l) l
  | there {B : Asrt} {l m : List Asrt} (h : Pull A l m) : Pull A (B :: l) (B :: m)
theorem Star.pull {A : Asrt} : ∀ {L l : List Asrt} {H : Hp}, Star L H → Pull A L l → Star (A :: l) H
  | _, _, _, S, .here => S
  | _, _, _, S, .there h => Star.swap (S.under fun _ T => T.pull h)
/-! ### membership -/
theorem Star.has {A : Asrt} : ∀ {l : List Asrt} {H : Hp}, Star l H → A ∈ l → ∃ h, Sub h H ∧ A h
  | B :: l, H, S, m => by
    cases m with
    | head => obtain ⟨h1, h2, d, a, b, x, y⟩ := S; exact ⟨h1, a, x⟩
    | tail _ m =>
      obtain ⟨h, s, x⟩ := S.tail.has m
      exact ⟨h, s, x⟩
theorem Star.get {a : Addr} {o : HO} {l : List Asrt} {H : Hp} (S : Star l H) (m : pt a o ∈ l) : H a = some o := by
  obtain ⟨h, s, x⟩ := S.has m
  exact s a o x
/-! ### what happens to a heap -/
theorem Star.upd {a : Addr} {o u : HO} {l : List Asrt} {H : Hp} (S : Star (pt a o :: l) H) (nt : ¬ IsTup o) : Star (pt a u :: l) (upd H a u) := by
  obtain ⟨h1, h2, d, s1, s2, x, y⟩ := S
  have n2 : h2 a = none := by
    cases q : h2 a with
    | none => rfl
    | some v => exact absurd (d a o v x q).2 nt
  refine ⟨single a u, h2, fun b v w e1 e2 => ?_, single_sub upd_same, fun b v e => ?_, single_self, y⟩
  · unfold single at e1
    split at e1
    · next h => subst h; rw [n2] at e2; cases e2
    · cases e1
  · rw [upd_ne (fun q => by rw [q, n2] at e; cases e)]
    exact s2 b v e
theorem Star.new {p : Addr} {o : HO} {l : List Asrt} {H : Hp} (S : Star l H) (n : H p = none) : Star (pt p o :: l) (L2.upd H p o) := by
  refine ⟨single p o, H, fun b v w e1 e2 => ?_, single_sub upd_same, fun b v e => ?_, single_self, S⟩
  · unfold single at e1
    split at e1
    · next h => subst h; rw [n] at e2; cases e2
    · cases e1
  · rw [upd_ne (fun q => by rw [q, n] at e; cases e)]
    exact e
/-- a new object of no interest -/
theorem Star.junk {p : Addr} {o : HO} {l : List Asrt} {H : Hp} (S : Star l H) (n : H p = none) : Star l (L2.upd H p o) := (S.new (o := o) n).tail
theorem Star.tup2 {p : Addr} {xs : List V} {l : List Asrt} {H : Hp} (S : Star (pt p (.tup xs) :: l) H) : Star (pt p (.tup xs) :: pt p (.tup xs) :: l) H := by
  obtain ⟨h1, h2, d, s1, s2, x, y⟩ := S
  have hs : Dsj (single p (.tup xs)) h1 := fun a o u e1 e2 => by
    unfold single at e1
    split at e1
    · next h => subst h; cases e1; rw [x] at e2; cases e2; exact ⟨rfl, _, rfl⟩
    · cases e1
  have hs2 : Dsj (single p (.tup xs)) h2 := d.mono (single_sub x) (Sub.refl _)
  refine ⟨single p (.tup xs), join h1 h2, (join_dsj hs.symm hs2.symm).symm, (single_sub x).trans s1, join_sub s1 s2, single_self, h1, h2, d, join_l, join_r d, x, y⟩
theorem Star.ne {a b : Addr} {o u : HO} {l : List Asrt} {H : Hp} (S : Star (pt a o :: pt b u :: l) H) (nt : ¬ IsTup o) : a ≠ b := by
  obtain ⟨h1, h2, d, s1, s2, x, h3, h4, d', s3, s4, x', y⟩ := S
  rintro rfl
  exact nt (d a o u x (s3 _ _ x')).2
/-! ### the script -/
def scr (K : PySem.W.Frag) (a : Addr) (ns : List Int) : Asrt := fun h => SqL K h a (ns.map V.int)
theorem SqL.mono {K : PySem.W.Frag} {h H : Hp} {a : Addr} {xs : List V} (s : Sub h H) (e : SqL K h a xs) : SqL K H a xs := by
  rcases e with (e | ⟨o, e⟩) | e
  · exact .inl (.inl (s _ _ e))
  · exact .inl (.inr ⟨o, s _ _ e⟩)
  · exact .inr e
theorem Star.scr {K : PySem.W.Frag} {a : Addr} {ns : List Int} {l : List Asrt} {H : Hp} (S : Star l H) (m : scr K a ns ∈ l) : SqL K H a (ns.map V.int) := by
  obtain ⟨h, s, x⟩ := S.has m
  exact SqL.mono s x
theorem Star.ofScr {K : PySem.W.Frag} {a : Addr} {ns : List Int} {H : Hp} (e : SqL K H a (ns.map V.int)) : Star [Fl.scr K a ns] H :=
  ⟨H, fun _ => none, (fun _ _ _ _ e => nomatch e), Sub.refl _, (fun _ _ e => nomatch e), e, trivial⟩
end Fl
/-! Fl: rules with the class known ahead, calls with wishes by slots. -/
namespace Fl
open PySem PySem.Spec PyProof.Rows L2
section
variable {X : Cx} {o e value : Expr} {f m : Str} {pos pos' tpos : Pos} {ta tv : TE} {C : Addr}
/-- e.f of an instance of the class at C -/
def kFld (C : Addr) (f : Str) (x : V) (H : Hp) (Q : VK) : Prop := ∃ a dx fs v, x = .ref a ∧ H a = some (.ins C dx fs) ∧ fs.lookup f = some v ∧ Q v H
def tFldC (C : Addr) (ta : TE) (f : Str) : TE := fun σ H Q => ta σ H fun x H1 => kFld C f x H1 Q
theorem pe_fldC (c : Cls X.K C) (n : NoAttr X.K C f) (he : PE X e ta) (hb : attributeBase e f X.env (eval e X.env) = eval e X.env := by rfl) : PE X (.Attribute e f pos) (tFldC C ta f) := by
  refine ⟨fun pins s σ H Q I h => ?_⟩
  refine attr_of hb (thn (he.run pins s σ H _ I h) fun u s1 ⟨x, H1, I1, rx, a, dx, fs, v, ex, ea, l, q⟩ => ?_)
  subst ex
  obtain rfl : u = Value.ref a := rx
  exact getattr_ok I1 ea c n l fun u' s2 I2 ru => ⟨v, H1, I2, ru, q⟩
/-- of an instance of one of two classes -/
def kFld2 (C C' : Addr) (f : Str) (x : V) (H : Hp) (Q : VK) : Prop := ∃ a B dx fs v, x = .ref a ∧ (B = C ∨ B = C') ∧ H a = some (.ins B dx fs) ∧ fs.lookup f = some v ∧ Q v H
def tFldC2 (C C' : Addr) (ta : TE) (f : Str) : TE := fun σ H Q => ta σ H fun x H1 => kFld2 C C' f x H1 Q
theorem pe_fldC2 {C' : Addr} (c : Cls X.K C) (n : NoAttr X.K C f) (c' : Cls X.K C') (n' : NoAttr X.K C' f) (he : PE X e ta) (hb : attributeBase e f X.env (eval e X.env) = eval e X.env := by rfl) : PE X (.Attribute e f pos) (tFldC2 C C' ta f) := by
  refine ⟨fun pins s σ H Q I h => ?_⟩
  refine attr_of hb (thn (he.run pins s σ H _ I h) fun u s1 ⟨x, H1, I1, rx, a, B, dx, fs, v, ex, eB, ea, l, q⟩ => ?_)
  subst ex
  obtain rfl : u = Value.ref a := rx
  rcases eB with rfl | rfl
  · exact getattr_ok I1 ea c n l fun u' s2 I2 ru => ⟨v, H1, I2, ru, q⟩
  · exact getattr_ok I1 ea c' n' l fun u' s2 I2 ru => ⟨v, H1, I2, ru, q⟩
def kSto (C : Addr) (f : Str) (x y : V) (H : Hp) (D : Hp → Prop) : Prop := ∃ a dx fs, x = .ref a ∧ H a = some (.ins C dx fs) ∧ fs.length < 1000 ∧ D (upd H a (.ins C dx (putF f y fs)))
def sFldC (C : Addr) (ta tv : TE) (f : Str) : TS := fun D σ H => tv σ H fun y H1 => ta σ H1 fun x H2 => kSto C f x y H2 fun H3 => D.nx σ H3
theorem ps_fldC (c : Cls X.K C) (n : NoAttr X.K C f) (ha : PE X o ta) (hv : PE X value tv) (hs : swapsWith value (some (.Attribute o f pos')) pos.line X.env = pure false := by rfl) : PS X (.Assign [.Attribute o f pos'] value pos) (sFldC C ta tv f) := by
  refine ⟨fun pins s σ H D I h => ?_⟩
  refine plainObj_wpAny_Assign_Attribute (thn (hv.run pins s σ H _ I h) fun u s1 ⟨y, H1, I1, ry, q⟩ => thn (ha.run pins s1 σ H1 _ I1 q) fun ov s2 ⟨x, H2, I2, rx, a, dx, fs, ex, ea, l, q2⟩ => ?_) hs
  subst ex
  obtain rfl : ov = Value.ref a := rx
  exact setattr_ok I2 ea c n l ry fun s3 I3 => ⟨σ, _, I3, q2⟩
/-- of one of two classes -/
def kSto2 (C C' : Addr) (f : Str) (x y : V) (H : Hp) (D : Hp → Prop) : Prop := ∃ a B dx fs, x = .ref a ∧ (B = C ∨ B = C') ∧ H a = some (.ins B dx fs) ∧ fs.length < 1000 ∧ D (upd H a (.ins B dx (putF f y fs)))
def sFldC2 (C C' : Addr) (ta tv : TE) (f : Str) : TS := fun D σ H => tv σ H fun y H1 => ta σ H1 fun x H2 => kSto2 C C' f x y H2 fun H3 => D.nx σ H3
theorem ps_fldC2 {C' : Addr} (c : Cls X.K C) (n : NoAttr X.K C f) (c' : Cls X.K C') (n' : NoAttr X.K C' f) (ha : PE X o ta) (hv : PE X value tv) (hs : swapsWith value (some (.Attribute o f pos')) pos.line X.env = pure false := by rfl) : PS X (.Assign [.Attribute o f pos'] value pos) (sFldC2 C C' ta tv f) := by
  refine ⟨fun pins s σ H D I h => ?_⟩
  refine plainObj_wpAny_Assign_Attribute (thn (hv.run pins s σ H _ I h) fun u s1 ⟨y, H1, I1, ry, q⟩ => thn (ha.run pins s1 σ H1 _ I1 q) fun ov s2 ⟨x, H2, I2, rx, a, B, dx, fs, ex, eB, ea, l, q2⟩ => ?_) hs
  subst ex
  obtain rfl : ov = Value.ref a := rx
  rcases eB with rfl | rfl
  · exact setattr_ok I2 ea c n l ry fun s3 I3 => ⟨σ, _, I3, q2⟩
  · exact setattr_ok I2 ea c' n' l ry fun s3 I3 => ⟨σ, _, I3, q2⟩
def kAugW (C a : Addr) (f : Str) (z : V) (H : Hp) (D : Hp → Prop) : Prop := ∃ dx fs, H a = some (.ins C dx fs) ∧ fs.length < 1000 ∧ D (upd H a (.ins C dx (putF f z fs)))
def kAugR (C : Addr) (f : Str) (x : V) (H : Hp) (R : Addr → V → Prop) : Prop := ∃ a dx fs v, x = .ref a ∧ H a = some (.ins C dx fs) ∧ fs.lookup f = some v ∧ R a v
/-- e.f op= value -/
def sFldAugC (C : Addr) (ta tv : TE) (rd : R2) (f : Str) : TS := fun D σ H => ta σ H fun x H1 => kAugR C f x H1 fun a v => tv σ H1 fun y H2 => rd v y H2 fun z H3 => kAugW C a f z H3 fun H4 => D.nx σ H4
theorem ps_fldaugC {op : Operator} {rd : R2} (c : Cls X.K C) (n : NoAttr X.K C f) (ha : PE X o ta) (hv : PE X value tv) (hop : InOp X op rd) : PS X (.AugAssign (.Attribute o f tpos) op value pos) (sFldAugC C ta tv rd f) := by
  refine ⟨fun pins s σ H D I h => ?_⟩
  refine wpAny_AugAssign_AttributeAny (thn (ha.run pins s σ H _ I h) fun ov s1 ⟨x, H1, I1, rx, a, dx, fs, v, ex, ea, l, q⟩ => ?_)
  subst ex
  obtain rfl : ov = Value.ref a := rx
  refine getattr_ok I1 ea c n l fun u s2 I2 ru => thn (hv.run pins s2 σ H1 _ I2 q) fun w3 s3 ⟨y, H2, I3, ry, q3⟩ => thn (hop pins s3 σ H2 v y u w3 _ I3 ru ry q3) fun w4 s4 ⟨z, H3, I4, rz, dx', fs', ea', l', q4⟩ => ?_
  exact setattr_ok I4 ea' c n l' rz fun s5 I5 => ⟨σ, _, I5, q4⟩
theorem in_addI : InOp X .Add (rI0 fun i j => .int (i + j)) := in_add
theorem in_subI : InOp X .Sub (rI0 fun i j => .int (i - j)) := in_sub
end
/-! ### calls -/
section
variable {X : Cx} {CX : CXT} {k : Nat} {f C : Addr} {fd : FuncData} {ps : List Str} {sp : Sp} {dvs : List V} {ds : List Value} {E : L2.St → XK} {x m : Str} {p pos apos : Pos} {e o : Expr} {es : List Expr} {ta : TE} {t : TA}
theorem run_fnD {pins : List (Addr × Obj)} {σ : L2.St} {H : Hp} {s : Shared} {Q : VK} {us : List Value} {vs : List V} (F : FnOk X.prog X.w X.K X.mg X.base CX k f fd ps sp) (hr : Room k X.A) (hb : Binds X.K fd ps ds) (hd : Vals dvs ds) (hx : PassesAt CX X σ (E σ))
    (I : Inv X pins σ H s) (r : Vals vs us) (h : sp (vs ++ dvs) H Q (E σ)) : wpAny (model X.prog X.w) X.A (call (.ref f) us) (EP X pins σ Q) X.xe s := by
  have r2 : Vals (vs ++ dvs) (us ++ ds) := r.append hd
  have hl : (us ++ ds).length = ps.length := by rw [← r2.length]; exact F.len _ _ _ _ h
  refine wpAny_call (codeAny_mono (F.run X.A X.stack s H ⟨us, []⟩ (us ++ ds) (vs ++ dvs) Q (E σ) hr I.env0 (hb s us I.kIn hl) r2 h) fun r s' hq => ?_)
  cases r with
  | error e => exact hx pins H s e s' I hq
  | ok fl =>
    cases fl with
    | ret u => exact I.after hq
    | next => exact False.elim hq
    | brk => exact False.elim hq
    | cont => exact False.elim hq
theorem pass0At {P : Program} {w : World} {X : Cx} {σ : L2.St} : PassesAt (L2.CX P w) X σ E0 := fun _ _ _ _ _ _ h => by
  obtain ⟨_, _, _, _, _, _, _, _, _, _, _, _, z⟩ := h
  exact z.elim
def kCall (sp : Sp) (vs : List V) (H : Hp) (Q : VK) (E : XK) : Prop := sp vs H Q E
def tCl (sp : Sp) (dvs : List V) (E : L2.St → XK) (t : TA) : TE := fun σ H Q => t σ H fun vs H1 => kCall sp (vs ++ dvs) H1 Q (E σ)
theorem pe_cl (F : FnOk X.prog X.w X.K X.mg X.base CX k f fd ps sp) (hr : Room k X.A) (hm : X.mg x = some (.ref f)) (hk : PySem.W.keepIn X.K (.ref f) = true) (hb : Binds X.K fd ps ds) (hd : Vals dvs ds) (hx : ∀ σ, PassesAt CX X σ (E σ))
    (ha : PA X (e :: es) t) (hg : Gl X x := by rfl) (hdb : (x == ("__debug__" : Str)) = false := by decide) (he : starEach (e :: es) X.env = (false, eval e X.env) :: starEach es X.env := by rfl) (hpl : (backTo pos (starEach es X.env)).any (·.1) = false := by rfl) :
    PE X (.Call (.Name x p) (e :: es) [] pos) (tCl sp dvs E t) := by
  refine ⟨fun pins s σ H Q I h => ?_⟩
  refine wpAny_Call_Name_kw (ld_glob I hg hm ?_ hdb)
  refine PySem.W.callWith_K (h₀ := X.base) I.ok.mod.kin hk (thn (ha.run pos pins s σ H _ I h) fun us s1 ⟨vs, H1, I1, r, q⟩ => ⟨I1.kIn, ?_⟩) he hpl
  exact run_fnD F hr hb hd (hx σ) I1 r q
theorem pe_cl0 (F : FnOk X.prog X.w X.K X.mg X.base CX k f fd ps sp) (hr : Room k X.A) (hm : X.mg x = some (.ref f)) (hk : PySem.W.keepIn X.K (.ref f) = true) (hb : Binds X.K fd ps ds) (hd : Vals dvs ds) (hx : ∀ σ, PassesAt CX X σ (E σ))
    (hg : Gl X x := by rfl) (hdb : (x == ("__debug__" : Str)) = false := by decide) : PE X (.Call (.Name x p) [] [] pos) (tCl sp dvs E tNil) := by
  refine ⟨fun pins s σ H Q I h => ?_⟩
  refine wpAny_Call_Name_kw (ld_glob I hg hm ?_ hdb)
  exact PySem.W.callWith_K0 I.kIn hk (run_fnD (us := []) F hr hb hd (hx σ) I .nil h)
/-- o.m(e, ..) of an instance of the class at C; the object is looked at ahead of the arguments -/
def kMt (C : Addr) (m : Str) (x : V) (H : Hp) (R : Prop) : Prop := ∃ a dx fs, x = .ref a ∧ H a = some (.ins C dx fs) ∧ fs.lookup m = none ∧ R
def tMt (C : Addr) (m : Str) (sp : Sp) (dvs : List V) (E : L2.St → XK) (ta : TE) (t : TA) : TE := fun σ H Q => ta σ H fun x H1 => kMt C m x H1 (t σ H1 fun vs H2 => kCall sp (x :: (vs ++ dvs)) H2 Q (E σ))
theorem pe_mt {pl : Sem Bool} (he : PE X o ta) (c : Cls X.K C) (hm : Meth X.K C m f) (F : FnOk X.prog X.w X.K X.mg X.base CX k f fd ps sp) (hr : Room k X.A) (hb : Binds X.K fd ps ds) (hd : Vals dvs ds) (hx : ∀ σ, PassesAt CX X σ (E σ)) (ha : PA X (e :: es) t)
    (hst : starEach (e :: es) X.env = (false, eval e X.env) :: starEach es X.env := by rfl) (hpl : (backTo pos (starEach es X.env)).any (·.1) = false := by rfl)
    (ht : eval (.Call (.Attribute o m apos) (e :: es) [] pos) X.env = (do
      let ov ← eval o X.env
      standAt apos.atName
      let (f, first) ← holding [ov] (getMethod ov m pl)
      callWith pos f first (backTo pos (starEach (e :: es) X.env)) (backToKw pos (keywordEach [] X.env))) := by rfl) :
    PE X (.Call (.Attribute o m apos) (e :: es) [] pos) (tMt C m sp dvs E ta t) := by
  refine ⟨fun pins s σ H Q I h => ?_⟩
  refine PySem.W.methodCall_KW (pl := pl) (thn (he.run pins s σ H _ I h) fun u s1 ⟨x, H1, I1, rx, a, dx, fs, ex, ea, l, q⟩ => ?_) ht
  subst ex
  obtain rfl : u = Value.ref a := rx
  refine getmeth_ok I1 ea c hm l ?_
  refine PySem.W.callWith_K (first := [.ref a]) (h₀ := X.base) I.ok.mod.kin hm.kp (thn (ha.run pos pins s1 σ H1 _ I1 q) fun us s2 ⟨vs, H2, I2, r, q2⟩ => ⟨I2.kIn, ?_⟩) hst hpl
  exact run_fnD (us := .ref a :: us) (vs := .ref a :: vs) F hr hb hd (hx σ) I2 (.cons rfl r) q2
theorem pe_mt0 {pl : Sem Bool} (he : PE X o ta) (c : Cls X.K C) (hm : Meth X.K C m f) (F : FnOk X.prog X.w X.K X.mg X.base CX k f fd ps sp) (hr : Room k X.A) (hb : Binds X.K fd ps ds) (hd : Vals dvs ds) (hx : ∀ σ, PassesAt CX X σ (E σ))
    (ht : eval (.Call (.Attribute o m apos) [] [] pos) X.env = (do
      let ov ← eval o X.env
      standAt apos.atName
      let (f, first) ← holding [ov] (getMethod ov m pl)
      callWith pos f first (backTo pos (starEach [] X.env)) (backToKw pos (keywordEach [] X.env))) := by rfl) :
    PE X (.Call (.Attribute o m apos) [] [] pos) (tMt C m sp dvs E ta tNil) := by
  refine ⟨fun pins s σ H Q I h => ?_⟩
  refine PySem.W.methodCall_KW (pl := pl) (thn (he.run pins s σ H _ I h) fun u s1 ⟨x, H1, I1, rx, a, dx, fs, ex, ea, l, q⟩ => ?_) ht
  subst ex
  obtain rfl : u = Value.ref a := rx
  refine getmeth_ok I1 ea c hm l ?_
  exact PySem.W.callWith_K0 (first := [.ref a]) I1.kIn hm.kp (run_fnD (us := [.ref a]) (vs := [.ref a]) F hr hb hd (hx σ) I1 (.cons rfl .nil) q)
/-- of one of two classes, each with its own method -/
def kMt2 (C C' : Addr) (m : Str) (x : V) (H : Hp) (R R' : Prop) : Prop := ∃ a dx fs, x = .ref a ∧ fs.lookup m = none ∧ ((H a = some (.ins C dx fs) ∧ R) ∨ (H a = some (.ins C' dx fs) ∧ R'))
def tMt2 (C C' : Addr) (m : Str) (sp sp' : Sp) (E : L2.St → XK) (ta : TE) (t : TA) : TE := fun σ H Q => ta σ H fun x H1 => kMt2 C C' m x H1 (t σ H1 fun vs H2 => kCall sp (x :: vs) H2 Q (E σ)) (t σ H1 fun vs H2 => kCall sp' (x :: vs) H2 Q (E σ))
theorem pe_mt2 {pl : Sem Bool} {C' f' : Addr} {fd' : FuncData} {ps' : List Str} {sp' : Sp} {k' : Nat} (he : PE X o ta) (c : Cls X.K C) (hm : Meth X.K C m f) (F : FnOk X.prog X.w X.K X.mg X.base CX k f fd ps sp) (hr : Room k X.A) (hb : Binds X.K fd ps [])
    (c' : Cls X.K C') (hm' : Meth X.K C' m f') (F' : FnOk X.prog X.w X.K X.mg X.base CX k' f' fd' ps' sp') (hr' : Room k' X.A) (hb' : Binds X.K fd' ps' []) (hx : ∀ σ, PassesAt CX X σ (E σ)) (ha : PA X (e :: es) t)
    (hst : starEach (e :: es) X.env = (false, eval e X.env) :: starEach es X.env := by rfl) (hpl : (backTo pos (starEach es X.env)).any (·.1) = false := by rfl)
    (ht : eval (.Call (.Attribute o m apos) (e :: es) [] pos) X.env = (do
      let ov ← eval o X.env
      standAt apos.atName
      let (f, first) ← holding [ov] (getMethod ov m pl)
      callWith pos f first (backTo pos (starEach (e :: es) X.env)) (backToKw pos (keywordEach [] X.env))) := by rfl) :
    PE X (.Call (.Attribute o m apos) (e :: es) [] pos) (tMt2 C C' m sp sp' E ta t) := by
  refine ⟨fun pins s σ H Q I h => ?_⟩
  refine PySem.W.methodCall_KW (pl := pl) (thn (he.run pins s σ H _ I h) fun u s1 ⟨x, H1, I1, rx, a, dx, fs, ex, l, w⟩ => ?_) ht
  subst ex
  obtain rfl : u = Value.ref a := rx
  rcases w with ⟨ea, q⟩ | ⟨ea, q⟩
  · refine getmeth_ok I1 ea c hm l ?_
    refine PySem.W.callWith_K (first := [.ref a]) (h₀ := X.base) I.ok.mod.kin hm.kp (thn (ha.run pos pins s1 σ H1 _ I1 q) fun us s2 ⟨vs, H2, I2, r, q2⟩ => ⟨I2.kIn, ?_⟩) hst hpl
    exact run_fnS (us := .ref a :: us) (vs := .ref a :: vs) F hr hb (hx σ) I2 (.cons rfl r) q2
  · refine getmeth_ok I1 ea c' hm' l ?_
    refine PySem.W.callWith_K (first := [.ref a]) (h₀ := X.base) I.ok.mod.kin hm'.kp (thn (ha.run pos pins s1 σ H1 _ I1 q) fun us s2 ⟨vs, H2, I2, r, q2⟩ => ⟨I2.kIn, ?_⟩) hst hpl
    exact run_fnS (us := .ref a :: us) (vs := .ref a :: vs) F' hr' hb' (hx σ) I2 (.cons rfl r) q2
theorem pe_mt20 {pl : Sem Bool} {C' f' : Addr} {fd' : FuncData} {ps' : List Str} {sp' : Sp} {k' : Nat} (he : PE X o ta) (c : Cls X.K C) (hm : Meth X.K C m f) (F : FnOk X.prog X.w X.K X.mg X.base CX k f fd ps sp) (hr : Room k X.A) (hb : Binds X.K fd ps [])
    (c' : Cls X.K C') (hm' : Meth X.K C' m f') (F' : FnOk X.prog X.w X.K X.mg X.base CX k' f' fd' ps' sp') (hr' : Room k' X.A) (hb' : Binds X.K fd' ps' []) (hx : ∀ σ, PassesAt CX X σ (E σ))
    (ht : eval (.Call (.Attribute o m apos) [] [] pos) X.env = (do
      let ov ← eval o X.env
      standAt apos.atName
      let (f, first) ← holding [ov] (getMethod ov m pl)
      callWith pos f first (backTo pos (starEach [] X.env)) (backToKw pos (keywordEach [] X.env))) := by rfl) :
    PE X (.Call (.Attribute o m apos) [] [] pos) (tMt2 C C' m sp sp' E ta tNil) := by
  refine ⟨fun pins s σ H Q I h => ?_⟩
  refine PySem.W.methodCall_KW (pl := pl) (thn (he.run pins s σ H _ I h) fun u s1 ⟨x, H1, I1, rx, a, dx, fs, ex, l, w⟩ => ?_) ht
  subst ex
  obtain rfl : u = Value.ref a := rx
  rcases w with ⟨ea, q⟩ | ⟨ea, q⟩
  · refine getmeth_ok I1 ea c hm l ?_
    exact PySem.W.callWith_K0 (first := [.ref a]) I1.kIn hm.kp (run_fnS (us := [.ref a]) (vs := [.ref a]) F hr hb (hx σ) I1 (.cons rfl .nil) q)
  · refine getmeth_ok I1 ea c' hm' l ?_
    exact PySem.W.callWith_K0 (first := [.ref a]) I1.kIn hm'.kp (run_fnS (us := [.ref a]) (vs := [.ref a]) F' hr' hb' (hx σ) I1 (.cons rfl .nil) q)
/-- C(e, ..) -/
def kMk (C : Addr) (sp : Sp) (vs : List V) (H : Hp) (Q : VK) (E : XK) : Prop := ∀ x dx, H x = none → H dx = none → dx ≠ x → sp (.ref x :: vs) (upd (upd H dx (.own x)) x (.ins C dx [])) (fun v H2 => v = .non ∧ Q (.ref x) H2) E
def tMk (C : Addr) (sp : Sp) (dvs : List V) (E : L2.St → XK) (t : TA) : TE := fun σ H Q => t σ H fun vs H1 => kMk C sp (vs ++ dvs) H1 Q (E σ)
theorem run_makeD {pins : List (Addr × Obj)} {σ : L2.St} {H : Hp} {s : Shared} {Q : VK} {us : List Value} {vs : List V} (M : Mk X.K C f) (F : FnOk X.prog X.w X.K X.mg X.base CX k f fd ps sp) (hr : Room (k + 1) X.A) (hb : Binds X.K fd ps ds) (hd : Vals dvs ds)
    (hx : PassesAt CX X σ (E σ)) (I : Inv X pins σ H s) (r : Vals vs us) (h : kMk C sp (vs ++ dvs) H Q (E σ)) :
    wpAny (model X.prog X.w) X.A (call (.ref C) us) (EP X pins σ Q) X.xe s := by
  have hq := h (s.heap.objs.size + 1) s.heap.objs.size (I.hok.fresh (Nat.le_succ _)) (I.hok.fresh (Nat.le_refl _)) (Nat.ne_of_lt (Nat.lt_succ_self _))
  have I2 := Inv.made (C := C) I
  have r2 : Vals (V.ref (s.heap.objs.size + 1) :: (vs ++ dvs)) (Value.ref (s.heap.objs.size + 1) :: (us ++ ds)) := .cons rfl (r.append hd)
  have hl : (Value.ref (s.heap.objs.size + 1) :: us ++ ds).length = ps.length := by
    have e := r2.length
    rw [F.len _ _ _ _ hq] at e
    exact e.symm
  refine wpAny_call (make_map (f := f) I.kIn M.makes M.init (beq_iff_eq.mp M.fn) (codeAny_mono (F.run _ X.stack _ _ ⟨Value.ref (s.heap.objs.size + 1) :: us, []⟩ (Value.ref (s.heap.objs.size + 1) :: (us ++ ds)) _ _ (E σ) (hr.make C us [])
    (I2.env0.make C us []) (hb _ (Value.ref (s.heap.objs.size + 1) :: us) I2.kIn hl) r2 hq) fun r s' hq' => ?_))
  cases r with
  | error e => exact hx pins _ _ e s' I2 hq'
  | ok fl =>
    cases fl with
    | ret u =>
      obtain ⟨v, H', I3, rv, ev, q3⟩ := I2.after hq'
      subst ev
      exact ⟨rv, ⟨V.ref (s.heap.objs.size + 1), H', I3, rfl, q3⟩⟩
    | next => exact False.elim hq'
    | brk => exact False.elim hq'
    | cont => exact False.elim hq'
theorem pe_mk (M : Mk X.K C f) (F : FnOk X.prog X.w X.K X.mg X.base CX k f fd ps sp) (hr : Room (k + 1) X.A) (hm : X.mg x = some (.ref C)) (hb : Binds X.K fd ps ds) (hd : Vals dvs ds) (hx : ∀ σ, PassesAt CX X σ (E σ))
    (ha : PA X (e :: es) t) (hg : Gl X x := by rfl) (hdb : (x == ("__debug__" : Str)) = false := by decide) (he : starEach (e :: es) X.env = (false, eval e X.env) :: starEach es X.env := by rfl) (hpl : (backTo pos (starEach es X.env)).any (·.1) = false := by rfl) :
    PE X (.Call (.Name x p) (e :: es) [] pos) (tMk C sp dvs E t) := by
  refine ⟨fun pins s σ H Q I h => ?_⟩
  refine wpAny_Call_Name_kw (ld_glob I hg hm ?_ hdb)
  refine PySem.W.callWith_K (h₀ := X.base) I.ok.mod.kin M.kp (thn (ha.run pos pins s σ H _ I h) fun us s1 ⟨vs, H1, I1, r, q⟩ => ⟨I1.kIn, ?_⟩) he hpl
  exact run_makeD M F hr hb hd (hx σ) I1 r q
theorem pe_mk0 (M : Mk X.K C f) (F : FnOk X.prog X.w X.K X.mg X.base CX k f fd ps sp) (hr : Room (k + 1) X.A) (hm : X.mg x = some (.ref C)) (hb : Binds X.K fd ps ds) (hd : Vals dvs ds) (hx : ∀ σ, PassesAt CX X σ (E σ))
    (hg : Gl X x := by rfl) (hdb : (x == ("__debug__" : Str)) = false := by decide) : PE X (.Call (.Name x p) [] [] pos) (tMk C sp dvs E tNil) := by
  refine ⟨fun pins s σ H Q I h => ?_⟩
  refine wpAny_Call_Name_kw (ld_glob I hg hm ?_ hdb)
  exact PySem.W.callWith_K0 I.kIn M.kp (run_makeD (us := []) M F hr hb hd (hx σ) I .nil h)
end
/-! ### either of two rules -/
section
variable {X : Cx}
def rOr (r r' : R2) : R2 := fun x y H Q => r x y H Q ∨ r' x y H Q
theorem op_or2 {f : Value → Value → Sem Value} {r r' : R2} (a : OpR X f r) (b : OpR X f r') : OpR X f (rOr r r') := fun pins s σ H x y v u Q I rx ry h => h.elim (fun q => a pins s σ H x y v u Q I rx ry q) fun q => b pins s σ H x y v u Q I rx ry q
def cOr (r r' : List V → Hp → VK → Prop) : List V → Hp → VK → Prop := fun xs H Q => r xs H Q ∨ r' xs H Q
theorem call_or2 {f : Value} {r r' : List V → Hp → VK → Prop} (a : CallR X f r) (b : CallR X f r') : CallR X f (cOr r r') := fun pins s σ H xs us Q I r h => h.elim (fun q => a pins s σ H xs us Q I r q) fun q => b pins s σ H xs us Q I r q
/-- len of a thing -/
def cLen (K : PySem.W.Frag) : List V → Hp → VK → Prop := fun xs H Q => ∃ p n, xs = [.ref p] ∧ ((∃ ys, (SqL K H p ys ∨ SqT K H p ys) ∧ n = ys.length) ∨ (∃ kvs, Rd H p (.dK kvs) ∧ n = kvs.length)) ∧ Q (.int (n : Int)) H
def cMin : List V → Hp → VK → Prop := fun xs H Q => ∃ i j, xs = [.int i, .int j] ∧ Q (.int (if j < i then j else i)) H
def cMax : List V → Hp → VK → Prop := fun xs H Q => ∃ i j, xs = [.int i, .int j] ∧ Q (.int (if j > i then j else i)) H
theorem call_minU (hc : X.calm = true) : CallR X (.builtin "min") cMin := call_min2 hc
theorem call_maxU (hc : X.calm = true) : CallR X (.builtin "max") cMax := call_max2 hc
def cLenS (K : PySem.W.Frag) : List V → Hp → VK → Prop := fun xs H Q => ∃ p ys, xs = [.ref p] ∧ (SqL K H p ys ∨ SqT K H p ys) ∧ Q (.int (ys.length : Int)) H
theorem call_lenS : CallR X (.builtin "len") (cLenS X.K) := call_len_seq
end
/-! the rules at a written part K -/
section
variable {X : Cx} {K : PySem.W.Frag}
theorem ixL (h : X.K = K) : IxR X (rIxL K) := by subst h; exact ix_list
theorem ixT (h : X.K = K) : IxR X (rIxT K) := by subst h; exact ix_tup
theorem slL (h : X.K = K) : SlR X (rSlL K) := by subst h; exact sl_list
theorem slT (h : X.K = K) : SlR X (rSlT K) := by subst h; exact sl_tup
theorem inL (h : X.K = K) : OpR X (compareOp .In) (rIn K false) := by subst h; exact op_in_seq
theorem notInL (h : X.K = K) : OpR X (compareOp .NotIn) (rIn K true) := by subst h; exact op_notIn_seq
theorem callLen (h : X.K = K) : CallR X (.builtin "len") (cLenS K) := by subst h; exact call_lenS
theorem callIsi (h : X.K = K) : CallR X (.builtin "isinstance") (rIsi K) := by subst h; exact call_isi
theorem callIsiT (h : X.K = K) : CallR X (.builtin "isinstance") (rIsiT K) := by subst h; exact call_isiT
theorem opEqD (h : X.K = K) (hu : X.A.units + 64 < cLine) : OpR X (compareOp .Eq) (rEqD K) := by subst h; exact op_eqD hu
theorem opNeD (h : X.K = K) (hu : X.A.units + 64 < cLine) : OpR X (compareOp .NotEq) (rNeD K) := by subst h; exact op_neD hu
theorem opCatT (h : X.K = K) : OpR X (binaryOp .Add) (rCatT K) := by subst h; exact op_catT
theorem piList {tg l : Expr} {tl : TE} (h : X.K = K) (hl : PE X l tl) : PI X tg l (iList K tl) := by subst h; exact pi_list hl
theorem piTup {tg l : Expr} {tl : TE} (h : X.K = K) (hl : PE X l tl) : PI X tg l (iTup K tl) := by subst h; exact pi_tup hl
theorem pgTup {es : List Expr} {k : Nat} {t : TGs} {n : Nat} {pos : Pos} (e : X.K = K) (hc : X.calm = true) (h : PGs X es t)
    (hn : (assignEach es X.env).length = n := by rfl) (hst : (assignEach es X.env).findIdx? (·.1) = none := by rfl) : PG X (.Tuple es k pos) (gTup K n t) := by subst e; exact pg_tup hc h hn hst
def cList (K : PySem.W.Frag) : List V → Hp → VK → Prop := fun xs H Q => ∃ p ys, xs = [.ref p] ∧ (SqL K H p ys ∨ SqT K H p ys) ∧ ∀ l, H l = none → Q (.ref l) (upd H l (.lst ys))
theorem callList (h : X.K = K) : CallR X (.type "list") (cList K) := by subst h; exact call_list_of
end
end Fl
/-! Fl: the readings step by step. -/
namespace Fl
open PySem PySem.Spec PyProof.Rows L2
section
variable {X : Cx} {L : List Asrt} {K : PySem.W.Frag} {σ σ' : L2.St} {H H' : Hp} {l : List Asrt} {D : Ends} {Q : VK} {QB : Bool → Hp → Prop} {QL : List V → Hp → Prop} {a b p C dx : Addr} {fs fs' : List (Str × V)} {xs ys vs : List V} {v x y : V} {i j : Int} {n k : Nat} {f m : Str} {te ta tb td ti tv : TE} {tt tu : TT} {ts tz : TS} {tl : TA} {g : TG} {r : R2} {sp : Sp} {E : XK}
/-! statements -/
variable {nx bk ct : L2.St → Hp → Prop} {rt : VK}
theorem r_start {N : List Str} (e : L2.start N vs = σ') (h : ts ⟨nx, rt, bk, ct⟩ σ' H) : ts ⟨nx, rt, bk, ct⟩ (L2.start N vs) H := by rw [e]; exact h
theorem r_seq (h : ts ⟨tz ⟨nx, rt, bk, ct⟩, rt, bk, ct⟩ σ H) : tSeq ts tz ⟨nx, rt, bk, ct⟩ σ H := h
theorem r_next (h : nx σ H) : tNext ⟨nx, rt, bk, ct⟩ σ H := h
theorem r_brk (h : bk σ H) : tBreak ⟨nx, rt, bk, ct⟩ σ H := h
theorem r_cont (h : ct σ H) : tCont ⟨nx, rt, bk, ct⟩ σ H := h
theorem r_drop (h : te σ H fun _ H1 => nx σ H1) : tDrop te ⟨nx, rt, bk, ct⟩ σ H := h
theorem r_ret (h : te σ H rt) : tRet te ⟨nx, rt, bk, ct⟩ σ H := h
theorem r_retN (h : rt .non H) : tRetN ⟨nx, rt, bk, ct⟩ σ H := h
theorem r_if (h : tt σ H fun b H1 => if b = true then ts ⟨nx, rt, bk, ct⟩ σ H1 else tz ⟨nx, rt, bk, ct⟩ σ H1) : tIfS tt ts tz ⟨nx, rt, bk, ct⟩ σ H := h
theorem r_cut (M : L2.St → Hp → Prop) (h : ts ⟨M, rt, bk, ct⟩ σ H) (k : ∀ σ' H', M σ' H' → tz ⟨nx, rt, bk, ct⟩ σ' H') : Evl.tCut ts tz ⟨nx, rt, bk, ct⟩ σ H := ⟨M, h, k⟩
theorem r_asg (h : te σ H fun x H1 => g x σ H1 nx) : tAsg te g ⟨nx, rt, bk, ct⟩ σ H := h
def kSet (σ : L2.St) (H : Hp) (q : L2.St → Hp → Prop) : Prop := q σ H
theorem r_name {i : Nat} {q : L2.St → Hp → Prop} (e : σ.set i (some v) = σ') (h : q σ' H) : gName i v σ H q := by
  show q (σ.set i (some v)) H
  rw [e]; exact h
theorem r_aug {i : Nat} {ip : TIp} (e : σ[i]? = some (some x)) (h : te σ H fun y H1 => ip x y H1 fun z H2 => gName i z σ H2 nx) : tAug i te ip ⟨nx, rt, bk, ct⟩ σ H := ⟨x, e, h⟩
theorem r_ipI {f : Int → Int → Int} (h : Q (.int (f i j)) H) : ipI f (.int i) (.int j) H Q := ⟨i, j, rfl, rfl, h⟩
/-! expressions -/
theorem r_var {i : Nat} (e : σ[i]? = some (some v)) (h : Q v H) : tVar i σ H Q := ⟨v, e, h⟩
theorem r_C (h : Q v H) : tC v σ H Q := h
theorem r_op (h : ta σ H fun x H1 => tb σ H1 fun y H2 => r x y H2 Q) : tOp r ta tb σ H Q := h
theorem r_un {u : V → Hp → VK → Prop} (h : ta σ H fun x H1 => u x H1 Q) : tUn u ta σ H Q := h
theorem r_I0 {g : Int → Int → V} (h : Q (g i j) H) : rI0 g (.int i) (.int j) H Q := ⟨i, j, rfl, rfl, h⟩
theorem r_I {Cn : Int → Int → Prop} {g : Int → Int → V} (c : Cn i j) (h : Q (g i j) H) : rI Cn g (.int i) (.int j) H Q := ⟨i, j, rfl, rfl, c, h⟩
theorem r_U {g : Int → V} (h : Q (g i) H) : rU g (.int i) H Q := ⟨i, rfl, h⟩
theorem r_eqI (h : Q (.bl (decide (i = j))) H) : rEq (.int i) (.int j) H Q := ⟨rfl, by rw [show (decide (V.int i = V.int j)) = decide (i = j) from decide_eq_decide.mpr ⟨fun q => V.int.inj q, fun q => by rw [q]⟩]; exact h⟩
theorem r_neI (h : Q (.bl (!decide (i = j))) H) : rNe (.int i) (.int j) H Q := ⟨rfl, by rw [show (decide (V.int i = V.int j)) = decide (i = j) from decide_eq_decide.mpr ⟨fun q => V.int.inj q, fun q => by rw [q]⟩]; exact h⟩
theorem r_eqS (s : scal x y = true) (h : Q (.bl (decide (x = y))) H) : rEq x y H Q := ⟨s, h⟩
theorem r_neS (s : scal x y = true) (h : Q (.bl (!decide (x = y))) H) : rNe x y H Q := ⟨s, h⟩
theorem r_isN (h : Q (.bl (decide (x = .non))) H) : rIsN x .non H Q := ⟨rfl, h⟩
theorem r_notN (h : Q (.bl (!decide (x = .non))) H) : rNotN x .non H Q := ⟨rfl, h⟩
theorem r_isB {c d : Bool} (h : Q (.bl (decide (c = d))) H) : rIsB (.bl c) (.bl d) H Q := ⟨c, d, rfl, rfl, h⟩
theorem r_test (h : te σ H fun x H' => ∃ k, x = .bl k ∧ QB k H') : tTest te σ H QB := h
theorem r_B (h : te σ H fun x H' => ∃ k, x = .bl k ∧ QB k H') : tB te σ H QB := h
theorem r_bl {c : Bool} (h : QB c H) : ∃ k, V.bl c = V.bl k ∧ QB k H := ⟨c, rfl, h⟩
theorem r_and (h : tt σ H fun c H1 => if c = true then tu σ H1 QB else QB false H1) : tAnd tt tu σ H QB := h
theorem r_or (h : tt σ H fun c H1 => if c = true then QB true H1 else tu σ H1 QB) : tOr tt tu σ H QB := h
theorem r_not (h : tt σ H fun c H1 => QB (!c) H1) : tNot tt σ H QB := h
theorem r_andV (h : ta σ H fun x H1 => ∃ c, x = .bl c ∧ if c = true then tb σ H1 Q else Q (.bl false) H1) : tAndV ta tb σ H Q := h
theorem r_orV (h : ta σ H fun x H1 => ∃ c, x = .bl c ∧ if c = true then Q (.bl true) H1 else tb σ H1 Q) : tOrV ta tb σ H Q := h
theorem r_blV {c : Bool} {R : Bool → Prop} (h : R c) : ∃ d, V.bl c = V.bl d ∧ R d := ⟨c, rfl, h⟩
theorem r_notV (h : ta σ H fun x H1 => ∃ c, x = .bl c ∧ Q (.bl (!c)) H1) : tNotV ta σ H Q := h
theorem r_ifE (h : tt σ H fun c H1 => if c = true then ta σ H1 Q else tb σ H1 Q) : tIf tt ta tb σ H Q := h
theorem r_chain {r' : R2} {tc : TE} (h : ta σ H fun x H1 => tb σ H1 fun y H2 => r x y H2 fun z H3 => ∃ k, z = .bl k ∧ if k = true then tc σ H3 fun w H4 => r' y w H4 Q else Q (.bl false) H3) : tChain r r' ta tb tc σ H Q := h
theorem r_nil (h : QL [] H) : tNil σ H QL := h
theorem r_cons (h : te σ H fun x H1 => tl σ H1 fun xs H2 => QL (x :: xs) H2) : tCons te tl σ H QL := h
def kTup (xs : List V) (H : Hp) (Q : VK) : Prop := xs.length ≤ sizeLine ∧ ∀ p, H p = none → Q (.ref p) (upd H p (.tup xs))
def kLst (xs : List V) (H : Hp) (Q : VK) : Prop := xs.length ≤ sizeLine ∧ ∀ p, H p = none → Q (.ref p) (upd H p (.lst xs))
theorem r_tup (h : tl σ H fun xs H1 => kTup xs H1 Q) : tTup tl σ H Q := h
theorem r_lst (h : tl σ H fun xs H1 => kLst xs H1 Q) : tLst tl σ H Q := h
theorem r_kTup (S : Star l H) (z : xs.length ≤ sizeLine) (h : ∀ p H', Star (pt p (.tup xs) :: l) H' → Q (.ref p) H') : kTup xs H Q := ⟨z, fun p n => h p _ (S.new n)⟩
theorem r_kLst (S : Star l H) (z : xs.length ≤ sizeLine) (h : ∀ p H', Star (pt p (.lst xs) :: l) H' → Q (.ref p) H') : kLst xs H Q := ⟨z, fun p n => h p _ (S.new n)⟩
theorem r_ixL (S : Star L H) (P : Pull (pt p (.lst xs)) L l) (e : atI xs i = some v) (h : Q v H) : rIxL K (.ref p) (.int i) H Q := ⟨p, xs, i, v, rfl, rfl, SqL.of ((S.pull P).get (.head _)), e, h⟩
theorem r_ixT (S : Star L H) (P : Pull (pt p (.tup xs)) L l) (e : atI xs i = some v) (h : Q v H) : rIxT K (.ref p) (.int i) H Q := ⟨p, xs, i, v, rfl, rfl, SqT.of ((S.pull P).get (.head _)), e, h⟩
theorem r_ixScr {ns : List Int} (S : Star L H) (P : Pull (scr K p ns) L l) {z : Int} (e : atI (ns.map V.int) i = some (.int z)) (h : Q (.int z) H) : rIxL K (.ref p) (.int i) H Q := ⟨p, _, i, _, rfl, rfl, (S.pull P).scr (.head _), e, h⟩
/-! fields -/
theorem r_fldC (h : ta σ H fun x H1 => kFld C f x H1 Q) : tFldC C ta f σ H Q := h
theorem r_fld (S : Star L H) (P : Pull (pt a (.ins C dx fs)) L l) (e : fs.lookup f = some v) (h : Q v H) : kFld C f (.ref a) H Q := ⟨a, dx, fs, v, rfl, (S.pull P).get (.head _), e, h⟩
theorem r_sfldC (h : tv σ H fun y H1 => ta σ H1 fun x H2 => kSto C f x y H2 fun H3 => nx σ H3) : sFldC C ta tv f ⟨nx, rt, bk, ct⟩ σ H := h
theorem r_sto {q : Hp → Prop} (S : Star L H) (P : Pull (pt a (.ins C dx fs)) L l) (z : fs.length < 1000) (e : putF f y fs = fs') (h : ∀ H', Star (pt a (.ins C dx fs') :: l) H' → q H') : kSto C f (.ref a) y H q :=
  ⟨a, dx, fs, rfl, (S.pull P).get (.head _), z, h _ (by rw [e]; exact (S.pull P).upd (fun ⟨_, q⟩ => nomatch q))⟩
theorem r_augC {C : Addr} {rd : R2} (h : ta σ H fun x H1 => kAugR C f x H1 fun a v => tv σ H1 fun y H2 => rd v y H2 fun z H3 => kAugW C a f z H3 fun H4 => nx σ H4) : sFldAugC C ta tv rd f ⟨nx, rt, bk, ct⟩ σ H := h
theorem r_augR {R : Addr → V → Prop} (S : Star L H) (P : Pull (pt a (.ins C dx fs)) L l) (e : fs.lookup f = some v) (h : R a v) : kAugR C f (.ref a) H R := ⟨a, dx, fs, v, rfl, (S.pull P).get (.head _), e, h⟩
theorem r_augW {q : Hp → Prop} (S : Star L H) (P : Pull (pt a (.ins C dx fs)) L l) (z : fs.length < 1000) (e : putF f y fs = fs') (h : ∀ H', Star (pt a (.ins C dx fs') :: l) H' → q H') : kAugW C a f y H q :=
  ⟨dx, fs, (S.pull P).get (.head _), z, h _ (by rw [e]; exact (S.pull P).upd (fun ⟨_, q⟩ => nomatch q))⟩
/-! calls -/
theorem r_cl {dvs : List V} {E : L2.St → XK} (h : tl σ H fun vs H1 => kCall sp (vs ++ dvs) H1 Q (E σ)) : tCl sp dvs E tl σ H Q := h
theorem r_cl0 {E : L2.St → XK} (h : tl σ H fun vs H1 => kCall sp vs H1 Q (E σ)) : tCl sp [] E tl σ H Q := by
  show tl σ H fun vs H1 => kCall sp (vs ++ []) H1 Q (E σ)
  simp only [List.append_nil]; exact h
theorem r_mt0 {E : L2.St → XK} (h : ta σ H fun x H1 => kMt C m x H1 (tl σ H1 fun vs H2 => kCall sp (x :: vs) H2 Q (E σ))) : tMt C m sp [] E ta tl σ H Q := by
  show ta σ H fun x H1 => kMt C m x H1 (tl σ H1 fun vs H2 => kCall sp (x :: (vs ++ [])) H2 Q (E σ))
  simp only [List.append_nil]; exact h
theorem r_mk0 {E : L2.St → XK} (h : tl σ H fun vs H1 => kMk C sp vs H1 Q (E σ)) : tMk C sp [] E tl σ H Q := by
  show tl σ H fun vs H1 => kMk C sp (vs ++ []) H1 Q (E σ)
  simp only [List.append_nil]; exact h
theorem r_mt {dvs : List V} {E : L2.St → XK} (h : ta σ H fun x H1 => kMt C m x H1 (tl σ H1 fun vs H2 => kCall sp (x :: (vs ++ dvs)) H2 Q (E σ))) : tMt C m sp dvs E ta tl σ H Q := h
theorem r_kMt {R : Prop} (S : Star L H) (P : Pull (pt a (.ins C dx fs)) L l) (e : fs.lookup m = none) (h : R) : kMt C m (.ref a) H R := ⟨a, dx, fs, rfl, (S.pull P).get (.head _), e, h⟩
theorem r_mk {dvs : List V} {E : L2.St → XK} (h : tl σ H fun vs H1 => kMk C sp (vs ++ dvs) H1 Q (E σ)) : tMk C sp dvs E tl σ H Q := h
theorem r_kMk (S : Star l H) (h : ∀ x dx H', Star (pt x (.ins C dx []) :: l) H' → sp (.ref x :: vs) H' (fun v H2 => v = .non ∧ Q (.ref x) H2) E) : kMk C sp vs H Q E := fun x dx nx nd ne => by
  refine h x dx _ ?_
  have S1 := S.junk (o := .own x) nd
  exact S1.new (by rw [upd_ne (Ne.symm ne)]; exact nx)
theorem r_CB {r : List V → Hp → VK → Prop} (h : tl σ H fun vs H1 => r vs H1 Q) : tCB r tl σ H Q := h
theorem r_min (h : Q (.int (if j < i then j else i)) H) : cMin [.int i, .int j] H Q := ⟨i, j, rfl, h⟩
theorem r_max (h : Q (.int (if j > i then j else i)) H) : cMax [.int i, .int j] H Q := ⟨i, j, rfl, h⟩
theorem r_lenL (S : Star L H) (P : Pull (pt p (.lst xs)) L l) (h : Q (.int (xs.length : Int)) H) : cLenS K [.ref p] H Q := ⟨p, xs, rfl, .inl (SqL.of ((S.pull P).get (.head _))), h⟩
theorem r_lenT (S : Star L H) (P : Pull (pt p (.tup xs)) L l) (h : Q (.int (xs.length : Int)) H) : cLenS K [.ref p] H Q := ⟨p, xs, rfl, .inr (SqT.of ((S.pull P).get (.head _))), h⟩
theorem r_lenScr {ns : List Int} (S : Star L H) (P : Pull (scr K p ns) L l) (h : Q (.int (ns.length : Int)) H) : cLenS K [.ref p] H Q := ⟨p, _, rfl, .inl ((S.pull P).scr (.head _)), by rw [List.length_map]; exact h⟩
/-! isinstance with built-in classes -/
def cIsi (K : PySem.W.Frag) : List V → Hp → VK → Prop := rIsi K
theorem r_isi {t s : String} {w : Bool} (ty : TyX K H x (.type t)) (e : kitB t s = some w) (h : Q (.bl w) H) : rIsi K [x, .ty s] H Q := ⟨x, .ty s, .type t, .type s, w, rfl, .ty s, ty, kit_ty e, h⟩
end
/-! ifs -/
theorem if_y {c : Bool} {A B : Prop} (e : c = true) (h : A) : if c = true then A else B := by rw [if_pos e]; exact h
theorem if_n {c : Bool} {A B : Prop} (e : c = false) (h : B) : if c = true then A else B := by rw [e, if_neg Bool.false_ne_true]; exact h
theorem if_d {c : Prop} [Decidable c] {A B : Prop} (h : c → A) (h' : ¬ c → B) : if decide c = true then A else B := by
  by_cases q : c
  · exact if_y (decide_eq_true q) (h q)
  · exact if_n (decide_eq_false q) (h' q)
theorem if_nd {c : Prop} [Decidable c] {A B : Prop} (h : ¬ c → A) (h' : c → B) : if (!decide c) = true then A else B := by
  by_cases q : c
  · exact if_n (by rw [decide_eq_true q]; rfl) (h' q)
  · exact if_y (by rw [decide_eq_false q]; rfl) (h q)
theorem if_dt {c : Prop} [Decidable c] {A B : Prop} (q : c) (h : A) : if decide c = true then A else B := if_y (decide_eq_true q) h
theorem if_df {c : Prop} [Decidable c] {A B : Prop} (q : ¬ c) (h : B) : if decide c = true then A else B := if_n (decide_eq_false q) h
theorem if_ndt {c : Prop} [Decidable c] {A B : Prop} (q : ¬ c) (h : A) : if (!decide c) = true then A else B := if_y (by rw [decide_eq_false q]; rfl) h
theorem if_ndf {c : Prop} [Decidable c] {A B : Prop} (q : c) (h : B) : if (!decide c) = true then A else B := if_n (by rw [decide_eq_true q]; rfl) h
theorem if_nT {A B : Prop} (h : B) : if (!true) = true then A else B := if_n rfl h
theorem if_nF {A B : Prop} (h : A) : if (!false) = true then A else B := if_y rfl h
theorem if_T {A B : Prop} (h : A) : if true = true then A else B := if_y rfl h
theorem if_F {A B : Prop} (h : B) : if false = true then A else B := if_n rfl h
theorem if_b {c : Bool} {A B : Prop} (h : c = true → A) (h' : c = false → B) : if c = true then A else B := by
  cases c with
  | true => exact if_y rfl (h rfl)
  | false => exact if_n rfl (h' rfl)
theorem if_nb {c : Bool} {A B : Prop} (h : c = false → A) (h' : c = true → B) : if (!c) = true then A else B := by
  cases c with
  | true => exact if_n rfl (h' rfl)
  | false => exact if_y rfl (h rfl)
end Fl
/-! Fl: bits, sizes, common things of laws. -/
namespace Fl
open PySem PySem.Spec PyProof.Rows L2
def cellAt (ns : List Int) (k : Int) : Int := if k < ns.length then ns.getD k.toNat 0 else 0
theorem atI_script {ns : List Int} {k : Int} (h0 : 0 ≤ k) (h : k < ns.length) : atI (ns.map V.int) k = some (.int (cellAt ns k)) := by
  have hk : k.toNat < ns.length := by omega
  unfold atI ixN cellAt
  rw [List.length_map, if_pos h0, if_pos h, if_pos h]
  simp [hk, List.getD]
theorem cellAt_beyond {ns : List Int} {k : Int} (h : ¬ k < ns.length) : cellAt ns k = 0 := if_neg h
/-! bits -/
theorem toNat5 : (5 : Int).toNat = 5 := rfl
theorem cshl {i j : Int} {n : Nat} (h0 : 0 ≤ j) (hi : i.natAbs < 2 ^ n) (hn : (n : Int) + j ≤ 134217728) : CShl i j := by
  refine ⟨h0, ?_⟩
  have := PyProof.Rows.intBits_le (a := i) (k := n) hi
  have e : (2 : Int) ^ 27 = 134217728 := by decide
  rw [e]; omega
theorem natAbs_lt {i : Int} {n : Nat} (h : i.natAbs < 10 ^ n) : i.natAbs < 2 ^ (4 * n) := by
  refine Nat.lt_of_lt_of_le h ?_
  rw [Nat.pow_mul]
  exact Nat.pow_le_pow_left (by decide) n
def rOrL : R2 := fun x y H Q => ∃ (a r : Int) (k : Nat), x = .int (a * 2 ^ k) ∧ y = .int r ∧ (0 ≤ a ∧ 0 ≤ r ∧ r < 2 ^ k) ∧ Q (.int (a * 2 ^ k + r)) H
theorem opOrL {X : Cx} : OpR X (binaryOp .BitOr) rOrL := op_orL
theorem r_orL {a r : Int} {k : Nat} {H : Hp} {Q : VK} (h : 0 ≤ a ∧ 0 ≤ r ∧ r < 2 ^ k) (q : Q (.int (a * 2 ^ k + r)) H) : rOrL (.int (a * 2 ^ k)) (.int r) H Q := ⟨a, r, k, rfl, rfl, h, q⟩
/-- a thing that is a whole number: isinstance(x, int), not isinstance(x, bool) -/
theorem isi_int {K : PySem.W.Frag} {H : Hp} {Q : VK} {i : Int} (q : Q (.bl true) H) : rIsi K [.int i, .ty "int"] H Q := r_isi (.base (.int i)) (by decide +kernel) q
theorem isi_int_b {K : PySem.W.Frag} {H : Hp} {Q : VK} {i : Int} (q : Q (.bl false) H) : rIsi K [.int i, .ty "bool"] H Q := r_isi (.base (.int i)) (by decide +kernel) q
theorem isi_bl {K : PySem.W.Frag} {H : Hp} {Q : VK} {i : Bool} (q : Q (.bl true) H) : rIsi K [.bl i, .ty "int"] H Q := r_isi (.base (.bl i)) (by decide +kernel) q
theorem isi_bl_b {K : PySem.W.Frag} {H : Hp} {Q : VK} {i : Bool} (q : Q (.bl true) H) : rIsi K [.bl i, .ty "bool"] H Q := r_isi (.base (.bl i)) (by decide +kernel) q
theorem isi_non {K : PySem.W.Frag} {H : Hp} {Q : VK} (q : Q (.bl false) H) : rIsi K [.non, .ty "int"] H Q := r_isi (.base .non) (by decide +kernel) q
theorem r_pow {i j n : Int} {H : Hp} {Q : VK} (c : CPow i j) (e : i ^ j.toNat = n) (q : Q (.int n) H) : rI CPow (fun i j => V.int (i ^ j.toNat)) (.int i) (.int j) H Q := ⟨i, j, rfl, rfl, c, by show Q (.int (i ^ j.toNat)) H; rw [e]; exact q⟩
end Fl
/-! Fl: loops and comprehensions by recursion over what is walked. -/
namespace Fl
open PySem PySem.Spec PyProof.Rows L2
section
variable {α : Type}
/-- a for over what is left -/
def kFl (G : Hp → Prop) (Y : α → Hp → V → Hp → Prop) (g : TG) (tb : TS) (nx : L2.St → Hp → Prop) (rt : VK) : List α → L2.St → Hp → Prop
  | [] => fun σ H => G H ∧ nx σ H
  | x :: r => fun σ H => G H ∧ ∀ v H', Y x H v H' → g v σ H' fun σ2 H2 => tb ⟨kFl G Y g tb nx rt r, rt, nx, kFl G Y g tb nx rt r⟩ σ2 H2
theorem kFl_G {G : Hp → Prop} {Y : α → Hp → V → Hp → Prop} {g : TG} {tb : TS} {nx : L2.St → Hp → Prop} {rt : VK} {xs : List α} {σ : L2.St} {H : Hp} (h : kFl G Y g tb nx rt xs σ H) : G H := by
  cases xs with
  | nil => exact h.1
  | cons x r => exact h.1
theorem drop_cons {xs : List α} {i : Nat} {x : α} (e : xs[i]? = some x) : xs.drop i = x :: xs.drop (i + 1) := by
  obtain ⟨h, q⟩ := List.getElem?_eq_some_iff.mp e
  rw [List.drop_eq_getElem_cons h, q]
theorem fl_it {J : It} {xs : List α} {n : Nat} {G : Hp → Prop} {Yw : Nat → Hp → V → Hp → Prop} {Y : α → Hp → V → Hp → Prop} (w : Walk J n G Yw) (hn : n = xs.length) (hy : ∀ i H v H', i < n → Yw i H v H' → ∃ x, xs[i]? = some x ∧ Y x H v H')
    {g : TG} {tb : TS} {D : Ends} {σ : L2.St} {H : Hp} (h : kFl G Y g tb D.nx D.rt xs σ H) :
    ∃ W : Nat → Nat → L2.St → Hp → Prop, (∃ m, W 0 m σ H) ∧ ∀ i m σ H, W i m σ H →
      (J.stop i H ∧ D.nx σ H) ∨ (J.go i H ∧ ∃ N : L2.St → Hp → Prop, (∀ σ' H', N σ' H' → ∃ m', m' < m ∧ W (i + 1) m' σ' H') ∧ ∀ x H', J.yld i H x H' → g x σ H' fun σ2 H2 => tb { D with nx := N, ct := N, bk := D.nx } σ2 H2) := by
  subst hn
  refine for_it w (fun i σ H => kFl G Y g tb D.nx D.rt (xs.drop i) σ H) h (fun i σ H _ p => kFl_G p) (fun i v σ H H' hi p y => ?_) (fun σ H p => ?_)
  · obtain ⟨x, e, y'⟩ := hy i H v H' hi y
    have p' : kFl G Y g tb D.nx D.rt (xs.drop i) σ H := p
    rw [drop_cons e] at p'
    exact p'.2 v H' y'
  · have p' : kFl G Y g tb D.nx D.rt (xs.drop xs.length) σ H := p
    rw [List.drop_length] at p'
    exact p'.2
/-- the new list at D takes one more -/
def kApp (D : Addr) (y : V) (H : Hp) (q : Hp → Prop) : Prop := ∃ acc, H D = some (.lst acc) ∧ acc.length < sizeLine ∧ q (upd H D (.lst (acc ++ [y])))
/-- a comprehension over what is left -/
def kCl (G : Hp → Prop) (Y : α → Hp → V → Hp → Prop) (g : TG) (tt : TT) (te : TE) (σ σ' : L2.St) (vs : List Nat) (D : Addr) (Q : VK) : List α → Hp → Prop
  | [] => fun H => G H ∧ Q (.ref D) H
  | x :: r => fun H => G H ∧ ∀ v H', Y x H v H' → g v σ' H' fun σ2 H2 => wipe σ2 vs = σ' ∧ tt σ2 H2 fun b H3 =>
      if b = true then te σ2 H3 fun y H4 => kApp D y H4 (kCl G Y g tt te σ σ' vs D Q r) else kCl G Y g tt te σ σ' vs D Q r H3
theorem kCl_G {G : Hp → Prop} {Y : α → Hp → V → Hp → Prop} {g : TG} {tt : TT} {te : TE} {σ σ' : L2.St} {vs : List Nat} {D : Addr} {Q : VK} {xs : List α} {H : Hp} (h : kCl G Y g tt te σ σ' vs D Q xs H) : G H := by
  cases xs with
  | nil => exact h.1
  | cons x r => exact h.1
theorem cl_it {J : It} {xs : List α} {n : Nat} {G : Hp → Prop} {Yw : Nat → Hp → V → Hp → Prop} {Y : α → Hp → V → Hp → Prop} (w : Walk J n G Yw) (hn : n = xs.length) (hy : ∀ i H v H', i < n → Yw i H v H' → ∃ x, xs[i]? = some x ∧ Y x H v H')
    {g : TG} {tt : TT} {te : TE} {vs : List Nat} {σ σ' : L2.St} {H1 : Hp} {D : Addr} {Q : VK} (hw : wipe σ vs = σ') (h : kCl G Y g tt te σ σ' vs D Q xs (upd H1 D (.lst []))) :
    ∃ W : Nat → Nat → Hp → Prop, (∃ m, W 0 m (upd H1 D (.lst []))) ∧ ∀ i m H, W i m H →
      (J.stop i H ∧ Q (.ref D) H) ∨ (J.go i H ∧ ∃ Nx : Hp → Prop, (∀ H', Nx H' → ∃ m', m' < m ∧ W (i + 1) m' H') ∧ ∀ x H', J.yld i H x H' → g x (wipe σ vs) H' fun σ2 H2 => wipe σ2 vs = wipe σ vs ∧ tt σ2 H2 fun b H3 =>
        if b = true then te σ2 H3 fun y H4 => ∃ acc, H4 D = some (.lst acc) ∧ acc.length < sizeLine ∧ Nx (upd H4 D (.lst (acc ++ [y]))) else Nx H3) := by
  subst hn
  subst hw
  refine lc_it w (fun i H => kCl G Y g tt te σ (wipe σ vs) vs D Q (xs.drop i) H) h (fun i H _ p => kCl_G p) (fun i v H H' hi p y => ?_) (fun H p => ?_)
  · obtain ⟨x, e, y'⟩ := hy i H v H' hi y
    have p' : kCl G Y g tt te σ (wipe σ vs) vs D Q (xs.drop i) H := p
    rw [drop_cons e] at p'
    exact p'.2 v H' y'
  · have p' : kCl G Y g tt te σ (wipe σ vs) vs D Q (xs.drop xs.length) H := p
    rw [List.drop_length] at p'
    exact p'.2
end
/-! what a turn gives -/
def yId : V → Hp → V → Hp → Prop := fun x H v H' => v = x ∧ H' = H
def yTup : List V → Hp → V → Hp → Prop := fun xs H v H' => ∃ T, v = .ref T ∧ H T = none ∧ H' = upd H T (.tup xs)
def yKT : List Key → Hp → V → Hp → Prop := fun k H v H' => H' = H ∧ ∃ q, v = .ref q ∧ H q = some (.tup (k.map kV))
def gAny : Hp → Prop := fun _ => True
def gSqL (K : PySem.W.Frag) (a : Addr) (xs : List V) : Hp → Prop := fun H => SqL K H a xs
def gSqT (K : PySem.W.Frag) (a : Addr) (xs : List V) : Hp → Prop := fun H => SqT K H a xs
def gAt (d : Addr) (u : HO) : Hp → Prop := fun H => H d = some u
def gAnd (G G' : Hp → Prop) : Hp → Prop := fun H => G H ∧ G' H
section
variable {K : PySem.W.Frag} {L l : List Asrt} {σ σ' : L2.St} {H : Hp} {g : TG} {tb : TS} {tt : TT} {te tl : TE} {ta : TA} {nx bk ct : L2.St → Hp → Prop} {rt Q : VK} {a b d D : Addr} {xs ys vs : List V} {ws : List Nat} {x y v : V} {G : Hp → Prop}
theorem fl_nil {α : Type} {Y : α → Hp → V → Hp → Prop} (hG : G H) (h : nx σ H) : kFl G Y g tb nx rt [] σ H := ⟨hG, h⟩
theorem fl_id {r : List V} (hG : G H) (h : g x σ H fun σ2 H2 => tb ⟨kFl G yId g tb nx rt r, rt, nx, kFl G yId g tb nx rt r⟩ σ2 H2) : kFl G yId g tb nx rt (x :: r) σ H := ⟨hG, fun v H' ⟨e, e'⟩ => by subst e e'; exact h⟩
theorem fl_more {r ys : List V} (e : ys = x :: r) (hG : G H) (h : g x σ H fun σ2 H2 => tb ⟨kFl G yId g tb nx rt r, rt, nx, kFl G yId g tb nx rt r⟩ σ2 H2) : kFl G yId g tb nx rt ys σ H := by subst e; exact fl_id hG h
theorem fl_tup {r : List (List V)} (hG : G H) (S : Star l H) (h : ∀ T H', Star (pt T (.tup xs) :: l) H' → g (.ref T) σ H' fun σ2 H2 => tb ⟨kFl G yTup g tb nx rt r, rt, nx, kFl G yTup g tb nx rt r⟩ σ2 H2) : kFl G yTup g tb nx rt (xs :: r) σ H :=
  ⟨hG, fun v H' ⟨T, e, n, e'⟩ => by subst e e'; exact h T _ (S.new n)⟩
/-- a tuple that the heap holds, taken into the list -/
theorem Star.intup {T : Addr} {xs : List V} (S : Star l H) (e : H T = some (.tup xs)) : Star (pt T (.tup xs) :: l) H := by
  have : ∃ h, Sub h H ∧ Star l h ∧ Dsj (single T (.tup xs)) h := by
    refine ⟨H, Sub.refl _, S, fun b o u e1 e2 => ?_⟩
    unfold single at e1
    split at e1
    · next q => subst q; cases e1; rw [e] at e2; cases e2; exact ⟨rfl, _, rfl⟩
    · cases e1
  obtain ⟨h, s, S', dj⟩ := this
  exact ⟨single T (.tup xs), h, dj, single_sub e, s, single_self, S'⟩
theorem fl_kt {k : List Key} {r : List (List Key)} (hG : G H) (S : Star l H) (h : ∀ T, Star (pt T (.tup (k.map kV)) :: l) H → g (.ref T) σ H fun σ2 H2 => tb ⟨kFl G yKT g tb nx rt r, rt, nx, kFl G yKT g tb nx rt r⟩ σ2 H2) : kFl G yKT g tb nx rt (k :: r) σ H :=
  ⟨hG, fun v H' ⟨e', T, e, n⟩ => by subst e e'; exact h T (S.intup n)⟩
theorem cl_nil {α : Type} {Y : α → Hp → V → Hp → Prop} (hG : G H) (h : Q (.ref D) H) : kCl G Y g tt te σ σ' ws D Q [] H := ⟨hG, h⟩
theorem cl_id {r : List V} (hG : G H) (h : g x σ' H fun σ2 H2 => wipe σ2 ws = σ' ∧ tt σ2 H2 fun b H3 => if b = true then te σ2 H3 fun y H4 => kApp D y H4 (kCl G yId g tt te σ σ' ws D Q r) else kCl G yId g tt te σ σ' ws D Q r H3) : kCl G yId g tt te σ σ' ws D Q (x :: r) H :=
  ⟨hG, fun v H' ⟨e, e'⟩ => by subst e e'; exact h⟩
theorem cl_tup {r : List (List V)} (hG : G H) (S : Star l H) (h : ∀ T H', Star (pt T (.tup xs) :: l) H' → g (.ref T) σ' H' fun σ2 H2 => wipe σ2 ws = σ' ∧ tt σ2 H2 fun b H3 => if b = true then te σ2 H3 fun y H4 => kApp D y H4 (kCl G yTup g tt te σ σ' ws D Q r) else kCl G yTup g tt te σ σ' ws D Q r H3) :
    kCl G yTup g tt te σ σ' ws D Q (xs :: r) H := ⟨hG, fun v H' ⟨T, e, n, e'⟩ => by subst e e'; exact h T _ (S.new n)⟩
theorem r_app {q : Hp → Prop} (S : Star L H) (P : Pull (pt D (.lst xs)) L l) (z : xs.length < sizeLine) (h : ∀ H', Star (pt D (.lst (xs ++ [y])) :: l) H' → q H') : kApp D y H q := ⟨xs, (S.pull P).get (.head _), z, h _ ((S.pull P).upd fun ⟨_, q⟩ => nomatch q)⟩
theorem r_wipe {q : Prop} (e : wipe σ ws = σ') (h : q) : wipe σ ws = σ' ∧ q := ⟨e, h⟩
theorem r_yes {QB : Bool → Hp → Prop} (h : QB true H) : tYes σ H QB := h
/-! ### the sources -/
def kW (J : It) (g : TG) (tb : TS) (nx : L2.St → Hp → Prop) (rt : VK) (bk ct : L2.St → Hp → Prop) (σ : L2.St) (H1 : Hp) : Prop := ∃ W : Nat → Nat → L2.St → Hp → Prop, (∃ m, W 0 m σ H1) ∧ ∀ i m σ H, W i m σ H →
  (J.stop i H ∧ nx σ H) ∨ (J.go i H ∧ ∃ N : L2.St → Hp → Prop, (∀ σ' H', N σ' H' → ∃ m', m' < m ∧ W (i + 1) m' σ' H') ∧ ∀ x H', J.yld i H x H' → g x σ H' fun σ2 H2 => tb ⟨N, rt, nx, N⟩ σ2 H2)
theorem r_for {wi : TI} (h : wi σ H fun J H1 => kW J g tb nx rt bk ct σ H1) : tFor wi g tb ⟨nx, rt, bk, ct⟩ σ H := h
def kLW (J : It) (g : TG) (tt : TT) (te : TE) (vs : List Nat) (σ : L2.St) (Q : VK) (H1 : Hp) : Prop := ∀ D, H1 D = none → ∃ W : Nat → Nat → Hp → Prop, (∃ m, W 0 m (upd H1 D (.lst []))) ∧ ∀ i m H, W i m H →
  (J.stop i H ∧ Q (.ref D) H) ∨ (J.go i H ∧ ∃ Nx : Hp → Prop, (∀ H', Nx H' → ∃ m', m' < m ∧ W (i + 1) m' H') ∧ ∀ x H', J.yld i H x H' → g x (wipe σ vs) H' fun σ2 H2 => wipe σ2 vs = wipe σ vs ∧ tt σ2 H2 fun b H3 =>
    if b = true then te σ2 H3 fun y H4 => ∃ acc, H4 D = some (.lst acc) ∧ acc.length < sizeLine ∧ Nx (upd H4 D (.lst (acc ++ [y]))) else Nx H3)
theorem r_lc {wi : TI} (h : wi σ H fun J H1 => kLW J g tt te ws σ Q H1) : tLc wi g tt te ws σ H Q := h
/-- a walk as it may be used -/
def kUse (J : It) {α : Type} (G : Hp → Prop) (Y : α → Hp → V → Hp → Prop) (xs : List α) : Prop := ∃ (n : Nat) (Yw : Nat → Hp → V → Hp → Prop), Walk J n G Yw ∧ n = xs.length ∧ ∀ i H v H', i < n → Yw i H v H' → ∃ x, xs[i]? = some x ∧ Y x H v H'
theorem r_w {J : It} {α : Type} {Y : α → Hp → V → Hp → Prop} {xs : List α} (u : kUse J G Y xs) (h : kFl G Y g tb nx rt xs σ H) : kW J g tb nx rt bk ct σ H := by
  obtain ⟨n, Yw, w, hn, hy⟩ := u
  exact fl_it (D := ⟨nx, rt, bk, ct⟩) w hn hy h
theorem r_lw {J : It} {α : Type} {Y : α → Hp → V → Hp → Prop} {xs : List α} (u : kUse J G Y xs) (hw : wipe σ ws = σ') (S : Star l H) (h : ∀ D H', Star (pt D (.lst []) :: l) H' → kCl G Y g tt te σ σ' ws D Q xs H') : kLW J g tt te ws σ Q H := by
  obtain ⟨n, Yw, w, hn, hy⟩ := u
  intro D hD
  exact cl_it w hn hy hw (h D _ (S.new hD))
theorem use_list : kUse (Itl K a) (gSqL K a xs) yId xs := ⟨_, _, walk_list, rfl, fun i H v H' _ ⟨e, q⟩ => ⟨v, q, rfl, e⟩⟩
theorem use_tup : kUse (Itt K a) (gSqT K a xs) yId xs := ⟨_, _, walk_tup, rfl, fun i H v H' _ ⟨e, q⟩ => ⟨v, q, rfl, e⟩⟩
def rgV (lo : Int) (n : Nat) : List V := (List.range n).map fun i => V.int (lo + (i : Nat))
theorem rgV_len {lo : Int} {n : Nat} : (rgV lo n).length = n := by simp [rgV]
theorem rgV_at {lo : Int} {n i : Nat} (h : i < n) : (rgV lo n)[i]? = some (.int (lo + (i : Nat))) := by simp [rgV, h]
theorem rgV_succ {lo : Int} {n : Nat} : rgV lo (n + 1) = .int lo :: rgV (lo + 1) n := by
  unfold rgV
  rw [List.range_succ_eq_map, List.map_cons, List.map_map]
  congr 1
  · show V.int (lo + ((0 : Nat) : Int)) = V.int lo
    rw [show ((0 : Nat) : Int) = 0 from rfl, Int.add_zero]
  · refine List.map_congr_left fun i _ => ?_
    show V.int (lo + ((i + 1 : Nat) : Int)) = V.int (lo + 1 + (i : Int))
    congr 1; omega
theorem rgV_more {lo lo' : Int} {n : Nat} (e : lo + 1 = lo') : rgV lo (n + 1) = .int lo :: rgV lo' n := by rw [← e]; exact rgV_succ
theorem rgV_zero {lo : Int} : rgV lo 0 = [] := rfl
theorem use_range {lo : Int} {n : Nat} : kUse (Itr lo n) gAny yId (rgV lo n) := ⟨n, _, walk_range, rgV_len.symm, fun i H v H' hi ⟨e, q⟩ => ⟨v, by rw [q]; exact rgV_at hi, rfl, e⟩⟩
theorem use_rev : kUse (Itv K a xs.length) (gSqL K a xs) yId xs.reverse := ⟨_, _, walk_rev, by simp, fun i H v H' hi ⟨e, q⟩ => ⟨v, by rw [List.getElem?_reverse hi]; exact q, rfl, e⟩⟩
theorem use_str {z : Str} : kUse (Its z) gAny yId (z.cps.toList.map fun c => V.str ⟨#[c]⟩) := ⟨_, _, walk_str, by simp, fun i H v H' _ ⟨e, c, q, r⟩ => ⟨v, by subst r; simp [q], rfl, e⟩⟩
theorem use_keys {o : Obj} {kvs : List (Key × V)} : kUse (Itk d o kvs) (gAt d (.frz o (.dK kvs))) yId (kvs.map fun kv => kV kv.1) := ⟨_, _, walk_keys, by simp, fun i H v H' _ ⟨e, k, w, q, r⟩ => ⟨v, by subst r; simp [q], rfl, e⟩⟩
theorem use_values {o : Obj} {kvs : List (Key × V)} : kUse (Itd d o kvs) (gAt d (.frz o (.dK kvs))) yId (kvs.map Prod.snd) := ⟨_, _, walk_values, by simp, fun i H v H' _ ⟨e, k, q⟩ => ⟨v, by simp [q], rfl, e⟩⟩
theorem use_items {o : Obj} {kvs : List (Key × V)} : kUse (Iti d o kvs) (gAt d (.frz o (.dK kvs))) yTup (kvs.map fun kv => [kV kv.1, kv.2]) := by
  refine ⟨_, _, walk_items, by simp, fun i H v H' hi ⟨T, x, y, e, n, e', q1, q2⟩ => ?_⟩
  obtain ⟨⟨k, w⟩, hk⟩ : ∃ kv, kvs[i]? = some kv := ⟨kvs[i], List.getElem?_eq_getElem hi⟩
  have q1 : (kvs[i]?).map (fun kv => kV kv.1) = some x := q1
  have q2 : (kvs[i]?).map Prod.snd = some y := q2
  rw [hk] at q1 q2
  cases q1; cases q2
  exact ⟨[kV k, w], by simp [hk], T, e, n, e'⟩
theorem use_keysT {o : Obj} {kvs : List (List Key × V)} : kUse (Itkt d o kvs) (gAt d (.frz o (.dT kvs))) yKT (kvs.map Prod.fst) := ⟨_, _, walk_keysT, by simp, fun i H v H' _ ⟨e, k, w, q, hk, r, t⟩ => ⟨k, by simp [hk], e, q, r, t⟩⟩
def enums : Nat → List V → List (List V)
  | _, [] => []
  | i, x :: r => [.int (i : Int), x] :: enums (i + 1) r
theorem enums_len : ∀ {i : Nat} {xs : List V}, (enums i xs).length = xs.length
  | _, [] => rfl
  | i, x :: r => by simp [enums, enums_len]
theorem enums_at : ∀ {i j : Nat} {xs : List V} {x : V}, xs[j]? = some x → (enums i xs)[j]? = some [.int ((i + j : Nat) : Int), x]
  | i, 0, x :: r, y, e => by cases e; rfl
  | i, j + 1, x :: r, y, e => by
    have := enums_at (i := i + 1) (j := j) (xs := r) (x := y) (by simpa using e)
    simp only [enums, List.getElem?_cons_succ, this]
    congr 3; congr 1; omega
theorem use_enum : kUse (Ite K a) (gSqL K a xs) yTup (enums 0 xs) := by
  refine ⟨_, _, walk_enum, enums_len.symm, fun i H v H' hi ⟨T, x, y, e, n, e', q1, q2⟩ => ?_⟩
  cases q1
  exact ⟨_, enums_at q2, T, e, n, by rw [e']; simp⟩
theorem use_zip : kUse (Itz K a b) (gAnd (gSqL K a xs) (gSqL K b ys)) yTup ((xs.zip ys).map fun p => [p.1, p.2]) := by
  refine ⟨_, _, walk_zip rfl, by simp, fun i H v H' hi ⟨T, x, y, e, n, e', q1, q2⟩ => ⟨[x, y], ?_, T, e, n, e'⟩⟩
  simp [List.zip, List.getElem?_zipWith, q1, q2]
/-! their readings -/
def kIL (K : PySem.W.Frag) (x : V) (H : Hp) (R : It → Hp → Prop) : Prop := ∃ a, x = .ref a ∧ (∃ xs, SqL K H a xs) ∧ R (Itl K a) H
def kIT (K : PySem.W.Frag) (x : V) (H : Hp) (R : It → Hp → Prop) : Prop := ∃ a, x = .ref a ∧ (∃ xs, SqT K H a xs) ∧ R (Itt K a) H
def kIR1 (vs : List V) (H : Hp) (R : It → Hp → Prop) : Prop := ∃ j : Int, vs = [.int j] ∧ -(2 ^ 62) ≤ j ∧ j < 2 ^ 62 ∧ R (Itr 0 j.toNat) H
def kIR2 (vs : List V) (H : Hp) (R : It → Hp → Prop) : Prop := ∃ i j : Int, vs = [.int i, .int j] ∧ (-(2 ^ 62) ≤ i ∧ i < 2 ^ 62 ∧ -(2 ^ 62) ≤ j ∧ j < 2 ^ 62) ∧ R (Itr i (j - i).toNat) H
def kIE (K : PySem.W.Frag) (vs : List V) (H : Hp) (R : It → Hp → Prop) : Prop := ∃ a xs, vs = [.ref a] ∧ SqL K H a xs ∧ R (Ite K a) H
def kIZ (K : PySem.W.Frag) (vs : List V) (H : Hp) (R : It → Hp → Prop) : Prop := ∃ a b xs ys, vs = [.ref a, .ref b] ∧ SqL K H a xs ∧ SqL K H b ys ∧ R (Itz K a b) H
def kIV (K : PySem.W.Frag) (vs : List V) (H : Hp) (R : It → Hp → Prop) : Prop := ∃ (a : Addr) (xs : List V), vs = [.ref a] ∧ SqL K H a xs ∧ R (Itv K a xs.length) H
variable {R : It → Hp → Prop} {J : It}
theorem r_iL (h : tl σ H fun x H1 => kIL K x H1 R) : iList K tl σ H R := h
theorem r_iT (h : tl σ H fun x H1 => kIT K x H1 R) : iTup K tl σ H R := h
theorem r_iR1 (h : ta σ H fun x H1 => kIR1 x H1 R) : iRng1 ta σ H R := h
theorem r_iR2 (h : ta σ H fun x H1 => kIR2 x H1 R) : iRng2 ta σ H R := h
theorem r_iE (h : ta σ H fun x H1 => kIE K x H1 R) : iEnum K ta σ H R := h
theorem r_iZ (h : ta σ H fun x H1 => kIZ K x H1 R) : iZip K ta σ H R := h
theorem r_iV (h : ta σ H fun x H1 => kIV K x H1 R) : iRev K ta σ H R := h
theorem r_kIL (S : Star L H) (P : Pull (pt a (.lst xs)) L l) (h : R (Itl K a) H) : kIL K (.ref a) H R := ⟨a, rfl, ⟨xs, SqL.of ((S.pull P).get (.head _))⟩, h⟩
theorem r_kILs {ns : List Int} (S : Star L H) (P : Pull (scr K a ns) L l) (h : R (Itl K a) H) : kIL K (.ref a) H R := ⟨a, rfl, ⟨_, (S.pull P).scr (.head _)⟩, h⟩
theorem r_kIT (S : Star L H) (P : Pull (pt a (.tup xs)) L l) (h : R (Itt K a) H) : kIT K (.ref a) H R := ⟨a, rfl, ⟨xs, SqT.of ((S.pull P).get (.head _))⟩, h⟩
theorem r_kIR1 {j : Int} {n : Nat} (e : j.toNat = n) (h1 : -(2 ^ 62) ≤ j ∧ j < 2 ^ 62) (h : R (Itr 0 n) H) : kIR1 [.int j] H R := ⟨j, rfl, h1.1, h1.2, by rw [e]; exact h⟩
theorem r_kIR2 {i j : Int} {n : Nat} (e : (j - i).toNat = n) (h1 : -(2 ^ 62) ≤ i ∧ i < 2 ^ 62 ∧ -(2 ^ 62) ≤ j ∧ j < 2 ^ 62) (h : R (Itr i n) H) : kIR2 [.int i, .int j] H R := ⟨i, j, rfl, h1, by rw [e]; exact h⟩
theorem r_kIE (S : Star L H) (P : Pull (pt a (.lst xs)) L l) (h : R (Ite K a) H) : kIE K [.ref a] H R := ⟨a, xs, rfl, SqL.of ((S.pull P).get (.head _)), h⟩
theorem r_kIV (S : Star L H) (P : Pull (pt a (.lst xs)) L l) (h : R (Itv K a xs.length) H) : kIV K [.ref a] H R := ⟨a, xs, rfl, SqL.of ((S.pull P).get (.head _)), h⟩
/-! the walks, at the lists that the heap holds -/
theorem r_wL (S : Star L H) (P : Pull (pt a (.lst xs)) L l) (h : kFl (gSqL K a xs) yId g tb nx rt xs σ H) : kW (Itl K a) g tb nx rt bk ct σ H := r_w use_list h
theorem r_wLs {ns : List Int} (S : Star L H) (P : Pull (scr K a ns) L l) (h : kFl (gSqL K a (ns.map V.int)) yId g tb nx rt (ns.map V.int) σ H) : kW (Itl K a) g tb nx rt bk ct σ H := r_w use_list h
theorem r_wT (S : Star L H) (P : Pull (pt a (.tup xs)) L l) (h : kFl (gSqT K a xs) yId g tb nx rt xs σ H) : kW (Itt K a) g tb nx rt bk ct σ H := r_w use_tup h
theorem r_wR {lo : Int} {n : Nat} (h : kFl gAny yId g tb nx rt (rgV lo n) σ H) : kW (Itr lo n) g tb nx rt bk ct σ H := r_w use_range h
theorem r_wE (S : Star L H) (P : Pull (pt a (.lst xs)) L l) (h : kFl (gSqL K a xs) yTup g tb nx rt (enums 0 xs) σ H) : kW (Ite K a) g tb nx rt bk ct σ H := r_w use_enum h
theorem r_wV (S : Star L H) (P : Pull (pt a (.lst xs)) L l) (h : kFl (gSqL K a xs) yId g tb nx rt xs.reverse σ H) : kW (Itv K a xs.length) g tb nx rt bk ct σ H := r_w use_rev h
theorem r_lwL (hw : wipe σ ws = σ') (S : Star L H) (P : Pull (pt a (.lst xs)) L l) (h : ∀ D H', Star (pt D (.lst []) :: L) H' → kCl (gSqL K a xs) yId g tt te σ σ' ws D Q xs H') : kLW (Itl K a) g tt te ws σ Q H := r_lw use_list hw S h
theorem r_lwLs {ns : List Int} (hw : wipe σ ws = σ') (S : Star L H) (P : Pull (scr K a ns) L l) (h : ∀ D H', Star (pt D (.lst []) :: L) H' → kCl (gSqL K a (ns.map V.int)) yId g tt te σ σ' ws D Q (ns.map V.int) H') : kLW (Itl K a) g tt te ws σ Q H := r_lw use_list hw S h
theorem r_lwT (hw : wipe σ ws = σ') (S : Star L H) (P : Pull (pt a (.tup xs)) L l) (h : ∀ D H', Star (pt D (.lst []) :: L) H' → kCl (gSqT K a xs) yId g tt te σ σ' ws D Q xs H') : kLW (Itt K a) g tt te ws σ Q H := r_lw use_tup hw S h
theorem r_lwR {lo : Int} {n : Nat} (hw : wipe σ ws = σ') (S : Star L H) (h : ∀ D H', Star (pt D (.lst []) :: L) H' → kCl gAny yId g tt te σ σ' ws D Q (rgV lo n) H') : kLW (Itr lo n) g tt te ws σ Q H := r_lw use_range hw S h
theorem gL (S : Star L H) (P : Pull (pt a (.lst xs)) L l) : gSqL K a xs H := SqL.of ((S.pull P).get (.head _))
theorem gLs {ns : List Int} (S : Star L H) (P : Pull (scr K a ns) L l) : gSqL K a (ns.map V.int) H := (S.pull P).scr (.head _)
theorem gT (S : Star L H) (P : Pull (pt a (.tup xs)) L l) : gSqT K a xs H := SqT.of ((S.pull P).get (.head _))
theorem gA : gAny H := True.intro
theorem gF {u : HO} (S : Star L H) (P : Pull (pt d u) L l) : gAt d u H := (S.pull P).get (.head _)
/-! ### a dict locked while it is walked -/
def kUnl (d : Addr) (od : Obj) (u : HO) (H : Hp) (q : Hp → Prop) : Prop := H d = some (.frz od u) ∧ q (upd H d u)
theorem r_lock {ts : TS} {u : HO} (mu : Mut (some u)) (S : Star L H) (P : Pull (pt d u) L l)
    (h : ∀ od H', Star (pt d (.frz od u) :: l) H' → ts ⟨fun σ' H' => kUnl d od u H' fun H2 => nx σ' H2, fun v H' => kUnl d od u H' fun H2 => rt v H2, fun σ' H' => kUnl d od u H' fun H2 => bk σ' H2, fun σ' H' => kUnl d od u H' fun H2 => ct σ' H2⟩ σ H') : tLock ts ⟨nx, rt, bk, ct⟩ σ H := by
  refine ⟨d, u, (S.pull P).get (.head _), mu, fun od => h od _ ((S.pull P).upd fun ⟨_, q⟩ => ?_)⟩
  subst q; exact mu
theorem r_unl {od : Obj} {u : HO} {q : Hp → Prop} (S : Star L H) (P : Pull (pt d (.frz od u)) L l) (h : ∀ H', Star (pt d u :: l) H' → q H') : kUnl d od u H q := ⟨(S.pull P).get (.head _), h _ ((S.pull P).upd fun ⟨_, q⟩ => nomatch q)⟩
def kIK (x : V) (H : Hp) (R : It → Hp → Prop) : Prop := ∃ d o, x = .ref d ∧ ((∃ kvs, H d = some (.frz o (.dK kvs)) ∧ R (Itk d o kvs) H) ∨ ∃ kvs, H d = some (.frz o (.dT kvs)) ∧ R (Itkt d o kvs) H)
def kIVa (x : V) (H : Hp) (R : It → Hp → Prop) : Prop := ∃ d o kvs, x = .ref d ∧ H d = some (.frz o (.dK kvs)) ∧ R (Itd d o kvs) H
theorem r_iK (h : tl σ H fun x H1 => kIK x H1 R) : iKeys tl σ H R := h
theorem r_iVa (h : tl σ H fun x H1 => kIVa x H1 R) : iVals tl σ H R := h
theorem r_kIK {o : Obj} {kvs : List (Key × V)} (S : Star L H) (P : Pull (pt d (.frz o (.dK kvs))) L l) (h : R (Itk d o kvs) H) : kIK (.ref d) H R := ⟨d, o, rfl, .inl ⟨kvs, (S.pull P).get (.head _), h⟩⟩
theorem r_kIKt {o : Obj} {kvs : List (List Key × V)} (S : Star L H) (P : Pull (pt d (.frz o (.dT kvs))) L l) (h : R (Itkt d o kvs) H) : kIK (.ref d) H R := ⟨d, o, rfl, .inr ⟨kvs, (S.pull P).get (.head _), h⟩⟩
theorem r_kIVa {o : Obj} {kvs : List (Key × V)} (S : Star L H) (P : Pull (pt d (.frz o (.dK kvs))) L l) (h : R (Itd d o kvs) H) : kIVa (.ref d) H R := ⟨d, o, kvs, rfl, (S.pull P).get (.head _), h⟩
theorem r_wK {o : Obj} {kvs : List (Key × V)} (h : kFl (gAt d (.frz o (.dK kvs))) yId g tb nx rt (kvs.map fun kv => kV kv.1) σ H) : kW (Itk d o kvs) g tb nx rt bk ct σ H := r_w use_keys h
theorem r_wKt {o : Obj} {kvs : List (List Key × V)} (h : kFl (gAt d (.frz o (.dT kvs))) yKT g tb nx rt (kvs.map Prod.fst) σ H) : kW (Itkt d o kvs) g tb nx rt bk ct σ H := r_w use_keysT h
theorem r_wVa {o : Obj} {kvs : List (Key × V)} (h : kFl (gAt d (.frz o (.dK kvs))) yId g tb nx rt (kvs.map Prod.snd) σ H) : kW (Itd d o kvs) g tb nx rt bk ct σ H := r_w use_values h
/-! ### while -/
def kTurn (Wv : Nat → L2.St → Hp → Prop) (m : Nat) (tb : TS) (nx : L2.St → Hp → Prop) (rt : VK) (σ : L2.St) (H : Hp) : Prop := ∃ N : L2.St → Hp → Prop, (∀ σ' H', N σ' H' → ∃ m', m' < m ∧ Wv m' σ' H') ∧ tb ⟨N, rt, nx, N⟩ σ H
theorem r_while {tc : TT} (Wv : Nat → L2.St → Hp → Prop) (m0 : Nat) (h0 : Wv m0 σ H) (hs : ∀ m σ H, Wv m σ H → tc σ H fun b H1 => if b = true then kTurn Wv m tb nx rt σ H1 else nx σ H1) : tWhile tc tb ⟨nx, rt, bk, ct⟩ σ H := ⟨Wv, ⟨m0, h0⟩, hs⟩
theorem r_turn {Wv : Nat → L2.St → Hp → Prop} {m : Nat} (h : tb ⟨fun σ' H' => ∃ m', m' < m ∧ Wv m' σ' H', rt, nx, fun σ' H' => ∃ m', m' < m ∧ Wv m' σ' H'⟩ σ H) : kTurn Wv m tb nx rt σ H := ⟨_, fun _ _ h => h, h⟩
end
end Fl
namespace Fl
open PySem L2
/-! the text by places -/
def top (i : Nat) : Stmt := PySem.Challenge.pw_frameland_k05_entry_numbers.main.body.getD i (.Pass ⟨0, 0, 0, 0⟩)
abbrev s_entry_of : Stmt := top 7
abbrev N_entry_of : List Str := ["place", "bits"]
theorem sc_entry_of : FnScope N_entry_of ["place", "bits"] (defScope s_entry_of) := ⟨rfl, rfl, rfl, by decide +kernel, rfl, by decide +kernel, by decide +kernel⟩
abbrev s_place_of : Stmt := top 8
abbrev N_place_of : List Str := ["entry"]
theorem sc_place_of : FnScope N_place_of ["entry"] (defScope s_place_of) := ⟨rfl, rfl, rfl, by decide +kernel, rfl, by decide +kernel, by decide +kernel⟩
abbrev s_bits_of : Stmt := top 9
abbrev N_bits_of : List Str := ["entry"]
theorem sc_bits_of : FnScope N_bits_of ["entry"] (defScope s_bits_of) := ⟨rfl, rfl, rfl, by decide +kernel, rfl, by decide +kernel, by decide +kernel⟩
abbrev s_L_cell_at : Stmt := top 11
abbrev N_L_cell_at : List Str := ["_law_script", "_law_k"]
theorem sc_L_cell_at : FnScope N_L_cell_at ["_law_script", "_law_k"] (defScope s_L_cell_at) := ⟨rfl, rfl, rfl, by decide +kernel, rfl, by decide +kernel, by decide +kernel⟩
abbrev s_L_is : Stmt := top 12
abbrev N_L_is : List Str := ["_law_found", "_law_due"]
theorem sc_L_is : FnScope N_L_is ["_law_found", "_law_due"] (defScope s_L_is) := ⟨rfl, rfl, rfl, by decide +kernel, rfl, by decide +kernel, by decide +kernel⟩
abbrev s_law : Stmt := top 13
abbrev N_law : List Str := ["_law_script", "_law_place", "_law_bits", "_law_made", "_law_other", "_law_named", "_law_k"]
theorem sc_law : FnScope N_law ["_law_script"] (defScope s_law) := ⟨rfl, rfl, rfl, by decide +kernel, rfl, by decide +kernel, by decide +kernel⟩
structure Txt (K : PySem.W.Frag) (mg : Str → Option Value) where
  f_entry_of : Addr
  fd_entry_of : FuncData
  F_entry_of : Fun K "entry_of" "entry_of" s_entry_of f_entry_of fd_entry_of
  kp_entry_of : PySem.W.keepIn K (.ref f_entry_of) = true
  b_entry_of_2 : Binds K fd_entry_of ["place", "bits"] []
  mg_entry_of : mg "entry_of" = some (.ref f_entry_of)
  f_place_of : Addr
  fd_place_of : FuncData
  F_place_of : Fun K "place_of" "place_of" s_place_of f_place_of fd_place_of
  kp_place_of : PySem.W.keepIn K (.ref f_place_of) = true
  b_place_of_1 : Binds K fd_place_of ["entry"] []
  mg_place_of : mg "place_of" = some (.ref f_place_of)
  f_bits_of : Addr
  fd_bits_of : FuncData
  F_bits_of : Fun K "bits_of" "bits_of" s_bits_of f_bits_of fd_bits_of
  kp_bits_of : PySem.W.keepIn K (.ref f_bits_of) = true
  b_bits_of_1 : Binds K fd_bits_of ["entry"] []
  mg_bits_of : mg "bits_of" = some (.ref f_bits_of)
  f_L_cell_at : Addr
  fd_L_cell_at : FuncData
  F_L_cell_at : Fun K "_law_cell_at" "_law_cell_at" s_L_cell_at f_L_cell_at fd_L_cell_at
  kp_L_cell_at : PySem.W.keepIn K (.ref f_L_cell_at) = true
  b_L_cell_at_2 : Binds K fd_L_cell_at ["_law_script", "_law_k"] []
  mg_L_cell_at : mg "_law_cell_at" = some (.ref f_L_cell_at)
  f_L_is : Addr
  fd_L_is : FuncData
  F_L_is : Fun K "_law_is" "_law_is" s_L_is f_L_is fd_L_is
  kp_L_is : PySem.W.keepIn K (.ref f_L_is) = true
  b_L_is_2 : Binds K fd_L_is ["_law_found", "_law_due"] []
  mg_L_is : mg "_law_is" = some (.ref f_L_is)
  f_law : Addr
  fd_law : FuncData
  F_law : Fun K "law" "law" s_law f_law fd_law
  kp_law : PySem.W.keepIn K (.ref f_law) = true
  b_law_1 : Binds K fd_law ["_law_script"] []
  mg_law : mg "law" = some (.ref f_law)
  bt_law : ∀ (s : Shared) (v : Value), BindsTo s fd_law ⟨[v], []⟩ [("_law_script", v)]
  z_bool : mg "bool" = none
  z_int : mg "int" = none
  z_isinstance : mg "isinstance" = none
  z_len : mg "len" = none
  z_range : mg "range" = none
  tk_ALL_BITS : Tok
  g_ALL_BITS : mg "ALL_BITS" = some (.int 31 tk_ALL_BITS)
  tk_CHANGED : Tok
  g_CHANGED : mg "CHANGED" = some (.int 16 tk_CHANGED)
  tk_KEPT : Tok
  g_KEPT : mg "KEPT" = some (.int 4 tk_KEPT)
  tk_READ : Tok
  g_READ : mg "READ" = some (.int 1 tk_READ)
  tk_SEEN : Tok
  g_SEEN : mg "SEEN" = some (.int 8 tk_SEEN)
  tk_WRITE : Tok
  g_WRITE : mg "WRITE" = some (.int 2 tk_WRITE)
local macro_rules | `(tactic| walk_at "len") => `(tactic| (intro h; first | (obtain ⟨e, _⟩ := h; subst e; rfl) | (obtain ⟨_, e, _⟩ := h; subst e; rfl) | (obtain ⟨_, _, e, _⟩ := h; subst e; rfl) | (obtain ⟨_, _, _, e, _⟩ := h; subst e; rfl) | (obtain ⟨_, _, _, _, e, _⟩ := h; subst e; rfl) | (obtain ⟨_, _, _, _, _, e, _⟩ := h; subst e; rfl) | (obtain ⟨_, _, _, _, _, _, e, _⟩ := h; subst e; rfl) | (obtain ⟨_, _, _, _, _, _, _, e, _⟩ := h; subst e; rfl) | (obtain ⟨_, _, _, _, _, _, _, _, e, _⟩ := h; subst e; rfl) | (obtain ⟨_, _, _, _, _, _, _, _, _, e, _⟩ := h; subst e; rfl) | (obtain ⟨_, _, _, _, _, _, _, _, _, _, e, _⟩ := h; subst e; rfl) | (obtain ⟨_, _, _, _, _, _, _, _, _, _, _, e, _⟩ := h; subst e; rfl) | (obtain ⟨_, _, _, _, _, _, _, _, _, _, _, _, e, _⟩ := h; subst e; rfl) | (obtain ⟨_, _, _, _, _, _, _, _, _, _, _, _, _, e, _⟩ := h; subst e; rfl) | (obtain ⟨_, _, _, _, _, _, _, _, _, _, _, _, _, _, e, _⟩ := h; subst e; rfl) | (obtain ⟨_, _, _, _, _, _, _, _, _, _, _, _, _, _, _, e, _⟩ := h; subst e; rfl) | (obtain ⟨_, _, _, _, _, _, _, _, _, _, _, _, _, _, _, _, e, _⟩ := h; subst e; rfl) | (obtain ⟨_, _, _, _, _, _, _, _, _, _, _, _, _, _, _, _, _, e, _⟩ := h; subst e; rfl) | (obtain ⟨_, _, _, _, _, _, _, _, _, _, _, _, _, _, _, _, _, _, e, _⟩ := h; subst e; rfl) | (obtain ⟨_, _, _, _, _, _, _, _, _, _, _, _, _, _, _, _, _, _, _, e, _⟩ := h; subst e; rfl) | (obtain ⟨_, _, _, _, _, _, _, _, _, _, _, _, _, _, _, _, _, _, _, _, e, _⟩ := h; subst e; rfl) | (obtain ⟨_, _, _, _, _, _, _, _, _, _, _, _, _, _, _, _, _, _, _, _, _, e, _⟩ := h; subst e; rfl)))
local macro_rules | `(tactic| walk_at "P") => `(tactic| with_reducible (repeat (first | exact Pull.here | apply Pull.there)))
local macro_rules | `(tactic| walk_at "set") => `(tactic| ((try simp only [List.set_cons_zero, List.set_cons_succ]); exact rfl))
local macro_rules | `(tactic| walk_at "pre") => `(tactic| first | exact True.intro | assumption | omega | (refine ⟨?_, ?_⟩ <;> first | assumption | omega) | (refine ⟨?_, ?_, ?_⟩ <;> first | assumption | omega) | (refine ⟨?_, ?_, ?_, ?_⟩ <;> first | assumption | omega))
local macro_rules | `(tactic| walk_at "cl") => `(tactic| fail "no call")
local macro_rules | `(tactic| walk_at "tn") => `(tactic| ((try simp only [Int.toNat_natCast, Int.reduceToNat, Int.sub_zero, Int.reduceSub]); exact rfl))
local macro_rules | `(tactic| walk_at "lit") => `(tactic| (simp only [Int.reduceToNat, Int.reducePow, Int.reduceMul]; exact rfl))
local macro_rules | `(tactic| walk_at "un") => `(tactic| first
  | (with_reducible refine fl_id (by walk_at "G") ?_)
  | (with_reducible refine fl_nil (by walk_at "G") ?_)
  | (refine fl_more (rgV_more (by simp only [Int.reduceAdd]; exact rfl)) (by walk_at "G") ?_)
  | (refine fl_nil (by walk_at "G") ?_))
local macro_rules | `(tactic| walk_at "num") => `(tactic| first | assumption | omega | exact ⟨by decide, by decide +kernel⟩ | exact ⟨by decide, by decide, by decide⟩ | exact .inl ⟨by decide, by decide⟩ | exact .inr ⟨by decide, by decide⟩ | exact .inl ⟨by omega, by omega⟩ | exact .inr ⟨by omega, by omega⟩)
local macro_rules | `(tactic| walk_at "sz") => `(tactic| (refine Evl.sz_lt ?_; (try simp only [List.length_append, List.length_cons, List.length_nil, List.length_map]); omega))
local macro_rules | `(tactic| walk_at "G") => `(tactic| first | exact gA | exact gL (by assumption) (by walk_at "P") | exact gLs (by assumption) (by walk_at "P") | exact gT (by assumption) (by walk_at "P") | exact gF (by assumption) (by walk_at "P"))
local macro_rules | `(tactic| walk_at "st") => `(tactic| first
  | (with_reducible refine r_seq ?_)
  | (with_reducible refine r_asg ?_)
  | (with_reducible refine r_if ?_)
  | (with_reducible refine r_ret ?_)
  | (with_reducible refine r_drop ?_)
  | (with_reducible refine r_var (by with_unfolding_all rfl) ?_)
  | (with_reducible refine r_C ?_)
  | (with_reducible refine r_op ?_)
  | (with_reducible refine r_un ?_)
  | (with_reducible refine r_I0 ?_)
  | (with_reducible refine r_U ?_)
  | (with_reducible refine r_eqI ?_)
  | (with_reducible refine r_neI ?_)
  | (with_reducible refine r_isN ?_)
  | (with_reducible refine r_notN ?_)
  | (with_reducible refine r_isB ?_)
  | (with_reducible refine r_test ?_)
  | (with_reducible refine r_B ?_)
  | (with_reducible refine r_bl ?_)
  | (with_reducible refine r_and ?_)
  | (with_reducible refine r_or ?_)
  | (with_reducible refine r_not ?_)
  | (with_reducible refine r_andV ?_)
  | (with_reducible refine r_orV ?_)
  | (with_reducible refine r_notV ?_)
  | (with_reducible refine r_blV ?_)
  | (with_reducible refine r_ifE ?_)
  | (with_reducible refine r_chain ?_)
  | (with_reducible refine r_nil ?_)
  | (with_reducible refine r_cons ?_)
  | (with_reducible refine r_tup ?_)
  | (with_reducible refine r_lst ?_)
  | (with_reducible refine r_name (by walk_at "set") ?_)
  | (with_reducible refine r_aug (by with_unfolding_all rfl) ?_)
  | (with_reducible refine r_ipI ?_)
  | (with_reducible refine r_next ?_)
  | (with_reducible refine r_brk ?_)
  | (with_reducible refine r_cont ?_)
  | (with_reducible refine r_retN ?_)
  | (with_reducible refine r_fldC ?_)
  | (with_reducible refine r_sfldC ?_)
  | (with_reducible refine r_augC ?_)
  | (with_reducible refine r_cl0 ?_)
  | (with_reducible refine r_mt0 ?_)
  | (with_reducible refine r_mk0 ?_)
  | (walk_at "cl")
  | (with_reducible refine r_for ?_)
  | (with_reducible refine r_lc ?_)
  | (with_reducible refine r_iL ?_)
  | (with_reducible refine r_iT ?_)
  | (with_reducible refine r_iR1 ?_)
  | (with_reducible refine r_iR2 ?_)
  | (with_reducible refine r_iE ?_)
  | (with_reducible refine r_iZ ?_)
  | (with_reducible refine r_iV ?_)
  | (with_reducible refine r_iK ?_)
  | (with_reducible refine r_iVa ?_)
  | (with_reducible refine r_kIL (by assumption) (by walk_at "P") ?_)
  | (with_reducible refine r_kILs (by assumption) (by walk_at "P") ?_)
  | (with_reducible refine r_kIT (by assumption) (by walk_at "P") ?_)
  | (with_reducible refine r_kIE (by assumption) (by walk_at "P") ?_)
  | (with_reducible refine r_kIV (by assumption) (by walk_at "P") ?_)
  | (with_reducible refine r_kIK (by assumption) (by walk_at "P") ?_)
  | (with_reducible refine r_kIKt (by assumption) (by walk_at "P") ?_)
  | (with_reducible refine r_kIVa (by assumption) (by walk_at "P") ?_)
  | (refine r_kIR1 (by walk_at "tn") (by first | omega | decide) ?_)
  | (refine r_kIR2 (by walk_at "tn") (by first | omega | decide) ?_)
  | (with_reducible refine r_wL (by assumption) (by walk_at "P") ?_)
  | (with_reducible refine r_wLs (by assumption) (by walk_at "P") ?_)
  | (with_reducible refine r_wT (by assumption) (by walk_at "P") ?_)
  | (with_reducible refine r_wR ?_)
  | (with_reducible refine r_wE (by assumption) (by walk_at "P") ?_)
  | (with_reducible refine r_wV (by assumption) (by walk_at "P") ?_)
  | (with_reducible refine r_wK ?_)
  | (with_reducible refine r_wKt ?_)
  | (with_reducible refine r_wVa ?_)
  | (with_reducible refine r_yes ?_)
  | (refine r_app (by assumption) (by walk_at "P") (by walk_at "sz") (fun H S => ?_))
  | (refine r_wipe (by with_unfolding_all rfl) ?_)
  | (with_reducible refine r_unl (by assumption) (by walk_at "P") (fun H S => ?_))
  | (with_reducible refine r_lwL (by with_unfolding_all rfl) (by assumption) (by walk_at "P") (fun D H S => ?_))
  | (with_reducible refine r_lwLs (by with_unfolding_all rfl) (by assumption) (by walk_at "P") (fun D H S => ?_))
  | (with_reducible refine r_lwT (by with_unfolding_all rfl) (by assumption) (by walk_at "P") (fun D H S => ?_))
  | (with_reducible refine r_lwR (by with_unfolding_all rfl) (by assumption) (fun D H S => ?_))
  | (with_reducible refine r_ixL (by assumption) (by walk_at "P") (by with_unfolding_all rfl) ?_)
  | (with_reducible refine r_ixT (by assumption) (by walk_at "P") (by with_unfolding_all rfl) ?_)
  | (refine r_pow (by walk_at "num") (by walk_at "lit") ?_)
  | (refine r_I (by walk_at "num") ?_)
  | (with_reducible refine r_CB ?_)
  | (with_reducible refine r_lenScr (by assumption) (by walk_at "P") ?_)
  | (with_reducible refine r_lenL (by assumption) (by walk_at "P") ?_)
  | (with_reducible refine r_lenT (by assumption) (by walk_at "P") ?_)
  | (with_reducible refine r_kLst (by assumption) (by decide) (fun p H S => ?_))
  | (with_reducible refine isi_int ?_)
  | (with_reducible refine isi_int_b ?_)
  | (with_reducible refine isi_bl ?_)
  | (with_reducible refine isi_bl_b ?_)
  | (with_reducible refine isi_non ?_)
  | (with_reducible refine if_T ?_)
  | (with_reducible refine if_F ?_)
  | (with_reducible refine if_nT ?_)
  | (with_reducible refine if_nF ?_)
  | (with_reducible refine r_min ?_)
  | (with_reducible refine r_max ?_)
  | (with_reducible refine if_dt (by omega) ?_)
  | (with_reducible refine if_ndf (by omega) ?_)
  | (with_reducible refine if_df (by omega) ?_)
  | (with_reducible refine if_ndt (by omega) ?_))
local macro_rules | `(tactic| walk_at "go0") => `(tactic| (refine r_start (by simp only [L2.start, List.map_cons, List.map_nil, List.length_cons, List.length_nil, Nat.reduceAdd, Nat.reduceSub, List.replicate_succ, List.replicate_zero, List.cons_append, List.nil_append]; exact rfl) ?_; repeat (walk_at "st")))
local macro_rules | `(tactic| walk_at "go") => `(tactic| repeat (walk_at "st"))
section
variable {P : Program} {w : World} {K : PySem.W.Frag} {mg : Str → Option Value} {base : Heap}
def sp_L_cell_at {K : PySem.W.Frag} {mg : Str → Option Value} (T : Txt K mg) : Sp := fun vs H Q E => ∃ (a : Addr) (ns : List Int) (k : Int) (l : List Asrt), vs = [.ref a, .int k] ∧ Star (scr K a ns :: l) H ∧ (0 ≤ k) ∧ (∀ (H' : Hp), Star (scr K a ns :: l) H' → Q (.int (cellAt ns k)) H')
theorem c_L_cell_at {T : Txt K mg} {a : Addr} {ns : List Int} {k : Int} {L l : List Asrt} {H : Hp} {Q : VK} {E : XK} (S : Star L H) (P0 : Pull (scr K a ns) L l) (pre : 0 ≤ k) (q : (∀ (H' : Hp), Star (scr K a ns :: l) H' → Q (.int (cellAt ns k)) H')) : kCall (sp_L_cell_at T) [.ref a, .int k] H Q E := ⟨a, ns, k, l, rfl, (S.pull P0), pre, q⟩
local macro_rules | `(tactic| walk_at "cl") => `(tactic| with_reducible refine c_L_cell_at (by assumption) (by walk_at "P") (by walk_at "pre") (fun  H S => ?_))
theorem ok_L_cell_at (T : Txt K mg) : FnOk P w K mg base (L2.CX P w) 1 T.f_L_cell_at T.fd_L_cell_at ["_law_script", "_law_k"] (sp_L_cell_at T) := by
  refine T.F_L_cell_at.okX sc_L_cell_at (fun vs H Q E => by walk_at "len") (fun cdv A outer s H vs Q E hr h => ?_)
  have hu := hu_of hr
  refine ⟨_, (pss_cons (ps_if (pt_cmpR op_lt (pv 1) (pe_callB (callLen (K := K) rfl) (by rfl) T.z_len (by decide +kernel) (pa_cons (pv 0) pa_nil)) (nomark _)) (pss_one (ps_ret (pe_ix (ixL (K := K) rfl) (pv 0) (pv 1) (fun _ _ => rfl)))) pss_nil)
      (pss_one (ps_ret pe_int))), ?_⟩
  obtain ⟨a, ns, k, l, rfl, S, pre, q⟩ := h
  walk_at "go0"
  refine if_d (fun h => ?_) (fun h => ?_)
  · walk_at "go"
    refine r_ixScr (by assumption) (by walk_at "P") (atI_script pre h) ?_
    exact q _ S
  · walk_at "go"
    rw [cellAt_beyond h] at q
    exact q _ S
def sp_entry_of {K : PySem.W.Frag} {mg : Str → Option Value} (T : Txt K mg) : Sp := fun vs H Q E => ∃ (p b : Int) (l : List Asrt), vs = [.int p, .int b] ∧ Star (l) H ∧ (0 ≤ p ∧ p < 10 ^ 60 ∧ 0 ≤ b ∧ b < 32) ∧ (∀ (H' : Hp), Star (l) H' → Q (.int (p * 32 + b)) H')
theorem c_entry_of {T : Txt K mg} {p b : Int} {l : List Asrt} {H : Hp} {Q : VK} {E : XK} (S : Star l H) (pre : 0 ≤ p ∧ p < 10 ^ 60 ∧ 0 ≤ b ∧ b < 32) (q : (∀ (H' : Hp), Star (l) H' → Q (.int (p * 32 + b)) H')) : kCall (sp_entry_of T) [.int p, .int b] H Q E := ⟨p, b, l, rfl, S, pre, q⟩
local macro_rules | `(tactic| walk_at "cl") => `(tactic| with_reducible refine c_entry_of (by assumption) (by walk_at "pre") (fun  H S => ?_))
theorem ok_entry_of (T : Txt K mg) : FnOk P w K mg base (L2.CX P w) 1 T.f_entry_of T.fd_entry_of ["place", "bits"] (sp_entry_of T) := by
  refine T.F_entry_of.okX sc_entry_of (fun vs H Q E => by walk_at "len") (fun cdv A outer s H vs Q E hr h => ?_)
  have hu := hu_of hr
  refine ⟨_, (pss_one (ps_ret (pe_op opOrL (pe_op op_shlW (pv 0) pe_int) (pv 1)))), ?_⟩
  obtain ⟨p, b, l, rfl, S, pre, q⟩ := h
  walk_at "go0"
  refine r_I (cshl (by decide) (i := p) (n := 240) (by have := natAbs_lt (i := p) (n := 60) (by omega); omega) (by decide)) ?_
  walk_at "go"
  refine r_orL (k := 5) (by omega) ?_
  exact q _ S
def sp_place_of {K : PySem.W.Frag} {mg : Str → Option Value} (T : Txt K mg) : Sp := fun vs H Q E => ∃ (e : Int) (l : List Asrt), vs = [.int e] ∧ Star (l) H ∧ (0 ≤ e) ∧ (∀ (H' : Hp), Star (l) H' → Q (.int (e / 32)) H')
theorem c_place_of {T : Txt K mg} {e : Int} {l : List Asrt} {H : Hp} {Q : VK} {E : XK} (S : Star l H) (pre : 0 ≤ e) (q : (∀ (H' : Hp), Star (l) H' → Q (.int (e / 32)) H')) : kCall (sp_place_of T) [.int e] H Q E := ⟨e, l, rfl, S, pre, q⟩
local macro_rules | `(tactic| walk_at "cl") => `(tactic| with_reducible refine c_place_of (by assumption) (by walk_at "pre") (fun  H S => ?_))
theorem ok_place_of (T : Txt K mg) : FnOk P w K mg base (L2.CX P w) 1 T.f_place_of T.fd_place_of ["entry"] (sp_place_of T) := by
  refine T.F_place_of.okX sc_place_of (fun vs H Q E => by walk_at "len") (fun cdv A outer s H vs Q E hr h => ?_)
  have hu := hu_of hr
  refine ⟨_, (pss_one (ps_ret (pe_op op_shr (pv 0) pe_int))), ?_⟩
  obtain ⟨e, l, rfl, S, pre, q⟩ := h
  walk_at "go0"
  exact q _ S
def sp_bits_of {K : PySem.W.Frag} {mg : Str → Option Value} (T : Txt K mg) : Sp := fun vs H Q E => ∃ (e : Int) (l : List Asrt), vs = [.int e] ∧ Star (l) H ∧ (0 ≤ e) ∧ (∀ (H' : Hp), Star (l) H' → Q (.int (e % 32)) H')
theorem c_bits_of {T : Txt K mg} {e : Int} {l : List Asrt} {H : Hp} {Q : VK} {E : XK} (S : Star l H) (pre : 0 ≤ e) (q : (∀ (H' : Hp), Star (l) H' → Q (.int (e % 32)) H')) : kCall (sp_bits_of T) [.int e] H Q E := ⟨e, l, rfl, S, pre, q⟩
local macro_rules | `(tactic| walk_at "cl") => `(tactic| with_reducible refine c_bits_of (by assumption) (by walk_at "pre") (fun  H S => ?_))
theorem ok_bits_of (T : Txt K mg) : FnOk P w K mg base (L2.CX P w) 1 T.f_bits_of T.fd_bits_of ["entry"] (sp_bits_of T) := by
  refine T.F_bits_of.okX sc_bits_of (fun vs H Q E => by walk_at "len") (fun cdv A outer s H vs Q E hr h => ?_)
  have hu := hu_of hr
  refine ⟨_, (pss_one (ps_ret (pe_op op_and (pv 0) (pe_glob (v := .int 31) (by rfl) T.g_ALL_BITS ⟨_, rfl⟩)))), ?_⟩
  obtain ⟨e, l, rfl, S, pre, q⟩ := h
  walk_at "go0"
  rw [PyProof.Rows.bitAnd_m5]
  exact q _ S
def sp_L_is {K : PySem.W.Frag} {mg : Str → Option Value} (T : Txt K mg) : Sp := fun vs H Q E => ∃ (i j : Int) (l : List Asrt), vs = [.int i, .int j] ∧ Star (l) H ∧ (True) ∧ (∀ (H' : Hp), Star (l) H' → Q (.bl (decide (i = j))) H')
theorem c_L_is {T : Txt K mg} {i j : Int} {l : List Asrt} {H : Hp} {Q : VK} {E : XK} (S : Star l H) (pre : True) (q : (∀ (H' : Hp), Star (l) H' → Q (.bl (decide (i = j))) H')) : kCall (sp_L_is T) [.int i, .int j] H Q E := ⟨i, j, l, rfl, S, pre, q⟩
local macro_rules | `(tactic| walk_at "cl") => `(tactic| with_reducible refine c_L_is (by assumption) (by walk_at "pre") (fun  H S => ?_))
theorem ok_L_is (T : Txt K mg) : FnOk P w K mg base (L2.CX P w) 1 T.f_L_is T.fd_L_is ["_law_found", "_law_due"] (sp_L_is T) := by
  refine T.F_L_is.okX sc_L_is (fun vs H Q E => by walk_at "len") (fun cdv A outer s H vs Q E hr h => ?_)
  have hu := hu_of hr
  refine ⟨_, (pss_one (ps_ret (pe_and (pe_callB (callIsi (K := K) rfl) (by rfl) T.z_isinstance (by decide +kernel) (pa_cons (pv 0) (pa_cons (pe_bltn (v := .ty "int") (by rfl) T.z_int (by decide +kernel) rfl) pa_nil))) (pe_and (pe_not (pe_callB (callIsi (K := K) rfl) (by rfl) T.z_isinstance (by decide +kernel) (pa_cons (pv 0) (pa_cons (pe_bltn (v := .ty "bool") (by rfl) T.z_bool (by decide +kernel) rfl) pa_nil)))) (pe_one (pe_cmpR op_eq (pv 0) (pv 1) (nomark _))))))), ?_⟩
  obtain ⟨i, j, l, rfl, S, pre, q⟩ := h
  walk_at "go0"
  exact q _ S
def spLaw (K : PySem.W.Frag) : Sp := fun vs H Q _ => ∃ (a : Addr) (ns : List Int), vs = [.ref a] ∧ Star [scr K a ns] H ∧ ns.length ≤ 63 ∧ (∀ z ∈ ns, Builtin.Int.intBits z ≤ 1048576) ∧ ∀ H', Q (.bl true) H'
theorem ok_law (T : Txt K mg) : FnOk P w K mg base (L2.CX P w) 2 T.f_law T.fd_law ["_law_script"] (spLaw K) := by
  refine T.F_law.okX sc_law (fun vs H Q E => by walk_at "len") (fun cdv A outer s H vs Q E hr h => ?_)
  have hu := hu_of hr
  refine ⟨_, (pss_cons (ps_set (i := 1) sc_law.nd rfl (Or.inl rfl) (pe_op op_mod (pe_op op_fdivW (pe_cl (ok_L_cell_at T) (hr.mono (by decide)) T.mg_L_cell_at T.kp_L_cell_at T.b_L_cell_at_2 .nil (fun _ => pass0At) (pa_cons (pv 0) (pa_cons pe_int pa_nil))) pe_int) (pe_op op_pow pe_int pe_int)))
      (Evl.pss_cut (ps_if (pt_cmpR op_eq (pe_op op_mod (pe_cl (ok_L_cell_at T) (hr.mono (by decide)) T.mg_L_cell_at T.kp_L_cell_at T.b_L_cell_at_2 .nil (fun _ => pass0At) (pa_cons (pv 0) (pa_cons pe_int pa_nil))) pe_int) pe_int (nomark _)) (pss_one (ps_set (i := 1) sc_law.nd rfl (Or.inl rfl) (pe_op op_mod (pv 1) pe_int))) pss_nil)
      (pss_cons (ps_set (i := 2) sc_law.nd rfl (Or.inl rfl) (pe_op op_mod (pe_cl (ok_L_cell_at T) (hr.mono (by decide)) T.mg_L_cell_at T.kp_L_cell_at T.b_L_cell_at_2 .nil (fun _ => pass0At) (pa_cons (pv 0) (pa_cons pe_int pa_nil))) pe_int))
      (pss_cons (ps_set (i := 3) sc_law.nd rfl (Or.inl rfl) (pe_cl (ok_entry_of T) (hr.mono (by decide)) T.mg_entry_of T.kp_entry_of T.b_entry_of_2 .nil (fun _ => pass0At) (pa_cons (pv 1) (pa_cons (pv 2) pa_nil))))
      (pss_cons (ps_if (pt_not (pt_val (pe_cl (ok_L_is T) (hr.mono (by decide)) T.mg_L_is T.kp_L_is T.b_L_is_2 .nil (fun _ => pass0At) (pa_cons (pv 3) (pa_cons (pe_op op_add (pe_op op_mul pe_int (pv 1)) (pv 2)) pa_nil))))) (pss_one (ps_ret pe_bl)) pss_nil)
      (pss_cons (ps_if (PW.pt (pw_or (pt_not (pt_val (pe_cl (ok_L_is T) (hr.mono (by decide)) T.mg_L_is T.kp_L_is T.b_L_is_2 .nil (fun _ => pass0At) (pa_cons (pe_cl (ok_place_of T) (hr.mono (by decide)) T.mg_place_of T.kp_place_of T.b_place_of_1 .nil (fun _ => pass0At) (pa_cons (pv 3) pa_nil)) (pa_cons (pv 1) pa_nil))))) (pw_or1 (pt_not (pt_val (pe_cl (ok_L_is T) (hr.mono (by decide)) T.mg_L_is T.kp_L_is T.b_L_is_2 .nil (fun _ => pass0At) (pa_cons (pe_cl (ok_bits_of T) (hr.mono (by decide)) T.mg_bits_of T.kp_bits_of T.b_bits_of_1 .nil (fun _ => pass0At) (pa_cons (pv 3) pa_nil)) (pa_cons (pv 2) pa_nil)))))))) (pss_one (ps_ret pe_bl)) pss_nil)
      (pss_cons (ps_set (i := 4) sc_law.nd rfl (Or.inl rfl) (pe_op op_mod (pe_cl (ok_L_cell_at T) (hr.mono (by decide)) T.mg_L_cell_at T.kp_L_cell_at T.b_L_cell_at_2 .nil (fun _ => pass0At) (pa_cons (pv 0) (pa_cons pe_int pa_nil))) (pe_op op_pow pe_int pe_int)))
      (pss_cons (ps_if (PW.pt (pw_or (pt_not (pt_val (pe_cl (ok_L_is T) (hr.mono (by decide)) T.mg_L_is T.kp_L_is T.b_L_is_2 .nil (fun _ => pass0At) (pa_cons (pe_cl (ok_place_of T) (hr.mono (by decide)) T.mg_place_of T.kp_place_of T.b_place_of_1 .nil (fun _ => pass0At) (pa_cons (pv 4) pa_nil)) (pa_cons (pe_op op_fdivW (pv 4) pe_int) pa_nil))))) (pw_or1 (pt_not (pt_val (pe_cl (ok_L_is T) (hr.mono (by decide)) T.mg_L_is T.kp_L_is T.b_L_is_2 .nil (fun _ => pass0At) (pa_cons (pe_cl (ok_bits_of T) (hr.mono (by decide)) T.mg_bits_of T.kp_bits_of T.b_bits_of_1 .nil (fun _ => pass0At) (pa_cons (pv 4) pa_nil)) (pa_cons (pe_op op_mod (pv 4) pe_int) pa_nil)))))))) (pss_one (ps_ret pe_bl)) pss_nil)
      (pss_cons (ps_set (i := 5) sc_law.nd rfl (Or.inl rfl) (pe_lst (pa_cons (pe_glob (v := .int 1) (by rfl) T.g_READ ⟨_, rfl⟩) (pa_cons (pe_glob (v := .int 2) (by rfl) T.g_WRITE ⟨_, rfl⟩) (pa_cons (pe_glob (v := .int 4) (by rfl) T.g_KEPT ⟨_, rfl⟩) (pa_cons (pe_glob (v := .int 8) (by rfl) T.g_SEEN ⟨_, rfl⟩) (pa_cons (pe_glob (v := .int 16) (by rfl) T.g_CHANGED ⟨_, rfl⟩) pa_nil)))))))
      (pss_cons (ps_for (passes_of rfl) rfl (pi_range1 (by rfl) T.z_range (pa_cons pe_int pa_nil)) (pg_name (i := 6) sc_law.nd rfl (Or.inl rfl)) (pss_one (ps_if (pt_not (pt_val (pe_cl (ok_L_is T) (hr.mono (by decide)) T.mg_L_is T.kp_L_is T.b_L_is_2 .nil (fun _ => pass0At) (pa_cons (pe_ix (ixL (K := K) rfl) (pv 5) (pv 6) (fun _ _ => rfl)) (pa_cons (pe_ix (ixL (K := K) rfl) (pe_lst (pa_cons pe_int (pa_cons pe_int (pa_cons pe_int (pa_cons pe_int (pa_cons pe_int pa_nil)))))) (pv 6) (fun _ _ => rfl)) pa_nil))))) (pss_one (ps_ret pe_bl)) pss_nil)))
      (pss_one (ps_ret pe_bl)))))))))))), ?_⟩
  obtain ⟨a, ns, rfl, S, hl, hb, q⟩ := h
  walk_at "go0"
  refine r_cut (fun σ' H' => ∃ z, σ' = [some (V.ref a), some (V.int z), none, none, none, none, none] ∧ Star [scr K a ns] H' ∧ 0 ≤ z ∧ z < 10 ^ 30) ?_ ?_
  · walk_at "go"
    refine if_d (fun h => ?_) (fun h => ?_) <;> walk_at "go" <;> exact ⟨_, rfl, by assumption, by omega, by omega⟩
  · rintro _ H ⟨z, rfl, S, h0, h1⟩
    walk_at "go"
    repeat (walk_at "un" ; walk_at "go")
    exact q _
end
theorem all_mk {w : World} {K : PySem.W.Frag} {h : Heap} {mg : Str → Option Value} {fa : Addr} (X : K.In h) (G : h.Ns mainGlobals mg) (hfa : mg "law" = some (.ref fa))
    {f_entry_of f_place_of f_bits_of f_L_cell_at f_L_is f_law : Addr}
    {od_entry_of an_entry_of : Option Addr} {sl_entry_of : Array (Option Value)} {oc_entry_of kV_entry_of dc_entry_of pm_entry_of cd_entry_of ct_entry_of : Value}
    {od_place_of an_place_of : Option Addr} {sl_place_of : Array (Option Value)} {oc_place_of kV_place_of dc_place_of pm_place_of cd_place_of ct_place_of : Value}
    {od_bits_of an_bits_of : Option Addr} {sl_bits_of : Array (Option Value)} {oc_bits_of kV_bits_of dc_bits_of pm_bits_of cd_bits_of ct_bits_of : Value}
    {od_L_cell_at an_L_cell_at : Option Addr} {sl_L_cell_at : Array (Option Value)} {oc_L_cell_at kV_L_cell_at dc_L_cell_at pm_L_cell_at cd_L_cell_at ct_L_cell_at : Value}
    {od_L_is an_L_is : Option Addr} {sl_L_is : Array (Option Value)} {oc_L_is kV_L_is dc_L_is pm_L_is cd_L_is ct_L_is : Value}
    {od_law an_law : Option Addr} {sl_law : Array (Option Value)} {oc_law kV_law dc_law pm_law cd_law ct_law : Value}
    {tk_ALL_BITS : Tok}
    {tk_CHANGED : Tok}
    {tk_KEPT : Tok}
    {tk_READ : Tok}
    {tk_SEEN : Tok}
    {tk_WRITE : Tok}
    (a_entry_of : PySem.W.nsIn K mainGlobals "entry_of" = some (some (.ref f_entry_of)))
    (l_entry_of : K.lookup f_entry_of = some ⟨oc_entry_of, od_entry_of, .func (PySem.W.fnOf "entry_of" "entry_of" (defArgs s_entry_of) (defBody s_entry_of) (defScope s_entry_of) .none kV_entry_of dc_entry_of pm_entry_of an_entry_of cd_entry_of ct_entry_of), sl_entry_of⟩)
    (c_entry_of : PySem.W.codeIn K cd_entry_of "entry_of" = true)
    (k_entry_of : PySem.W.keepIn K (.ref f_entry_of) = true)
    (a_place_of : PySem.W.nsIn K mainGlobals "place_of" = some (some (.ref f_place_of)))
    (l_place_of : K.lookup f_place_of = some ⟨oc_place_of, od_place_of, .func (PySem.W.fnOf "place_of" "place_of" (defArgs s_place_of) (defBody s_place_of) (defScope s_place_of) .none kV_place_of dc_place_of pm_place_of an_place_of cd_place_of ct_place_of), sl_place_of⟩)
    (c_place_of : PySem.W.codeIn K cd_place_of "place_of" = true)
    (k_place_of : PySem.W.keepIn K (.ref f_place_of) = true)
    (a_bits_of : PySem.W.nsIn K mainGlobals "bits_of" = some (some (.ref f_bits_of)))
    (l_bits_of : K.lookup f_bits_of = some ⟨oc_bits_of, od_bits_of, .func (PySem.W.fnOf "bits_of" "bits_of" (defArgs s_bits_of) (defBody s_bits_of) (defScope s_bits_of) .none kV_bits_of dc_bits_of pm_bits_of an_bits_of cd_bits_of ct_bits_of), sl_bits_of⟩)
    (c_bits_of : PySem.W.codeIn K cd_bits_of "bits_of" = true)
    (k_bits_of : PySem.W.keepIn K (.ref f_bits_of) = true)
    (a_L_cell_at : PySem.W.nsIn K mainGlobals "_law_cell_at" = some (some (.ref f_L_cell_at)))
    (l_L_cell_at : K.lookup f_L_cell_at = some ⟨oc_L_cell_at, od_L_cell_at, .func (PySem.W.fnOf "_law_cell_at" "_law_cell_at" (defArgs s_L_cell_at) (defBody s_L_cell_at) (defScope s_L_cell_at) .none kV_L_cell_at dc_L_cell_at pm_L_cell_at an_L_cell_at cd_L_cell_at ct_L_cell_at), sl_L_cell_at⟩)
    (c_L_cell_at : PySem.W.codeIn K cd_L_cell_at "_law_cell_at" = true)
    (k_L_cell_at : PySem.W.keepIn K (.ref f_L_cell_at) = true)
    (a_L_is : PySem.W.nsIn K mainGlobals "_law_is" = some (some (.ref f_L_is)))
    (l_L_is : K.lookup f_L_is = some ⟨oc_L_is, od_L_is, .func (PySem.W.fnOf "_law_is" "_law_is" (defArgs s_L_is) (defBody s_L_is) (defScope s_L_is) .none kV_L_is dc_L_is pm_L_is an_L_is cd_L_is ct_L_is), sl_L_is⟩)
    (c_L_is : PySem.W.codeIn K cd_L_is "_law_is" = true)
    (k_L_is : PySem.W.keepIn K (.ref f_L_is) = true)
    (a_law : PySem.W.nsIn K mainGlobals "law" = some (some (.ref f_law)))
    (l_law : K.lookup f_law = some ⟨oc_law, od_law, .func (PySem.W.fnOf "law" "law" (defArgs s_law) (defBody s_law) (defScope s_law) .none kV_law dc_law pm_law an_law cd_law ct_law), sl_law⟩)
    (c_law : PySem.W.codeIn K cd_law "law" = true)
    (k_law : PySem.W.keepIn K (.ref f_law) = true)
    (z_bool : PySem.W.nsIn K mainGlobals "bool" = some none)
    (z_int : PySem.W.nsIn K mainGlobals "int" = some none)
    (z_isinstance : PySem.W.nsIn K mainGlobals "isinstance" = some none)
    (z_len : PySem.W.nsIn K mainGlobals "len" = some none)
    (z_range : PySem.W.nsIn K mainGlobals "range" = some none)
    (g_ALL_BITS : PySem.W.nsIn K mainGlobals "ALL_BITS" = some (some (.int 31 tk_ALL_BITS)))
    (g_CHANGED : PySem.W.nsIn K mainGlobals "CHANGED" = some (some (.int 16 tk_CHANGED)))
    (g_KEPT : PySem.W.nsIn K mainGlobals "KEPT" = some (some (.int 4 tk_KEPT)))
    (g_READ : PySem.W.nsIn K mainGlobals "READ" = some (some (.int 1 tk_READ)))
    (g_SEEN : PySem.W.nsIn K mainGlobals "SEEN" = some (some (.int 8 tk_SEEN)))
    (g_WRITE : PySem.W.nsIn K mainGlobals "WRITE" = some (some (.int 2 tk_WRITE)))
    : ∃ T : Txt K mg, T.f_law = fa := by
  have e : f_law = fa := by
    have q : Value.ref f_law = Value.ref fa := Option.some.inj ((PySem.W.mg_of X G a_law).symm.trans hfa)
    injection q
  exact ⟨{
    f_entry_of := f_entry_of,
    fd_entry_of := (PySem.W.fnOf "entry_of" "entry_of" (defArgs s_entry_of) (defBody s_entry_of) (defScope s_entry_of) .none kV_entry_of dc_entry_of pm_entry_of an_entry_of cd_entry_of ct_entry_of),
    F_entry_of := (fun_mk (st := s_entry_of) l_entry_of c_entry_of k_entry_of),
    kp_entry_of := k_entry_of,
    b_entry_of_2 := (.all fun us hl => match us, hl with | [_, _], _ => rfl),
    mg_entry_of := (PySem.W.mg_of X G a_entry_of),
    f_place_of := f_place_of,
    fd_place_of := (PySem.W.fnOf "place_of" "place_of" (defArgs s_place_of) (defBody s_place_of) (defScope s_place_of) .none kV_place_of dc_place_of pm_place_of an_place_of cd_place_of ct_place_of),
    F_place_of := (fun_mk (st := s_place_of) l_place_of c_place_of k_place_of),
    kp_place_of := k_place_of,
    b_place_of_1 := (.all fun us hl => match us, hl with | [_], _ => rfl),
    mg_place_of := (PySem.W.mg_of X G a_place_of),
    f_bits_of := f_bits_of,
    fd_bits_of := (PySem.W.fnOf "bits_of" "bits_of" (defArgs s_bits_of) (defBody s_bits_of) (defScope s_bits_of) .none kV_bits_of dc_bits_of pm_bits_of an_bits_of cd_bits_of ct_bits_of),
    F_bits_of := (fun_mk (st := s_bits_of) l_bits_of c_bits_of k_bits_of),
    kp_bits_of := k_bits_of,
    b_bits_of_1 := (.all fun us hl => match us, hl with | [_], _ => rfl),
    mg_bits_of := (PySem.W.mg_of X G a_bits_of),
    f_L_cell_at := f_L_cell_at,
    fd_L_cell_at := (PySem.W.fnOf "_law_cell_at" "_law_cell_at" (defArgs s_L_cell_at) (defBody s_L_cell_at) (defScope s_L_cell_at) .none kV_L_cell_at dc_L_cell_at pm_L_cell_at an_L_cell_at cd_L_cell_at ct_L_cell_at),
    F_L_cell_at := (fun_mk (st := s_L_cell_at) l_L_cell_at c_L_cell_at k_L_cell_at),
    kp_L_cell_at := k_L_cell_at,
    b_L_cell_at_2 := (.all fun us hl => match us, hl with | [_, _], _ => rfl),
    mg_L_cell_at := (PySem.W.mg_of X G a_L_cell_at),
    f_L_is := f_L_is,
    fd_L_is := (PySem.W.fnOf "_law_is" "_law_is" (defArgs s_L_is) (defBody s_L_is) (defScope s_L_is) .none kV_L_is dc_L_is pm_L_is an_L_is cd_L_is ct_L_is),
    F_L_is := (fun_mk (st := s_L_is) l_L_is c_L_is k_L_is),
    kp_L_is := k_L_is,
    b_L_is_2 := (.all fun us hl => match us, hl with | [_, _], _ => rfl),
    mg_L_is := (PySem.W.mg_of X G a_L_is),
    f_law := f_law,
    fd_law := (PySem.W.fnOf "law" "law" (defArgs s_law) (defBody s_law) (defScope s_law) .none kV_law dc_law pm_law an_law cd_law ct_law),
    F_law := (fun_mk (st := s_law) l_law c_law k_law),
    kp_law := k_law,
    b_law_1 := (.all fun us hl => match us, hl with | [_], _ => rfl),
    mg_law := (PySem.W.mg_of X G a_law),
    bt_law := (fun s v => .of_eq rfl),
    z_bool := (PySem.W.mg_none_of X G z_bool),
    z_int := (PySem.W.mg_none_of X G z_int),
    z_isinstance := (PySem.W.mg_none_of X G z_isinstance),
    z_len := (PySem.W.mg_none_of X G z_len),
    z_range := (PySem.W.mg_none_of X G z_range),
    tk_ALL_BITS := tk_ALL_BITS,
    g_ALL_BITS := (PySem.W.mg_of X G g_ALL_BITS),
    tk_CHANGED := tk_CHANGED,
    g_CHANGED := (PySem.W.mg_of X G g_CHANGED),
    tk_KEPT := tk_KEPT,
    g_KEPT := (PySem.W.mg_of X G g_KEPT),
    tk_READ := tk_READ,
    g_READ := (PySem.W.mg_of X G g_READ),
    tk_SEEN := tk_SEEN,
    g_SEEN := (PySem.W.mg_of X G g_SEEN),
    tk_WRITE := tk_WRITE,
    g_WRITE := (PySem.W.mg_of X G g_WRITE) }, e⟩
theorem all_fin {l : PySem.W.OpenLaw} {w : World} {K : PySem.W.Frag} {h : Heap} {mg : Str → Option Value} {fa : Addr} (X : K.In h) (G : h.Ns mainGlobals mg) (hfa : mg "law" = some (.ref fa))
    {f_entry_of f_place_of f_bits_of f_L_cell_at f_L_is f_law : Addr}
    {od_entry_of an_entry_of : Option Addr} {sl_entry_of : Array (Option Value)} {oc_entry_of kV_entry_of dc_entry_of pm_entry_of cd_entry_of ct_entry_of : Value}
    {od_place_of an_place_of : Option Addr} {sl_place_of : Array (Option Value)} {oc_place_of kV_place_of dc_place_of pm_place_of cd_place_of ct_place_of : Value}
    {od_bits_of an_bits_of : Option Addr} {sl_bits_of : Array (Option Value)} {oc_bits_of kV_bits_of dc_bits_of pm_bits_of cd_bits_of ct_bits_of : Value}
    {od_L_cell_at an_L_cell_at : Option Addr} {sl_L_cell_at : Array (Option Value)} {oc_L_cell_at kV_L_cell_at dc_L_cell_at pm_L_cell_at cd_L_cell_at ct_L_cell_at : Value}
    {od_L_is an_L_is : Option Addr} {sl_L_is : Array (Option Value)} {oc_L_is kV_L_is dc_L_is pm_L_is cd_L_is ct_L_is : Value}
    {od_law an_law : Option Addr} {sl_law : Array (Option Value)} {oc_law kV_law dc_law pm_law cd_law ct_law : Value}
    {tk_ALL_BITS : Tok}
    {tk_CHANGED : Tok}
    {tk_KEPT : Tok}
    {tk_READ : Tok}
    {tk_SEEN : Tok}
    {tk_WRITE : Tok}
    (a_entry_of : PySem.W.nsIn K mainGlobals "entry_of" = some (some (.ref f_entry_of)))
    (l_entry_of : K.lookup f_entry_of = some ⟨oc_entry_of, od_entry_of, .func (PySem.W.fnOf "entry_of" "entry_of" (defArgs s_entry_of) (defBody s_entry_of) (defScope s_entry_of) .none kV_entry_of dc_entry_of pm_entry_of an_entry_of cd_entry_of ct_entry_of), sl_entry_of⟩)
    (c_entry_of : PySem.W.codeIn K cd_entry_of "entry_of" = true)
    (k_entry_of : PySem.W.keepIn K (.ref f_entry_of) = true)
    (a_place_of : PySem.W.nsIn K mainGlobals "place_of" = some (some (.ref f_place_of)))
    (l_place_of : K.lookup f_place_of = some ⟨oc_place_of, od_place_of, .func (PySem.W.fnOf "place_of" "place_of" (defArgs s_place_of) (defBody s_place_of) (defScope s_place_of) .none kV_place_of dc_place_of pm_place_of an_place_of cd_place_of ct_place_of), sl_place_of⟩)
    (c_place_of : PySem.W.codeIn K cd_place_of "place_of" = true)
    (k_place_of : PySem.W.keepIn K (.ref f_place_of) = true)
    (a_bits_of : PySem.W.nsIn K mainGlobals "bits_of" = some (some (.ref f_bits_of)))
    (l_bits_of : K.lookup f_bits_of = some ⟨oc_bits_of, od_bits_of, .func (PySem.W.fnOf "bits_of" "bits_of" (defArgs s_bits_of) (defBody s_bits_of) (defScope s_bits_of) .none kV_bits_of dc_bits_of pm_bits_of an_bits_of cd_bits_of ct_bits_of), sl_bits_of⟩)
    (c_bits_of : PySem.W.codeIn K cd_bits_of "bits_of" = true)
    (k_bits_of : PySem.W.keepIn K (.ref f_bits_of) = true)
    (a_L_cell_at : PySem.W.nsIn K mainGlobals "_law_cell_at" = some (some (.ref f_L_cell_at)))
    (l_L_cell_at : K.lookup f_L_cell_at = some ⟨oc_L_cell_at, od_L_cell_at, .func (PySem.W.fnOf "_law_cell_at" "_law_cell_at" (defArgs s_L_cell_at) (defBody s_L_cell_at) (defScope s_L_cell_at) .none kV_L_cell_at dc_L_cell_at pm_L_cell_at an_L_cell_at cd_L_cell_at ct_L_cell_at), sl_L_cell_at⟩)
    (c_L_cell_at : PySem.W.codeIn K cd_L_cell_at "_law_cell_at" = true)
    (k_L_cell_at : PySem.W.keepIn K (.ref f_L_cell_at) = true)
    (a_L_is : PySem.W.nsIn K mainGlobals "_law_is" = some (some (.ref f_L_is)))
    (l_L_is : K.lookup f_L_is = some ⟨oc_L_is, od_L_is, .func (PySem.W.fnOf "_law_is" "_law_is" (defArgs s_L_is) (defBody s_L_is) (defScope s_L_is) .none kV_L_is dc_L_is pm_L_is an_L_is cd_L_is ct_L_is), sl_L_is⟩)
    (c_L_is : PySem.W.codeIn K cd_L_is "_law_is" = true)
    (k_L_is : PySem.W.keepIn K (.ref f_L_is) = true)
    (a_law : PySem.W.nsIn K mainGlobals "law" = some (some (.ref f_law)))
    (l_law : K.lookup f_law = some ⟨oc_law, od_law, .func (PySem.W.fnOf "law" "law" (defArgs s_law) (defBody s_law) (defScope s_law) .none kV_law dc_law pm_law an_law cd_law ct_law), sl_law⟩)
    (c_law : PySem.W.codeIn K cd_law "law" = true)
    (k_law : PySem.W.keepIn K (.ref f_law) = true)
    (z_bool : PySem.W.nsIn K mainGlobals "bool" = some none)
    (z_int : PySem.W.nsIn K mainGlobals "int" = some none)
    (z_isinstance : PySem.W.nsIn K mainGlobals "isinstance" = some none)
    (z_len : PySem.W.nsIn K mainGlobals "len" = some none)
    (z_range : PySem.W.nsIn K mainGlobals "range" = some none)
    (g_ALL_BITS : PySem.W.nsIn K mainGlobals "ALL_BITS" = some (some (.int 31 tk_ALL_BITS)))
    (g_CHANGED : PySem.W.nsIn K mainGlobals "CHANGED" = some (some (.int 16 tk_CHANGED)))
    (g_KEPT : PySem.W.nsIn K mainGlobals "KEPT" = some (some (.int 4 tk_KEPT)))
    (g_READ : PySem.W.nsIn K mainGlobals "READ" = some (some (.int 1 tk_READ)))
    (g_SEEN : PySem.W.nsIn K mainGlobals "SEEN" = some (some (.int 8 tk_SEEN)))
    (g_WRITE : PySem.W.nsIn K mainGlobals "WRITE" = some (some (.int 2 tk_WRITE)))
    : ∃ fd : FuncData, (∀ (s : Shared) (v : Value), BindsTo s fd ⟨[v], []⟩ [("_law_script", v)]) ∧ ∀ base : Heap, K.In base → base.Ns mainGlobals mg → FnOk l.prog w K mg base (L2.CX l.prog w) 2 fa fd ["_law_script"] (spLaw K) := by
  obtain ⟨T, rfl⟩ := all_mk (w := w) X G hfa a_entry_of l_entry_of c_entry_of k_entry_of a_place_of l_place_of c_place_of k_place_of a_bits_of l_bits_of c_bits_of k_bits_of a_L_cell_at l_L_cell_at c_L_cell_at k_L_cell_at a_L_is l_L_is c_L_is k_L_is a_law l_law c_law k_law z_bool z_int z_isinstance z_len z_range g_ALL_BITS g_CHANGED g_KEPT g_READ g_SEEN g_WRITE
  exact ⟨T.fd_law, T.bt_law, fun base _ _ => ok_law T⟩
theorem walk {l : PySem.W.OpenLaw} {q : Program} {loose : List Str} {XP : (Str → Option Value) → Heap → Prop} {YP : World → Heap → Prop} {d : DefRec} {K : Params → PySem.W.Frag} (hn : l.most = some 63) (hdf : d.params.defaults = [])
    (hY : ∀ (w : World) (h : Heap), YP w h → (K w.params).In h)
    (F : ∀ (w : World) (mg : Str → Option Value) (fa : Addr) (h : Heap), (K w.params).In h → h.Ns mainGlobals mg → mg d.name = some (.ref fa) →
      ∃ fd : FuncData, (∀ (s : Shared) (u : Value), BindsTo s fd ⟨[u], []⟩ [("_law_script", u)]) ∧ ∀ base : Heap, (K w.params).In base → base.Ns mainGlobals mg → FnOk l.prog w (K w.params) mg base (L2.CX l.prog w) 2 fa fd ["_law_script"] (spLaw (K w.params))) :
    PySem.W.WalkO q loose XP YP l.row.toRowW d [] (fun f vs => PySem.call f vs) :=
  L2.walk_ofB (n := 63) (k := 2) (x := "_law_script") (CX := fun w => L2.CX l.prog w) (sp := fun w => spLaw (K w.params)) hn (by decide) hdf ⟨rfl, by decide, by decide⟩ hY F (fun _ _ a ns hl hb _ hS => ⟨a, ns, rfl, Star.ofScr hS, hl, hb, fun _ => rfl⟩) fun _ _ _ _ _ z => by
    obtain ⟨_, _, _, _, _, _, _, _, _, _, _, _, z⟩ := z
    exact z.elim
end Fl
open PySem PySem.W PyProof.Rows
set_option maxRecDepth 100000 in
set_option maxHeartbeats 0 in
theorem PySem.Challenge.cw_frameland_k05_entry_numbers_holds : PySem.Challenge.rw_frameland_k05_entry_numbers.Holds := by
  w_on; o_law; k_head; (case hw => w_witness2)
  k_fill
  refine Fl.walk (l := PySem.Challenge.rw_frameland_k05_entry_numbers) rfl rfl (fun w h Y => PySem.W.kIn_of Y) ?F
  case F =>
    intro w mg fa h KX G hmg
    refine' Fl.all_fin (l := PySem.Challenge.rw_frameland_k05_entry_numbers) (w := w) KX G hmg ?a_entry_of ?l_entry_of ?c_entry_of ?k_entry_of ?a_place_of ?l_place_of ?c_place_of ?k_place_of ?a_bits_of ?l_bits_of ?c_bits_of ?k_bits_of ?a_L_cell_at ?l_L_cell_at ?c_L_cell_at ?k_L_cell_at ?a_L_is ?l_L_is ?c_L_is ?k_L_is ?a_law ?l_law ?c_law ?k_law ?z_bool ?z_int ?z_isinstance ?z_len ?z_range ?g_ALL_BITS ?g_CHANGED ?g_KEPT ?g_READ ?g_SEEN ?g_WRITE
    (case a_entry_of => k_is)
    (case l_entry_of => k_is)
    (case c_entry_of => k_is)
    (case k_entry_of => k_is)
    (case a_place_of => k_is)
    (case l_place_of => k_is)
    (case c_place_of => k_is)
    (case k_place_of => k_is)
    (case a_bits_of => k_is)
    (case l_bits_of => k_is)
    (case c_bits_of => k_is)
    (case k_bits_of => k_is)
    (case a_L_cell_at => k_is)
    (case l_L_cell_at => k_is)
    (case c_L_cell_at => k_is)
    (case k_L_cell_at => k_is)
    (case a_L_is => k_is)
    (case l_L_is => k_is)
    (case c_L_is => k_is)
    (case k_L_is => k_is)
    (case a_law => k_is)
    (case l_law => k_is)
    (case c_law => k_is)
    (case k_law => k_is)
    (case z_bool => k_is)
    (case z_int => k_is)
    (case z_isinstance => k_is)
    (case z_len => k_is)
    (case z_range => k_is)
    (case g_ALL_BITS => k_is)
    (case g_CHANGED => k_is)
    (case g_KEPT => k_is)
    (case g_READ => k_is)
    (case g_SEEN => k_is)
    (case g_WRITE => k_is)
