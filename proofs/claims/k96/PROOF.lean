import PyProof.Rows.All
import Wide.All
import OpenK.AllK
import Wide.FinOn
import HandS.ForMost
import HandS.ForExc
import HandS.IsInst
import HandS.ExcIs
import HandS.Style
import HandS.Wide
import HandS.WideMore
import HandS.WideBits
import HandS.EndBits
import HandS.SortInts
import HandS.SortKw
import HandS.DictTup
import HandS.TryMany
import HandS.NoneIn
import HandS.Flow
import HandS.Steps
import HandS.Walk
import HandS.Evl
import HandS.Conv
import HandS.More
import HandS.ClsMeth
import HandS.Text
import HandS.TupLen
import HandS.Defaults
import HandS.ExcValue
import HandS.HotCalls
import PyProof.DictMoreH
import KE.KSortTupAny
import KE.KDictCopyH
import PyProof.Rows.TupDisplay
import PyProof.DictFindH
import HandS.SortRule
import HandS.Deep
import HandS.Zip
import KE.GoesMore
import KE.GoesEnum
import KE.KIntText
import PyProof.Rows.StrSplitJoin
import PyProof.Rows.ReprOcc
import PySem.Challenge.RW_frameland_k96_rows_shown
set_option Elab.async false
set_option linter.all false
set_option maxRecDepth 100000
set_option maxHeartbeats 8000000
set_option synthInstance.maxSize 4000
set_option synthInstance.maxHeartbeats 400000
/-! Fl: a small logic of parted heaps over the hand layer. -/
namespace Fl
open PySem L2
abbrev Asrt := Hp → Prop
def Sub (h H : Hp) : Prop := ∀ a o, h a = some o → H a = some o
def IsTup (o : HO) : Prop := ∃ xs, o = .tup xs
/-- apart, but for tuples -/
def Dsj (h k : Hp) : Prop := ∀ a o u, h a = some o → k a = some u → o = u ∧ IsTup o
def Star : List Asrt → Asrt
  | [] => fun _ => True
  | A :: l => fun h => ∃ h1 h2, Dsj h1 h2 ∧ Sub h1 h ∧ Sub h2 h ∧ A h1 ∧ Star l h2
def pt (a : Addr) (o : HO) : Asrt := fun h => h a = some o
def pu (p : Prop) : Asrt := fun _ => p
def single (a : Addr) (o : HO) : Hp := fun b => if b = a then some o else none
def join (h k : Hp) : Hp := fun b => match h b with | some o => some o | none => k b
theorem Sub.refl (h : Hp) : Sub h h := fun _ _ e => e
theorem Sub.trans {h k l : Hp} (a : Sub h k) (b : Sub k l) : Sub h l := fun c o e => b c o (a c o e)
theorem single_self {a : Addr} {o : HO} : single a o a = some o := if_pos rfl
theorem single_sub {a : Addr} {o : HO} {H : Hp} (e : H a = some o) : Sub (single a o) H := fun b u q => by
  unfold single at q
  split at q
  · next h => subst h; cases q; exact e
  · cases q
theorem Dsj.symm {h k : Hp} (d : Dsj h k) : Dsj k h := fun a o u e1 e2 => by
  obtain ⟨rfl, t⟩ := d a u o e2 e1
  exact ⟨rfl, t⟩
theorem Dsj.mono {h k h' k' : Hp} (d : Dsj h k) (a : Sub h' h) (b : Sub k' k) : Dsj h' k' := fun c o u e1 e2 => d c o u (a c o e1) (b c u e2)
theorem join_l {h k : Hp} : Sub h (join h k) := fun a o e => by unfold join; rw [e]
theorem join_r {h k : Hp} (d : Dsj h k) : Sub k (join h k) := fun a o e => by
  unfold join
  cases q : h a with
  | none => exact e
  | some u =>
    obtain ⟨rfl, _⟩ := d a u o q e
    rfl
theorem join_sub {h k H : Hp} (a : Sub h H) (b : Sub k H) : Sub (join h k) H := fun c o e => by
  unfold join at e
  cases q : h c with
  | none => rw [q] at e; exact b c o e
  | some u => rw [q] at e; cases e; exact a c o q
theorem join_dsj {h k l : Hp} (a : Dsj h l) (b : Dsj k l) : Dsj (join h k) l := fun c o u e1 e2 => by
  unfold join at e1
  cases q : h c with
  | none => rw [q] at e1; exact b c o u e1 e2
  | some v => rw [q] at e1; cases e1; exact a c o u q e2
theorem Star.mono {l : List Asrt} {h H : Hp} (s : Sub h H) (S : Star l h) : Star l H := by
  cases l with
  | nil => trivial
  | cons A l =>
    obtain ⟨h1, h2, d, a, b, x, y⟩ := S
    exact ⟨h1, h2, d, a.trans s, b.trans s, x, y⟩
theorem Star.tail {A : Asrt} {l : List Asrt} {H : Hp} (S : Star (A :: l) H) : Star l H := by
  obtain ⟨h1, h2, d, a, b, x, y⟩ := S
  exact y.mono b
theorem Star.swap {A B : Asrt} {l : List Asrt} {H : Hp} (S : Star (A :: B :: l) H) : Star (B :: A :: l) H := by
  obtain ⟨h1, h2, d, a, b, x, h3, h4, d', a', b', x', y⟩ := S
  refine ⟨h3, join h1 h4, ?_, a'.trans b, join_sub a (b'.trans b), x', h1, h4, d.mono (Sub.refl _) b', join_l, join_r (d.mono (Sub.refl _) b'), x, y⟩
  exact (join_dsj (d.mono (Sub.refl _) a') d'.symm).symm
theorem Star.under {A : Asrt} {l l' : List Asrt} {H : Hp} (f : ∀ h, Star l h → Star l' h) (S : Star (A :: l) H) : Star (A :: l') H := by
  obtain ⟨h1, h2, d, a, b, x, y⟩ := S
  exact ⟨h1, h2, d, a, b, x, f _ y⟩
theorem Star.hd {A B : Asrt} {l : List Asrt} {H : Hp} (f : ∀ h, A h → B h) (S : Star (A :: l) H) : Star (B :: l) H := by
  obtain ⟨h1, h2, d, a, b, x, y⟩ := S
  exact ⟨h1, h2, d, a, b, f _ x, y⟩
theorem Star.p1 {A B : Asrt} {l : List Asrt} {H : Hp} (S : Star (A :: B :: l) H) : Star (B :: A :: l) H := S.swap
theorem Star.p2 {A B C : Asrt} {l : List Asrt} {H : Hp} (S : Star (A :: B :: C :: l) H) : Star (C :: A :: B :: l) H := Star.swap (Star.under (fun _ => Star.p1) S)
theorem Star.p3 {A B C D : Asrt} {l : List Asrt} {H : Hp} (S : Star (A :: B :: C :: D :: l) H) : Star (D :: A :: B :: C :: l) H := Star.swap (Star.under (fun _ => Star.p2) S)
theorem Star.p4 {A B C D E : Asrt} {l : List Asrt} {H : Hp} (S : Star (A :: B :: C :: D :: E :: l) H) : Star (E :: A :: B :: C :: D :: l) H := Star.swap (Star.under (fun _ => Star.p3) S)
theorem Star.p5 {A B C D E F : Asrt} {l : List Asrt} {H : Hp} (S : Star (A :: B :: C :: D :: E :: F :: l) H) : Star (F :: A :: B :: C :: D :: E :: l) H := Star.swap (Star.under (fun _ => Star.p4) S)
theorem Star.p6 {A B C D E F G : Asrt} {l : List Asrt} {H : Hp} (S : Star (A :: B :: C :: D :: E :: F :: G :: l) H) : Star (G :: A :: B :: C :: D :: E :: F :: l) H := Star.swap (Star.under (fun _ => Star.p5) S)
theorem Star.p7 {A B C D E F G I : Asrt} {l : List Asrt} {H : Hp} (S : Star (A :: B :: C :: D :: E :: F :: G :: I :: l) H) : Star (I :: A :: B :: C :: D :: E :: F :: G :: l) H := Star.swap (Star.under (fun _ => Star.p6) S)
theorem Star.p8 {A B C D E F G I J : Asrt} {l : List Asrt} {H : Hp} (S : Star (A :: B :: C :: D :: E :: F :: G :: I :: J :: l) H) : Star (J :: A :: B :: C :: D :: E :: F :: G :: I :: l) H := Star.swap (Star.under (fun _ => Star.p7) S)
theorem Star.p9 {A B C D E F G I J K : Asrt} {l : List Asrt} {H : Hp} (S : Star (A :: B :: C :: D :: E :: F :: G :: I :: J :: K :: l) H) : Star (K :: A :: B :: C :: D :: E :: F :: G :: I :: J :: l) H := Star.swap (Star.under (fun _ => Star.p8) S)
/-- lists in a row -/
theorem Star.split : ∀ {l : List Asrt} {m : List Asrt} {H : Hp}, Star (l ++ m) H → Star [Star l, Star m] H
  | [], m, H, S => ⟨fun _ => none, H, (fun _ _ _ e => nomatch e), (fun _ _ e => nomatch e), Sub.refl _, trivial, H, fun _ => none, (fun _ _ _ _ e => nomatch e), Sub.refl _, (fun _ _ e => nomatch e), S, trivial⟩
  | A :: l, m, H, S => by
    obtain ⟨h1, h2, d, a, b, x, y⟩ := S
    obtain ⟨h3, h4, d', a', b', x', h5, h6, d2, a2, b2, x2, _⟩ := Star.split y
    have e13 : Dsj h1 h3 := d.mono (Sub.refl _) a'
    refine ⟨join h1 h3, h5, ?_, join_sub a (a'.trans b), (a2.trans b').trans b, ⟨h1, h3, e13, join_l, join_r e13, x, x'⟩, h5, fun _ => none, (fun _ _ _ _ e => nomatch e), Sub.refl _, (fun _ _ e => nomatch e), x2, trivial⟩
    exact join_dsj (d.mono (Sub.refl _) (a2.trans b')) (d'.mono (Sub.refl _) a2)
theorem Star.glue : ∀ {l : List Asrt} {m : List Asrt} {H : Hp}, Star (Star l :: m) H → Star (l ++ m) H
  | [], m, H, S => S.tail
  | A :: l, m, H, S => by
    obtain ⟨h1, h2, d, a, b, ⟨h3, h4, d', a', b', x', y'⟩, y⟩ := S
    have e : Dsj h4 h2 := d.mono b' (Sub.refl _)
    refine ⟨h3, join h4 h2, ?_, a'.trans a, join_sub (b'.trans a) b, x', Star.glue (l := l) ⟨h4, h2, e, join_l, join_r e, y', y⟩⟩
    exact (join_dsj d'.symm (d.mono a' (Sub.refl _)).symm).symm
theorem Star.glue' {l m : List Asrt} {H : Hp} (S : Star (l ++ m) H) : Star (Star l :: m) H := by
  obtain ⟨h1, h2, d, a, b, x, h3, h4, d', a', b', x', _⟩ := Star.split S
  exact ⟨h1, h3, d.mono (Sub.refl _) a', a, a'.trans b, x, x'⟩
/-- an assertion opened: A's own list, then the rest -/
theorem Star.op {A : Asrt} {k l : List Asrt} {H : Hp} (S : Star (A :: l) H) (f : ∀ h, A h → Star k h) : Star (k ++ l) H := Star.glue (S.hd f)
theorem Star.cl {A : Asrt} {k l : List Asrt} {H : Hp} (S : Star (k ++ l) H) (f : ∀ h, Star k h → A h) : Star (A :: l) H := (Star.glue' S).hd f
theorem Star.ex {α : Type} {K : α → List Asrt} {l : List Asrt} {H : Hp} (S : Star ((fun h => ∃ x, Star (K x) h) :: l) H) : ∃ x, Star (K x ++ l) H := by
  obtain ⟨h1, h2, d, a, b, ⟨x, y⟩, z⟩ := S
  exact ⟨x, Star.glue ⟨h1, h2, d, a, b, y, z⟩⟩
theorem Star.ex2 {α β : Type} {K : α → β → List Asrt} {l : List Asrt} {H : Hp} (S : Star ((fun h => ∃ x y, Star (K x y) h) :: l) H) : ∃ x y, Star (K x y ++ l) H := by
  obtain ⟨h1, h2, d, a, b, ⟨x, y, q⟩, z⟩ := S
  exact ⟨x, y, Star.glue ⟨h1, h2, d, a, b, q, z⟩⟩
theorem Star.ex3 {α β γ : Type} {K : α → β → γ → List Asrt} {l : List Asrt} {H : Hp} (S : Star ((fun h => ∃ x y z, Star (K x y z) h) :: l) H) : ∃ x y z, Star (K x y z ++ l) H := by
  obtain ⟨h1, h2, d, a, b, ⟨x, y, z, q⟩, w⟩ := S
  exact ⟨x, y, z, Star.glue ⟨h1, h2, d, a, b, q, w⟩⟩
theorem Star.ex4 {α β γ δ : Type} {K : α → β → γ → δ → List Asrt} {l : List Asrt} {H : Hp} (S : Star ((fun h => ∃ x y z w, Star (K x y z w) h) :: l) H) : ∃ x y z w, Star (K x y z w ++ l) H := by
  obtain ⟨h1, h2, d, a, b, ⟨x, y, z, w, q⟩, v⟩ := S
  exact ⟨x, y, z, w, Star.glue ⟨h1, h2, d, a, b, q, v⟩⟩
theorem Star.exA {α : Type} {K : α → Asrt} {l : List Asrt} {H : Hp} (S : Star ((fun h => ∃ x, K x h) :: l) H) : ∃ x, Star (K x :: l) H := by
  obtain ⟨h1, h2, d, a, b, ⟨x, y⟩, z⟩ := S
  exact ⟨x, h1, h2, d, a, b, y, z⟩
/-- a fact comes out -/
theorem Star.fact {p : Prop} {l : List Asrt} {H : Hp} (S : Star (pu p :: l) H) : p := by
  obtain ⟨h1, h2, d, a, b, x, y⟩ := S
  exact x
theorem Star.put {p : Prop} {l : List Asrt} {H : Hp} (x : p) (S : Star l H) : Star (pu p :: l) H := ⟨fun _ => none, H, (fun _ _ _ e => nomatch e), (fun _ _ e => nomatch e), Sub.refl _, x, S⟩
/-- what needs nothing of its own -/
theorem Star.free {A : Asrt} {l : List Asrt} {H : Hp} (x : A fun _ => none) (S : Star l H) : Star (A :: l) H := ⟨fun _ => none, H, (fun _ _ _ e => nomatch e), (fun _ _ e => nomatch e), Sub.refl _, x, S⟩
/-! ### one of a list -/
inductive Pull (A : Asrt) : List Asrt → List Asrt → Prop where
  | here {l : List Asrt} : Pull A (A :: l) l
  | there {B : Asrt} {l m : List Asrt} (h : Pull A l m) : Pull A (B :: l) (B :: m)
theorem Star.pull {A : Asrt} : ∀ {L l : List Asrt} {H : Hp}, Star L H → Pull A L l → Star (A :: l) H
  | _, _, _, S, .here => S
  | _, _, _, S, .there h => Star.swap (S.under fun _ T => T.pull h)
/-- some of a list, in any order -/
inductive Keep : List Asrt → List Asrt → Prop where
  | nil {l : List Asrt} : Keep l []
  | refl {l : List Asrt} : Keep l l
  | cons {A : Asrt} {L l m : List Asrt} (p : Pull A L l) (k : Keep l m) : Keep L (A :: m)
  | drop {A : Asrt} {L m : List Asrt} (k : Keep L m) : Keep (A :: L) m
theorem Star.keep : ∀ {L m : List Asrt} {H : Hp}, Star L H → Keep L m → Star m H
  | _, _, _, _, .nil => trivial
  | _, _, _, S, .refl => S
  | _, _, _, S, .cons p k => (S.pull p).under fun _ T => T.keep k
  | _, _, _, S, .drop k => S.tail.keep k
/-! ### membership -/
theorem Star.has {A : Asrt} : ∀ {l : List Asrt} {H : Hp}, Star l H → A ∈ l → ∃ h, Sub h H ∧ A h
  | B :: l, H, S, m => by
    cases m with
    | head => obtain ⟨h1, h2, d, a, b, x, y⟩ := S; exact ⟨h1, a, x⟩
    | tail _ m =>
      obtain ⟨h, s, x⟩ := S.tail.has m
      exact ⟨h, s, x⟩
theorem Star.get {a : Addr} {o : HO} {l : List Asrt} {H : Hp} (S : Star l H) (m : pt a o ∈ l) : H a = some o := by
  obtain ⟨h, s, x⟩ := S.has m
  exact s a o x
/-! ### what happens to a heap -/
theorem Star.upd {a : Addr} {o u : HO} {l : List Asrt} {H : Hp} (S : Star (pt a o :: l) H) (nt : ¬ IsTup o) : Star (pt a u :: l) (upd H a u) := by
  obtain ⟨h1, h2, d, s1, s2, x, y⟩ := S
  have n2 : h2 a = none := by
    cases q : h2 a with
    | none => rfl
    | some v => exact absurd (d a o v x q).2 nt
  refine ⟨single a u, h2, fun b v w e1 e2 => ?_, single_sub upd_same, fun b v e => ?_, single_self, y⟩
  · unfold single at e1
    split at e1
    · next h => subst h; rw [n2] at e2; cases e2
    · cases e1
  · rw [upd_ne (fun q => by rw [q, n2] at e; cases e)]
    exact s2 b v e
theorem Star.new {p : Addr} {o : HO} {l : List Asrt} {H : Hp} (S : Star l H) (n : H p = none) : Star (pt p o :: l) (L2.upd H p o) := by
  refine ⟨single p o, H, fun b v w e1 e2 => ?_, single_sub upd_same, fun b v e => ?_, single_self, S⟩
  · unfold single at e1
    split at e1
    · next h => subst h; rw [n] at e2; cases e2
    · cases e1
  · rw [upd_ne (fun q => by rw [q, n] at e; cases e)]
    exact e
/-- a new object of no interest -/
theorem Star.junk {p : Addr} {o : HO} {l : List Asrt} {H : Hp} (S : Star l H) (n : H p = none) : Star l (L2.upd H p o) := (S.new (o := o) n).tail
theorem Star.tup2 {p : Addr} {xs : List V} {l : List Asrt} {H : Hp} (S : Star (pt p (.tup xs) :: l) H) : Star (pt p (.tup xs) :: pt p (.tup xs) :: l) H := by
  obtain ⟨h1, h2, d, s1, s2, x, y⟩ := S
  have hs : Dsj (single p (.tup xs)) h1 := fun a o u e1 e2 => by
    unfold single at e1
    split at e1
    · next h => subst h; cases e1; rw [x] at e2; cases e2; exact ⟨rfl, _, rfl⟩
    · cases e1
  have hs2 : Dsj (single p (.tup xs)) h2 := d.mono (single_sub x) (Sub.refl _)
  refine ⟨single p (.tup xs), join h1 h2, (join_dsj hs.symm hs2.symm).symm, (single_sub x).trans s1, join_sub s1 s2, single_self, h1, h2, d, join_l, join_r d, x, y⟩
theorem Star.ne {a b : Addr} {o u : HO} {l : List Asrt} {H : Hp} (S : Star (pt a o :: pt b u :: l) H) (nt : ¬ IsTup o) : a ≠ b := by
  obtain ⟨h1, h2, d, s1, s2, x, h3, h4, d', s3, s4, x', y⟩ := S
  rintro rfl
  exact nt (d a o u x (s3 _ _ x')).2
/-! ### the script -/
def scr (K : PySem.W.Frag) (a : Addr) (ns : List Int) : Asrt := fun h => SqL K h a (ns.map V.int)
theorem SqL.mono {K : PySem.W.Frag} {h H : Hp} {a : Addr} {xs : List V} (s : Sub h H) (e : SqL K h a xs) : SqL K H a xs := by
  rcases e with (e | ⟨o, e⟩) | e
  · exact .inl (.inl (s _ _ e))
  · exact .inl (.inr ⟨o, s _ _ e⟩)
  · exact .inr e
theorem Star.scr {K : PySem.W.Frag} {a : Addr} {ns : List Int} {l : List Asrt} {H : Hp} (S : Star l H) (m : scr K a ns ∈ l) : SqL K H a (ns.map V.int) := by
  obtain ⟨h, s, x⟩ := S.has m
  exact SqL.mono s x
theorem Star.ofScr {K : PySem.W.Frag} {a : Addr} {ns : List Int} {H : Hp} (e : SqL K H a (ns.map V.int)) : Star [Fl.scr K a ns] H :=
  ⟨H, fun _ => none, (fun _ _ _ _ e => nomatch e), Sub.refl _, (fun _ _ e => nomatch e), e, trivial⟩
end Fl
/-! Fl: rules with the class known ahead, calls with wishes by slots. -/
namespace Fl
open PySem PySem.Spec PyProof.Rows L2
section
variable {X : Cx} {o e value : Expr} {f m : Str} {pos pos' tpos : Pos} {ta tv : TE} {C : Addr}
/-- e.f of an instance of the class at C -/
def kFld (C : Addr) (f : Str) (x : V) (H : Hp) (Q : VK) : Prop := ∃ a dx fs v, x = .ref a ∧ H a = some (.ins C dx fs) ∧ fs.lookup f = some v ∧ Q v H
def tFldC (C : Addr) (ta : TE) (f : Str) : TE := fun σ H Q => ta σ H fun x H1 => kFld C f x H1 Q
theorem pe_fldC (c : Cls X.K C) (n : NoAttr X.K C f) (he : PE X e ta) (hb : attributeBase e f X.env (eval e X.env) = eval e X.env := by rfl) : PE X (.Attribute e f pos) (tFldC C ta f) := by
  refine ⟨fun pins s σ H Q I h => ?_⟩
  refine attr_of hb (thn (he.run pins s σ H _ I h) fun u s1 ⟨x, H1, I1, rx, a, dx, fs, v, ex, ea, l, q⟩ => ?_)
  subst ex
  obtain rfl : u = Value.ref a := rx
  exact getattr_ok I1 ea c n l fun u' s2 I2 ru => ⟨v, H1, I2, ru, q⟩
/-- of an instance of one of two classes -/
def kFld2 (C C' : Addr) (f : Str) (x : V) (H : Hp) (Q : VK) : Prop := ∃ a B dx fs v, x = .ref a ∧ (B = C ∨ B = C') ∧ H a = some (.ins B dx fs) ∧ fs.lookup f = some v ∧ Q v H
def tFldC2 (C C' : Addr) (ta : TE) (f : Str) : TE := fun σ H Q => ta σ H fun x H1 => kFld2 C C' f x H1 Q
theorem pe_fldC2 {C' : Addr} (c : Cls X.K C) (n : NoAttr X.K C f) (c' : Cls X.K C') (n' : NoAttr X.K C' f) (he : PE X e ta) (hb : attributeBase e f X.env (eval e X.env) = eval e X.env := by rfl) : PE X (.Attribute e f pos) (tFldC2 C C' ta f) := by
  refine ⟨fun pins s σ H Q I h => ?_⟩
  refine attr_of hb (thn (he.run pins s σ H _ I h) fun u s1 ⟨x, H1, I1, rx, a, B, dx, fs, v, ex, eB, ea, l, q⟩ => ?_)
  subst ex
  obtain rfl : u = Value.ref a := rx
  rcases eB with rfl | rfl
  · exact getattr_ok I1 ea c n l fun u' s2 I2 ru => ⟨v, H1, I2, ru, q⟩
  · exact getattr_ok I1 ea c' n' l fun u' s2 I2 ru => ⟨v, H1, I2, ru, q⟩
def kSto (C : Addr) (f : Str) (x y : V) (H : Hp) (D : Hp → Prop) : Prop := ∃ a dx fs, x = .ref a ∧ H a = some (.ins C dx fs) ∧ fs.length < 1000 ∧ D (upd H a (.ins C dx (putF f y fs)))
def sFldC (C : Addr) (ta tv : TE) (f : Str) : TS := fun D σ H => tv σ H fun y H1 => ta σ H1 fun x H2 => kSto C f x y H2 fun H3 => D.nx σ H3
theorem ps_fldC (c : Cls X.K C) (n : NoAttr X.K C f) (ha : PE X o ta) (hv : PE X value tv) (hs : swapsWith value (some (.Attribute o f pos')) pos.line X.env = pure false := by rfl) : PS X (.Assign [.Attribute o f pos'] value pos) (sFldC C ta tv f) := by
  refine ⟨fun pins s σ H D I h => ?_⟩
  refine plainObj_wpAny_Assign_Attribute (thn (hv.run pins s σ H _ I h) fun u s1 ⟨y, H1, I1, ry, q⟩ => thn (ha.run pins s1 σ H1 _ I1 q) fun ov s2 ⟨x, H2, I2, rx, a, dx, fs, ex, ea, l, q2⟩ => ?_) hs
  subst ex
  obtain rfl : ov = Value.ref a := rx
  exact setattr_ok I2 ea c n l ry fun s3 I3 => ⟨σ, _, I3, q2⟩
/-- of one of two classes -/
def kSto2 (C C' : Addr) (f : Str) (x y : V) (H : Hp) (D : Hp → Prop) : Prop := ∃ a B dx fs, x = .ref a ∧ (B = C ∨ B = C') ∧ H a = some (.ins B dx fs) ∧ fs.length < 1000 ∧ D (upd H a (.ins B dx (putF f y fs)))
def sFldC2 (C C' : Addr) (ta tv : TE) (f : Str) : TS := fun D σ H => tv σ H fun y H1 => ta σ H1 fun x H2 => kSto2 C C' f x y H2 fun H3 => D.nx σ H3
theorem ps_fldC2 {C' : Addr} (c : Cls X.K C) (n : NoAttr X.K C f) (c' : Cls X.K C') (n' : NoAttr X.K C' f) (ha : PE X o ta) (hv : PE X value tv) (hs : swapsWith value (some (.Attribute o f pos')) pos.line X.env = pure false := by rfl) : PS X (.Assign [.Attribute o f pos'] value pos) (sFldC2 C C' ta tv f) := by
  refine ⟨fun pins s σ H D I h => ?_⟩
  refine plainObj_wpAny_Assign_Attribute (thn (hv.run pins s σ H _ I h) fun u s1 ⟨y, H1, I1, ry, q⟩ => thn (ha.run pins s1 σ H1 _ I1 q) fun ov s2 ⟨x, H2, I2, rx, a, B, dx, fs, ex, eB, ea, l, q2⟩ => ?_) hs
  subst ex
  obtain rfl : ov = Value.ref a := rx
  rcases eB with rfl | rfl
  · exact setattr_ok I2 ea c n l ry fun s3 I3 => ⟨σ, _, I3, q2⟩
  · exact setattr_ok I2 ea c' n' l ry fun s3 I3 => ⟨σ, _, I3, q2⟩
def kAugW (C a : Addr) (f : Str) (z : V) (H : Hp) (D : Hp → Prop) : Prop := ∃ dx fs, H a = some (.ins C dx fs) ∧ fs.length < 1000 ∧ D (upd H a (.ins C dx (putF f z fs)))
def kAugR (C : Addr) (f : Str) (x : V) (H : Hp) (R : Addr → V → Prop) : Prop := ∃ a dx fs v, x = .ref a ∧ H a = some (.ins C dx fs) ∧ fs.lookup f = some v ∧ R a v
/-- e.f op= value -/
def sFldAugC (C : Addr) (ta tv : TE) (rd : R2) (f : Str) : TS := fun D σ H => ta σ H fun x H1 => kAugR C f x H1 fun a v => tv σ H1 fun y H2 => rd v y H2 fun z H3 => kAugW C a f z H3 fun H4 => D.nx σ H4
theorem ps_fldaugC {op : Operator} {rd : R2} (c : Cls X.K C) (n : NoAttr X.K C f) (ha : PE X o ta) (hv : PE X value tv) (hop : InOp X op rd) : PS X (.AugAssign (.Attribute o f tpos) op value pos) (sFldAugC C ta tv rd f) := by
  refine ⟨fun pins s σ H D I h => ?_⟩
  refine wpAny_AugAssign_AttributeAny (thn (ha.run pins s σ H _ I h) fun ov s1 ⟨x, H1, I1, rx, a, dx, fs, v, ex, ea, l, q⟩ => ?_)
  subst ex
  obtain rfl : ov = Value.ref a := rx
  refine getattr_ok I1 ea c n l fun u s2 I2 ru => thn (hv.run pins s2 σ H1 _ I2 q) fun w3 s3 ⟨y, H2, I3, ry, q3⟩ => thn (hop pins s3 σ H2 v y u w3 _ I3 ru ry q3) fun w4 s4 ⟨z, H3, I4, rz, dx', fs', ea', l', q4⟩ => ?_
  exact setattr_ok I4 ea' c n l' rz fun s5 I5 => ⟨σ, _, I5, q4⟩
theorem in_addI : InOp X .Add (rI0 fun i j => .int (i + j)) := in_add
theorem in_subI : InOp X .Sub (rI0 fun i j => .int (i - j)) := in_sub
end
/-! ### calls -/
section
variable {X : Cx} {CX : CXT} {k : Nat} {f C : Addr} {fd : FuncData} {ps : List Str} {sp : Sp} {dvs : List V} {ds : List Value} {E : L2.St → XK} {x m : Str} {p pos apos : Pos} {e o : Expr} {es : List Expr} {ta : TE} {t : TA}
theorem run_fnD {pins : List (Addr × Obj)} {σ : L2.St} {H : Hp} {s : Shared} {Q : VK} {us : List Value} {vs : List V} (F : FnOk X.prog X.w X.K X.mg X.base CX k f fd ps sp) (hr : Room k X.A) (hb : Binds X.K fd ps ds) (hd : Vals dvs ds) (hx : PassesAt CX X σ (E σ))
    (I : Inv X pins σ H s) (r : Vals vs us) (h : sp (vs ++ dvs) H Q (E σ)) : wpAny (model X.prog X.w) X.A (call (.ref f) us) (EP X pins σ Q) X.xe s := by
  have r2 : Vals (vs ++ dvs) (us ++ ds) := r.append hd
  have hl : (us ++ ds).length = ps.length := by rw [← r2.length]; exact F.len _ _ _ _ h
  refine wpAny_call (codeAny_mono (F.run X.A X.stack s H ⟨us, []⟩ (us ++ ds) (vs ++ dvs) Q (E σ) hr I.env0 (hb s us I.kIn hl) r2 h) fun r s' hq => ?_)
  cases r with
  | error e => exact hx pins H s e s' I hq
  | ok fl =>
    cases fl with
    | ret u => exact I.after hq
    | next => exact False.elim hq
    | brk => exact False.elim hq
    | cont => exact False.elim hq
theorem pass0At {P : Program} {w : World} {X : Cx} {σ : L2.St} : PassesAt (L2.CX P w) X σ E0 := fun _ _ _ _ _ _ h => by
  obtain ⟨_, _, _, _, _, _, _, _, _, _, _, _, z⟩ := h
  exact z.elim
def kCall (sp : Sp) (vs : List V) (H : Hp) (Q : VK) (E : XK) : Prop := sp vs H Q E
def tCl (sp : Sp) (dvs : List V) (E : L2.St → XK) (t : TA) : TE := fun σ H Q => t σ H fun vs H1 => kCall sp (vs ++ dvs) H1 Q (E σ)
theorem pe_cl (F : FnOk X.prog X.w X.K X.mg X.base CX k f fd ps sp) (hr : Room k X.A) (hm : X.mg x = some (.ref f)) (hk : PySem.W.keepIn X.K (.ref f) = true) (hb : Binds X.K fd ps ds) (hd : Vals dvs ds) (hx : ∀ σ, PassesAt CX X σ (E σ))
    (ha : PA X (e :: es) t) (hg : Gl X x := by rfl) (hdb : (x == ("__debug__" : Str)) = false := by decide) (he : starEach (e :: es) X.env = (false, eval e X.env) :: starEach es X.env := by rfl) (hpl : (backTo pos (starEach es X.env)).any (·.1) = false := by rfl) :
    PE X (.Call (.Name x p) (e :: es) [] pos) (tCl sp dvs E t) := by
  refine ⟨fun pins s σ H Q I h => ?_⟩
  refine wpAny_Call_Name_kw (ld_glob I hg hm ?_ hdb)
  refine PySem.W.callWith_K (h₀ := X.base) I.ok.mod.kin hk (thn (ha.run pos pins s σ H _ I h) fun us s1 ⟨vs, H1, I1, r, q⟩ => ⟨I1.kIn, ?_⟩) he hpl
  exact run_fnD F hr hb hd (hx σ) I1 r q
theorem pe_cl0 (F : FnOk X.prog X.w X.K X.mg X.base CX k f fd ps sp) (hr : Room k X.A) (hm : X.mg x = some (.ref f)) (hk : PySem.W.keepIn X.K (.ref f) = true) (hb : Binds X.K fd ps ds) (hd : Vals dvs ds) (hx : ∀ σ, PassesAt CX X σ (E σ))
    (hg : Gl X x := by rfl) (hdb : (x == ("__debug__" : Str)) = false := by decide) : PE X (.Call (.Name x p) [] [] pos) (tCl sp dvs E tNil) := by
  refine ⟨fun pins s σ H Q I h => ?_⟩
  refine wpAny_Call_Name_kw (ld_glob I hg hm ?_ hdb)
  exact PySem.W.callWith_K0 I.kIn hk (run_fnD (us := []) F hr hb hd (hx σ) I .nil h)
/-- o.m(e, ..) of an instance of the class at C; the object is looked at ahead of the arguments -/
def kMt (C : Addr) (m : Str) (x : V) (H : Hp) (R : Prop) : Prop := ∃ a dx fs, x = .ref a ∧ H a = some (.ins C dx fs) ∧ fs.lookup m = none ∧ R
def tMt (C : Addr) (m : Str) (sp : Sp) (dvs : List V) (E : L2.St → XK) (ta : TE) (t : TA) : TE := fun σ H Q => ta σ H fun x H1 => kMt C m x H1 (t σ H1 fun vs H2 => kCall sp (x :: (vs ++ dvs)) H2 Q (E σ))
theorem pe_mt {pl : Sem Bool} (he : PE X o ta) (c : Cls X.K C) (hm : Meth X.K C m f) (F : FnOk X.prog X.w X.K X.mg X.base CX k f fd ps sp) (hr : Room k X.A) (hb : Binds X.K fd ps ds) (hd : Vals dvs ds) (hx : ∀ σ, PassesAt CX X σ (E σ)) (ha : PA X (e :: es) t)
    (hst : starEach (e :: es) X.env = (false, eval e X.env) :: starEach es X.env := by rfl) (hpl : (backTo pos (starEach es X.env)).any (·.1) = false := by rfl)
    (ht : eval (.Call (.Attribute o m apos) (e :: es) [] pos) X.env = (do
      let ov ← eval o X.env
      standAt apos.atName
      let (f, first) ← holding [ov] (getMethod ov m pl)
      callWith pos f first (backTo pos (starEach (e :: es) X.env)) (backToKw pos (keywordEach [] X.env))) := by rfl) :
    PE X (.Call (.Attribute o m apos) (e :: es) [] pos) (tMt C m sp dvs E ta t) := by
  refine ⟨fun pins s σ H Q I h => ?_⟩
  refine PySem.W.methodCall_KW (pl := pl) (thn (he.run pins s σ H _ I h) fun u s1 ⟨x, H1, I1, rx, a, dx, fs, ex, ea, l, q⟩ => ?_) ht
  subst ex
  obtain rfl : u = Value.ref a := rx
  refine getmeth_ok I1 ea c hm l ?_
  refine PySem.W.callWith_K (first := [.ref a]) (h₀ := X.base) I.ok.mod.kin hm.kp (thn (ha.run pos pins s1 σ H1 _ I1 q) fun us s2 ⟨vs, H2, I2, r, q2⟩ => ⟨I2.kIn, ?_⟩) hst hpl
  exact run_fnD (us := .ref a :: us) (vs := .ref a :: vs) F hr hb hd (hx σ) I2 (.cons rfl r) q2
theorem pe_mt0 {pl : Sem Bool} (he : PE X o ta) (c : Cls X.K C) (hm : Meth X.K C m f) (F : FnOk X.prog X.w X.K X.mg X.base CX k f fd ps sp) (hr : Room k X.A) (hb : Binds X.K fd ps ds) (hd : Vals dvs ds) (hx : ∀ σ, PassesAt CX X σ (E σ))
    (ht : eval (.Call (.Attribute o m apos) [] [] pos) X.env = (do
      let ov ← eval o X.env
      standAt apos.atName
      let (f, first) ← holding [ov] (getMethod ov m pl)
      callWith pos f first (backTo pos (starEach [] X.env)) (backToKw pos (keywordEach [] X.env))) := by rfl) :
    PE X (.Call (.Attribute o m apos) [] [] pos) (tMt C m sp dvs E ta tNil) := by
  refine ⟨fun pins s σ H Q I h => ?_⟩
  refine PySem.W.methodCall_KW (pl := pl) (thn (he.run pins s σ H _ I h) fun u s1 ⟨x, H1, I1, rx, a, dx, fs, ex, ea, l, q⟩ => ?_) ht
  subst ex
  obtain rfl : u = Value.ref a := rx
  refine getmeth_ok I1 ea c hm l ?_
  exact PySem.W.callWith_K0 (first := [.ref a]) I1.kIn hm.kp (run_fnD (us := [.ref a]) (vs := [.ref a]) F hr hb hd (hx σ) I1 (.cons rfl .nil) q)
/-- of one of two classes, each with its own method -/
def kMt2 (C C' : Addr) (m : Str) (x : V) (H : Hp) (R R' : Prop) : Prop := ∃ a dx fs, x = .ref a ∧ fs.lookup m = none ∧ ((H a = some (.ins C dx fs) ∧ R) ∨ (H a = some (.ins C' dx fs) ∧ R'))
def tMt2 (C C' : Addr) (m : Str) (sp sp' : Sp) (E : L2.St → XK) (ta : TE) (t : TA) : TE := fun σ H Q => ta σ H fun x H1 => kMt2 C C' m x H1 (t σ H1 fun vs H2 => kCall sp (x :: vs) H2 Q (E σ)) (t σ H1 fun vs H2 => kCall sp' (x :: vs) H2 Q (E σ))
theorem pe_mt2 {pl : Sem Bool} {C' f' : Addr} {fd' : FuncData} {ps' : List Str} {sp' : Sp} {k' : Nat} (he : PE X o ta) (c : Cls X.K C) (hm : Meth X.K C m f) (F : FnOk X.prog X.w X.K X.mg X.base CX k f fd ps sp) (hr : Room k X.A) (hb : Binds X.K fd ps [])
    (c' : Cls X.K C') (hm' : Meth X.K C' m f') (F' : FnOk X.prog X.w X.K X.mg X.base CX k' f' fd' ps' sp') (hr' : Room k' X.A) (hb' : Binds X.K fd' ps' []) (hx : ∀ σ, PassesAt CX X σ (E σ)) (ha : PA X (e :: es) t)
    (hst : starEach (e :: es) X.env = (false, eval e X.env) :: starEach es X.env := by rfl) (hpl : (backTo pos (starEach es X.env)).any (·.1) = false := by rfl)
    (ht : eval (.Call (.Attribute o m apos) (e :: es) [] pos) X.env = (do
      let ov ← eval o X.env
      standAt apos.atName
      let (f, first) ← holding [ov] (getMethod ov m pl)
      callWith pos f first (backTo pos (starEach (e :: es) X.env)) (backToKw pos (keywordEach [] X.env))) := by rfl) :
    PE X (.Call (.Attribute o m apos) (e :: es) [] pos) (tMt2 C C' m sp sp' E ta t) := by
  refine ⟨fun pins s σ H Q I h => ?_⟩
  refine PySem.W.methodCall_KW (pl := pl) (thn (he.run pins s σ H _ I h) fun u s1 ⟨x, H1, I1, rx, a, dx, fs, ex, l, w⟩ => ?_) ht
  subst ex
  obtain rfl : u = Value.ref a := rx
  rcases w with ⟨ea, q⟩ | ⟨ea, q⟩
  · refine getmeth_ok I1 ea c hm l ?_
    refine PySem.W.callWith_K (first := [.ref a]) (h₀ := X.base) I.ok.mod.kin hm.kp (thn (ha.run pos pins s1 σ H1 _ I1 q) fun us s2 ⟨vs, H2, I2, r, q2⟩ => ⟨I2.kIn, ?_⟩) hst hpl
    exact run_fnS (us := .ref a :: us) (vs := .ref a :: vs) F hr hb (hx σ) I2 (.cons rfl r) q2
  · refine getmeth_ok I1 ea c' hm' l ?_
    refine PySem.W.callWith_K (first := [.ref a]) (h₀ := X.base) I.ok.mod.kin hm'.kp (thn (ha.run pos pins s1 σ H1 _ I1 q) fun us s2 ⟨vs, H2, I2, r, q2⟩ => ⟨I2.kIn, ?_⟩) hst hpl
    exact run_fnS (us := .ref a :: us) (vs := .ref a :: vs) F' hr' hb' (hx σ) I2 (.cons rfl r) q2
theorem pe_mt20 {pl : Sem Bool} {C' f' : Addr} {fd' : FuncData} {ps' : List Str} {sp' : Sp} {k' : Nat} (he : PE X o ta) (c : Cls X.K C) (hm : Meth X.K C m f) (F : FnOk X.prog X.w X.K X.mg X.base CX k f fd ps sp) (hr : Room k X.A) (hb : Binds X.K fd ps [])
    (c' : Cls X.K C') (hm' : Meth X.K C' m f') (F' : FnOk X.prog X.w X.K X.mg X.base CX k' f' fd' ps' sp') (hr' : Room k' X.A) (hb' : Binds X.K fd' ps' []) (hx : ∀ σ, PassesAt CX X σ (E σ))
    (ht : eval (.Call (.Attribute o m apos) [] [] pos) X.env = (do
      let ov ← eval o X.env
      standAt apos.atName
      let (f, first) ← holding [ov] (getMethod ov m pl)
      callWith pos f first (backTo pos (starEach [] X.env)) (backToKw pos (keywordEach [] X.env))) := by rfl) :
    PE X (.Call (.Attribute o m apos) [] [] pos) (tMt2 C C' m sp sp' E ta tNil) := by
  refine ⟨fun pins s σ H Q I h => ?_⟩
  refine PySem.W.methodCall_KW (pl := pl) (thn (he.run pins s σ H _ I h) fun u s1 ⟨x, H1, I1, rx, a, dx, fs, ex, l, w⟩ => ?_) ht
  subst ex
  obtain rfl : u = Value.ref a := rx
  rcases w with ⟨ea, q⟩ | ⟨ea, q⟩
  · refine getmeth_ok I1 ea c hm l ?_
    exact PySem.W.callWith_K0 (first := [.ref a]) I1.kIn hm.kp (run_fnS (us := [.ref a]) (vs := [.ref a]) F hr hb (hx σ) I1 (.cons rfl .nil) q)
  · refine getmeth_ok I1 ea c' hm' l ?_
    exact PySem.W.callWith_K0 (first := [.ref a]) I1.kIn hm'.kp (run_fnS (us := [.ref a]) (vs := [.ref a]) F' hr' hb' (hx σ) I1 (.cons rfl .nil) q)
/-- C(e, ..) -/
def kMk (C : Addr) (sp : Sp) (vs : List V) (H : Hp) (Q : VK) (E : XK) : Prop := ∀ x dx, H x = none → H dx = none → dx ≠ x → sp (.ref x :: vs) (upd (upd H dx (.own x)) x (.ins C dx [])) (fun v H2 => v = .non ∧ Q (.ref x) H2) E
def tMk (C : Addr) (sp : Sp) (dvs : List V) (E : L2.St → XK) (t : TA) : TE := fun σ H Q => t σ H fun vs H1 => kMk C sp (vs ++ dvs) H1 Q (E σ)
theorem run_makeD {pins : List (Addr × Obj)} {σ : L2.St} {H : Hp} {s : Shared} {Q : VK} {us : List Value} {vs : List V} (M : Mk X.K C f) (F : FnOk X.prog X.w X.K X.mg X.base CX k f fd ps sp) (hr : Room (k + 1) X.A) (hb : Binds X.K fd ps ds) (hd : Vals dvs ds)
    (hx : PassesAt CX X σ (E σ)) (I : Inv X pins σ H s) (r : Vals vs us) (h : kMk C sp (vs ++ dvs) H Q (E σ)) :
    wpAny (model X.prog X.w) X.A (call (.ref C) us) (EP X pins σ Q) X.xe s := by
  have hq := h (s.heap.objs.size + 1) s.heap.objs.size (I.hok.fresh (Nat.le_succ _)) (I.hok.fresh (Nat.le_refl _)) (Nat.ne_of_lt (Nat.lt_succ_self _))
  have I2 := Inv.made (C := C) I
  have r2 : Vals (V.ref (s.heap.objs.size + 1) :: (vs ++ dvs)) (Value.ref (s.heap.objs.size + 1) :: (us ++ ds)) := .cons rfl (r.append hd)
  have hl : (Value.ref (s.heap.objs.size + 1) :: us ++ ds).length = ps.length := by
    have e := r2.length
    rw [F.len _ _ _ _ hq] at e
    exact e.symm
  refine wpAny_call (make_map (f := f) I.kIn M.makes M.init (beq_iff_eq.mp M.fn) (codeAny_mono (F.run _ X.stack _ _ ⟨Value.ref (s.heap.objs.size + 1) :: us, []⟩ (Value.ref (s.heap.objs.size + 1) :: (us ++ ds)) _ _ (E σ) (hr.make C us [])
    (I2.env0.make C us []) (hb _ (Value.ref (s.heap.objs.size + 1) :: us) I2.kIn hl) r2 hq) fun r s' hq' => ?_))
  cases r with
  | error e => exact hx pins _ _ e s' I2 hq'
  | ok fl =>
    cases fl with
    | ret u =>
      obtain ⟨v, H', I3, rv, ev, q3⟩ := I2.after hq'
      subst ev
      exact ⟨rv, ⟨V.ref (s.heap.objs.size + 1), H', I3, rfl, q3⟩⟩
    | next => exact False.elim hq'
    | brk => exact False.elim hq'
    | cont => exact False.elim hq'
theorem pe_mk (M : Mk X.K C f) (F : FnOk X.prog X.w X.K X.mg X.base CX k f fd ps sp) (hr : Room (k + 1) X.A) (hm : X.mg x = some (.ref C)) (hb : Binds X.K fd ps ds) (hd : Vals dvs ds) (hx : ∀ σ, PassesAt CX X σ (E σ))
    (ha : PA X (e :: es) t) (hg : Gl X x := by rfl) (hdb : (x == ("__debug__" : Str)) = false := by decide) (he : starEach (e :: es) X.env = (false, eval e X.env) :: starEach es X.env := by rfl) (hpl : (backTo pos (starEach es X.env)).any (·.1) = false := by rfl) :
    PE X (.Call (.Name x p) (e :: es) [] pos) (tMk C sp dvs E t) := by
  refine ⟨fun pins s σ H Q I h => ?_⟩
  refine wpAny_Call_Name_kw (ld_glob I hg hm ?_ hdb)
  refine PySem.W.callWith_K (h₀ := X.base) I.ok.mod.kin M.kp (thn (ha.run pos pins s σ H _ I h) fun us s1 ⟨vs, H1, I1, r, q⟩ => ⟨I1.kIn, ?_⟩) he hpl
  exact run_makeD M F hr hb hd (hx σ) I1 r q
theorem pe_mk0 (M : Mk X.K C f) (F : FnOk X.prog X.w X.K X.mg X.base CX k f fd ps sp) (hr : Room (k + 1) X.A) (hm : X.mg x = some (.ref C)) (hb : Binds X.K fd ps ds) (hd : Vals dvs ds) (hx : ∀ σ, PassesAt CX X σ (E σ))
    (hg : Gl X x := by rfl) (hdb : (x == ("__debug__" : Str)) = false := by decide) : PE X (.Call (.Name x p) [] [] pos) (tMk C sp dvs E tNil) := by
  refine ⟨fun pins s σ H Q I h => ?_⟩
  refine wpAny_Call_Name_kw (ld_glob I hg hm ?_ hdb)
  exact PySem.W.callWith_K0 I.kIn M.kp (run_makeD (us := []) M F hr hb hd (hx σ) I .nil h)
end
/-! ### either of two rules -/
section
variable {X : Cx}
def rOr (r r' : R2) : R2 := fun x y H Q => r x y H Q ∨ r' x y H Q
theorem op_or2 {f : Value → Value → Sem Value} {r r' : R2} (a : OpR X f r) (b : OpR X f r') : OpR X f (rOr r r') := fun pins s σ H x y v u Q I rx ry h => h.elim (fun q => a pins s σ H x y v u Q I rx ry q) fun q => b pins s σ H x y v u Q I rx ry q
def cOr (r r' : List V → Hp → VK → Prop) : List V → Hp → VK → Prop := fun xs H Q => r xs H Q ∨ r' xs H Q
theorem call_or2 {f : Value} {r r' : List V → Hp → VK → Prop} (a : CallR X f r) (b : CallR X f r') : CallR X f (cOr r r') := fun pins s σ H xs us Q I r h => h.elim (fun q => a pins s σ H xs us Q I r q) fun q => b pins s σ H xs us Q I r q
/-- len of a thing -/
def cLen (K : PySem.W.Frag) : List V → Hp → VK → Prop := fun xs H Q => ∃ p n, xs = [.ref p] ∧ ((∃ ys, (SqL K H p ys ∨ SqT K H p ys) ∧ n = ys.length) ∨ (∃ kvs, Rd H p (.dK kvs) ∧ n = kvs.length)) ∧ Q (.int (n : Int)) H
def cMin : List V → Hp → VK → Prop := fun xs H Q => ∃ i j, xs = [.int i, .int j] ∧ Q (.int (if j < i then j else i)) H
def cMax : List V → Hp → VK → Prop := fun xs H Q => ∃ i j, xs = [.int i, .int j] ∧ Q (.int (if j > i then j else i)) H
theorem call_minU (hc : X.calm = true) : CallR X (.builtin "min") cMin := call_min2 hc
theorem call_maxU (hc : X.calm = true) : CallR X (.builtin "max") cMax := call_max2 hc
def cLenS (K : PySem.W.Frag) : List V → Hp → VK → Prop := fun xs H Q => ∃ p ys, xs = [.ref p] ∧ (SqL K H p ys ∨ SqT K H p ys) ∧ Q (.int (ys.length : Int)) H
theorem call_lenS : CallR X (.builtin "len") (cLenS X.K) := call_len_seq
end
/-! the rules at a written part K -/
section
variable {X : Cx} {K : PySem.W.Frag}
theorem ixL (h : X.K = K) : IxR X (rIxL K) := by subst h; exact ix_list
theorem ixT (h : X.K = K) : IxR X (rIxT K) := by subst h; exact ix_tup
theorem slL (h : X.K = K) : SlR X (rSlL K) := by subst h; exact sl_list
theorem slT (h : X.K = K) : SlR X (rSlT K) := by subst h; exact sl_tup
theorem inL (h : X.K = K) : OpR X (compareOp .In) (rIn K false) := by subst h; exact op_in_seq
theorem notInL (h : X.K = K) : OpR X (compareOp .NotIn) (rIn K true) := by subst h; exact op_notIn_seq
theorem callLen (h : X.K = K) : CallR X (.builtin "len") (cLenS K) := by subst h; exact call_lenS
theorem callIsi (h : X.K = K) : CallR X (.builtin "isinstance") (rIsi K) := by subst h; exact call_isi
theorem callIsiT (h : X.K = K) : CallR X (.builtin "isinstance") (rIsiT K) := by subst h; exact call_isiT
theorem opEqD (h : X.K = K) (hu : X.A.units + 64 < cLine) : OpR X (compareOp .Eq) (rEqD K) := by subst h; exact op_eqD hu
theorem opNeD (h : X.K = K) (hu : X.A.units + 64 < cLine) : OpR X (compareOp .NotEq) (rNeD K) := by subst h; exact op_neD hu
theorem opCatT (h : X.K = K) : OpR X (binaryOp .Add) (rCatT K) := by subst h; exact op_catT
theorem piList {tg l : Expr} {tl : TE} (h : X.K = K) (hl : PE X l tl) : PI X tg l (iList K tl) := by subst h; exact pi_list hl
theorem piTup {tg l : Expr} {tl : TE} (h : X.K = K) (hl : PE X l tl) : PI X tg l (iTup K tl) := by subst h; exact pi_tup hl
theorem pgTup {es : List Expr} {k : Nat} {t : TGs} {n : Nat} {pos : Pos} (e : X.K = K) (hc : X.calm = true) (h : PGs X es t)
    (hn : (assignEach es X.env).length = n := by rfl) (hst : (assignEach es X.env).findIdx? (·.1) = none := by rfl) : PG X (.Tuple es k pos) (gTup K n t) := by subst e; exact pg_tup hc h hn hst
def cList (K : PySem.W.Frag) : List V → Hp → VK → Prop := fun xs H Q => ∃ p ys, xs = [.ref p] ∧ (SqL K H p ys ∨ SqT K H p ys) ∧ ∀ l, H l = none → Q (.ref l) (upd H l (.lst ys))
theorem callList (h : X.K = K) : CallR X (.type "list") (cList K) := by subst h; exact call_list_of
end
/-- which call it is: for the walking macro alone -/
class Ctg (sp : Sp) (n : Nat) : Prop where
theorem ctg (n : Nat) {sp : Sp} [Ctg sp n] {vs : List V} {H : Hp} {Q : VK} {E : XK} (h : kCall sp vs H Q E) : kCall sp vs H Q E := h
end Fl
/-! Fl: the readings step by step. -/
namespace Fl
open PySem PySem.Spec PyProof.Rows L2
/-- a step found by its goal's head -/
class Stp (g : Prop) (h : outParam Prop) : Prop where go : h → g
class SAt (σ : L2.St) (i : Nat) (v : outParam V) : Prop where e : σ[i]? = some (some v)
instance j_at0 {σ : L2.St} {v : V} : SAt (some v :: σ) 0 v := ⟨rfl⟩
instance j_at1 {σ : L2.St} {x : Option V} {i : Nat} {v : V} [q : SAt σ i v] : SAt (x :: σ) (i + 1) v := ⟨by rw [List.getElem?_cons_succ]; exact q.e⟩
class SSet (σ : L2.St) (i : Nat) (v : V) (σ' : outParam L2.St) : Prop where e : σ.set i (some v) = σ'
instance j_set0 {σ : L2.St} {x : Option V} {v : V} : SSet (x :: σ) 0 v (some v :: σ) := ⟨rfl⟩
instance j_set1 {σ σ' : L2.St} {x : Option V} {i : Nat} {v : V} [q : SSet σ i v σ'] : SSet (x :: σ) (i + 1) v (x :: σ') := ⟨by rw [List.set_cons_succ, q.e]⟩
section
variable {X : Cx} {L : List Asrt} {K : PySem.W.Frag} {σ σ' : L2.St} {H H' : Hp} {l : List Asrt} {D : Ends} {Q : VK} {QB : Bool → Hp → Prop} {QL : List V → Hp → Prop} {a b p C dx : Addr} {fs fs' : List (Str × V)} {xs ys vs : List V} {v x y : V} {i j : Int} {n k : Nat} {f m : Str} {te ta tb td ti tv : TE} {tt tu : TT} {ts tz : TS} {tl : TA} {g : TG} {r : R2} {sp : Sp} {E : XK}
/-! statements -/
variable {nx bk ct : L2.St → Hp → Prop} {rt : VK}
theorem r_start {N : List Str} (e : L2.start N vs = σ') (h : ts ⟨nx, rt, bk, ct⟩ σ' H) : ts ⟨nx, rt, bk, ct⟩ (L2.start N vs) H := by rw [e]; exact h
theorem r_seq (h : ts ⟨tz ⟨nx, rt, bk, ct⟩, rt, bk, ct⟩ σ H) : tSeq ts tz ⟨nx, rt, bk, ct⟩ σ H := h
instance i_r_seq : Stp (tSeq ts tz ⟨nx, rt, bk, ct⟩ σ H) (ts ⟨tz ⟨nx, rt, bk, ct⟩, rt, bk, ct⟩ σ H) := ⟨r_seq⟩
theorem r_next (h : nx σ H) : tNext ⟨nx, rt, bk, ct⟩ σ H := h
instance i_r_next : Stp (tNext ⟨nx, rt, bk, ct⟩ σ H) (nx σ H) := ⟨r_next⟩
theorem r_brk (h : bk σ H) : tBreak ⟨nx, rt, bk, ct⟩ σ H := h
instance i_r_brk : Stp (tBreak ⟨nx, rt, bk, ct⟩ σ H) (bk σ H) := ⟨r_brk⟩
theorem r_cont (h : ct σ H) : tCont ⟨nx, rt, bk, ct⟩ σ H := h
instance i_r_cont : Stp (tCont ⟨nx, rt, bk, ct⟩ σ H) (ct σ H) := ⟨r_cont⟩
theorem r_drop (h : te σ H fun _ H1 => nx σ H1) : tDrop te ⟨nx, rt, bk, ct⟩ σ H := h
instance i_r_drop : Stp (tDrop te ⟨nx, rt, bk, ct⟩ σ H) (te σ H fun _ H1 => nx σ H1) := ⟨r_drop⟩
theorem r_ret (h : te σ H rt) : tRet te ⟨nx, rt, bk, ct⟩ σ H := h
instance i_r_ret : Stp (tRet te ⟨nx, rt, bk, ct⟩ σ H) (te σ H rt) := ⟨r_ret⟩
theorem r_retN (h : rt .non H) : tRetN ⟨nx, rt, bk, ct⟩ σ H := h
instance i_r_retN : Stp (tRetN ⟨nx, rt, bk, ct⟩ σ H) (rt .non H) := ⟨r_retN⟩
theorem r_if (h : tt σ H fun b H1 => if b = true then ts ⟨nx, rt, bk, ct⟩ σ H1 else tz ⟨nx, rt, bk, ct⟩ σ H1) : tIfS tt ts tz ⟨nx, rt, bk, ct⟩ σ H := h
instance i_r_if : Stp (tIfS tt ts tz ⟨nx, rt, bk, ct⟩ σ H) (tt σ H fun b H1 => if b = true then ts ⟨nx, rt, bk, ct⟩ σ H1 else tz ⟨nx, rt, bk, ct⟩ σ H1) := ⟨r_if⟩
theorem r_cut (M : L2.St → Hp → Prop) (h : ts ⟨M, rt, bk, ct⟩ σ H) (k : ∀ σ' H', M σ' H' → tz ⟨nx, rt, bk, ct⟩ σ' H') : Evl.tCut ts tz ⟨nx, rt, bk, ct⟩ σ H := ⟨M, h, k⟩
theorem r_asg (h : te σ H fun x H1 => g x σ H1 nx) : tAsg te g ⟨nx, rt, bk, ct⟩ σ H := h
instance i_r_asg : Stp (tAsg te g ⟨nx, rt, bk, ct⟩ σ H) (te σ H fun x H1 => g x σ H1 nx) := ⟨r_asg⟩
def kSet (σ : L2.St) (H : Hp) (q : L2.St → Hp → Prop) : Prop := q σ H
theorem r_name {i : Nat} {q : L2.St → Hp → Prop} (e : σ.set i (some v) = σ') (h : q σ' H) : gName i v σ H q := by
  show q (σ.set i (some v)) H
  rw [e]; exact h
theorem r_aug {i : Nat} {ip : TIp} (e : σ[i]? = some (some x)) (h : te σ H fun y H1 => ip x y H1 fun z H2 => gName i z σ H2 nx) : tAug i te ip ⟨nx, rt, bk, ct⟩ σ H := ⟨x, e, h⟩
theorem r_ipI {f : Int → Int → Int} (h : Q (.int (f i j)) H) : ipI f (.int i) (.int j) H Q := ⟨i, j, rfl, rfl, h⟩
instance i_r_ipI {f : Int → Int → Int} : Stp (ipI f (.int i) (.int j) H Q) (Q (.int (f i j)) H) := ⟨r_ipI⟩
/-! expressions -/
theorem r_var {i : Nat} (e : σ[i]? = some (some v)) (h : Q v H) : tVar i σ H Q := ⟨v, e, h⟩
instance j_var {i : Nat} [q : SAt σ i v] : Stp (tVar i σ H Q) (Q v H) := ⟨r_var q.e⟩
instance j_name {i : Nat} {w : L2.St → Hp → Prop} [q : SSet σ i v σ'] : Stp (gName i v σ H w) (w σ' H) := ⟨r_name q.e⟩
instance j_aug {i : Nat} {ip : TIp} [q : SAt σ i x] : Stp (tAug i te ip ⟨nx, rt, bk, ct⟩ σ H) (te σ H fun y H1 => ip x y H1 fun z H2 => gName i z σ H2 nx) := ⟨r_aug q.e⟩
theorem r_C (h : Q v H) : tC v σ H Q := h
instance i_r_C : Stp (tC v σ H Q) (Q v H) := ⟨r_C⟩
theorem r_op (h : ta σ H fun x H1 => tb σ H1 fun y H2 => r x y H2 Q) : tOp r ta tb σ H Q := h
instance i_r_op : Stp (tOp r ta tb σ H Q) (ta σ H fun x H1 => tb σ H1 fun y H2 => r x y H2 Q) := ⟨r_op⟩
theorem r_un {u : V → Hp → VK → Prop} (h : ta σ H fun x H1 => u x H1 Q) : tUn u ta σ H Q := h
instance i_r_un {u : V → Hp → VK → Prop} : Stp (tUn u ta σ H Q) (ta σ H fun x H1 => u x H1 Q) := ⟨r_un⟩
theorem r_I0 {g : Int → Int → V} (h : Q (g i j) H) : rI0 g (.int i) (.int j) H Q := ⟨i, j, rfl, rfl, h⟩
instance i_r_I0 {g : Int → Int → V} : Stp (rI0 g (.int i) (.int j) H Q) (Q (g i j) H) := ⟨r_I0⟩
theorem r_I {Cn : Int → Int → Prop} {g : Int → Int → V} (c : Cn i j) (h : Q (g i j) H) : rI Cn g (.int i) (.int j) H Q := ⟨i, j, rfl, rfl, c, h⟩
theorem r_U {g : Int → V} (h : Q (g i) H) : rU g (.int i) H Q := ⟨i, rfl, h⟩
instance i_r_U {g : Int → V} : Stp (rU g (.int i) H Q) (Q (g i) H) := ⟨r_U⟩
theorem r_eqI (h : Q (.bl (decide (i = j))) H) : rEq (.int i) (.int j) H Q := ⟨rfl, by rw [show (decide (V.int i = V.int j)) = decide (i = j) from decide_eq_decide.mpr ⟨fun q => V.int.inj q, fun q => by rw [q]⟩]; exact h⟩
instance i_r_eqI : Stp (rEq (.int i) (.int j) H Q) (Q (.bl (decide (i = j))) H) := ⟨r_eqI⟩
theorem r_neI (h : Q (.bl (!decide (i = j))) H) : rNe (.int i) (.int j) H Q := ⟨rfl, by rw [show (decide (V.int i = V.int j)) = decide (i = j) from decide_eq_decide.mpr ⟨fun q => V.int.inj q, fun q => by rw [q]⟩]; exact h⟩
instance i_r_neI : Stp (rNe (.int i) (.int j) H Q) (Q (.bl (!decide (i = j))) H) := ⟨r_neI⟩
theorem r_eqB {c d : Bool} (h : Q (.bl (decide (c = d))) H) : rEq (.bl c) (.bl d) H Q := ⟨rfl, by rw [show (decide (V.bl c = V.bl d)) = decide (c = d) from decide_eq_decide.mpr ⟨fun q => V.bl.inj q, fun q => by rw [q]⟩]; exact h⟩
instance i_r_eqB {c d : Bool} : Stp (rEq (.bl c) (.bl d) H Q) (Q (.bl (decide (c = d))) H) := ⟨r_eqB⟩
theorem r_neB {c d : Bool} (h : Q (.bl (!decide (c = d))) H) : rNe (.bl c) (.bl d) H Q := ⟨rfl, by rw [show (decide (V.bl c = V.bl d)) = decide (c = d) from decide_eq_decide.mpr ⟨fun q => V.bl.inj q, fun q => by rw [q]⟩]; exact h⟩
instance i_r_neB {c d : Bool} : Stp (rNe (.bl c) (.bl d) H Q) (Q (.bl (!decide (c = d))) H) := ⟨r_neB⟩
theorem r_eqS (s : scal x y = true) (h : Q (.bl (decide (x = y))) H) : rEq x y H Q := ⟨s, h⟩
theorem r_neS (s : scal x y = true) (h : Q (.bl (!decide (x = y))) H) : rNe x y H Q := ⟨s, h⟩
theorem r_isN (h : Q (.bl (decide (x = .non))) H) : rIsN x .non H Q := ⟨rfl, h⟩
instance i_r_isN : Stp (rIsN x .non H Q) (Q (.bl (decide (x = .non))) H) := ⟨r_isN⟩
theorem r_notN (h : Q (.bl (!decide (x = .non))) H) : rNotN x .non H Q := ⟨rfl, h⟩
instance i_r_notN : Stp (rNotN x .non H Q) (Q (.bl (!decide (x = .non))) H) := ⟨r_notN⟩
instance i_isN_i {i : Int} : Stp (rIsN (.int i) .non H Q) (Q (.bl false) H) := ⟨fun h => ⟨rfl, by rw [show decide ((.int i : V) = .non) = false from rfl]; exact h⟩⟩
instance i_notN_i {i : Int} : Stp (rNotN (.int i) .non H Q) (Q (.bl true) H) := ⟨fun h => ⟨rfl, by rw [show decide ((.int i : V) = .non) = false from rfl]; exact h⟩⟩
instance i_isN_b {c : Bool} : Stp (rIsN (.bl c) .non H Q) (Q (.bl false) H) := ⟨fun h => ⟨rfl, by rw [show decide ((.bl c : V) = .non) = false from rfl]; exact h⟩⟩
instance i_notN_b {c : Bool} : Stp (rNotN (.bl c) .non H Q) (Q (.bl true) H) := ⟨fun h => ⟨rfl, by rw [show decide ((.bl c : V) = .non) = false from rfl]; exact h⟩⟩
instance i_isN_s {c : Str} : Stp (rIsN (.str c) .non H Q) (Q (.bl false) H) := ⟨fun h => ⟨rfl, by rw [show decide ((.str c : V) = .non) = false from rfl]; exact h⟩⟩
instance i_notN_s {c : Str} : Stp (rNotN (.str c) .non H Q) (Q (.bl true) H) := ⟨fun h => ⟨rfl, by rw [show decide ((.str c : V) = .non) = false from rfl]; exact h⟩⟩
instance i_isN_r {p : Addr} : Stp (rIsN (.ref p) .non H Q) (Q (.bl false) H) := ⟨fun h => ⟨rfl, by rw [show decide ((.ref p : V) = .non) = false from rfl]; exact h⟩⟩
instance i_notN_r {p : Addr} : Stp (rNotN (.ref p) .non H Q) (Q (.bl true) H) := ⟨fun h => ⟨rfl, by rw [show decide ((.ref p : V) = .non) = false from rfl]; exact h⟩⟩
instance i_isN_n  : Stp (rIsN (.non) .non H Q) (Q (.bl true) H) := ⟨fun h => ⟨rfl, by rw [show decide ((.non : V) = .non) = true from rfl]; exact h⟩⟩
instance i_notN_n  : Stp (rNotN (.non) .non H Q) (Q (.bl false) H) := ⟨fun h => ⟨rfl, by rw [show decide ((.non : V) = .non) = true from rfl]; exact h⟩⟩
theorem r_isB {c d : Bool} (h : Q (.bl (decide (c = d))) H) : rIsB (.bl c) (.bl d) H Q := ⟨c, d, rfl, rfl, h⟩
instance i_r_isB {c d : Bool} : Stp (rIsB (.bl c) (.bl d) H Q) (Q (.bl (decide (c = d))) H) := ⟨r_isB⟩
theorem r_test (h : te σ H fun x H' => ∃ k, x = .bl k ∧ QB k H') : tTest te σ H QB := h
instance i_r_test : Stp (tTest te σ H QB) (te σ H fun x H' => ∃ k, x = .bl k ∧ QB k H') := ⟨r_test⟩
theorem r_B (h : te σ H fun x H' => ∃ k, x = .bl k ∧ QB k H') : tB te σ H QB := h
instance i_r_B : Stp (tB te σ H QB) (te σ H fun x H' => ∃ k, x = .bl k ∧ QB k H') := ⟨r_B⟩
theorem r_bl {c : Bool} (h : QB c H) : ∃ k, V.bl c = V.bl k ∧ QB k H := ⟨c, rfl, h⟩
instance i_r_bl {c : Bool} : Stp (∃ k, V.bl c = V.bl k ∧ QB k H) (QB c H) := ⟨r_bl⟩
def kAnd (c : Bool) (tu : TT) (σ : L2.St) (H : Hp) (QB : Bool → Hp → Prop) : Prop := if c = true then tu σ H QB else QB false H
def kOr (c : Bool) (tu : TT) (σ : L2.St) (H : Hp) (QB : Bool → Hp → Prop) : Prop := if c = true then QB true H else tu σ H QB
def kAndV (c : Bool) (tb : TE) (σ : L2.St) (H : Hp) (Q : VK) : Prop := if c = true then tb σ H Q else Q (.bl false) H
def kOrV (c : Bool) (tb : TE) (σ : L2.St) (H : Hp) (Q : VK) : Prop := if c = true then Q (.bl true) H else tb σ H Q
theorem r_and (h : tt σ H fun c H1 => kAnd c tu σ H1 QB) : tAnd tt tu σ H QB := h
instance i_r_and : Stp (tAnd tt tu σ H QB) (tt σ H fun c H1 => kAnd c tu σ H1 QB) := ⟨r_and⟩
theorem r_or (h : tt σ H fun c H1 => kOr c tu σ H1 QB) : tOr tt tu σ H QB := h
instance i_r_or : Stp (tOr tt tu σ H QB) (tt σ H fun c H1 => kOr c tu σ H1 QB) := ⟨r_or⟩
theorem r_not (h : tt σ H fun c H1 => QB (!c) H1) : tNot tt σ H QB := h
instance i_r_not : Stp (tNot tt σ H QB) (tt σ H fun c H1 => QB (!c) H1) := ⟨r_not⟩
theorem r_andV (h : ta σ H fun x H1 => ∃ c, x = .bl c ∧ kAndV c tb σ H1 Q) : tAndV ta tb σ H Q := h
instance i_r_andV : Stp (tAndV ta tb σ H Q) (ta σ H fun x H1 => ∃ c, x = .bl c ∧ kAndV c tb σ H1 Q) := ⟨r_andV⟩
theorem r_orV (h : ta σ H fun x H1 => ∃ c, x = .bl c ∧ kOrV c tb σ H1 Q) : tOrV ta tb σ H Q := h
instance i_r_orV : Stp (tOrV ta tb σ H Q) (ta σ H fun x H1 => ∃ c, x = .bl c ∧ kOrV c tb σ H1 Q) := ⟨r_orV⟩
theorem r_blV {c : Bool} {R : Bool → Prop} (h : R c) : ∃ d, V.bl c = V.bl d ∧ R d := ⟨c, rfl, h⟩
instance i_r_blV {c : Bool} {R : Bool → Prop} : Stp (∃ d, V.bl c = V.bl d ∧ R d) (R c) := ⟨r_blV⟩
theorem r_notV (h : ta σ H fun x H1 => ∃ c, x = .bl c ∧ Q (.bl (!c)) H1) : tNotV ta σ H Q := h
instance i_r_notV : Stp (tNotV ta σ H Q) (ta σ H fun x H1 => ∃ c, x = .bl c ∧ Q (.bl (!c)) H1) := ⟨r_notV⟩
theorem r_ifE (h : tt σ H fun c H1 => if c = true then ta σ H1 Q else tb σ H1 Q) : tIf tt ta tb σ H Q := h
instance i_r_ifE : Stp (tIf tt ta tb σ H Q) (tt σ H fun c H1 => if c = true then ta σ H1 Q else tb σ H1 Q) := ⟨r_ifE⟩
theorem r_chain {r' : R2} {tc : TE} (h : ta σ H fun x H1 => tb σ H1 fun y H2 => r x y H2 fun z H3 => ∃ k, z = .bl k ∧ if k = true then tc σ H3 fun w H4 => r' y w H4 Q else Q (.bl false) H3) : tChain r r' ta tb tc σ H Q := h
instance i_r_chain {r' : R2} {tc : TE} : Stp (tChain r r' ta tb tc σ H Q) (ta σ H fun x H1 => tb σ H1 fun y H2 => r x y H2 fun z H3 => ∃ k, z = .bl k ∧ if k = true then tc σ H3 fun w H4 => r' y w H4 Q else Q (.bl false) H3) := ⟨r_chain⟩
theorem r_nil (h : QL [] H) : tNil σ H QL := h
instance i_r_nil : Stp (tNil σ H QL) (QL [] H) := ⟨r_nil⟩
theorem r_cons (h : te σ H fun x H1 => tl σ H1 fun xs H2 => QL (x :: xs) H2) : tCons te tl σ H QL := h
instance i_r_cons : Stp (tCons te tl σ H QL) (te σ H fun x H1 => tl σ H1 fun xs H2 => QL (x :: xs) H2) := ⟨r_cons⟩
def kTup (xs : List V) (H : Hp) (Q : VK) : Prop := xs.length ≤ sizeLine ∧ ∀ p, H p = none → Q (.ref p) (upd H p (.tup xs))
def kLst (xs : List V) (H : Hp) (Q : VK) : Prop := xs.length ≤ sizeLine ∧ ∀ p, H p = none → Q (.ref p) (upd H p (.lst xs))
theorem r_tup (h : tl σ H fun xs H1 => kTup xs H1 Q) : tTup tl σ H Q := h
instance i_r_tup : Stp (tTup tl σ H Q) (tl σ H fun xs H1 => kTup xs H1 Q) := ⟨r_tup⟩
theorem r_lst (h : tl σ H fun xs H1 => kLst xs H1 Q) : tLst tl σ H Q := h
instance i_r_lst : Stp (tLst tl σ H Q) (tl σ H fun xs H1 => kLst xs H1 Q) := ⟨r_lst⟩
theorem r_kTup (S : Star l H) (z : xs.length ≤ sizeLine) (h : ∀ p H', Star (pt p (.tup xs) :: l) H' → Q (.ref p) H') : kTup xs H Q := ⟨z, fun p n => h p _ (S.new n)⟩
theorem r_kLst (S : Star l H) (z : xs.length ≤ sizeLine) (h : ∀ p H', Star (pt p (.lst xs) :: l) H' → Q (.ref p) H') : kLst xs H Q := ⟨z, fun p n => h p _ (S.new n)⟩
theorem r_ixL (S : Star L H) (P : Pull (pt p (.lst xs)) L l) (e : atI xs i = some v) (h : Q v H) : rIxL K (.ref p) (.int i) H Q := ⟨p, xs, i, v, rfl, rfl, SqL.of ((S.pull P).get (.head _)), e, h⟩
theorem r_ixT (S : Star L H) (P : Pull (pt p (.tup xs)) L l) (e : atI xs i = some v) (h : Q v H) : rIxT K (.ref p) (.int i) H Q := ⟨p, xs, i, v, rfl, rfl, SqT.of ((S.pull P).get (.head _)), e, h⟩
theorem r_ixScr {ns : List Int} (S : Star L H) (P : Pull (scr K p ns) L l) {z : Int} (e : atI (ns.map V.int) i = some (.int z)) (h : Q (.int z) H) : rIxL K (.ref p) (.int i) H Q := ⟨p, _, i, _, rfl, rfl, (S.pull P).scr (.head _), e, h⟩
/-- a store into a written row of fields -/
class NeS (f g : Str) : Prop where e : ¬ g = f
class PutF (f : Str) (v : V) (fs : List (Str × V)) (fs' : outParam (List (Str × V))) : Prop where e : putF f v fs = fs'
instance putF0 {f : Str} {v : V} : PutF f v [] [(f, v)] := ⟨rfl⟩
instance putF1 {f : Str} {v x : V} {r : List (Str × V)} : PutF f v ((f, x) :: r) ((f, v) :: r) := ⟨by unfold putF; rw [if_pos rfl]⟩
instance putF2 {f g : Str} {v x : V} {r r' : List (Str × V)} [h : NeS f g] [q : PutF f v r r'] : PutF f v ((g, x) :: r) ((g, x) :: r') := ⟨by unfold putF; rw [if_neg h.e, q.e]⟩
class LkF (fs : List (Str × V)) (f : Str) (v : outParam V) : Prop where e : fs.lookup f = some v
instance lkF1 {f : Str} {x : V} {r : List (Str × V)} : LkF ((f, x) :: r) f x := ⟨by rw [List.lookup_cons, beq_self_eq_true]⟩
instance lkF2 {f g : Str} {v x : V} {r : List (Str × V)} [h : NeS f g] [q : LkF r f v] : LkF ((g, x) :: r) f v := ⟨by rw [List.lookup_cons, show (f == g) = false from beq_eq_false_iff_ne.mpr (fun e => h.e e.symm)]; exact q.e⟩
/-! fields -/
theorem r_fldC (h : ta σ H fun x H1 => kFld C f x H1 Q) : tFldC C ta f σ H Q := h
instance i_r_fldC : Stp (tFldC C ta f σ H Q) (ta σ H fun x H1 => kFld C f x H1 Q) := ⟨r_fldC⟩
theorem r_fld [e : LkF fs f v] (S : Star L H) (P : Pull (pt a (.ins C dx fs)) L l) (h : Q v H) : kFld C f (.ref a) H Q := ⟨a, dx, fs, v, rfl, (S.pull P).get (.head _), e.e, h⟩
theorem r_sfldC (h : tv σ H fun y H1 => ta σ H1 fun x H2 => kSto C f x y H2 fun H3 => nx σ H3) : sFldC C ta tv f ⟨nx, rt, bk, ct⟩ σ H := h
instance i_r_sfldC : Stp (sFldC C ta tv f ⟨nx, rt, bk, ct⟩ σ H) (tv σ H fun y H1 => ta σ H1 fun x H2 => kSto C f x y H2 fun H3 => nx σ H3) := ⟨r_sfldC⟩
theorem r_sto {q : Hp → Prop} (S : Star L H) (P : Pull (pt a (.ins C dx fs)) L l) (z : fs.length < 1000) [e : PutF f y fs fs'] (h : ∀ H', Star (pt a (.ins C dx fs') :: l) H' → q H') : kSto C f (.ref a) y H q :=
  ⟨a, dx, fs, rfl, (S.pull P).get (.head _), z, h _ (by rw [e.e]; exact (S.pull P).upd (fun ⟨_, q⟩ => nomatch q))⟩
theorem r_augC {C : Addr} {rd : R2} (h : ta σ H fun x H1 => kAugR C f x H1 fun a v => tv σ H1 fun y H2 => rd v y H2 fun z H3 => kAugW C a f z H3 fun H4 => nx σ H4) : sFldAugC C ta tv rd f ⟨nx, rt, bk, ct⟩ σ H := h
instance i_r_augC {C : Addr} {rd : R2} : Stp (sFldAugC C ta tv rd f ⟨nx, rt, bk, ct⟩ σ H) (ta σ H fun x H1 => kAugR C f x H1 fun a v => tv σ H1 fun y H2 => rd v y H2 fun z H3 => kAugW C a f z H3 fun H4 => nx σ H4) := ⟨r_augC⟩
theorem r_augR {R : Addr → V → Prop} [e : LkF fs f v] (S : Star L H) (P : Pull (pt a (.ins C dx fs)) L l) (h : R a v) : kAugR C f (.ref a) H R := ⟨a, dx, fs, v, rfl, (S.pull P).get (.head _), e.e, h⟩
theorem r_augW {q : Hp → Prop} (S : Star L H) (P : Pull (pt a (.ins C dx fs)) L l) (z : fs.length < 1000) [e : PutF f y fs fs'] (h : ∀ H', Star (pt a (.ins C dx fs') :: l) H' → q H') : kAugW C a f y H q :=
  ⟨dx, fs, (S.pull P).get (.head _), z, h _ (by rw [e.e]; exact (S.pull P).upd (fun ⟨_, q⟩ => nomatch q))⟩
/-! calls -/
theorem r_cl {dvs : List V} {E : L2.St → XK} (h : tl σ H fun vs H1 => kCall sp (vs ++ dvs) H1 Q (E σ)) : tCl sp dvs E tl σ H Q := h
theorem r_cl0 {E : L2.St → XK} (h : tl σ H fun vs H1 => kCall sp vs H1 Q (E σ)) : tCl sp [] E tl σ H Q := by
  show tl σ H fun vs H1 => kCall sp (vs ++ []) H1 Q (E σ)
  simp only [List.append_nil]; exact h
instance i_r_cl0 {E : L2.St → XK} : Stp (tCl sp [] E tl σ H Q) (tl σ H fun vs H1 => kCall sp vs H1 Q (E σ)) := ⟨r_cl0⟩
theorem r_mt0 {E : L2.St → XK} (h : ta σ H fun x H1 => kMt C m x H1 (tl σ H1 fun vs H2 => kCall sp (x :: vs) H2 Q (E σ))) : tMt C m sp [] E ta tl σ H Q := by
  show ta σ H fun x H1 => kMt C m x H1 (tl σ H1 fun vs H2 => kCall sp (x :: (vs ++ [])) H2 Q (E σ))
  simp only [List.append_nil]; exact h
instance i_r_mt0 {E : L2.St → XK} : Stp (tMt C m sp [] E ta tl σ H Q) (ta σ H fun x H1 => kMt C m x H1 (tl σ H1 fun vs H2 => kCall sp (x :: vs) H2 Q (E σ))) := ⟨r_mt0⟩
theorem r_mk0 {E : L2.St → XK} (h : tl σ H fun vs H1 => kMk C sp vs H1 Q (E σ)) : tMk C sp [] E tl σ H Q := by
  show tl σ H fun vs H1 => kMk C sp (vs ++ []) H1 Q (E σ)
  simp only [List.append_nil]; exact h
instance i_r_mk0 {E : L2.St → XK} : Stp (tMk C sp [] E tl σ H Q) (tl σ H fun vs H1 => kMk C sp vs H1 Q (E σ)) := ⟨r_mk0⟩
theorem r_mt {dvs : List V} {E : L2.St → XK} (h : ta σ H fun x H1 => kMt C m x H1 (tl σ H1 fun vs H2 => kCall sp (x :: (vs ++ dvs)) H2 Q (E σ))) : tMt C m sp dvs E ta tl σ H Q := h
theorem r_kMt {R : Prop} (S : Star L H) (P : Pull (pt a (.ins C dx fs)) L l) (e : fs.lookup m = none) (h : R) : kMt C m (.ref a) H R := ⟨a, dx, fs, rfl, (S.pull P).get (.head _), e, h⟩
theorem r_mk {dvs : List V} {E : L2.St → XK} (h : tl σ H fun vs H1 => kMk C sp (vs ++ dvs) H1 Q (E σ)) : tMk C sp dvs E tl σ H Q := h
instance i_made {P : Prop} {v : V} : Stp (v = v ∧ P) P := ⟨fun h => ⟨rfl, h⟩⟩
theorem r_kMk (S : Star l H) (h : ∀ x dx H', Star (pt x (.ins C dx []) :: l) H' → kCall sp (.ref x :: vs) H' (fun v H2 => v = .non ∧ Q (.ref x) H2) E) : kMk C sp vs H Q E := fun x dx nx nd ne => by
  refine h x dx _ ?_
  have S1 := S.junk (o := .own x) nd
  exact S1.new (by rw [upd_ne (Ne.symm ne)]; exact nx)
theorem r_CB {r : List V → Hp → VK → Prop} (h : tl σ H fun vs H1 => r vs H1 Q) : tCB r tl σ H Q := h
instance i_r_CB {r : List V → Hp → VK → Prop} : Stp (tCB r tl σ H Q) (tl σ H fun vs H1 => r vs H1 Q) := ⟨r_CB⟩
theorem r_min (h : Q (.int (if j < i then j else i)) H) : cMin [.int i, .int j] H Q := ⟨i, j, rfl, h⟩
instance i_r_min : Stp (cMin [.int i, .int j] H Q) (Q (.int (if j < i then j else i)) H) := ⟨r_min⟩
theorem r_max (h : Q (.int (if j > i then j else i)) H) : cMax [.int i, .int j] H Q := ⟨i, j, rfl, h⟩
instance i_r_max : Stp (cMax [.int i, .int j] H Q) (Q (.int (if j > i then j else i)) H) := ⟨r_max⟩
theorem r_lenL {n : Nat} (S : Star L H) (P : Pull (pt p (.lst xs)) L l) (e : xs.length = n) (h : Q (.int (n : Int)) H) : cLenS K [.ref p] H Q := ⟨p, xs, rfl, .inl (SqL.of ((S.pull P).get (.head _))), by rw [e]; exact h⟩
theorem r_lenT {n : Nat} (S : Star L H) (P : Pull (pt p (.tup xs)) L l) (e : xs.length = n) (h : Q (.int (n : Int)) H) : cLenS K [.ref p] H Q := ⟨p, xs, rfl, .inr (SqT.of ((S.pull P).get (.head _))), by rw [e]; exact h⟩
theorem r_lenScr {ns : List Int} (S : Star L H) (P : Pull (scr K p ns) L l) (h : Q (.int (ns.length : Int)) H) : cLenS K [.ref p] H Q := ⟨p, _, rfl, .inl ((S.pull P).scr (.head _)), by rw [List.length_map]; exact h⟩
/-! isinstance with built-in classes -/
def cIsi (K : PySem.W.Frag) : List V → Hp → VK → Prop := rIsi K
theorem r_isi {t s : String} {w : Bool} (ty : TyX K H x (.type t)) (e : kitB t s = some w) (h : Q (.bl w) H) : rIsi K [x, .ty s] H Q := ⟨x, .ty s, .type t, .type s, w, rfl, .ty s, ty, kit_ty e, h⟩
end
/-! and, or without forking -/
section
variable {L : List Asrt} {σ : L2.St} {H : Hp} {Q : VK} {QB : Bool → Hp → Prop} {tu : TT} {tb : TE} {c d : Bool}
theorem kAnd_go (e : c = true) (h : tu σ H QB) : kAnd c tu σ H QB := by subst e; unfold kAnd; rw [if_pos rfl]; exact h
theorem kAnd_st (e : c = false) (h : QB false H) : kAnd c tu σ H QB := by subst e; unfold kAnd; rw [if_neg Bool.false_ne_true]; exact h
theorem kAnd_sp (h : c = true → tu σ H QB) (h' : c = false → QB false H) : kAnd c tu σ H QB := by
  cases e : c with
  | true => exact kAnd_go rfl (h e)
  | false => exact kAnd_st rfl (h' e)
theorem kAnd_J (S : Star L H) (hd : c = true → ∀ QB' : Bool → Hp → Prop, (∀ H', Star L H' → QB' d H') → tu σ H QB') (h : ∀ H', Star L H' → QB (c && d) H') : kAnd c tu σ H QB := by
  cases c with
  | true => exact kAnd_go rfl (hd rfl QB fun H' S' => h H' S')
  | false => exact kAnd_st rfl (h H S)
theorem kOr_go (e : c = false) (h : tu σ H QB) : kOr c tu σ H QB := by subst e; unfold kOr; rw [if_neg Bool.false_ne_true]; exact h
theorem kOr_st (e : c = true) (h : QB true H) : kOr c tu σ H QB := by subst e; unfold kOr; rw [if_pos rfl]; exact h
theorem kOr_sp (h : c = false → tu σ H QB) (h' : c = true → QB true H) : kOr c tu σ H QB := by
  cases e : c with
  | false => exact kOr_go rfl (h e)
  | true => exact kOr_st rfl (h' e)
theorem kOr_J (S : Star L H) (hd : c = false → ∀ QB' : Bool → Hp → Prop, (∀ H', Star L H' → QB' d H') → tu σ H QB') (h : ∀ H', Star L H' → QB (c || d) H') : kOr c tu σ H QB := by
  cases c with
  | false => exact kOr_go rfl (hd rfl QB fun H' S' => h H' S')
  | true => exact kOr_st rfl (h H S)
theorem kAndV_go (e : c = true) (h : tb σ H Q) : kAndV c tb σ H Q := by subst e; unfold kAndV; rw [if_pos rfl]; exact h
theorem kAndV_st (e : c = false) (h : Q (.bl false) H) : kAndV c tb σ H Q := by subst e; unfold kAndV; rw [if_neg Bool.false_ne_true]; exact h
theorem kAndV_sp (h : c = true → tb σ H Q) (h' : c = false → Q (.bl false) H) : kAndV c tb σ H Q := by
  cases e : c with
  | true => exact kAndV_go rfl (h e)
  | false => exact kAndV_st rfl (h' e)
theorem kAndV_J (S : Star L H) (hd : c = true → ∀ Q' : VK, (∀ H', Star L H' → Q' (.bl d) H') → tb σ H Q') (h : ∀ H', Star L H' → Q (.bl (c && d)) H') : kAndV c tb σ H Q := by
  cases c with
  | true => exact kAndV_go rfl (hd rfl Q fun H' S' => h H' S')
  | false => exact kAndV_st rfl (h H S)
theorem kOrV_go (e : c = false) (h : tb σ H Q) : kOrV c tb σ H Q := by subst e; unfold kOrV; rw [if_neg Bool.false_ne_true]; exact h
theorem kOrV_st (e : c = true) (h : Q (.bl true) H) : kOrV c tb σ H Q := by subst e; unfold kOrV; rw [if_pos rfl]; exact h
theorem kOrV_sp (h : c = false → tb σ H Q) (h' : c = true → Q (.bl true) H) : kOrV c tb σ H Q := by
  cases e : c with
  | false => exact kOrV_go rfl (h e)
  | true => exact kOrV_st rfl (h' e)
theorem kOrV_J (S : Star L H) (hd : c = false → ∀ Q' : VK, (∀ H', Star L H' → Q' (.bl d) H') → tb σ H Q') (h : ∀ H', Star L H' → Q (.bl (c || d)) H') : kOrV c tb σ H Q := by
  cases c with
  | false => exact kOrV_go rfl (hd rfl Q fun H' S' => h H' S')
  | true => exact kOrV_st rfl (h H S)
end
/-! ifs -/
theorem if_y {c : Bool} {A B : Prop} (e : c = true) (h : A) : if c = true then A else B := by rw [if_pos e]; exact h
theorem if_n {c : Bool} {A B : Prop} (e : c = false) (h : B) : if c = true then A else B := by rw [e, if_neg Bool.false_ne_true]; exact h
theorem if_d {c : Prop} [Decidable c] {A B : Prop} (h : c → A) (h' : ¬ c → B) : if decide c = true then A else B := by
  by_cases q : c
  · exact if_y (decide_eq_true q) (h q)
  · exact if_n (decide_eq_false q) (h' q)
theorem if_nd {c : Prop} [Decidable c] {A B : Prop} (h : ¬ c → A) (h' : c → B) : if (!decide c) = true then A else B := by
  by_cases q : c
  · exact if_n (by rw [decide_eq_true q]; rfl) (h' q)
  · exact if_y (by rw [decide_eq_false q]; rfl) (h q)
theorem if_dt {c : Prop} [Decidable c] {A B : Prop} (q : c) (h : A) : if decide c = true then A else B := if_y (decide_eq_true q) h
theorem if_df {c : Prop} [Decidable c] {A B : Prop} (q : ¬ c) (h : B) : if decide c = true then A else B := if_n (decide_eq_false q) h
theorem if_ndt {c : Prop} [Decidable c] {A B : Prop} (q : ¬ c) (h : A) : if (!decide c) = true then A else B := if_y (by rw [decide_eq_false q]; rfl) h
theorem if_ndf {c : Prop} [Decidable c] {A B : Prop} (q : c) (h : B) : if (!decide c) = true then A else B := if_n (by rw [decide_eq_true q]; rfl) h
theorem if_nT {A B : Prop} (h : B) : if (!true) = true then A else B := if_n rfl h
instance i_if_nT {A B : Prop} : Stp (if (!true) = true then A else B) (B) := ⟨if_nT⟩
theorem if_nF {A B : Prop} (h : A) : if (!false) = true then A else B := if_y rfl h
instance i_if_nF {A B : Prop} : Stp (if (!false) = true then A else B) (A) := ⟨if_nF⟩
theorem if_T {A B : Prop} (h : A) : if true = true then A else B := if_y rfl h
instance i_if_T {A B : Prop} : Stp (if true = true then A else B) (A) := ⟨if_T⟩
theorem if_F {A B : Prop} (h : B) : if false = true then A else B := if_n rfl h
instance i_if_F {A B : Prop} : Stp (if false = true then A else B) (B) := ⟨if_F⟩
theorem if_b {c : Bool} {A B : Prop} (h : c = true → A) (h' : c = false → B) : if c = true then A else B := by
  cases c with
  | true => exact if_y rfl (h rfl)
  | false => exact if_n rfl (h' rfl)
theorem if_nb {c : Bool} {A B : Prop} (h : c = false → A) (h' : c = true → B) : if (!c) = true then A else B := by
  cases c with
  | true => exact if_n rfl (h' rfl)
  | false => exact if_y rfl (h rfl)
end Fl
/-! Fl: bits, sizes, common things of laws. -/
namespace Fl
open PySem PySem.Spec PyProof.Rows L2
def cellAt (ns : List Int) (k : Int) : Int := if k < ns.length then ns.getD k.toNat 0 else 0
theorem atI_script {ns : List Int} {k : Int} (h0 : 0 ≤ k) (h : k < ns.length) : atI (ns.map V.int) k = some (.int (cellAt ns k)) := by
  have hk : k.toNat < ns.length := by omega
  unfold atI ixN cellAt
  rw [List.length_map, if_pos h0, if_pos h, if_pos h]
  simp [hk, List.getD]
theorem cellAt_beyond {ns : List Int} {k : Int} (h : ¬ k < ns.length) : cellAt ns k = 0 := if_neg h
/-! bits -/
theorem toNat5 : (5 : Int).toNat = 5 := rfl
theorem cshl {i j : Int} {n : Nat} (h0 : 0 ≤ j) (hi : i.natAbs < 2 ^ n) (hn : (n : Int) + j ≤ 134217728) : CShl i j := by
  refine ⟨h0, ?_⟩
  have := PyProof.Rows.intBits_le (a := i) (k := n) hi
  have e : (2 : Int) ^ 27 = 134217728 := by decide
  rw [e]; omega
theorem natAbs_lt {i : Int} {n : Nat} (h : i.natAbs < 10 ^ n) : i.natAbs < 2 ^ (4 * n) := by
  refine Nat.lt_of_lt_of_le h ?_
  rw [Nat.pow_mul]
  exact Nat.pow_le_pow_left (by decide) n
def rOrL : R2 := fun x y H Q => ∃ (a r : Int) (k : Nat), x = .int (a * 2 ^ k) ∧ y = .int r ∧ (0 ≤ a ∧ 0 ≤ r ∧ r < 2 ^ k) ∧ Q (.int (a * 2 ^ k + r)) H
theorem opOrL {X : Cx} : OpR X (binaryOp .BitOr) rOrL := op_orL
theorem r_orL {a r : Int} {k : Nat} {H : Hp} {Q : VK} (h : 0 ≤ a ∧ 0 ≤ r ∧ r < 2 ^ k) (q : Q (.int (a * 2 ^ k + r)) H) : rOrL (.int (a * 2 ^ k)) (.int r) H Q := ⟨a, r, k, rfl, rfl, h, q⟩
/-- a thing that is a whole number: isinstance(x, int), not isinstance(x, bool) -/
theorem isi_int {K : PySem.W.Frag} {H : Hp} {Q : VK} {i : Int} (q : Q (.bl true) H) : rIsi K [.int i, .ty "int"] H Q := r_isi (.base (.int i)) (by decide +kernel) q
instance i_isi_int {K : PySem.W.Frag} {H : Hp} {Q : VK} {i : Int} : Stp (rIsi K [.int i, .ty "int"] H Q) (Q (.bl true) H) := ⟨isi_int⟩
theorem isi_int_b {K : PySem.W.Frag} {H : Hp} {Q : VK} {i : Int} (q : Q (.bl false) H) : rIsi K [.int i, .ty "bool"] H Q := r_isi (.base (.int i)) (by decide +kernel) q
instance i_isi_int_b {K : PySem.W.Frag} {H : Hp} {Q : VK} {i : Int} : Stp (rIsi K [.int i, .ty "bool"] H Q) (Q (.bl false) H) := ⟨isi_int_b⟩
theorem isi_bl {K : PySem.W.Frag} {H : Hp} {Q : VK} {i : Bool} (q : Q (.bl true) H) : rIsi K [.bl i, .ty "int"] H Q := r_isi (.base (.bl i)) (by decide +kernel) q
instance i_isi_bl {K : PySem.W.Frag} {H : Hp} {Q : VK} {i : Bool} : Stp (rIsi K [.bl i, .ty "int"] H Q) (Q (.bl true) H) := ⟨isi_bl⟩
theorem isi_bl_b {K : PySem.W.Frag} {H : Hp} {Q : VK} {i : Bool} (q : Q (.bl true) H) : rIsi K [.bl i, .ty "bool"] H Q := r_isi (.base (.bl i)) (by decide +kernel) q
instance i_isi_bl_b {K : PySem.W.Frag} {H : Hp} {Q : VK} {i : Bool} : Stp (rIsi K [.bl i, .ty "bool"] H Q) (Q (.bl true) H) := ⟨isi_bl_b⟩
theorem isi_non {K : PySem.W.Frag} {H : Hp} {Q : VK} (q : Q (.bl false) H) : rIsi K [.non, .ty "int"] H Q := r_isi (.base .non) (by decide +kernel) q
instance i_isi_non {K : PySem.W.Frag} {H : Hp} {Q : VK} : Stp (rIsi K [.non, .ty "int"] H Q) (Q (.bl false) H) := ⟨isi_non⟩
theorem r_pow {i j n : Int} {H : Hp} {Q : VK} (c : CPow i j) (e : i ^ j.toNat = n) (q : Q (.int n) H) : rI CPow (fun i j => V.int (i ^ j.toNat)) (.int i) (.int j) H Q := ⟨i, j, rfl, rfl, c, by show Q (.int (i ^ j.toNat)) H; rw [e]; exact q⟩
end Fl
/-! Fl: loops and comprehensions by recursion over what is walked. -/
namespace Fl
open PySem PySem.Spec PyProof.Rows L2
section
variable {α : Type}
/-- a for over what is left -/
def kFl (G : Hp → Prop) (Y : α → Hp → V → Hp → Prop) (g : TG) (tb : TS) (nx : L2.St → Hp → Prop) (rt : VK) : List α → L2.St → Hp → Prop
  | [] => fun σ H => G H ∧ nx σ H
  | x :: r => fun σ H => G H ∧ ∀ v H', Y x H v H' → g v σ H' fun σ2 H2 => tb ⟨kFl G Y g tb nx rt r, rt, nx, kFl G Y g tb nx rt r⟩ σ2 H2
theorem kFl_G {G : Hp → Prop} {Y : α → Hp → V → Hp → Prop} {g : TG} {tb : TS} {nx : L2.St → Hp → Prop} {rt : VK} {xs : List α} {σ : L2.St} {H : Hp} (h : kFl G Y g tb nx rt xs σ H) : G H := by
  cases xs with
  | nil => exact h.1
  | cons x r => exact h.1
theorem drop_cons {xs : List α} {i : Nat} {x : α} (e : xs[i]? = some x) : xs.drop i = x :: xs.drop (i + 1) := by
  obtain ⟨h, q⟩ := List.getElem?_eq_some_iff.mp e
  rw [List.drop_eq_getElem_cons h, q]
theorem fl_it {J : It} {xs : List α} {n : Nat} {G : Hp → Prop} {Yw : Nat → Hp → V → Hp → Prop} {Y : α → Hp → V → Hp → Prop} (w : Walk J n G Yw) (hn : n = xs.length) (hy : ∀ i H v H', i < n → Yw i H v H' → ∃ x, xs[i]? = some x ∧ Y x H v H')
    {g : TG} {tb : TS} {D : Ends} {σ : L2.St} {H : Hp} (h : kFl G Y g tb D.nx D.rt xs σ H) :
    ∃ W : Nat → Nat → L2.St → Hp → Prop, (∃ m, W 0 m σ H) ∧ ∀ i m σ H, W i m σ H →
      (J.stop i H ∧ D.nx σ H) ∨ (J.go i H ∧ ∃ N : L2.St → Hp → Prop, (∀ σ' H', N σ' H' → ∃ m', m' < m ∧ W (i + 1) m' σ' H') ∧ ∀ x H', J.yld i H x H' → g x σ H' fun σ2 H2 => tb { D with nx := N, ct := N, bk := D.nx } σ2 H2) := by
  subst hn
  refine for_it w (fun i σ H => kFl G Y g tb D.nx D.rt (xs.drop i) σ H) h (fun i σ H _ p => kFl_G p) (fun i v σ H H' hi p y => ?_) (fun σ H p => ?_)
  · obtain ⟨x, e, y'⟩ := hy i H v H' hi y
    have p' : kFl G Y g tb D.nx D.rt (xs.drop i) σ H := p
    rw [drop_cons e] at p'
    exact p'.2 v H' y'
  · have p' : kFl G Y g tb D.nx D.rt (xs.drop xs.length) σ H := p
    rw [List.drop_length] at p'
    exact p'.2
/-- the new list at D takes one more -/
def kApp (D : Addr) (y : V) (H : Hp) (q : Hp → Prop) : Prop := ∃ acc, H D = some (.lst acc) ∧ acc.length < sizeLine ∧ q (upd H D (.lst (acc ++ [y])))
/-- a comprehension over what is left -/
def kCl (G : Hp → Prop) (Y : α → Hp → V → Hp → Prop) (g : TG) (tt : TT) (te : TE) (σ σ' : L2.St) (vs : List Nat) (D : Addr) (Q : VK) : List α → Hp → Prop
  | [] => fun H => G H ∧ Q (.ref D) H
  | x :: r => fun H => G H ∧ ∀ v H', Y x H v H' → g v σ' H' fun σ2 H2 => wipe σ2 vs = σ' ∧ tt σ2 H2 fun b H3 =>
      if b = true then te σ2 H3 fun y H4 => kApp D y H4 (kCl G Y g tt te σ σ' vs D Q r) else kCl G Y g tt te σ σ' vs D Q r H3
theorem kCl_G {G : Hp → Prop} {Y : α → Hp → V → Hp → Prop} {g : TG} {tt : TT} {te : TE} {σ σ' : L2.St} {vs : List Nat} {D : Addr} {Q : VK} {xs : List α} {H : Hp} (h : kCl G Y g tt te σ σ' vs D Q xs H) : G H := by
  cases xs with
  | nil => exact h.1
  | cons x r => exact h.1
theorem cl_it {J : It} {xs : List α} {n : Nat} {G : Hp → Prop} {Yw : Nat → Hp → V → Hp → Prop} {Y : α → Hp → V → Hp → Prop} (w : Walk J n G Yw) (hn : n = xs.length) (hy : ∀ i H v H', i < n → Yw i H v H' → ∃ x, xs[i]? = some x ∧ Y x H v H')
    {g : TG} {tt : TT} {te : TE} {vs : List Nat} {σ σ' : L2.St} {H1 : Hp} {D : Addr} {Q : VK} (hw : wipe σ vs = σ') (h : kCl G Y g tt te σ σ' vs D Q xs (upd H1 D (.lst []))) :
    ∃ W : Nat → Nat → Hp → Prop, (∃ m, W 0 m (upd H1 D (.lst []))) ∧ ∀ i m H, W i m H →
      (J.stop i H ∧ Q (.ref D) H) ∨ (J.go i H ∧ ∃ Nx : Hp → Prop, (∀ H', Nx H' → ∃ m', m' < m ∧ W (i + 1) m' H') ∧ ∀ x H', J.yld i H x H' → g x (wipe σ vs) H' fun σ2 H2 => wipe σ2 vs = wipe σ vs ∧ tt σ2 H2 fun b H3 =>
        if b = true then te σ2 H3 fun y H4 => ∃ acc, H4 D = some (.lst acc) ∧ acc.length < sizeLine ∧ Nx (upd H4 D (.lst (acc ++ [y]))) else Nx H3) := by
  subst hn
  subst hw
  refine lc_it w (fun i H => kCl G Y g tt te σ (wipe σ vs) vs D Q (xs.drop i) H) h (fun i H _ p => kCl_G p) (fun i v H H' hi p y => ?_) (fun H p => ?_)
  · obtain ⟨x, e, y'⟩ := hy i H v H' hi y
    have p' : kCl G Y g tt te σ (wipe σ vs) vs D Q (xs.drop i) H := p
    rw [drop_cons e] at p'
    exact p'.2 v H' y'
  · have p' : kCl G Y g tt te σ (wipe σ vs) vs D Q (xs.drop xs.length) H := p
    rw [List.drop_length] at p'
    exact p'.2
end
theorem fl_ind {α : Type} {G : Hp → Prop} {Y : α → Hp → V → Hp → Prop} {g : TG} {tb : TS} {nx : L2.St → Hp → Prop} {rt : VK} (I : List α → L2.St → Hp → Prop) (h0 : ∀ σ H, I [] σ H → G H ∧ nx σ H)
    (hs : ∀ x r σ H, I (x :: r) σ H → ∀ N : L2.St → Hp → Prop, (∀ σ' H', I r σ' H' → N σ' H') → G H ∧ ∀ v H', Y x H v H' → g v σ H' fun σ2 H2 => tb ⟨N, rt, nx, N⟩ σ2 H2) : ∀ xs σ H, I xs σ H → kFl G Y g tb nx rt xs σ H
  | [], σ, H, i => h0 σ H i
  | x :: r, σ, H, i => hs x r σ H i _ fun σ' H' i' => fl_ind I h0 hs r σ' H' i'
theorem cl_ind {α : Type} {G : Hp → Prop} {Y : α → Hp → V → Hp → Prop} {g : TG} {tt : TT} {te : TE} {σ σ' : L2.St} {vs : List Nat} {D : Addr} {Q : VK} (I : List α → Hp → Prop) (h0 : ∀ H, I [] H → G H ∧ Q (.ref D) H)
    (hs : ∀ x r H, I (x :: r) H → ∀ N : Hp → Prop, (∀ H', I r H' → N H') → G H ∧ ∀ v H', Y x H v H' → g v σ' H' fun σ2 H2 => wipe σ2 vs = σ' ∧ tt σ2 H2 fun b H3 => if b = true then te σ2 H3 fun y H4 => kApp D y H4 N else N H3) :
    ∀ xs H, I xs H → kCl G Y g tt te σ σ' vs D Q xs H
  | [], H, i => h0 H i
  | x :: r, H, i => hs x r H i _ fun H' i' => cl_ind I h0 hs r H' i'
/-! what a turn gives -/
def yId : V → Hp → V → Hp → Prop := fun x H v H' => v = x ∧ H' = H
def yTup : List V → Hp → V → Hp → Prop := fun xs H v H' => ∃ T, v = .ref T ∧ H T = none ∧ H' = upd H T (.tup xs)
def yKT : List Key → Hp → V → Hp → Prop := fun k H v H' => H' = H ∧ ∃ q, v = .ref q ∧ H q = some (.tup (k.map kV))
def gAny : Hp → Prop := fun _ => True
def gSqL (K : PySem.W.Frag) (a : Addr) (xs : List V) : Hp → Prop := fun H => SqL K H a xs
def gSqT (K : PySem.W.Frag) (a : Addr) (xs : List V) : Hp → Prop := fun H => SqT K H a xs
def gAt (d : Addr) (u : HO) : Hp → Prop := fun H => H d = some u
def gAnd (G G' : Hp → Prop) : Hp → Prop := fun H => G H ∧ G' H
section
variable {K : PySem.W.Frag} {L l : List Asrt} {σ σ' : L2.St} {H : Hp} {g : TG} {tb : TS} {tt : TT} {te tl : TE} {ta : TA} {nx bk ct : L2.St → Hp → Prop} {rt Q : VK} {a b d D : Addr} {xs ys vs : List V} {ws : List Nat} {x y v : V} {G : Hp → Prop}
theorem grpFl {α : Type} {Y : α → Hp → V → Hp → Prop} {xs : List α} (h : kFl G Y g tb nx rt xs σ H) : kFl G Y g tb nx rt xs σ H := h
theorem fl_nil {α : Type} {Y : α → Hp → V → Hp → Prop} (hG : G H) (h : nx σ H) : kFl G Y g tb nx rt [] σ H := ⟨hG, h⟩
theorem fl_id {r : List V} (hG : G H) (h : g x σ H fun σ2 H2 => tb ⟨kFl G yId g tb nx rt r, rt, nx, kFl G yId g tb nx rt r⟩ σ2 H2) : kFl G yId g tb nx rt (x :: r) σ H := ⟨hG, fun v H' ⟨e, e'⟩ => by subst e e'; exact h⟩
theorem fl_more {r ys : List V} (e : ys = x :: r) (hG : G H) (h : g x σ H fun σ2 H2 => tb ⟨kFl G yId g tb nx rt r, rt, nx, kFl G yId g tb nx rt r⟩ σ2 H2) : kFl G yId g tb nx rt ys σ H := by subst e; exact fl_id hG h
theorem fl_tup {r : List (List V)} (hG : G H) (S : Star l H) (h : ∀ T H', Star (pt T (.tup xs) :: l) H' → g (.ref T) σ H' fun σ2 H2 => tb ⟨kFl G yTup g tb nx rt r, rt, nx, kFl G yTup g tb nx rt r⟩ σ2 H2) : kFl G yTup g tb nx rt (xs :: r) σ H :=
  ⟨hG, fun v H' ⟨T, e, n, e'⟩ => by subst e e'; exact h T _ (S.new n)⟩
/-- a tuple that the heap holds, taken into the list -/
theorem Star.intup {T : Addr} {xs : List V} (S : Star l H) (e : H T = some (.tup xs)) : Star (pt T (.tup xs) :: l) H := by
  have : ∃ h, Sub h H ∧ Star l h ∧ Dsj (single T (.tup xs)) h := by
    refine ⟨H, Sub.refl _, S, fun b o u e1 e2 => ?_⟩
    unfold single at e1
    split at e1
    · next q => subst q; cases e1; rw [e] at e2; cases e2; exact ⟨rfl, _, rfl⟩
    · cases e1
  obtain ⟨h, s, S', dj⟩ := this
  exact ⟨single T (.tup xs), h, dj, single_sub e, s, single_self, S'⟩
theorem fl_kt {k : List Key} {r : List (List Key)} (hG : G H) (S : Star l H) (h : ∀ T, Star (pt T (.tup (k.map kV)) :: l) H → g (.ref T) σ H fun σ2 H2 => tb ⟨kFl G yKT g tb nx rt r, rt, nx, kFl G yKT g tb nx rt r⟩ σ2 H2) : kFl G yKT g tb nx rt (k :: r) σ H :=
  ⟨hG, fun v H' ⟨e', T, e, n⟩ => by subst e e'; exact h T (S.intup n)⟩
/-- a for by what holds ahead of each turn -/
theorem fl_indI (I : List V → L2.St → Hp → Prop) {xs : List V} (i : I xs σ H) (h0 : ∀ σ H, I [] σ H → G H ∧ nx σ H)
    (hs : ∀ x r σ H, I (x :: r) σ H → ∀ N : L2.St → Hp → Prop, (∀ σ' H', I r σ' H' → N σ' H') → G H ∧ g x σ H fun σ2 H2 => tb ⟨N, rt, nx, N⟩ σ2 H2) : kFl G yId g tb nx rt xs σ H :=
  fl_ind I h0 (fun x r σ H i N hN => ⟨(hs x r σ H i N hN).1, fun v H' ⟨e, e'⟩ => by subst e e'; exact (hs v r σ H' i N hN).2⟩) xs σ H i
theorem fl_indT (I : List (List V) → L2.St → Hp → Prop) {xs : List (List V)} (i : I xs σ H) (h0 : ∀ σ H, I [] σ H → G H ∧ nx σ H)
    (hs : ∀ x r σ H, I (x :: r) σ H → ∀ N : L2.St → Hp → Prop, (∀ σ' H', I r σ' H' → N σ' H') → G H ∧ ∀ T, H T = none → g (.ref T) σ (upd H T (.tup x)) fun σ2 H2 => tb ⟨N, rt, nx, N⟩ σ2 H2) : kFl G yTup g tb nx rt xs σ H :=
  fl_ind I h0 (fun x r σ H i N hN => ⟨(hs x r σ H i N hN).1, fun v H' ⟨T, e, n, e'⟩ => by subst e e'; exact (hs x r σ H i N hN).2 T n⟩) xs σ H i
theorem cl_indI (I : List V → Hp → Prop) {xs : List V} (i : I xs H) (h0 : ∀ H, I [] H → G H ∧ Q (.ref D) H)
    (hs : ∀ x r H, I (x :: r) H → ∀ N : Hp → Prop, (∀ H', I r H' → N H') → G H ∧ g x σ' H fun σ2 H2 => wipe σ2 ws = σ' ∧ tt σ2 H2 fun b H3 => if b = true then te σ2 H3 fun y H4 => kApp D y H4 N else N H3) : kCl G yId g tt te σ σ' ws D Q xs H :=
  cl_ind I h0 (fun x r H i N hN => ⟨(hs x r H i N hN).1, fun v H' ⟨e, e'⟩ => by subst e e'; exact (hs v r H' i N hN).2⟩) xs H i
theorem cl_nil {α : Type} {Y : α → Hp → V → Hp → Prop} (hG : G H) (h : Q (.ref D) H) : kCl G Y g tt te σ σ' ws D Q [] H := ⟨hG, h⟩
theorem cl_id {r : List V} (hG : G H) (h : g x σ' H fun σ2 H2 => wipe σ2 ws = σ' ∧ tt σ2 H2 fun b H3 => if b = true then te σ2 H3 fun y H4 => kApp D y H4 (kCl G yId g tt te σ σ' ws D Q r) else kCl G yId g tt te σ σ' ws D Q r H3) : kCl G yId g tt te σ σ' ws D Q (x :: r) H :=
  ⟨hG, fun v H' ⟨e, e'⟩ => by subst e e'; exact h⟩
theorem cl_tup {r : List (List V)} (hG : G H) (S : Star l H) (h : ∀ T H', Star (pt T (.tup xs) :: l) H' → g (.ref T) σ' H' fun σ2 H2 => wipe σ2 ws = σ' ∧ tt σ2 H2 fun b H3 => if b = true then te σ2 H3 fun y H4 => kApp D y H4 (kCl G yTup g tt te σ σ' ws D Q r) else kCl G yTup g tt te σ σ' ws D Q r H3) :
    kCl G yTup g tt te σ σ' ws D Q (xs :: r) H := ⟨hG, fun v H' ⟨T, e, n, e'⟩ => by subst e e'; exact h T _ (S.new n)⟩
theorem r_app {q : Hp → Prop} (S : Star L H) (P : Pull (pt D (.lst xs)) L l) (z : xs.length < sizeLine) (h : ∀ H', Star (pt D (.lst (xs ++ [y])) :: l) H' → q H') : kApp D y H q := ⟨xs, (S.pull P).get (.head _), z, h _ ((S.pull P).upd fun ⟨_, q⟩ => nomatch q)⟩
theorem r_wipe {q : Prop} (e : wipe σ ws = σ') (h : q) : wipe σ ws = σ' ∧ q := ⟨e, h⟩
theorem r_yes {QB : Bool → Hp → Prop} (h : QB true H) : tYes σ H QB := h
instance i_r_yes {QB : Bool → Hp → Prop} : Stp (tYes σ H QB) (QB true H) := ⟨r_yes⟩
/-! ### the sources -/
def kW (J : It) (g : TG) (tb : TS) (nx : L2.St → Hp → Prop) (rt : VK) (bk ct : L2.St → Hp → Prop) (σ : L2.St) (H1 : Hp) : Prop := ∃ W : Nat → Nat → L2.St → Hp → Prop, (∃ m, W 0 m σ H1) ∧ ∀ i m σ H, W i m σ H →
  (J.stop i H ∧ nx σ H) ∨ (J.go i H ∧ ∃ N : L2.St → Hp → Prop, (∀ σ' H', N σ' H' → ∃ m', m' < m ∧ W (i + 1) m' σ' H') ∧ ∀ x H', J.yld i H x H' → g x σ H' fun σ2 H2 => tb ⟨N, rt, nx, N⟩ σ2 H2)
theorem r_for {wi : TI} (h : wi σ H fun J H1 => kW J g tb nx rt bk ct σ H1) : tFor wi g tb ⟨nx, rt, bk, ct⟩ σ H := h
instance i_r_for {wi : TI} : Stp (tFor wi g tb ⟨nx, rt, bk, ct⟩ σ H) (wi σ H fun J H1 => kW J g tb nx rt bk ct σ H1) := ⟨r_for⟩
def kLW (J : It) (g : TG) (tt : TT) (te : TE) (vs : List Nat) (σ : L2.St) (Q : VK) (H1 : Hp) : Prop := ∀ D, H1 D = none → ∃ W : Nat → Nat → Hp → Prop, (∃ m, W 0 m (upd H1 D (.lst []))) ∧ ∀ i m H, W i m H →
  (J.stop i H ∧ Q (.ref D) H) ∨ (J.go i H ∧ ∃ Nx : Hp → Prop, (∀ H', Nx H' → ∃ m', m' < m ∧ W (i + 1) m' H') ∧ ∀ x H', J.yld i H x H' → g x (wipe σ vs) H' fun σ2 H2 => wipe σ2 vs = wipe σ vs ∧ tt σ2 H2 fun b H3 =>
    if b = true then te σ2 H3 fun y H4 => ∃ acc, H4 D = some (.lst acc) ∧ acc.length < sizeLine ∧ Nx (upd H4 D (.lst (acc ++ [y]))) else Nx H3)
theorem r_lc {wi : TI} (h : wi σ H fun J H1 => kLW J g tt te ws σ Q H1) : tLc wi g tt te ws σ H Q := h
instance i_r_lc {wi : TI} : Stp (tLc wi g tt te ws σ H Q) (wi σ H fun J H1 => kLW J g tt te ws σ Q H1) := ⟨r_lc⟩
/-- a walk as it may be used -/
def kUse (J : It) {α : Type} (G : Hp → Prop) (Y : α → Hp → V → Hp → Prop) (xs : List α) : Prop := ∃ (n : Nat) (Yw : Nat → Hp → V → Hp → Prop), Walk J n G Yw ∧ n = xs.length ∧ ∀ i H v H', i < n → Yw i H v H' → ∃ x, xs[i]? = some x ∧ Y x H v H'
theorem r_w {J : It} {α : Type} {Y : α → Hp → V → Hp → Prop} {xs : List α} (u : kUse J G Y xs) (h : kFl G Y g tb nx rt xs σ H) : kW J g tb nx rt bk ct σ H := by
  obtain ⟨n, Yw, w, hn, hy⟩ := u
  exact fl_it (D := ⟨nx, rt, bk, ct⟩) w hn hy h
theorem r_lw {J : It} {α : Type} {Y : α → Hp → V → Hp → Prop} {xs : List α} (u : kUse J G Y xs) (hw : wipe σ ws = σ') (S : Star l H) (h : ∀ D H', Star (pt D (.lst []) :: l) H' → kCl G Y g tt te σ σ' ws D Q xs H') : kLW J g tt te ws σ Q H := by
  obtain ⟨n, Yw, w, hn, hy⟩ := u
  intro D hD
  exact cl_it w hn hy hw (h D _ (S.new hD))
theorem use_list : kUse (Itl K a) (gSqL K a xs) yId xs := ⟨_, _, walk_list, rfl, fun i H v H' _ ⟨e, q⟩ => ⟨v, q, rfl, e⟩⟩
theorem use_tup : kUse (Itt K a) (gSqT K a xs) yId xs := ⟨_, _, walk_tup, rfl, fun i H v H' _ ⟨e, q⟩ => ⟨v, q, rfl, e⟩⟩
def rgV (lo : Int) (n : Nat) : List V := (List.range n).map fun i => V.int (lo + (i : Nat))
theorem rgV_len {lo : Int} {n : Nat} : (rgV lo n).length = n := by simp [rgV]
theorem rgV_at {lo : Int} {n i : Nat} (h : i < n) : (rgV lo n)[i]? = some (.int (lo + (i : Nat))) := by simp [rgV, h]
theorem rgV_succ {lo : Int} {n : Nat} : rgV lo (n + 1) = .int lo :: rgV (lo + 1) n := by
  unfold rgV
  rw [List.range_succ_eq_map, List.map_cons, List.map_map]
  congr 1
  · show V.int (lo + ((0 : Nat) : Int)) = V.int lo
    rw [show ((0 : Nat) : Int) = 0 from rfl, Int.add_zero]
  · refine List.map_congr_left fun i _ => ?_
    show V.int (lo + ((i + 1 : Nat) : Int)) = V.int (lo + 1 + (i : Int))
    congr 1; omega
theorem rgV_more {lo lo' : Int} {n : Nat} (e : lo + 1 = lo') : rgV lo (n + 1) = .int lo :: rgV lo' n := by rw [← e]; exact rgV_succ
theorem rgV_zero {lo : Int} : rgV lo 0 = [] := rfl
theorem use_range {lo : Int} {n : Nat} : kUse (Itr lo n) gAny yId (rgV lo n) := ⟨n, _, walk_range, rgV_len.symm, fun i H v H' hi ⟨e, q⟩ => ⟨v, by rw [q]; exact rgV_at hi, rfl, e⟩⟩
theorem use_rev : kUse (Itv K a xs.length) (gSqL K a xs) yId xs.reverse := ⟨_, _, walk_rev, by simp, fun i H v H' hi ⟨e, q⟩ => ⟨v, by rw [List.getElem?_reverse hi]; exact q, rfl, e⟩⟩
theorem use_str {z : Str} : kUse (Its z) gAny yId (z.cps.toList.map fun c => V.str ⟨#[c]⟩) := ⟨_, _, walk_str, by simp, fun i H v H' _ ⟨e, c, q, r⟩ => ⟨v, by subst r; simp [q], rfl, e⟩⟩
theorem use_keys {o : Obj} {kvs : List (Key × V)} : kUse (Itk d o kvs) (gAt d (.frz o (.dK kvs))) yId (kvs.map fun kv => kV kv.1) := ⟨_, _, walk_keys, by simp, fun i H v H' _ ⟨e, k, w, q, r⟩ => ⟨v, by subst r; simp [q], rfl, e⟩⟩
theorem use_values {o : Obj} {kvs : List (Key × V)} : kUse (Itd d o kvs) (gAt d (.frz o (.dK kvs))) yId (kvs.map Prod.snd) := ⟨_, _, walk_values, by simp, fun i H v H' _ ⟨e, k, q⟩ => ⟨v, by simp [q], rfl, e⟩⟩
theorem use_items {o : Obj} {kvs : List (Key × V)} : kUse (Iti d o kvs) (gAt d (.frz o (.dK kvs))) yTup (kvs.map fun kv => [kV kv.1, kv.2]) := by
  refine ⟨_, _, walk_items, by simp, fun i H v H' hi ⟨T, x, y, e, n, e', q1, q2⟩ => ?_⟩
  obtain ⟨⟨k, w⟩, hk⟩ : ∃ kv, kvs[i]? = some kv := ⟨kvs[i], List.getElem?_eq_getElem hi⟩
  have q1 : (kvs[i]?).map (fun kv => kV kv.1) = some x := q1
  have q2 : (kvs[i]?).map Prod.snd = some y := q2
  rw [hk] at q1 q2
  cases q1; cases q2
  exact ⟨[kV k, w], by simp [hk], T, e, n, e'⟩
theorem use_keysT {o : Obj} {kvs : List (List Key × V)} : kUse (Itkt d o kvs) (gAt d (.frz o (.dT kvs))) yKT (kvs.map Prod.fst) := ⟨_, _, walk_keysT, by simp, fun i H v H' _ ⟨e, k, w, q, hk, r, t⟩ => ⟨k, by simp [hk], e, q, r, t⟩⟩
def enums : Nat → List V → List (List V)
  | _, [] => []
  | i, x :: r => [.int (i : Int), x] :: enums (i + 1) r
theorem enums_len : ∀ {i : Nat} {xs : List V}, (enums i xs).length = xs.length
  | _, [] => rfl
  | i, x :: r => by simp [enums, enums_len]
theorem enums_at : ∀ {i j : Nat} {xs : List V} {x : V}, xs[j]? = some x → (enums i xs)[j]? = some [.int ((i + j : Nat) : Int), x]
  | i, 0, x :: r, y, e => by cases e; rfl
  | i, j + 1, x :: r, y, e => by
    have := enums_at (i := i + 1) (j := j) (xs := r) (x := y) (by simpa using e)
    simp only [enums, List.getElem?_cons_succ, this]
    congr 3; congr 1; omega
theorem use_enum : kUse (Ite K a) (gSqL K a xs) yTup (enums 0 xs) := by
  refine ⟨_, _, walk_enum, enums_len.symm, fun i H v H' hi ⟨T, x, y, e, n, e', q1, q2⟩ => ?_⟩
  cases q1
  exact ⟨_, enums_at q2, T, e, n, by rw [e']; simp⟩
theorem use_zip : kUse (Itz K a b) (gAnd (gSqL K a xs) (gSqL K b ys)) yTup ((xs.zip ys).map fun p => [p.1, p.2]) := by
  refine ⟨_, _, walk_zip rfl, by simp, fun i H v H' hi ⟨T, x, y, e, n, e', q1, q2⟩ => ⟨[x, y], ?_, T, e, n, e'⟩⟩
  simp [List.zip, List.getElem?_zipWith, q1, q2]
/-! their readings -/
def kIL (K : PySem.W.Frag) (x : V) (H : Hp) (R : It → Hp → Prop) : Prop := ∃ a, x = .ref a ∧ (∃ xs, SqL K H a xs) ∧ R (Itl K a) H
def kIT (K : PySem.W.Frag) (x : V) (H : Hp) (R : It → Hp → Prop) : Prop := ∃ a, x = .ref a ∧ (∃ xs, SqT K H a xs) ∧ R (Itt K a) H
def kIR1 (vs : List V) (H : Hp) (R : It → Hp → Prop) : Prop := ∃ j : Int, vs = [.int j] ∧ -(2 ^ 62) ≤ j ∧ j < 2 ^ 62 ∧ R (Itr 0 j.toNat) H
def kIR2 (vs : List V) (H : Hp) (R : It → Hp → Prop) : Prop := ∃ i j : Int, vs = [.int i, .int j] ∧ (-(2 ^ 62) ≤ i ∧ i < 2 ^ 62 ∧ -(2 ^ 62) ≤ j ∧ j < 2 ^ 62) ∧ R (Itr i (j - i).toNat) H
def kIE (K : PySem.W.Frag) (vs : List V) (H : Hp) (R : It → Hp → Prop) : Prop := ∃ a xs, vs = [.ref a] ∧ SqL K H a xs ∧ R (Ite K a) H
def kIZ (K : PySem.W.Frag) (vs : List V) (H : Hp) (R : It → Hp → Prop) : Prop := ∃ a b xs ys, vs = [.ref a, .ref b] ∧ SqL K H a xs ∧ SqL K H b ys ∧ R (Itz K a b) H
def kIV (K : PySem.W.Frag) (vs : List V) (H : Hp) (R : It → Hp → Prop) : Prop := ∃ (a : Addr) (xs : List V), vs = [.ref a] ∧ SqL K H a xs ∧ R (Itv K a xs.length) H
variable {R : It → Hp → Prop} {J : It}
theorem r_iL (h : tl σ H fun x H1 => kIL K x H1 R) : iList K tl σ H R := h
instance i_r_iL : Stp (iList K tl σ H R) (tl σ H fun x H1 => kIL K x H1 R) := ⟨r_iL⟩
theorem r_iT (h : tl σ H fun x H1 => kIT K x H1 R) : iTup K tl σ H R := h
instance i_r_iT : Stp (iTup K tl σ H R) (tl σ H fun x H1 => kIT K x H1 R) := ⟨r_iT⟩
theorem r_iR1 (h : ta σ H fun x H1 => kIR1 x H1 R) : iRng1 ta σ H R := h
instance i_r_iR1 : Stp (iRng1 ta σ H R) (ta σ H fun x H1 => kIR1 x H1 R) := ⟨r_iR1⟩
theorem r_iR2 (h : ta σ H fun x H1 => kIR2 x H1 R) : iRng2 ta σ H R := h
instance i_r_iR2 : Stp (iRng2 ta σ H R) (ta σ H fun x H1 => kIR2 x H1 R) := ⟨r_iR2⟩
theorem r_iE (h : ta σ H fun x H1 => kIE K x H1 R) : iEnum K ta σ H R := h
instance i_r_iE : Stp (iEnum K ta σ H R) (ta σ H fun x H1 => kIE K x H1 R) := ⟨r_iE⟩
theorem r_iZ (h : ta σ H fun x H1 => kIZ K x H1 R) : iZip K ta σ H R := h
instance i_r_iZ : Stp (iZip K ta σ H R) (ta σ H fun x H1 => kIZ K x H1 R) := ⟨r_iZ⟩
theorem r_iV (h : ta σ H fun x H1 => kIV K x H1 R) : iRev K ta σ H R := h
instance i_r_iV : Stp (iRev K ta σ H R) (ta σ H fun x H1 => kIV K x H1 R) := ⟨r_iV⟩
theorem r_kIL (S : Star L H) (P : Pull (pt a (.lst xs)) L l) (h : R (Itl K a) H) : kIL K (.ref a) H R := ⟨a, rfl, ⟨xs, SqL.of ((S.pull P).get (.head _))⟩, h⟩
theorem r_kILs {ns : List Int} (S : Star L H) (P : Pull (scr K a ns) L l) (h : R (Itl K a) H) : kIL K (.ref a) H R := ⟨a, rfl, ⟨_, (S.pull P).scr (.head _)⟩, h⟩
theorem r_kIT (S : Star L H) (P : Pull (pt a (.tup xs)) L l) (h : R (Itt K a) H) : kIT K (.ref a) H R := ⟨a, rfl, ⟨xs, SqT.of ((S.pull P).get (.head _))⟩, h⟩
theorem r_kIR1 {j : Int} {n : Nat} (e : j.toNat = n) (h1 : -(2 ^ 62) ≤ j ∧ j < 2 ^ 62) (h : R (Itr 0 n) H) : kIR1 [.int j] H R := ⟨j, rfl, h1.1, h1.2, by rw [e]; exact h⟩
theorem r_kIR2 {i j : Int} {n : Nat} (e : (j - i).toNat = n) (h1 : -(2 ^ 62) ≤ i ∧ i < 2 ^ 62 ∧ -(2 ^ 62) ≤ j ∧ j < 2 ^ 62) (h : R (Itr i n) H) : kIR2 [.int i, .int j] H R := ⟨i, j, rfl, h1, by rw [e]; exact h⟩
theorem r_kIE (S : Star L H) (P : Pull (pt a (.lst xs)) L l) (h : R (Ite K a) H) : kIE K [.ref a] H R := ⟨a, xs, rfl, SqL.of ((S.pull P).get (.head _)), h⟩
theorem r_kIV (S : Star L H) (P : Pull (pt a (.lst xs)) L l) (h : R (Itv K a xs.length) H) : kIV K [.ref a] H R := ⟨a, xs, rfl, SqL.of ((S.pull P).get (.head _)), h⟩
/-! the walks, at the lists that the heap holds -/
theorem r_wL (S : Star L H) (P : Pull (pt a (.lst xs)) L l) (h : kFl (gSqL K a xs) yId g tb nx rt xs σ H) : kW (Itl K a) g tb nx rt bk ct σ H := r_w use_list h
theorem r_wLs {ns : List Int} (S : Star L H) (P : Pull (scr K a ns) L l) (h : kFl (gSqL K a (ns.map V.int)) yId g tb nx rt (ns.map V.int) σ H) : kW (Itl K a) g tb nx rt bk ct σ H := r_w use_list h
theorem r_wT (S : Star L H) (P : Pull (pt a (.tup xs)) L l) (h : kFl (gSqT K a xs) yId g tb nx rt xs σ H) : kW (Itt K a) g tb nx rt bk ct σ H := r_w use_tup h
theorem r_wR {lo : Int} {n : Nat} (h : kFl gAny yId g tb nx rt (rgV lo n) σ H) : kW (Itr lo n) g tb nx rt bk ct σ H := r_w use_range h
instance i_r_wR {lo : Int} {n : Nat} : Stp (kW (Itr lo n) g tb nx rt bk ct σ H) (kFl gAny yId g tb nx rt (rgV lo n) σ H) := ⟨r_wR⟩
theorem r_wE (S : Star L H) (P : Pull (pt a (.lst xs)) L l) (h : kFl (gSqL K a xs) yTup g tb nx rt (enums 0 xs) σ H) : kW (Ite K a) g tb nx rt bk ct σ H := r_w use_enum h
theorem r_wV (S : Star L H) (P : Pull (pt a (.lst xs)) L l) (h : kFl (gSqL K a xs) yId g tb nx rt xs.reverse σ H) : kW (Itv K a xs.length) g tb nx rt bk ct σ H := r_w use_rev h
theorem r_lwL (hw : wipe σ ws = σ') (S : Star L H) (P : Pull (pt a (.lst xs)) L l) (h : ∀ D H', Star (pt D (.lst []) :: L) H' → kCl (gSqL K a xs) yId g tt te σ σ' ws D Q xs H') : kLW (Itl K a) g tt te ws σ Q H := r_lw use_list hw S h
theorem r_lwLs {ns : List Int} (hw : wipe σ ws = σ') (S : Star L H) (P : Pull (scr K a ns) L l) (h : ∀ D H', Star (pt D (.lst []) :: L) H' → kCl (gSqL K a (ns.map V.int)) yId g tt te σ σ' ws D Q (ns.map V.int) H') : kLW (Itl K a) g tt te ws σ Q H := r_lw use_list hw S h
theorem r_lwT (hw : wipe σ ws = σ') (S : Star L H) (P : Pull (pt a (.tup xs)) L l) (h : ∀ D H', Star (pt D (.lst []) :: L) H' → kCl (gSqT K a xs) yId g tt te σ σ' ws D Q xs H') : kLW (Itt K a) g tt te ws σ Q H := r_lw use_tup hw S h
theorem r_lwR {lo : Int} {n : Nat} (hw : wipe σ ws = σ') (S : Star L H) (h : ∀ D H', Star (pt D (.lst []) :: L) H' → kCl gAny yId g tt te σ σ' ws D Q (rgV lo n) H') : kLW (Itr lo n) g tt te ws σ Q H := r_lw use_range hw S h
theorem gL (S : Star L H) (P : Pull (pt a (.lst xs)) L l) : gSqL K a xs H := SqL.of ((S.pull P).get (.head _))
theorem gLs {ns : List Int} (S : Star L H) (P : Pull (scr K a ns) L l) : gSqL K a (ns.map V.int) H := (S.pull P).scr (.head _)
theorem gT (S : Star L H) (P : Pull (pt a (.tup xs)) L l) : gSqT K a xs H := SqT.of ((S.pull P).get (.head _))
theorem gA : gAny H := True.intro
theorem gF {u : HO} (S : Star L H) (P : Pull (pt d u) L l) : gAt d u H := (S.pull P).get (.head _)
/-! ### a dict locked while it is walked -/
def kUnl (d : Addr) (od : Obj) (u : HO) (H : Hp) (q : Hp → Prop) : Prop := H d = some (.frz od u) ∧ q (upd H d u)
theorem r_lock {ts : TS} {u : HO} (mu : Mut (some u)) (S : Star L H) (P : Pull (pt d u) L l)
    (h : ∀ od H', Star (pt d (.frz od u) :: l) H' → ts ⟨fun σ' H' => kUnl d od u H' fun H2 => nx σ' H2, fun v H' => kUnl d od u H' fun H2 => rt v H2, fun σ' H' => kUnl d od u H' fun H2 => bk σ' H2, fun σ' H' => kUnl d od u H' fun H2 => ct σ' H2⟩ σ H') : tLock ts ⟨nx, rt, bk, ct⟩ σ H := by
  refine ⟨d, u, (S.pull P).get (.head _), mu, fun od => h od _ ((S.pull P).upd fun ⟨_, q⟩ => ?_)⟩
  subst q; exact mu
theorem r_unl {od : Obj} {u : HO} {q : Hp → Prop} (S : Star L H) (P : Pull (pt d (.frz od u)) L l) (h : ∀ H', Star (pt d u :: l) H' → q H') : kUnl d od u H q := ⟨(S.pull P).get (.head _), h _ ((S.pull P).upd fun ⟨_, q⟩ => nomatch q)⟩
def kIK (x : V) (H : Hp) (R : It → Hp → Prop) : Prop := ∃ d o, x = .ref d ∧ ((∃ kvs, H d = some (.frz o (.dK kvs)) ∧ R (Itk d o kvs) H) ∨ ∃ kvs, H d = some (.frz o (.dT kvs)) ∧ R (Itkt d o kvs) H)
def kIVa (x : V) (H : Hp) (R : It → Hp → Prop) : Prop := ∃ d o kvs, x = .ref d ∧ H d = some (.frz o (.dK kvs)) ∧ R (Itd d o kvs) H
theorem r_iK (h : tl σ H fun x H1 => kIK x H1 R) : iKeys tl σ H R := h
instance i_r_iK : Stp (iKeys tl σ H R) (tl σ H fun x H1 => kIK x H1 R) := ⟨r_iK⟩
theorem r_iVa (h : tl σ H fun x H1 => kIVa x H1 R) : iVals tl σ H R := h
instance i_r_iVa : Stp (iVals tl σ H R) (tl σ H fun x H1 => kIVa x H1 R) := ⟨r_iVa⟩
theorem r_kIK {o : Obj} {kvs : List (Key × V)} (S : Star L H) (P : Pull (pt d (.frz o (.dK kvs))) L l) (h : R (Itk d o kvs) H) : kIK (.ref d) H R := ⟨d, o, rfl, .inl ⟨kvs, (S.pull P).get (.head _), h⟩⟩
theorem r_kIKt {o : Obj} {kvs : List (List Key × V)} (S : Star L H) (P : Pull (pt d (.frz o (.dT kvs))) L l) (h : R (Itkt d o kvs) H) : kIK (.ref d) H R := ⟨d, o, rfl, .inr ⟨kvs, (S.pull P).get (.head _), h⟩⟩
theorem r_kIVa {o : Obj} {kvs : List (Key × V)} (S : Star L H) (P : Pull (pt d (.frz o (.dK kvs))) L l) (h : R (Itd d o kvs) H) : kIVa (.ref d) H R := ⟨d, o, kvs, rfl, (S.pull P).get (.head _), h⟩
theorem r_wK {o : Obj} {kvs : List (Key × V)} (h : kFl (gAt d (.frz o (.dK kvs))) yId g tb nx rt (kvs.map fun kv => kV kv.1) σ H) : kW (Itk d o kvs) g tb nx rt bk ct σ H := r_w use_keys h
instance i_r_wK {o : Obj} {kvs : List (Key × V)} : Stp (kW (Itk d o kvs) g tb nx rt bk ct σ H) (kFl (gAt d (.frz o (.dK kvs))) yId g tb nx rt (kvs.map fun kv => kV kv.1) σ H) := ⟨r_wK⟩
theorem r_wKt {o : Obj} {kvs : List (List Key × V)} (h : kFl (gAt d (.frz o (.dT kvs))) yKT g tb nx rt (kvs.map Prod.fst) σ H) : kW (Itkt d o kvs) g tb nx rt bk ct σ H := r_w use_keysT h
instance i_r_wKt {o : Obj} {kvs : List (List Key × V)} : Stp (kW (Itkt d o kvs) g tb nx rt bk ct σ H) (kFl (gAt d (.frz o (.dT kvs))) yKT g tb nx rt (kvs.map Prod.fst) σ H) := ⟨r_wKt⟩
theorem r_wVa {o : Obj} {kvs : List (Key × V)} (h : kFl (gAt d (.frz o (.dK kvs))) yId g tb nx rt (kvs.map Prod.snd) σ H) : kW (Itd d o kvs) g tb nx rt bk ct σ H := r_w use_values h
instance i_r_wVa {o : Obj} {kvs : List (Key × V)} : Stp (kW (Itd d o kvs) g tb nx rt bk ct σ H) (kFl (gAt d (.frz o (.dK kvs))) yId g tb nx rt (kvs.map Prod.snd) σ H) := ⟨r_wVa⟩
/-! ### while -/
def kTurn (Wv : Nat → L2.St → Hp → Prop) (m : Nat) (tb : TS) (nx : L2.St → Hp → Prop) (rt : VK) (σ : L2.St) (H : Hp) : Prop := ∃ N : L2.St → Hp → Prop, (∀ σ' H', N σ' H' → ∃ m', m' < m ∧ Wv m' σ' H') ∧ tb ⟨N, rt, nx, N⟩ σ H
theorem r_while {tc : TT} (Wv : Nat → L2.St → Hp → Prop) (m0 : Nat) (h0 : Wv m0 σ H) (hs : ∀ m σ H, Wv m σ H → tc σ H fun b H1 => if b = true then kTurn Wv m tb nx rt σ H1 else nx σ H1) : tWhile tc tb ⟨nx, rt, bk, ct⟩ σ H := ⟨Wv, ⟨m0, h0⟩, hs⟩
theorem r_turn {Wv : Nat → L2.St → Hp → Prop} {m : Nat} (h : tb ⟨fun σ' H' => ∃ m', m' < m ∧ Wv m' σ' H', rt, nx, fun σ' H' => ∃ m', m' < m ∧ Wv m' σ' H'⟩ σ H) : kTurn Wv m tb nx rt σ H := ⟨_, fun _ _ h => h, h⟩
end
end Fl
/-! Fl: lists, dicts, tuples: their methods step by step. -/
namespace Fl
open PySem PySem.Spec PyProof.Rows L2
abbrev Dk0 := List (Key × V)
def cutI {α : Type} (xs : List α) (lo hi : Option Int) : List α := (xs.drop (HT.sIx xs.length 0 lo)).take (HT.sIx xs.length xs.length hi - HT.sIx xs.length 0 lo)
theorem cutV_map {α : Type} {f : α → V} {xs : List α} {lo hi : Option Int} : cutV (xs.map f) lo hi = (cutI xs lo hi).map f := by
  unfold cutV cutI
  rw [List.length_map, List.map_take, List.map_drop]
theorem cutI_len {α : Type} {xs : List α} {lo hi : Option Int} : (cutI xs lo hi).length ≤ xs.length := by
  unfold cutI
  rw [List.length_take, List.length_drop]
  omega
section
variable {X : Cx} {L l : List Asrt} {K : PySem.W.Frag} {σ σ' : L2.St} {H H' : Hp} {Q : VK} {a b p q d t : Addr} {xs ys zs vs : List V} {v x y z : V} {i j n : Int} {te ta tb td ti tv ty : TE} {tl : TA} {nx bk ct : L2.St → Hp → Prop} {rt : VK}
/-! methods of built-in types -/
def kBM (K : PySem.W.Frag) (T : String) (x : V) (H : Hp) (R : Prop) : Prop := tyV K T x H ∧ R
theorem r_BM {T : String} {r : V → List V → Hp → VK → Prop} (h : ta σ H fun x H1 => kBM K T x H1 (tl σ H1 fun xs H2 => r x xs H2 Q)) : tBM K T r ta tl σ H Q := h
instance i_r_BM {T : String} {r : V → List V → Hp → VK → Prop} : Stp (tBM K T r ta tl σ H Q) (ta σ H fun x H1 => kBM K T x H1 (tl σ H1 fun xs H2 => r x xs H2 Q)) := ⟨r_BM⟩
theorem r_BM0 {T : String} {r : V → List V → Hp → VK → Prop} (h : ta σ H fun x H1 => kBM K T x H1 (r x [] H1 Q)) : tBM0 K T r ta σ H Q := h
instance i_r_BM0 {T : String} {r : V → List V → Hp → VK → Prop} : Stp (tBM0 K T r ta σ H Q) (ta σ H fun x H1 => kBM K T x H1 (r x [] H1 Q)) := ⟨r_BM0⟩
theorem r_kBML {R : Prop} (S : Star L H) (P : Pull (pt p (.lst xs)) L l) (h : R) : kBM K "list" (.ref p) H R := ⟨.inl ⟨rfl, _, SqL.of ((S.pull P).get (.head _))⟩, h⟩
theorem r_kBMS {R : Prop} {s : Str} (h : R) : kBM K "str" (.str s) H R := ⟨rfl, h⟩
instance i_r_kBMS {R : Prop} {s : Str} : Stp (kBM K "str" (.str s) H R) (R) := ⟨r_kBMS⟩
theorem r_append (S : Star L H) (P : Pull (pt p (.lst xs)) L l) (z : xs.length < sizeLine) (e : xs ++ [y] = zs) (h : ∀ H', Star (pt p (.lst zs) :: l) H' → Q .non H') : rAppend (.ref p) [y] H Q :=
  ⟨p, xs, y, rfl, rfl, (S.pull P).get (.head _), z, by rw [e]; exact h _ ((S.pull P).upd fun ⟨_, q⟩ => nomatch q)⟩
theorem r_extend (S : Star L H) (P : Pull (pt p (.lst xs)) L l) {m : List Asrt} (P2 : Pull (pt q (.lst ys)) L m) (z : xs.length + ys.length ≤ sizeLine) (h : ∀ H', Star (pt p (.lst (xs ++ ys)) :: l) H' → Q .non H') : rExtend (.ref p) [.ref q] H Q :=
  ⟨p, q, xs, ys, rfl, rfl, (S.pull P).get (.head _), (S.pull P2).get (.head _), z, h _ ((S.pull P).upd fun ⟨_, q⟩ => nomatch q)⟩
theorem r_pop (S : Star L H) (P : Pull (pt p (.lst xs)) L l) (e : xs[xs.length - 1]? = some y) (h : ∀ H', Star (pt p (.lst xs.dropLast) :: l) H' → Q y H') : rPop (.ref p) [] H Q :=
  ⟨p, xs, y, rfl, rfl, (S.pull P).get (.head _), e, h _ ((S.pull P).upd fun ⟨_, q⟩ => nomatch q)⟩
/-! cuts, sums, copies of lists -/
def kSl (r : V → Option Int → Option Int → Hp → VK → Prop) (x : V) (lo hi : Option Int) (H : Hp) (Q : VK) : Prop := r x lo hi H Q
theorem r_sl {r : V → Option Int → Option Int → Hp → VK → Prop} {tl th : TO} (h : te σ H fun x H1 => tl σ H1 fun l H2 => th σ H2 fun u H3 => r x l u H3 Q) : tSl r te tl th σ H Q := h
instance i_r_sl {r : V → Option Int → Option Int → Hp → VK → Prop} {tl th : TO} : Stp (tSl r te tl th σ H Q) (te σ H fun x H1 => tl σ H1 fun l H2 => th σ H2 fun u H3 => r x l u H3 Q) := ⟨r_sl⟩
def kPart (x : V) (H : Hp) (q : Option Int → Hp → Prop) : Prop := ∃ i, x = .int i ∧ q (some i) H
theorem r_part {q : Option Int → Hp → Prop} (h : te σ H fun x H1 => kPart x H1 q) : tPart te σ H q := h
instance i_r_part {q : Option Int → Hp → Prop} : Stp (tPart te σ H q) (te σ H fun x H1 => kPart x H1 q) := ⟨r_part⟩
theorem r_kPart {q : Option Int → Hp → Prop} (h : q (some i) H) : kPart (.int i) H q := ⟨i, rfl, h⟩
instance i_r_kPart {q : Option Int → Hp → Prop} : Stp (kPart (.int i) H q) (q (some i) H) := ⟨r_kPart⟩
theorem r_noPart {q : Option Int → Hp → Prop} (h : q none H) : tNoPart σ H q := h
instance i_r_noPart {q : Option Int → Hp → Prop} : Stp (tNoPart σ H q) (q none H) := ⟨r_noPart⟩
theorem r_slL {lo hi : Option Int} (S : Star L H) (P : Pull (pt p (.lst xs)) L l) (h : ∀ q H', Star (pt q (.lst (cutV xs lo hi)) :: L) H' → Q (.ref q) H') : rSlL K (.ref p) lo hi H Q := ⟨p, xs, rfl, SqL.of ((S.pull P).get (.head _)), fun q n => h q _ (S.new n)⟩
theorem r_slS {lo hi : Option Int} {ns : List Int} (S : Star L H) (P : Pull (scr K p ns) L l) (h : ∀ q H', Star (pt q (.lst ((cutI ns lo hi).map V.int)) :: L) H' → Q (.ref q) H') : rSlL K (.ref p) lo hi H Q := ⟨p, _, rfl, (S.pull P).scr (.head _), fun q n => by rw [cutV_map]; exact h q _ (S.new n)⟩
theorem r_cat (S : Star L H) (P : Pull (pt p (.lst xs)) L l) {m : List Asrt} (P2 : Pull (pt q (.lst ys)) L m) (z : xs.length + ys.length ≤ sizeLine) (h : ∀ r H', Star (pt r (.lst (xs ++ ys)) :: L) H' → Q (.ref r) H') : rCat (.ref p) (.ref q) H Q :=
  ⟨p, q, xs, ys, rfl, rfl, (S.pull P).get (.head _), (S.pull P2).get (.head _), z, fun r n => h r _ (S.new n)⟩
theorem r_rep (S : Star L H) (P : Pull (pt p (.lst xs)) L l) (z : 0 ≤ n ∧ n < 100000) (z2 : xs.length * n.toNat ≤ 100000) (e : (List.replicate n.toNat xs).flatten = zs) (h : ∀ r H', Star (pt r (.lst zs) :: L) H' → Q (.ref r) H') : rRep (.ref p) (.int n) H Q :=
  ⟨p, n, xs, rfl, rfl, (S.pull P).get (.head _), by omega, by omega, Evl.sz_of z2, fun r nn => by rw [e]; exact h r _ (S.new nn)⟩
def cSortedD : List V → Hp → VK → Prop := fun xs H Q => ∃ (a : Addr) (kvs : List (Key × V)) (ks : List Int), xs = [.ref a] ∧ Rd H a (.dK kvs) ∧ kvs.map (·.1) = ks.map Sum.inl ∧ ks.length < 64 ∧
    ∀ (ys : List Int) (p : Addr), ys.Perm ks → ys.Pairwise (· ≤ ·) → H p = none → Q (.ref p) (upd H p (.lst (ys.map V.int)))
theorem callSortedD (hc : X.calm = true) : CallR X (.builtin "sorted") cSortedD := call_sortedDI hc
theorem r_sortedD {kvs : List (Key × V)} {ks : List Int} (S : Star L H) (P : Pull (pt p (.dK kvs)) L l) (e : kvs.map (·.1) = ks.map Sum.inl) (z : ks.length < 64) (h : ∀ (ms : List Int) q H', ms.Perm ks → ms.Pairwise (· ≤ ·) → Star (pt q (.lst (ms.map V.int)) :: L) H' → Q (.ref q) H') : cSortedD [.ref p] H Q :=
  ⟨p, kvs, ks, rfl, .inl ((S.pull P).get (.head _)), e, z, fun ms q pm pw n => h ms q _ pm pw (S.new n)⟩
theorem r_clistL (S : Star L H) (P : Pull (pt p (.lst xs)) L l) (h : ∀ q H', Star (pt q (.lst xs) :: L) H' → Q (.ref q) H') : cList K [.ref p] H Q := ⟨p, xs, rfl, .inl (SqL.of ((S.pull P).get (.head _))), fun q n => h q _ (S.new n)⟩
theorem r_clistT (S : Star L H) (P : Pull (pt p (.tup xs)) L l) (h : ∀ q H', Star (pt q (.lst xs) :: L) H' → Q (.ref q) H') : cList K [.ref p] H Q := ⟨p, xs, rfl, .inr (SqT.of ((S.pull P).get (.head _))), fun q n => h q _ (S.new n)⟩
/-! a list's place stored -/
theorem r_gSub {ts : TSet} {q : L2.St → Hp → Prop} (h : ta σ H fun o H1 => ti σ H1 fun i H2 => ts o i v H2 fun H3 => q σ H3) : gSub ta ti ts v σ H q := h
instance i_r_gSub {ts : TSet} {q : L2.St → Hp → Prop} : Stp (gSub ta ti ts v σ H q) (ta σ H fun o H1 => ti σ H1 fun i H2 => ts o i v H2 fun H3 => q σ H3) := ⟨r_gSub⟩
theorem r_setL {k : Nat} {w : Hp → Prop} (S : Star L H) (P : Pull (pt p (.lst xs)) L l) (e : ixN xs.length i = some k) (h : ∀ H', Star (pt p (.lst (xs.set k v)) :: l) H' → w H') : rSetL (.ref p) (.int i) v H w :=
  ⟨p, xs, i, k, rfl, rfl, (S.pull P).get (.head _), e, h _ ((S.pull P).upd fun ⟨_, q⟩ => nomatch q)⟩
theorem r_setM {α : Type} {f : α → V} {ys : List α} {y : α} {k : Nat} {w : Hp → Prop} (S : Star L H) (P : Pull (pt p (.lst (ys.map f))) L l) (e : ixN ys.length i = some k) (h : ∀ H', Star (pt p (.lst ((ys.set k y).map f)) :: l) H' → w H') : rSetL (.ref p) (.int i) (f y) H w :=
  r_setL S P (by rw [List.length_map]; exact e) fun H' S' => h H' (by rw [List.map_set]; exact S')
theorem ixN_set {n : Nat} {i : Int} (h0 : 0 ≤ i) (h : i < n) : ixN n i = some i.toNat := by
  unfold ixN
  rw [if_pos h0, if_pos h]
/-! tuples taken apart -/
theorem r_gTup {n : Nat} {tg : TGs} {w : L2.St → Hp → Prop} (S : Star L H) (P : Pull (pt p (.tup xs)) L l) (e : xs.length = n) (h : tg xs σ H w) : gTup K n tg (.ref p) σ H w := ⟨p, xs, rfl, SqT.of ((S.pull P).get (.head _)), e, h⟩
theorem r_gCons {g : TG} {tg : TGs} {w : L2.St → Hp → Prop} (h : g x σ H fun σ' H' => tg xs σ' H' w) : gCons g tg (x :: xs) σ H w := ⟨x, xs, rfl, h⟩
instance i_r_gCons {g : TG} {tg : TGs} {w : L2.St → Hp → Prop} : Stp (gCons g tg (x :: xs) σ H w) (g x σ H fun σ' H' => tg xs σ' H' w) := ⟨r_gCons⟩
theorem r_gNil {w : L2.St → Hp → Prop} (h : w σ H) : gNil [] σ H w := ⟨rfl, h⟩
instance i_r_gNil {w : L2.St → Hp → Prop} : Stp (gNil [] σ H w) (w σ H) := ⟨r_gNil⟩
/-! dicts with int and text keys -/
abbrev Dk := List (Key × V)
def kDGet (x y : V) (H : Hp) (Q : VK) : Prop := ∃ a v, x = .ref a ∧ DGet H a y (some v) ∧ Q v H
def kDIn (y x : V) (H : Hp) (Q : VK) : Prop := ∃ a o, x = .ref a ∧ DGet H a y o ∧ Q (.bl o.isSome) H
def kDNot (y x : V) (H : Hp) (Q : VK) : Prop := ∃ a o, x = .ref a ∧ DGet H a y o ∧ Q (.bl (!o.isSome)) H
def kDPut (x y v : V) (H : Hp) (w : Hp → Prop) : Prop := ∃ a H4, x = .ref a ∧ DPut H a y v H4 ∧ w H4
def kIsD (x : V) (H : Hp) (R : Addr → Prop) : Prop := ∃ a, x = .ref a ∧ IsD H a ∧ R a
def kDg (a : Addr) (y z : V) (H : Hp) (Q : VK) : Prop := ∃ o, DGet H a y o ∧ Q (o.getD z) H
def kDp1 (a : Addr) (y : V) (H : Hp) (Q : VK) : Prop := ∃ kvs k v, H a = some (.dK kvs) ∧ y = kV k ∧ valV kvs k = some v ∧ Q v (upd H a (.dK (dropK kvs k)))
theorem r_dget (h : td σ H fun x H1 => ty σ H1 fun y H2 => kDGet x y H2 Q) : tDGet td ty σ H Q := h
instance i_r_dget : Stp (tDGet td ty σ H Q) (td σ H fun x H1 => ty σ H1 fun y H2 => kDGet x y H2 Q) := ⟨r_dget⟩
theorem r_din (h : ty σ H fun y H1 => td σ H1 fun x H2 => kDIn y x H2 Q) : tDIn ty td σ H Q := h
instance i_r_din : Stp (tDIn ty td σ H Q) (ty σ H fun y H1 => td σ H1 fun x H2 => kDIn y x H2 Q) := ⟨r_din⟩
theorem r_dnot (h : ty σ H fun y H1 => td σ H1 fun x H2 => kDNot y x H2 Q) : tDNotIn ty td σ H Q := h
instance i_r_dnot : Stp (tDNotIn ty td σ H Q) (ty σ H fun y H1 => td σ H1 fun x H2 => kDNot y x H2 Q) := ⟨r_dnot⟩
theorem r_dput (h : tv σ H fun v H1 => td σ H1 fun x H2 => ty σ H2 fun y H3 => kDPut x y v H3 fun H4 => nx σ H4) : sDPut td ty tv ⟨nx, rt, bk, ct⟩ σ H := by
  exact h
instance i_r_dput : Stp (sDPut td ty tv ⟨nx, rt, bk, ct⟩ σ H) (tv σ H fun v H1 => td σ H1 fun x H2 => ty σ H2 fun y H3 => kDPut x y v H3 fun H4 => nx σ H4) := ⟨r_dput⟩
theorem r_dget1 (h : td σ H fun x H1 => kIsD x H1 fun a => ty σ H1 fun y H2 => kDg a y .non H2 Q) : tDGet1 td ty σ H Q := h
instance i_r_dget1 : Stp (tDGet1 td ty σ H Q) (td σ H fun x H1 => kIsD x H1 fun a => ty σ H1 fun y H2 => kDg a y .non H2 Q) := ⟨r_dget1⟩
theorem r_dget2 {tx : TE} (h : td σ H fun x H1 => kIsD x H1 fun a => ty σ H1 fun y H2 => tx σ H2 fun z H3 => kDg a y z H3 Q) : tDGet2 td ty tx σ H Q := h
instance i_r_dget2 {tx : TE} : Stp (tDGet2 td ty tx σ H Q) (td σ H fun x H1 => kIsD x H1 fun a => ty σ H1 fun y H2 => tx σ H2 fun z H3 => kDg a y z H3 Q) := ⟨r_dget2⟩
theorem r_dpop1 (h : td σ H fun x H1 => kIsD x H1 fun a => ty σ H1 fun y H2 => kDp1 a y H2 Q) : tDPop1 td ty σ H Q := h
instance i_r_dpop1 : Stp (tDPop1 td ty σ H Q) (td σ H fun x H1 => kIsD x H1 fun a => ty σ H1 fun y H2 => kDp1 a y H2 Q) := ⟨r_dpop1⟩
theorem r_kIsD {kvs : Dk} {R : Addr → Prop} (S : Star L H) (P : Pull (pt d (.dK kvs)) L l) (h : R d) : kIsD (.ref d) H R := ⟨d, rfl, .inl ⟨kvs, .inl ((S.pull P).get (.head _))⟩, h⟩
theorem r_kIsDT {kvs : List (List Key × V)} {R : Addr → Prop} (S : Star L H) (P : Pull (pt d (.dT kvs)) L l) (h : R d) : kIsD (.ref d) H R := ⟨d, rfl, .inr ⟨kvs, .inl ((S.pull P).get (.head _))⟩, h⟩
theorem r_kDGet {kvs : Dk} (S : Star L H) (P : Pull (pt d (.dK kvs)) L l) (e : valV kvs (Sum.inl n : Key) = some v) (h : Q v H) : kDGet (.ref d) (.int n) H Q := ⟨d, v, rfl, by rw [← e]; exact DGet.k (k := Sum.inl n) ((S.pull P).get (.head _)), h⟩
theorem r_kDIn {kvs : Dk} (S : Star L H) (P : Pull (pt d (.dK kvs)) L l) (h : Q (.bl (valV kvs (Sum.inl n : Key)).isSome) H) : kDIn (.int n) (.ref d) H Q := ⟨d, _, rfl, DGet.k (k := Sum.inl n) ((S.pull P).get (.head _)), h⟩
theorem r_kDNot {kvs : Dk} (S : Star L H) (P : Pull (pt d (.dK kvs)) L l) (h : Q (.bl (!(valV kvs (Sum.inl n : Key)).isSome)) H) : kDNot (.int n) (.ref d) H Q := ⟨d, _, rfl, DGet.k (k := Sum.inl n) ((S.pull P).get (.head _)), h⟩
theorem r_kDPut {kvs : Dk} {w : Hp → Prop} (S : Star L H) (P : Pull (pt d (.dK kvs)) L l) (z : kvs.length < sizeLine) (h : ∀ H', Star (pt d (.dK (putK kvs (Sum.inl n : Key) v)) :: l) H' → w H') : kDPut (.ref d) (.int n) v H w :=
  ⟨d, _, rfl, DPut.k (k := Sum.inl n) ((S.pull P).get (.head _)) z, h _ ((S.pull P).upd fun ⟨_, q⟩ => nomatch q)⟩
theorem r_kDg {kvs : Dk} (S : Star L H) (P : Pull (pt d (.dK kvs)) L l) (h : Q ((valV kvs (Sum.inl n : Key)).getD z) H) : kDg d (.int n) z H Q := ⟨_, DGet.k (k := Sum.inl n) ((S.pull P).get (.head _)), h⟩
theorem r_kDp1 {kvs : Dk} (S : Star L H) (P : Pull (pt d (.dK kvs)) L l) (e : valV kvs (Sum.inl n : Key) = some v) (h : ∀ H', Star (pt d (.dK (dropK kvs (Sum.inl n : Key))) :: l) H' → Q v H') : kDp1 d (.int n) H Q :=
  ⟨kvs, Sum.inl n, v, (S.pull P).get (.head _), rfl, e, h _ ((S.pull P).upd fun ⟨_, q⟩ => nomatch q)⟩
theorem r_dnewK (S : Star l H) (h : ∀ p H', Star (pt p (.dK []) :: l) H' → Q (.ref p) H') : tDNewK σ H Q := fun p n => h p _ (S.new n)
theorem r_dnewT (S : Star l H) (h : ∀ p H', Star (pt p (.dT []) :: l) H' → Q (.ref p) H') : tDNewT σ H Q := fun p n => h p _ (S.new n)
def cLenD : List V → Hp → VK → Prop := fun xs H Q => ∃ a kvs, xs = [V.ref a] ∧ H a = some (.dK kvs) ∧ Q (.int (kvs.length : Int)) H
theorem callLenD : CallR X (.builtin "len") cLenD := call_lenD
theorem r_lenD {kvs : Dk} (S : Star L H) (P : Pull (pt d (.dK kvs)) L l) (h : Q (.int (kvs.length : Int)) H) : cLenD [.ref d] H Q := ⟨d, kvs, rfl, (S.pull P).get (.head _), h⟩
/-! sorted -/
def cSorted (K : PySem.W.Frag) : List V → Hp → VK → Prop := rSortedI K
theorem callSorted (e : X.K = K) : CallR X (.builtin "sorted") (cSorted K) := by subst e; exact cr_sortedI
theorem r_sorted {ns : List Int} (S : Star L H) (P : Pull (pt p (.lst (ns.map V.int))) L l) (h : ∀ (ms : List Int) q H', ms.Perm ns → ms.Pairwise (· ≤ ·) → Star (pt q (.lst (ms.map V.int)) :: L) H' → Q (.ref q) H') : cSorted K [.ref p] H Q :=
  ⟨p, ns, rfl, SqL.of ((S.pull P).get (.head _)), fun ms q pm pw n => h ms q _ pm pw (S.new n)⟩
/-! text of a number, written pairs -/
def cStr : List V → Hp → VK → Prop := fun xs H Q => ∃ i, xs = [.int i] ∧ i.natAbs.log2 < 1920 ∧ Q (.str (toString i)) H
theorem callStr : CallR X (.type "str") cStr := call_str_int
theorem r_str (z : i.natAbs < 10 ^ 80) (h : Q (.str (toString i)) H) : cStr [.int i] H Q := by
  refine ⟨i, rfl, ?_, h⟩
  have z2 : i.natAbs < 2 ^ 1920 := Nat.lt_trans z (by decide +kernel)
  by_cases e : i.natAbs = 0
  · rw [e]; decide
  · exact (Nat.log2_lt e).mpr z2
class KvL (ps : List (V × V)) (kvs : outParam Dk0) : Prop where e : ps = kvs.map (fun kv => (kV kv.1, kv.2))
instance kvL0 : KvL [] [] := ⟨rfl⟩
instance kvLI {ps : List (V × V)} {kvs : Dk0} [q : KvL ps kvs] : KvL ((.int i, v) :: ps) ((Sum.inl i, v) :: kvs) := ⟨by rw [q.e]; rfl⟩
instance kvLS {s : Str} {ps : List (V × V)} {kvs : Dk0} [q : KvL ps kvs] : KvL ((.str s, v) :: ps) ((Sum.inr s, v) :: kvs) := ⟨by rw [q.e]; rfl⟩
def kDisp (p : Addr) (ps : List (V × V)) (H : Hp) (Q : VK) : Prop := H p = some (.dK []) ∧ ∃ kvs : Dk0, ps = kvs.map (fun kv => (kV kv.1, kv.2)) ∧ kvs.length ≤ 15 ∧ Q (.ref p) (L2.upd H p (.dK (mergeK [] kvs)))
theorem r_disp {trs : List (TE × TE)} (S : Star l H) (h : ∀ p H', Star (pt p (.dK []) :: l) H' → tPairs trs σ H' fun ps H2 => kDisp p ps H2 Q) : tDisp trs σ H Q := fun p n => h p _ (S.new n)
theorem r_prs0 {q : List (V × V) → Hp → Prop} (h : q [] H) : tPairs [] σ H q := h
instance i_prs0 {q : List (V × V) → Hp → Prop} : Stp (tPairs [] σ H q) (q [] H) := ⟨r_prs0⟩
theorem r_prs1 {trs : List (TE × TE)} {q : List (V × V) → Hp → Prop} (h : ta σ H fun x H1 => tb σ H1 fun y H2 => tPairs trs σ H2 fun ps H3 => q ((x, y) :: ps) H3) : tPairs ((ta, tb) :: trs) σ H q := h
instance i_prs1 {trs : List (TE × TE)} {q : List (V × V) → Hp → Prop} : Stp (tPairs ((ta, tb) :: trs) σ H q) (ta σ H fun x H1 => tb σ H1 fun y H2 => tPairs trs σ H2 fun ps H3 => q ((x, y) :: ps) H3) := ⟨r_prs1⟩
theorem r_kDisp {ps : List (V × V)} {kvs : Dk0} [w : KvL ps kvs] (S : Star L H) (P : Pull (pt p (.dK [])) L l) (z : kvs.length ≤ 15) (h : ∀ H', Star (pt p (.dK (mergeK [] kvs)) :: l) H' → Q (.ref p) H') : kDisp p ps H Q :=
  ⟨(S.pull P).get (.head _), kvs, w.e, z, h _ ((S.pull P).upd fun ⟨_, q⟩ => nomatch q)⟩
/-! any, all, sum of a list -/
theorem callAny (e : X.K = K) (hc : X.calm = true) : CallR X (.builtin "any") (rAny K) := by subst e; exact cr_any hc
theorem callAll (e : X.K = K) (hc : X.calm = true) : CallR X (.builtin "all") (rAll K) := by subst e; exact cr_all hc
theorem r_any {bs : List Bool} (S : Star L H) (P : Pull (pt p (.lst (bs.map V.bl))) L l) (h : Q (.bl (bs.any id)) H) : rAny K [.ref p] H Q := ⟨p, bs, rfl, SqL.of ((S.pull P).get (.head _)), h⟩
theorem r_all {bs : List Bool} (S : Star L H) (P : Pull (pt p (.lst (bs.map V.bl))) L l) (h : Q (.bl (bs.all id)) H) : rAll K [.ref p] H Q := ⟨p, bs, rfl, SqL.of ((S.pull P).get (.head _)), h⟩
end
/-! groups -/
class Grp (g : Prop) (n : Nat) : Prop where
theorem grp (n : Nat) {g : Prop} [Grp g n] (h : g) : g := h
section
variable {α : Type} {K : PySem.W.Frag} {H : Hp} {Q : VK} {q w : Hp → Prop} {σ σ' : L2.St} {x y z v : V} {vs xs : List V} {n m k : Nat} {A B : Prop} {c : Bool} {tu : TT} {tb : TE} {QB : Bool → Hp → Prop} {sp : Sp} {E : XK} {C a d D : Addr} {f : Str} {T : String} {R : Prop} {RA : Addr → Prop} {RI : It → Hp → Prop} {J : It} {g : TG} {ts : TS} {tt : TT} {te : TE} {nx bk ct : L2.St → Hp → Prop} {rt : VK} {ws : List Nat} {tg : TGs} {wq : L2.St → Hp → Prop} {lo hi : Option Int} {od : Obj} {u : HO} {Cn : Int → Int → Prop} {gg : Int → Int → V} {RV : Addr → V → Prop}
instance : Grp (if c = true then A else B) 1 := ⟨⟩
instance : Grp (if c = true then A else B) 104 := ⟨⟩
instance : Grp (kAnd c tu σ H QB) 2 := ⟨⟩
instance : Grp (kAnd c tu σ H QB) 105 := ⟨⟩
instance : Grp (kOr c tu σ H QB) 2 := ⟨⟩
instance : Grp (kOr c tu σ H QB) 106 := ⟨⟩
instance : Grp (kAndV c tb σ H Q) 2 := ⟨⟩
instance : Grp (kAndV c tb σ H Q) 107 := ⟨⟩
instance : Grp (kOrV c tb σ H Q) 2 := ⟨⟩
instance : Grp (kOrV c tb σ H Q) 108 := ⟨⟩
instance : Grp (kCall sp vs H Q E) 3 := ⟨⟩
instance : Grp (kCall sp vs H Q E) 109 := ⟨⟩
instance : Grp (kMk C sp vs H Q E) 3 := ⟨⟩
instance : Grp (kMk C sp vs H Q E) 110 := ⟨⟩
instance : Grp (kBM K T x H R) 4 := ⟨⟩
instance : Grp (kBM K T x H R) 111 := ⟨⟩
instance : Grp (rAppend x vs H Q) 4 := ⟨⟩
instance : Grp (rAppend x vs H Q) 112 := ⟨⟩
instance : Grp (rExtend x vs H Q) 4 := ⟨⟩
instance : Grp (rExtend x vs H Q) 113 := ⟨⟩
instance : Grp (rPop x vs H Q) 4 := ⟨⟩
instance : Grp (rPop x vs H Q) 114 := ⟨⟩
instance : Grp (rReverse x vs H Q) 4 := ⟨⟩
instance : Grp (rReverse x vs H Q) 115 := ⟨⟩
instance : Grp (rSlL K x lo hi H Q) 4 := ⟨⟩
instance : Grp (rSlL K x lo hi H Q) 116 := ⟨⟩
instance : Grp (rCat x y H Q) 4 := ⟨⟩
instance : Grp (rCat x y H Q) 117 := ⟨⟩
instance : Grp (rRep x y H Q) 4 := ⟨⟩
instance : Grp (rRep x y H Q) 118 := ⟨⟩
instance : Grp (cList K vs H Q) 4 := ⟨⟩
instance : Grp (cList K vs H Q) 119 := ⟨⟩
instance : Grp (rSetL x y z H w) 4 := ⟨⟩
instance : Grp (rSetL x y z H w) 120 := ⟨⟩
instance : Grp (gTup K n tg x σ H wq) 4 := ⟨⟩
instance : Grp (gTup K n tg x σ H wq) 121 := ⟨⟩
instance : Grp (rIxL K x y H Q) 4 := ⟨⟩
instance : Grp (rIxL K x y H Q) 122 := ⟨⟩
instance : Grp (rIxT K x y H Q) 4 := ⟨⟩
instance : Grp (rIxT K x y H Q) 123 := ⟨⟩
instance : Grp (kLst xs H Q) 4 := ⟨⟩
instance : Grp (kLst xs H Q) 124 := ⟨⟩
instance : Grp (kTup xs H Q) 4 := ⟨⟩
instance : Grp (kTup xs H Q) 125 := ⟨⟩
instance : Grp (kApp D y H q) 4 := ⟨⟩
instance : Grp (kApp D y H q) 126 := ⟨⟩
instance : Grp (wipe σ ws = σ' ∧ R) 4 := ⟨⟩
instance : Grp (wipe σ ws = σ' ∧ R) 127 := ⟨⟩
instance : Grp (cLenS K vs H Q) 4 := ⟨⟩
instance : Grp (cLenS K vs H Q) 128 := ⟨⟩
instance : Grp (rAny K vs H Q) 4 := ⟨⟩
instance : Grp (rAny K vs H Q) 129 := ⟨⟩
instance : Grp (rAll K vs H Q) 4 := ⟨⟩
instance : Grp (rAll K vs H Q) 130 := ⟨⟩
instance : Grp (cSorted K vs H Q) 4 := ⟨⟩
instance : Grp (cSorted K vs H Q) 131 := ⟨⟩
instance : Grp (kIsD x H RA) 5 := ⟨⟩
instance : Grp (kIsD x H RA) 132 := ⟨⟩
instance : Grp (kDGet x y H Q) 5 := ⟨⟩
instance : Grp (kDGet x y H Q) 133 := ⟨⟩
instance : Grp (kDIn x y H Q) 5 := ⟨⟩
instance : Grp (kDIn x y H Q) 134 := ⟨⟩
instance : Grp (kDNot x y H Q) 5 := ⟨⟩
instance : Grp (kDNot x y H Q) 135 := ⟨⟩
instance : Grp (kDPut x y v H w) 5 := ⟨⟩
instance : Grp (kDPut x y v H w) 136 := ⟨⟩
instance : Grp (kDg a y z H Q) 5 := ⟨⟩
instance : Grp (kDg a y z H Q) 137 := ⟨⟩
instance : Grp (kDp1 a y H Q) 5 := ⟨⟩
instance : Grp (kDp1 a y H Q) 138 := ⟨⟩
instance : Grp (tDNewK σ H Q) 5 := ⟨⟩
instance : Grp (tDNewK σ H Q) 139 := ⟨⟩
instance {trs : List (TE × TE)} : Grp (tDisp trs σ H Q) 5 := ⟨⟩
instance {trs : List (TE × TE)} : Grp (tDisp trs σ H Q) 140 := ⟨⟩
instance {ps : List (V × V)} : Grp (kDisp a ps H Q) 5 := ⟨⟩
instance {ps : List (V × V)} : Grp (kDisp a ps H Q) 141 := ⟨⟩
instance : Grp (cStr vs H Q) 4 := ⟨⟩
instance : Grp (cStr vs H Q) 142 := ⟨⟩
instance : Grp (tDNewT σ H Q) 5 := ⟨⟩
instance : Grp (tDNewT σ H Q) 143 := ⟨⟩
instance : Grp (cLenD vs H Q) 5 := ⟨⟩
instance : Grp (cLenD vs H Q) 144 := ⟨⟩
instance : Grp (cSortedD vs H Q) 5 := ⟨⟩
instance : Grp (cSortedD vs H Q) 145 := ⟨⟩
instance : Grp (kIL K x H RI) 6 := ⟨⟩
instance : Grp (kIL K x H RI) 146 := ⟨⟩
instance : Grp (kIT K x H RI) 6 := ⟨⟩
instance : Grp (kIT K x H RI) 147 := ⟨⟩
instance : Grp (kIE K vs H RI) 6 := ⟨⟩
instance : Grp (kIE K vs H RI) 148 := ⟨⟩
instance : Grp (kIZ K vs H RI) 6 := ⟨⟩
instance : Grp (kIZ K vs H RI) 149 := ⟨⟩
instance : Grp (kIV K vs H RI) 6 := ⟨⟩
instance : Grp (kIV K vs H RI) 150 := ⟨⟩
instance : Grp (kIK x H RI) 6 := ⟨⟩
instance : Grp (kIK x H RI) 151 := ⟨⟩
instance : Grp (kIVa x H RI) 6 := ⟨⟩
instance : Grp (kIVa x H RI) 152 := ⟨⟩
instance : Grp (kIR1 vs H RI) 6 := ⟨⟩
instance : Grp (kIR1 vs H RI) 153 := ⟨⟩
instance : Grp (kIR2 vs H RI) 6 := ⟨⟩
instance : Grp (kIR2 vs H RI) 154 := ⟨⟩
instance : Grp (kW J g ts nx rt bk ct σ H) 6 := ⟨⟩
instance : Grp (kW J g ts nx rt bk ct σ H) 155 := ⟨⟩
instance : Grp (kLW J g tt te ws σ Q H) 6 := ⟨⟩
instance : Grp (kLW J g tt te ws σ Q H) 156 := ⟨⟩
instance : Grp (kUnl d od u H q) 6 := ⟨⟩
instance : Grp (kUnl d od u H q) 157 := ⟨⟩
instance : Grp (kFld C f x H Q) 7 := ⟨⟩
instance : Grp (kFld C f x H Q) 158 := ⟨⟩
instance : Grp (kSto C f x y H q) 7 := ⟨⟩
instance : Grp (kSto C f x y H q) 159 := ⟨⟩
instance : Grp (kMt C f x H R) 7 := ⟨⟩
instance : Grp (kMt C f x H R) 160 := ⟨⟩
instance : Grp (kAugR C f x H RV) 7 := ⟨⟩
instance : Grp (kAugR C f x H RV) 161 := ⟨⟩
instance : Grp (kAugW C a f y H q) 7 := ⟨⟩
instance : Grp (kAugW C a f y H q) 162 := ⟨⟩
instance : Grp (rI Cn gg x y H Q) 8 := ⟨⟩
instance : Grp (rI Cn gg x y H Q) 163 := ⟨⟩
end
end Fl
/-! Fl: deep likeness of lists and tuples of plain things. -/
namespace Fl
open PySem PySem.Spec PyProof.Rows L2
/-- lists of whole numbers, of truths -/
class IntsL (xs : List V) (is : outParam (List Int)) : Prop where e : xs = is.map V.int
class BlsL (xs : List V) (bs : outParam (List Bool)) : Prop where e : xs = bs.map V.bl
instance ints0 : IntsL [] [] := ⟨rfl⟩
instance ints1 {i : Int} {xs : List V} {is : List Int} [q : IntsL xs is] : IntsL (.int i :: xs) (i :: is) := ⟨by rw [q.e]; rfl⟩
instance intsM {is : List Int} : IntsL (is.map V.int) is := ⟨rfl⟩
instance intsA {xs ys : List V} {is js : List Int} [q : IntsL xs is] [r : IntsL ys js] : IntsL (xs ++ ys) (is ++ js) := ⟨by rw [q.e, r.e, List.map_append]⟩
instance intsR {lo : Int} {n : Nat} : IntsL (rgV lo n) ((List.range n).map fun i => lo + (i : Nat)) := ⟨by unfold rgV; rw [List.map_map]; rfl⟩
instance bls0 : BlsL [] [] := ⟨rfl⟩
instance bls1 {i : Bool} {xs : List V} {is : List Bool} [q : BlsL xs is] : BlsL (.bl i :: xs) (i :: is) := ⟨by rw [q.e]; rfl⟩
instance blsM {is : List Bool} : BlsL (is.map V.bl) is := ⟨rfl⟩
instance blsA {xs ys : List V} {is js : List Bool} [q : BlsL xs is] [r : BlsL ys js] : BlsL (xs ++ ys) (is ++ js) := ⟨by rw [q.e, r.e, List.map_append]⟩
section
variable {K : PySem.W.Frag} {H : Hp} {Q : VK} {L l m : List Asrt} {p q : Addr} {xs ys : List V} {is js : List Int} {bs cs : List Bool}
theorem dps_int : ∀ {is : List Int}, DpAll K H (is.map V.int) (is.map PyData.int)
  | [] => .nil
  | i :: is => .cons (.int i) dps_int
theorem dps_bl : ∀ {is : List Bool}, DpAll K H (is.map V.bl) (is.map PyData.bool)
  | [] => .nil
  | i :: is => .cons (.bl i) dps_bl
theorem lay_int : ∀ {is : List Int}, PyData.canLayAll0 (is.map PyData.int) = true
  | [] => by simp [PyData.canLayAll0]
  | i :: is => by simp [PyData.canLayAll0, PyData.canLay0, lay_int]
theorem lay_bl : ∀ {is : List Bool}, PyData.canLayAll0 (is.map PyData.bool) = true
  | [] => by simp [PyData.canLayAll0]
  | i :: is => by simp [PyData.canLayAll0, PyData.canLay0, lay_bl]
theorem dep_int : ∀ {is : List Int}, PyData.depthAll (is.map PyData.int) = 0
  | [] => by simp [PyData.depthAll]
  | i :: is => by simp [PyData.depthAll, PyData.depth, dep_int]
theorem dep_bl : ∀ {is : List Bool}, PyData.depthAll (is.map PyData.bool) = 0
  | [] => by simp [PyData.depthAll]
  | i :: is => by simp [PyData.depthAll, PyData.depth, dep_bl]
theorem shL_int : SeqAt.shaped (.list (is.map PyData.int)) = true := by simp [SeqAt.shaped, PyData.canLay0, PyData.depth, lay_int, dep_int]
theorem shL_bl : SeqAt.shaped (.list (bs.map PyData.bool)) = true := by simp [SeqAt.shaped, PyData.canLay0, PyData.depth, lay_bl, dep_bl]
theorem shT_int : SeqAt.shaped (.tuple (is.map PyData.int)) = true := by simp [SeqAt.shaped, PyData.canLay0, PyData.depth, lay_int, dep_int]
theorem shT_bl : SeqAt.shaped (.tuple (bs.map PyData.bool)) = true := by simp [SeqAt.shaped, PyData.canLay0, PyData.depth, lay_bl, dep_bl]
theorem eqv_int : ∀ {is js : List Int}, PyData.eqvAll (is.map PyData.int) (js.map PyData.int) = decide (is = js)
  | [], [] => by simp [PyData.eqvAll]
  | [], j :: js => by simp [PyData.eqvAll]
  | i :: is, [] => by simp [PyData.eqvAll]
  | i :: is, j :: js => by
    simp only [List.map_cons, PyData.eqvAll, PyData.eqv, eqv_int (is := is) (js := js)]
    by_cases h : i = j <;> by_cases h2 : is = js <;> simp [h, h2]
theorem eqv_bl : ∀ {is js : List Bool}, PyData.eqvAll (is.map PyData.bool) (js.map PyData.bool) = decide (is = js)
  | [], [] => by simp [PyData.eqvAll]
  | [], j :: js => by simp [PyData.eqvAll]
  | i :: is, [] => by simp [PyData.eqvAll]
  | i :: is, j :: js => by
    simp only [List.map_cons, PyData.eqvAll, PyData.eqv, eqv_bl (is := is) (js := js)]
    by_cases h : i = j <;> by_cases h2 : is = js <;> simp [h, h2]
theorem r_eqLI [a : IntsL xs is] [b : IntsL ys js] (S : Star L H) (P : Pull (pt p (.lst xs)) L l) (P2 : Pull (pt q (.lst ys)) L m) (h : Q (.bl (decide (is = js))) H) : rEqD K (.ref p) (.ref q) H Q := by
  have e1 := (S.pull P).get (.head _); have e2 := (S.pull P2).get (.head _)
  rw [a.e] at e1; rw [b.e] at e2
  refine ⟨_, _, .lst (SqL.of e1) dps_int, .lst (SqL.of e2) dps_int, shL_int, shL_int, ?_⟩
  rw [PyData.eqv, eqv_int]; exact h
theorem r_neLI [a : IntsL xs is] [b : IntsL ys js] (S : Star L H) (P : Pull (pt p (.lst xs)) L l) (P2 : Pull (pt q (.lst ys)) L m) (h : Q (.bl (!decide (is = js))) H) : rNeD K (.ref p) (.ref q) H Q := by
  have e1 := (S.pull P).get (.head _); have e2 := (S.pull P2).get (.head _)
  rw [a.e] at e1; rw [b.e] at e2
  refine ⟨_, _, .lst (SqL.of e1) dps_int, .lst (SqL.of e2) dps_int, shL_int, shL_int, ?_⟩
  rw [PyData.eqv, eqv_int]; exact h
theorem r_eqLB [a : BlsL xs bs] [b : BlsL ys cs] (S : Star L H) (P : Pull (pt p (.lst xs)) L l) (P2 : Pull (pt q (.lst ys)) L m) (h : Q (.bl (decide (bs = cs))) H) : rEqD K (.ref p) (.ref q) H Q := by
  have e1 := (S.pull P).get (.head _); have e2 := (S.pull P2).get (.head _)
  rw [a.e] at e1; rw [b.e] at e2
  refine ⟨_, _, .lst (SqL.of e1) dps_bl, .lst (SqL.of e2) dps_bl, shL_bl, shL_bl, ?_⟩
  rw [PyData.eqv, eqv_bl]; exact h
theorem r_neLB [a : BlsL xs bs] [b : BlsL ys cs] (S : Star L H) (P : Pull (pt p (.lst xs)) L l) (P2 : Pull (pt q (.lst ys)) L m) (h : Q (.bl (!decide (bs = cs))) H) : rNeD K (.ref p) (.ref q) H Q := by
  have e1 := (S.pull P).get (.head _); have e2 := (S.pull P2).get (.head _)
  rw [a.e] at e1; rw [b.e] at e2
  refine ⟨_, _, .lst (SqL.of e1) dps_bl, .lst (SqL.of e2) dps_bl, shL_bl, shL_bl, ?_⟩
  rw [PyData.eqv, eqv_bl]; exact h
theorem r_eqTI [a : IntsL xs is] [b : IntsL ys js] (S : Star L H) (P : Pull (pt p (.tup xs)) L l) (P2 : Pull (pt q (.tup ys)) L m) (h : Q (.bl (decide (is = js))) H) : rEqD K (.ref p) (.ref q) H Q := by
  have e1 := (S.pull P).get (.head _); have e2 := (S.pull P2).get (.head _)
  rw [a.e] at e1; rw [b.e] at e2
  refine ⟨_, _, .tup (SqT.of e1) dps_int, .tup (SqT.of e2) dps_int, shT_int, shT_int, ?_⟩
  rw [PyData.eqv, eqv_int]; exact h
theorem r_neTI [a : IntsL xs is] [b : IntsL ys js] (S : Star L H) (P : Pull (pt p (.tup xs)) L l) (P2 : Pull (pt q (.tup ys)) L m) (h : Q (.bl (!decide (is = js))) H) : rNeD K (.ref p) (.ref q) H Q := by
  have e1 := (S.pull P).get (.head _); have e2 := (S.pull P2).get (.head _)
  rw [a.e] at e1; rw [b.e] at e2
  refine ⟨_, _, .tup (SqT.of e1) dps_int, .tup (SqT.of e2) dps_int, shT_int, shT_int, ?_⟩
  rw [PyData.eqv, eqv_int]; exact h
theorem r_catI [a : IntsL xs is] [b : IntsL ys js] (S : Star L H) (P : Pull (pt p (.lst xs)) L l) (P2 : Pull (pt q (.lst ys)) L m) (z : xs.length + ys.length ≤ 100000) (h : ∀ r H', Star (pt r (.lst ((is ++ js).map V.int)) :: L) H' → Q (.ref r) H') : rCat (.ref p) (.ref q) H Q := by
  have e1 := a.e; have e2 := b.e
  refine r_cat S P P2 ?_ fun r H' S' => h r H' ?_
  · exact Evl.sz_of z
  · rw [List.map_append, ← e1, ← e2]; exact S'
theorem r_appendI {i : Int} (S : Star L H) (P : Pull (pt p (.lst (is.map V.int))) L l) (z : is.length < 100000) (h : ∀ H', Star (pt p (.lst ((is ++ [i]).map V.int)) :: l) H' → Q .non H') : rAppend (.ref p) [.int i] H Q :=
  r_append S P (Evl.sz_lt (by rw [List.length_map]; exact z)) (by rw [List.map_append]; rfl) h
theorem r_slI {lo hi : Option Int} (S : Star L H) (P : Pull (pt p (.lst (is.map V.int))) L l) (h : ∀ q H', Star (pt q (.lst ((cutI is lo hi).map V.int)) :: L) H' → Q (.ref q) H') : rSlL K (.ref p) lo hi H Q :=
  r_slL S P fun q H' S' => h q H' (by rw [← cutV_map]; exact S')
theorem r_setI {i j : Int} {k : Nat} {w : Hp → Prop} (S : Star L H) (P : Pull (pt p (.lst (is.map V.int))) L l) (e : ixN is.length i = some k) (h : ∀ H', Star (pt p (.lst ((is.set k j).map V.int)) :: l) H' → w H') : rSetL (.ref p) (.int i) (.int j) H w := r_setM S P e h
/-! comprehensions over plain things -/
variable {α : Type} {σ σ' : L2.St} {ws : List Nat} {D : Addr} {gN : TG} {tt : TT} {te : TE} {G : Hp → Prop}
theorem cl_map0 {f g : α → V} (hs : ∀ x : α, ∀ acc H, acc.length < 100000 → Star (pt D (.lst acc) :: l) H → ∀ N : Hp → Prop, (∀ H', Star (pt D (.lst (acc ++ [g x])) :: l) H' → N H') → G H ∧ gN (f x) σ' H fun σ2 H2 => wipe σ2 ws = σ' ∧ tt σ2 H2 fun b H3 => if b = true then te σ2 H3 fun y H4 => kApp D y H4 N else N H3)
    : ∀ (xs : List α) (acc : List V) (H : Hp), acc.length + xs.length ≤ 100000 → Star (pt D (.lst acc) :: l) H → (∀ H', Star (pt D (.lst (acc ++ xs.map g)) :: l) H' → G H' ∧ Q (.ref D) H') → kCl G yId gN tt te σ σ' ws D Q (xs.map f) H
  | [], acc, H, z, S, h0 => by
    rw [List.map_nil, List.append_nil] at h0
    exact h0 H S
  | x :: xs, acc, H, z, S, h0 => by
    rw [List.length_cons] at z
    have q := hs x acc H (by omega) S _ fun H' S' => cl_map0 hs xs (acc ++ [g x]) H' (by simp; omega) S' fun H'' S'' => h0 H'' (by rw [List.append_assoc] at S''; exact S'')
    exact ⟨q.1, fun v H' ⟨e, e'⟩ => by subst e e'; exact q.2⟩
theorem cl_map {f g : α → V} {xs : List α} (S : Star (pt D (.lst []) :: l) H) (z : xs.length ≤ 100000) (hs : ∀ x : α, ∀ acc H, acc.length < 100000 → Star (pt D (.lst acc) :: l) H → ∀ N : Hp → Prop, (∀ H', Star (pt D (.lst (acc ++ [g x])) :: l) H' → N H') → G H ∧ gN (f x) σ' H fun σ2 H2 => wipe σ2 ws = σ' ∧ tt σ2 H2 fun b H3 => if b = true then te σ2 H3 fun y H4 => kApp D y H4 N else N H3)
    (h0 : ∀ H', Star (pt D (.lst (xs.map g)) :: l) H' → G H' ∧ Q (.ref D) H') : kCl G yId gN tt te σ σ' ws D Q (xs.map f) H :=
  cl_map0 hs xs [] H (by simpa using z) S h0
theorem drop_inv {xs r : List α} {i : Nat} {x : α} (e : x :: r = xs.drop i) : xs[i]? = some x ∧ r = xs.drop (i + 1) ∧ i < xs.length := by
  have hi : i < xs.length := by
    rcases Nat.lt_or_ge i xs.length with h | h
    · exact h
    · rw [List.drop_eq_nil_of_le h] at e; cases e
  rw [List.drop_eq_getElem_cons hi] at e
  injection e with e1 e2
  exact ⟨by rw [List.getElem?_eq_getElem hi, e1], e2, hi⟩
/-! what kind a thing is -/
theorem isi_at {x : V} {T C : String} {c : Bool} (t : TyX K H x (.type T)) (k : kitB T C = some c) (q : Q (.bl c) H) : rIsi K [x, .ty C] H Q := r_isi t k q
theorem isi_lst {C : String} {c : Bool} (S : Star L H) (P : Pull (pt p (.lst xs)) L l) (k : kitB "list" C = some c) (h : Q (.bl c) H) : rIsi K [.ref p, .ty C] H Q := r_isi (.base (.lst ((S.pull P).get (.head _)))) k h
theorem isi_tup {C : String} {c : Bool} (S : Star L H) (P : Pull (pt p (.tup xs)) L l) (k : kitB "tuple" C = some c) (h : Q (.bl c) H) : rIsi K [.ref p, .ty C] H Q := r_isi (.base (.tup ((S.pull P).get (.head _)))) k h
theorem isi_dK {kvs : Dk} {C : String} {c : Bool} (S : Star L H) (P : Pull (pt p (.dK kvs)) L l) (k : kitB "dict" C = some c) (h : Q (.bl c) H) : rIsi K [.ref p, .ty C] H Q := r_isi (.base (.dK ((S.pull P).get (.head _)))) k h
variable {x y : V}
instance : Grp (rEqD K x y H Q) 9 := ⟨⟩
instance : Grp (rEqD K x y H Q) 165 := ⟨⟩
instance : Grp (rNeD K x y H Q) 9 := ⟨⟩
instance : Grp (rNeD K x y H Q) 166 := ⟨⟩
instance : Grp (rIsi K xs H Q) 9 := ⟨⟩
instance : Grp (rIsi K xs H Q) 167 := ⟨⟩
end
end Fl
/-! Fl: errors raised, caught, asked what they are. -/
namespace Fl
open PySem PySem.Spec PyProof.Rows L2
def kWE (W : WX) (σ : L2.St) : XK := fun cls d H => W cls d σ H
theorem passW {X : Cx} {W : WX} (tk : Takes X W) (σ : L2.St) : PassesAt (L2.CX X.prog X.w) X σ (kWE W σ) := passAt tk σ
def tRaise (W : WX) (C : Addr) : TS := fun _ σ H => W (.ref C) none σ H
section
variable {X : Cx} {W Wout : WX} {C D : Addr} {bmB : List Value} {B newId initId : String} {x m n : Str} {j i : Nat} {p p2 pos pos' np : Pos} {c : Value} {body suite : List Stmt} {b₀ : Stmt} {tb : WX → TS} {ts : Addr → Value → Option Addr → TS}
theorem ps_raiseC (hc : X.calm = true) (tk : Takes X W) (F : ExcBaseFacts B newId initId bmB) (q : PySem.W.excIn X.K C bmB newId = true) (gC : X.mg x = some (.ref C)) (kC : PySem.W.keepIn X.K (.ref C) = true) (r : Raises X (.ref C)) (hg : Gl X x)
    (hdb : (x == ("__debug__" : Str)) = false := by decide) : PS X (.Raise (some (.Call (.Name x p) [.Constant (.str m) j p2] [] pos)) none pos') (tRaise W C) := ps_raise hc tk (pmk_own F q gC kC r hg hdb)
def tTryAs (K : PySem.W.Frag) (c : Value) (i : Nat) (tb : WX → TS) (ts : Addr → Value → Option Addr → TS) (Wout : WX) : TS := fun D σ H => tb (wAs K c i ts Wout D) D σ H
def tTryOn (K : PySem.W.Frag) (c : Value) (tb : WX → TS) (ts : Addr → Value → Option Addr → TS) (Wout : WX) : TS := fun D σ H => tb (wOnly K c ts Wout D) D σ H
theorem ps_tryAs {K : PySem.W.Frag} (eK : X.K = K) (hs : X.stack = X.env :: X.outer) (hf : X.env.frame = some X.env.locals) (hN : X.N.Nodup) (hi : X.N[i]? = some n) (hln : X.env.kindOf n = some .local) (hc : Names X x c) (tk : Takes X Wout)
    (hb : ∀ (W : WX) (pn : List (Addr × Obj)) (xe : Value → Shared → Prop), Takes (X.tr pn xe) W → PassesOwn (model X.prog X.w) X.A X.env xe → PSs (X.tr pn xe) body (tb W))
    (hsu : ∀ (a : Addr) (oe : Obj) (cls : Value) (d : Option Addr) (pn : List (Addr × Obj)), Zc cls d oe → (∃ vs, oe.data = .fields vs) → PSs (X.suite a ((a, oe) :: pn)) (b₀ :: suite) (ts a cls d)) :
    PS X (.Try body [.ExceptHandler (some (.Name x np)) (some n) (b₀ :: suite) pos'] [] [] pos) (tTryAs K c i tb ts Wout) := by subst eK; exact ps_try_as hs hf hN hi hln hc tk hb hsu
theorem ps_tryOn {K : PySem.W.Frag} (eK : X.K = K) (hs : X.stack = X.env :: X.outer) (hf : X.env.frame = some X.env.locals) (hc : Names X x c) (tk : Takes X Wout)
    (hb : ∀ (W : WX) (pn : List (Addr × Obj)) (xe : Value → Shared → Prop), Takes (X.tr pn xe) W → PassesOwn (model X.prog X.w) X.A X.env xe → PSs (X.tr pn xe) body (tb W))
    (hsu : ∀ (a : Addr) (oe : Obj) (cls : Value) (d : Option Addr) (pn : List (Addr × Obj)), Zc cls d oe → (∃ vs, oe.data = .fields vs) → PSs (X.suite a ((a, oe) :: pn)) (b₀ :: suite) (ts a cls d)) :
    PS X (.Try body [.ExceptHandler (some (.Name x np)) none (b₀ :: suite) pos'] [] [] pos) (tTryOn K c tb ts Wout) := by subst eK; exact ps_try_only hs hf hc tk hb hsu
def tTryMany (K : PySem.W.Frag) (tb : WX → TS) (hl : List (Value × (Addr → Value → Option Addr → TS))) (Wout : WX) : TS := fun D σ H => tb (wMany K Wout D hl) D σ H
theorem ps_tryMany {K : PySem.W.Frag} {h₀ : ExceptHandler} {hds : List ExceptHandler} {hl : List (Value × (Addr → Value → Option Addr → TS))} (eK : X.K = K) (hs : X.stack = X.env :: X.outer) (hf : X.env.frame = some X.env.locals) (tk : Takes X Wout)
    (hb : ∀ (W : WX) (pn : List (Addr × Obj)) (xe : Value → Shared → Prop), Takes (X.tr pn xe) W → PassesOwn (model X.prog X.w) X.A X.env xe → PSs (X.tr pn xe) body (tb W))
    (hh : HdsOk X (h₀ :: hds) hl) : PS X (.Try body (h₀ :: hds) [] [] pos) (tTryMany K tb hl Wout) := by subst eK; exact ps_try_many hs hf tk hb hh
end
/-! the steps -/
section
variable {K : PySem.W.Frag} {W Wout : WX} {C D a p : Addr} {σ σ' : L2.St} {H : Hp} {Q : VK} {c cls cv t : Value} {d : Option Addr} {i : Nat} {tb : WX → TS} {ts : Addr → Value → Option Addr → TS} {nx bk ct q : L2.St → Hp → Prop} {rt : VK} {D0 : Ends} {b b' : Bool} {L l : List Asrt} {cs xs : List V} {us : List Value}
theorem r_raise (h : W (.ref C) none σ H) : tRaise W C D0 σ H := h
instance i_r_raise : Stp (tRaise W C D0 σ H) (W (.ref C) none σ H) := ⟨r_raise⟩
instance i_r_we : Stp (kWE W σ cls d H) (W cls d σ H) := ⟨fun h => h⟩
theorem r_tryAs (h : tb (wAs K c i ts Wout ⟨nx, rt, bk, ct⟩) ⟨nx, rt, bk, ct⟩ σ H) : tTryAs K c i tb ts Wout ⟨nx, rt, bk, ct⟩ σ H := h
instance i_r_tryAs : Stp (tTryAs K c i tb ts Wout ⟨nx, rt, bk, ct⟩ σ H) (tb (wAs K c i ts Wout ⟨nx, rt, bk, ct⟩) ⟨nx, rt, bk, ct⟩ σ H) := ⟨r_tryAs⟩
theorem r_tryOn (h : tb (wOnly K c ts Wout ⟨nx, rt, bk, ct⟩) ⟨nx, rt, bk, ct⟩ σ H) : tTryOn K c tb ts Wout ⟨nx, rt, bk, ct⟩ σ H := h
instance i_r_tryOn : Stp (tTryOn K c tb ts Wout ⟨nx, rt, bk, ct⟩ σ H) (tb (wOnly K c ts Wout ⟨nx, rt, bk, ct⟩) ⟨nx, rt, bk, ct⟩ σ H) := ⟨r_tryOn⟩
class Exm (K : PySem.W.Frag) (cls c : Value) (b : outParam Bool) : Prop where e : PySem.W.exmOne K cls c = some b
def cl1 (i : Nat) (q : L2.St → Hp → Prop) : L2.St → Hp → Prop := fun σ H => q (σ.set i none) H
class SClr (σ : L2.St) (i : Nat) (σ' : outParam L2.St) : Prop where e : σ.set i none = σ'
instance j_clr0 {σ : L2.St} {x : Option V} : SClr (x :: σ) 0 (none :: σ) := ⟨rfl⟩
instance j_clr1 {σ σ' : L2.St} {x : Option V} {i : Nat} [q : SClr σ i σ'] : SClr (x :: σ) (i + 1) (x :: σ') := ⟨by rw [List.set_cons_succ, q.e]⟩
instance i_clr [w : SClr σ i σ'] : Stp (cl1 i q σ H) (q σ' H) := ⟨fun h => by unfold cl1; rw [w.e]; exact h⟩
class SSetA (σ : L2.St) (i : Nat) (σ' : outParam (Addr → L2.St)) : Prop where e : ∀ a, σ.set i (some (.ref a)) = σ' a
theorem r_catch [w : Exm K cls c true] (h : ∀ a σ', σ.set i (some (.ref a)) = σ' → ts a cls d ⟨cl1 i nx, rt, cl1 i bk, cl1 i ct⟩ σ' H) : wAs K c i ts Wout ⟨nx, rt, bk, ct⟩ cls d σ H :=
  ⟨true, w.e, fun _ a _ => h a _ rfl, fun z => absurd z.symm Bool.false_ne_true⟩
theorem r_nocatch [w : Exm K cls c false] (h : Wout cls d σ H) : wAs K c i ts Wout ⟨nx, rt, bk, ct⟩ cls d σ H := ⟨false, w.e, fun z => absurd z Bool.false_ne_true, fun _ => h⟩
theorem r_catchOn [w : Exm K cls c true] (h : ∀ a, ts a cls d ⟨nx, rt, bk, ct⟩ σ H) : wOnly K c ts Wout ⟨nx, rt, bk, ct⟩ cls d σ H := ⟨true, w.e, fun _ a _ => h a, fun z => absurd z.symm Bool.false_ne_true⟩
theorem r_nocatchOn [w : Exm K cls c false] (h : Wout cls d σ H) : wOnly K c ts Wout ⟨nx, rt, bk, ct⟩ cls d σ H := ⟨false, w.e, fun z => absurd z Bool.false_ne_true, fun _ => h⟩
instance i_nocatch [w : Exm K cls c false] : Stp (wAs K c i ts Wout ⟨nx, rt, bk, ct⟩ cls d σ H) (Wout cls d σ H) := ⟨r_nocatch⟩
instance i_nocatchOn [w : Exm K cls c false] : Stp (wOnly K c ts Wout ⟨nx, rt, bk, ct⟩ cls d σ H) (Wout cls d σ H) := ⟨r_nocatchOn⟩
variable {hl : List (Value × (Addr → Value → Option Addr → TS))}
theorem r_tryMany (h : tb (wMany K Wout ⟨nx, rt, bk, ct⟩ hl) ⟨nx, rt, bk, ct⟩ σ H) : tTryMany K tb hl Wout ⟨nx, rt, bk, ct⟩ σ H := h
instance i_r_tryMany : Stp (tTryMany K tb hl Wout ⟨nx, rt, bk, ct⟩ σ H) (tb (wMany K Wout ⟨nx, rt, bk, ct⟩ hl) ⟨nx, rt, bk, ct⟩ σ H) := ⟨r_tryMany⟩
theorem r_catchM [w : Exm K cls c true] (h : ∀ a, ts a cls d D0 σ H) : wMany K Wout D0 ((c, ts) :: hl) cls d σ H := ⟨true, w.e, fun _ a _ => h a, fun z => absurd z.symm Bool.false_ne_true⟩
instance i_noM [w : Exm K cls c false] : Stp (wMany K Wout D0 ((c, ts) :: hl) cls d σ H) (wMany K Wout D0 hl cls d σ H) := ⟨fun h => ⟨false, w.e, fun z => absurd z Bool.false_ne_true, fun _ => h⟩⟩
instance i_nilM : Stp (wMany K Wout D0 [] cls d σ H) (Wout cls d σ H) := ⟨fun h => h⟩
instance : Grp (wMany K Wout D0 hl cls d σ H) 10 := ⟨⟩
instance : Grp (wMany K Wout D0 hl cls d σ H) 195 := ⟨⟩
/-! isinstance of what was caught -/
class ExK (K : PySem.W.Frag) (D : Addr) : Prop where e : ExcC K D
class Ki (K : PySem.W.Frag) (t c : Value) (b : outParam Bool) : Prop where e : PySem.W.kitOne K t c = some b
class KiA (K : PySem.W.Frag) (t : Value) (cs : List V) (b : outParam Bool) : Prop where e : ∃ us, Paired ClsV cs us ∧ PySem.W.kitAny K t us = some b
instance kia0 : KiA K t [] false := ⟨[], .nil, rfl⟩
instance kia1 [w : Ki K t (.ref C) b] [w' : KiA K t cs b'] : KiA K t (.ref C :: cs) (b || b') := ⟨by
  obtain ⟨us, h, e⟩ := w'.e
  refine ⟨.ref C :: us, .cons (.own C) h, ?_⟩
  unfold PySem.W.kitAny
  rw [w.e]
  cases b with
  | true => rfl
  | false => exact e⟩
instance kia2 {T : String} [w : Ki K t (.type T) b] [w' : KiA K t cs b'] : KiA K t (.ty T :: cs) (b || b') := ⟨by
  obtain ⟨us, h, e⟩ := w'.e
  refine ⟨.type T :: us, .cons (.ty T) h, ?_⟩
  unfold PySem.W.kitAny
  rw [w.e]
  cases b with
  | true => rfl
  | false => exact e⟩
def rIsX (K : PySem.W.Frag) (cls : Value) (d : Option Addr) (a : Addr) : List V → Hp → VK → Prop := fun xs H Q => ∃ (D : Addr) (b : Bool), cls = .ref D ∧ d = none ∧ ExcC K D ∧
  ((∃ c u, xs = [.ref a, c] ∧ ClsV c u ∧ PySem.W.kitOne K (.ref D) u = some b) ∨ (∃ tp cs us, xs = [.ref a, .ref tp] ∧ H tp = some (.tup cs) ∧ Paired ClsV cs us ∧ PySem.W.kitAny K (.ref D) us = some b)) ∧ Q (.bl b) H
theorem callIsX {X : Cx} {oe : Obj} {pn : List (Addr × Obj)} (eK : X.K = K) (hz : Zc cls d oe) (hf : ∃ vs, oe.data = .fields vs) : CallR (X.suite a ((a, oe) :: pn)) (.builtin "isinstance") (rIsX K cls d a) := by
  subst eK
  intro pins s σ H xs us Q I r h
  obtain ⟨D, b, rfl, rfl, C, hh, q⟩ := h
  obtain ⟨hget, _⟩ := I.pin (a, oe) (List.mem_append.mpr (.inl List.mem_cons_self))
  obtain ⟨vs, hv⟩ := hf
  have J : PySem.W.InstAt s.heap a oe D none := by
    obtain ⟨oc, od, oda, osl⟩ := oe
    obtain ⟨h1, h2⟩ := hz
    dsimp only at h1 h2 hv
    subst h1 h2 hv
    exact ⟨hget, rfl, rfl, trivial⟩
  rcases hh with ⟨c, u, rfl, k, e⟩ | ⟨tp, cs, ws, rfl, hT, k, e⟩
  · obtain ⟨u1, u2, rfl, r1, r2⟩ := vals2 r
    cases r1
    have e2 := k.eq r2
    subst e2
    exact PySem.W.kia_one (PySem.W.handS_kitx_exc C.hg C.hk C.hs C.hd C.ha C.hn C.ht C.hm) I.kIn J e (fun z => nomatch z) fun tk => ⟨.bl b, H, I.kept (t' := tk) fun _ _ z => z, rfl, q⟩
  · obtain ⟨u1, u2, rfl, r1, r2⟩ := vals2 r
    cases r1
    cases (show u2 = Value.ref tp from r2)
    obtain ⟨_, its, rv, o, h1, h2, n, h3⟩ := (show ObjOk X.prog X.w H s.heap tp (.tup cs) from I.hok tp _ hT)
    have e3 := ClsV.all k rv
    subst e3
    obtain ⟨oc, od, dt, sl⟩ := o
    simp only at h2 h3
    subst h2 h3
    exact PySem.W.kia_tup (PySem.W.handS_kitx_exc C.hg C.hk C.hs C.hd C.ha C.hn C.ht C.hm) I.kIn J h1 e (fun z => nomatch z) fun tk => ⟨.bl b, H, I.kept (t' := tk) fun _ _ z => z, rfl, q⟩
theorem r_isX [w : ExK K D] [k : Ki K (.ref D) (.ref C) b] (h : Q (.bl b) H) : rIsX K (.ref D) none a [.ref a, .ref C] H Q := ⟨D, b, rfl, rfl, w.e, .inl ⟨_, _, rfl, .own C, k.e⟩, h⟩
instance i_isX [w : ExK K D] [k : Ki K (.ref D) (.ref C) b] : Stp (rIsX K (.ref D) none a [.ref a, .ref C] H Q) (Q (.bl b) H) := ⟨r_isX⟩
theorem r_isXt {T : String} [w : ExK K D] [k : Ki K (.ref D) (.type T) b] (h : Q (.bl b) H) : rIsX K (.ref D) none a [.ref a, .ty T] H Q := ⟨D, b, rfl, rfl, w.e, .inl ⟨_, _, rfl, .ty T, k.e⟩, h⟩
instance i_isXt {T : String} [w : ExK K D] [k : Ki K (.ref D) (.type T) b] : Stp (rIsX K (.ref D) none a [.ref a, .ty T] H Q) (Q (.bl b) H) := ⟨r_isXt⟩
theorem r_isXT [w : ExK K D] [k : KiA K (.ref D) cs b] (S : Star L H) (P : Pull (pt p (.tup cs)) L l) (h : Q (.bl b) H) : rIsX K (.ref D) none a [.ref a, .ref p] H Q := by
  obtain ⟨us, k1, k2⟩ := k.e
  exact ⟨D, b, rfl, rfl, w.e, .inr ⟨p, cs, us, rfl, (S.pull P).get (.head _), k1, k2⟩, h⟩
instance : Grp (wAs K c i ts Wout D0 cls d σ H) 10 := ⟨⟩
instance : Grp (wAs K c i ts Wout D0 cls d σ H) 168 := ⟨⟩
instance : Grp (wOnly K c ts Wout D0 cls d σ H) 10 := ⟨⟩
instance : Grp (wOnly K c ts Wout D0 cls d σ H) 169 := ⟨⟩
instance : Grp (rIsX K cls d a xs H Q) 10 := ⟨⟩
instance : Grp (rIsX K cls d a xs H Q) 170 := ⟨⟩
end
end Fl
/-! Fl: loops over what is made by a map, by numbers; rows of owned things. -/
namespace Fl
open PySem PySem.Spec PyProof.Rows L2
theorem cutI_from {α : Type} {xs : List α} (k : Nat) : cutI xs (some (k : Int)) none = xs.drop k := by
  unfold cutI
  rw [HT.sIx_nat, HT.sIx_none, List.take_of_length_le (by simp)]
  rcases Nat.le_total k xs.length with h | h
  · rw [Nat.min_eq_left h]
  · rw [Nat.min_eq_right h, List.drop_eq_nil_of_le h, List.drop_eq_nil_of_le (Nat.le_refl _)]
theorem cutI_to {α : Type} {xs : List α} (k : Nat) : cutI xs none (some (k : Int)) = xs.take k := by
  unfold cutI
  rw [HT.sIx_nat, HT.sIx_none, List.drop_zero, Nat.sub_zero]
  rcases Nat.le_total k xs.length with h | h
  · rw [Nat.min_eq_left h]
  · rw [Nat.min_eq_right h, List.take_of_length_le h, List.take_of_length_le (Nat.le_refl _)]
theorem cutI_mid {α : Type} {xs : List α} (i j : Nat) : cutI xs (some (i : Int)) (some (j : Int)) = (xs.drop i).take (j - i) := by
  unfold cutI
  rw [HT.sIx_nat, HT.sIx_nat]
  rcases Nat.le_total i xs.length with h | h
  · rw [Nat.min_eq_left h]
    rcases Nat.le_total j xs.length with h2 | h2
    · rw [Nat.min_eq_left h2]
    · rw [Nat.min_eq_right h2, List.take_of_length_le (by simp), List.take_of_length_le (by simp; omega)]
  · rw [Nat.min_eq_right h, List.drop_eq_nil_of_le h, List.drop_eq_nil_of_le (Nat.le_refl _)]
    simp
section
variable {α β : Type} {K : PySem.W.Frag} {L l m : List Asrt} {σ σ' : L2.St} {H : Hp} {g : TG} {tb : TS} {tt : TT} {te tl : TE} {ta : TA} {nx bk ct : L2.St → Hp → Prop} {rt Q : VK} {a b d D p : Addr} {vs : List V} {ws : List Nat} {v : V} {G : Hp → Prop}
theorem fl_indM {f : α → V} (I : List α → L2.St → Hp → Prop) {xs : List α} (i : I xs σ H) (h0 : ∀ σ H, I [] σ H → G H ∧ nx σ H)
    (hs : ∀ x r σ H, I (x :: r) σ H → ∀ N : L2.St → Hp → Prop, (∀ σ' H', I r σ' H' → N σ' H') → G H ∧ g (f x) σ H fun σ2 H2 => tb ⟨N, rt, nx, N⟩ σ2 H2) : kFl G yId g tb nx rt (xs.map f) σ H := by
  refine fl_indI (fun vs σ H => ∃ xs, vs = xs.map f ∧ I xs σ H) ⟨xs, rfl, i⟩ ?_ ?_
  · rintro σ H ⟨xs, e, i⟩
    cases xs with
    | nil => exact h0 σ H i
    | cons x r => cases e
  · rintro v vs σ H ⟨xs, e, i⟩ N hN
    cases xs with
    | nil => cases e
    | cons x r =>
      rw [List.map_cons] at e
      injection e with e1 e2
      subst e1 e2
      exact hs x r σ H i N fun σ' H' i' => hN σ' H' ⟨r, rfl, i'⟩
theorem fl_indR (I : Nat → L2.St → Hp → Prop) {lo : Int} {n : Nat} (i : I 0 σ H) (h0 : ∀ σ H, I n σ H → G H ∧ nx σ H)
    (hs : ∀ k σ H, k < n → I k σ H → ∀ N : L2.St → Hp → Prop, (∀ σ' H', I (k + 1) σ' H' → N σ' H') → G H ∧ g (.int (lo + (k : Nat))) σ H fun σ2 H2 => tb ⟨N, rt, nx, N⟩ σ2 H2) : kFl G yId g tb nx rt (rgV lo n) σ H := by
  refine fl_indI (fun vs σ H => ∃ k m, k + m = n ∧ vs = rgV (lo + (k : Nat)) m ∧ I k σ H) ⟨0, n, by omega, by simp, i⟩ ?_ ?_
  · rintro σ H ⟨k, m, e, e2, i⟩
    cases m with
    | zero => obtain rfl : k = n := by omega
              exact h0 σ H i
    | succ m => rw [rgV_succ] at e2; cases e2
  · rintro v vs σ H ⟨k, m, e, e2, i⟩ N hN
    cases m with
    | zero => cases e2
    | succ m =>
      rw [rgV_succ] at e2
      injection e2 with e3 e4
      subst e3 e4
      exact hs k σ H (by omega) i N fun σ' H' i' => hN σ' H' ⟨k + 1, m, by omega, by congr 1; omega, i'⟩
theorem fl_indR0 (I : Nat → L2.St → Hp → Prop) {n : Nat} (i : I 0 σ H) (h0 : ∀ σ H, I n σ H → G H ∧ nx σ H)
    (hs : ∀ k σ H, k < n → I k σ H → ∀ N : L2.St → Hp → Prop, (∀ σ' H', I (k + 1) σ' H' → N σ' H') → G H ∧ g (.int (k : Nat)) σ H fun σ2 H2 => tb ⟨N, rt, nx, N⟩ σ2 H2) : kFl G yId g tb nx rt (rgV 0 n) σ H :=
  fl_indR I i h0 fun k σ H hk i N hN => by
    have := hs k σ H hk i N hN
    rw [Int.zero_add]; exact this
theorem fl_indE {f : α → V} (I : Nat → List α → L2.St → Hp → Prop) {xs : List α} (i : I 0 xs σ H) (h0 : ∀ k σ H, I k [] σ H → G H ∧ nx σ H)
    (hs : ∀ k x r σ H, I k (x :: r) σ H → ∀ N : L2.St → Hp → Prop, (∀ σ' H', I (k + 1) r σ' H' → N σ' H') → G H ∧ ∀ T H', (∀ l, Star l H → Star (pt T (.tup [.int (k : Nat), f x]) :: l) H') → g (.ref T) σ H' fun σ2 H2 => tb ⟨N, rt, nx, N⟩ σ2 H2) :
    kFl G yTup g tb nx rt (enums 0 (xs.map f)) σ H := by
  refine fl_indT (fun vs σ H => ∃ k xs, vs = enums k (xs.map f) ∧ I k xs σ H) ⟨0, xs, rfl, i⟩ ?_ ?_
  · rintro σ H ⟨k, xs, e, i⟩
    cases xs with
    | nil => exact h0 k σ H i
    | cons x r => cases e
  · rintro v vs σ H ⟨k, xs, e, i⟩ N hN
    cases xs with
    | nil => cases e
    | cons x r =>
      rw [List.map_cons] at e
      unfold enums at e
      injection e with e1 e2
      subst e1 e2
      have := hs k x r σ H i N fun σ' H' i' => hN σ' H' ⟨k + 1, r, rfl, i'⟩
      exact ⟨this.1, fun T hT => this.2 T _ fun l S => S.new hT⟩
theorem fl_indTM {f : α → List V} (I : List α → L2.St → Hp → Prop) {xs : List α} (i : I xs σ H) (h0 : ∀ σ H, I [] σ H → G H ∧ nx σ H)
    (hs : ∀ x r σ H, I (x :: r) σ H → ∀ N : L2.St → Hp → Prop, (∀ σ' H', I r σ' H' → N σ' H') → G H ∧ ∀ T H', (∀ l, Star l H → Star (pt T (.tup (f x)) :: l) H') → g (.ref T) σ H' fun σ2 H2 => tb ⟨N, rt, nx, N⟩ σ2 H2) :
    kFl G yTup g tb nx rt (xs.map f) σ H := by
  refine fl_indT (fun vs σ H => ∃ xs, vs = xs.map f ∧ I xs σ H) ⟨xs, rfl, i⟩ ?_ ?_
  · rintro σ H ⟨xs, e, i⟩
    cases xs with
    | nil => exact h0 σ H i
    | cons x r => cases e
  · rintro v vs σ H ⟨xs, e, i⟩ N hN
    cases xs with
    | nil => cases e
    | cons x r =>
      rw [List.map_cons] at e
      injection e with e1 e2
      subst e1 e2
      have := hs x r σ H i N fun σ' H' i' => hN σ' H' ⟨r, rfl, i'⟩
      exact ⟨this.1, fun T hT => this.2 T _ fun l S => S.new hT⟩
variable {gN : TG}
/-- a comprehension by what holds ahead of each turn, over a map -/
theorem cl_indM {f : α → V} (I : List α → Hp → Prop) {xs : List α} (i : I xs H) (h0 : ∀ H, I [] H → G H ∧ Q (.ref D) H)
    (hs : ∀ x r H, I (x :: r) H → ∀ N : Hp → Prop, (∀ H', I r H' → N H') → G H ∧ gN (f x) σ' H fun σ2 H2 => wipe σ2 ws = σ' ∧ tt σ2 H2 fun b H3 => if b = true then te σ2 H3 fun y H4 => kApp D y H4 N else N H3) : kCl G yId gN tt te σ σ' ws D Q (xs.map f) H := by
  refine cl_indI (fun vs H => ∃ xs, vs = xs.map f ∧ I xs H) ⟨xs, rfl, i⟩ ?_ ?_
  · rintro H ⟨xs, e, i⟩
    cases xs with
    | nil => exact h0 H i
    | cons x r => cases e
  · rintro v vs H ⟨xs, e, i⟩ N hN
    cases xs with
    | nil => cases e
    | cons x r =>
      rw [List.map_cons] at e
      injection e with e1 e2
      subst e1 e2
      exact hs x r H i N fun H' i' => hN H' ⟨r, rfl, i'⟩
theorem cl_rg {h : Nat → V} {n : Nat} (S : Star (pt D (.lst []) :: l) H) (z : n ≤ 100000) (hs : ∀ k, k < n → ∀ acc H, acc.length < 100000 → Star (pt D (.lst acc) :: l) H → ∀ N : Hp → Prop, (∀ H', Star (pt D (.lst (acc ++ [h k])) :: l) H' → N H') → G H ∧ gN (.int (k : Nat)) σ' H fun σ2 H2 => wipe σ2 ws = σ' ∧ tt σ2 H2 fun b H3 => if b = true then te σ2 H3 fun y H4 => kApp D y H4 N else N H3)
    (h0 : ∀ H', Star (pt D (.lst ((List.range n).map h)) :: l) H' → G H' ∧ Q (.ref D) H') : kCl G yId gN tt te σ σ' ws D Q (rgV 0 n) H := by
  refine cl_indI (fun vs H => ∃ k m, k + m = n ∧ vs = rgV (k : Nat) m ∧ Star (pt D (.lst ((List.range k).map h)) :: l) H) ⟨0, n, by omega, rfl, S⟩ ?_ ?_
  · rintro H ⟨k, m, e, e2, S⟩
    cases m with
    | zero =>
      obtain rfl : k = n := by omega
      exact h0 H S
    | succ m => rw [rgV_succ] at e2; cases e2
  · rintro v vs H ⟨k, m, e, e2, S⟩ N hN
    cases m with
    | zero => cases e2
    | succ m =>
      rw [rgV_succ] at e2
      injection e2 with e3 e4
      subst e3 e4
      exact hs k (by omega) _ H (by simp; omega) S N fun H' S' => hN H' ⟨k + 1, m, by omega, by congr 1, by rw [List.range_succ, List.map_append]; exact S'⟩
theorem cl_filt0 {f g : α → V} {c : α → Bool} {xs : List α} (hs : ∀ x, x ∈ xs → ∀ acc H, acc.length < 100000 → Star (pt D (.lst acc) :: l) H → ∀ N : Hp → Prop, (c x = true → ∀ H', Star (pt D (.lst (acc ++ [g x])) :: l) H' → N H') → (c x = false → ∀ H', Star (pt D (.lst acc) :: l) H' → N H') →
      G H ∧ gN (f x) σ' H fun σ2 H2 => wipe σ2 ws = σ' ∧ tt σ2 H2 fun b H3 => if b = true then te σ2 H3 fun y H4 => kApp D y H4 N else N H3)
    : ∀ (ys : List α) (acc : List V) (H : Hp), (∀ x ∈ ys, x ∈ xs) → acc.length + ys.length ≤ 100000 → Star (pt D (.lst acc) :: l) H → (∀ H', Star (pt D (.lst (acc ++ (ys.filter c).map g)) :: l) H' → G H' ∧ Q (.ref D) H') → kCl G yId gN tt te σ σ' ws D Q (ys.map f) H
  | [], acc, H, _, z, S, h0 => by
    rw [List.filter_nil, List.map_nil, List.append_nil] at h0
    exact h0 H S
  | x :: ys, acc, H, hm, z, S, h0 => by
    rw [List.length_cons] at z
    have q := hs x (hm x (.head _)) acc H (by omega) S (kCl G yId gN tt te σ σ' ws D Q (ys.map f))
      (fun hc H' S' => cl_filt0 hs ys (acc ++ [g x]) H' (fun y hy => hm y (.tail _ hy)) (by simp; omega) S' fun H'' S'' => h0 H'' (by rw [List.filter_cons_of_pos hc, List.map_cons]; rw [List.append_assoc] at S''; exact S''))
      (fun hc H' S' => cl_filt0 hs ys acc H' (fun y hy => hm y (.tail _ hy)) (by omega) S' fun H'' S'' => h0 H'' (by rw [List.filter_cons_of_neg (by rw [hc]; exact Bool.false_ne_true)]; exact S''))
    exact ⟨q.1, fun v H' ⟨e, e'⟩ => by subst e e'; exact q.2⟩
/-- [g(x) for x in xs if c(x)] -/
theorem cl_filt {f g : α → V} (c : α → Bool) {xs : List α} (S : Star (pt D (.lst []) :: l) H) (z : xs.length ≤ 100000)
    (hs : ∀ x, x ∈ xs → ∀ acc H, acc.length < 100000 → Star (pt D (.lst acc) :: l) H → ∀ N : Hp → Prop, (c x = true → ∀ H', Star (pt D (.lst (acc ++ [g x])) :: l) H' → N H') → (c x = false → ∀ H', Star (pt D (.lst acc) :: l) H' → N H') →
      G H ∧ gN (f x) σ' H fun σ2 H2 => wipe σ2 ws = σ' ∧ tt σ2 H2 fun b H3 => if b = true then te σ2 H3 fun y H4 => kApp D y H4 N else N H3)
    (h0 : ∀ H', Star (pt D (.lst ((xs.filter c).map g)) :: l) H' → G H' ∧ Q (.ref D) H') : kCl G yId gN tt te σ σ' ws D Q (xs.map f) H :=
  cl_filt0 hs xs [] H (fun _ h => h) (by simpa using z) S h0
end
/-! ### rows of owned things -/
section
variable {α : Type} {l m : List Asrt} {H : Hp}
/-- each of a row, apart -/
def sepL (B : α → Asrt) (xs : List α) : Asrt := Star (xs.map B)
theorem Star.perm : ∀ {l m : List Asrt}, l.Perm m → ∀ {H : Hp}, Star l H → Star m H := by
  intro l m p
  induction p with
  | nil => intro H S; exact S
  | cons x _ ih => intro H S; exact S.under fun _ S => ih S
  | swap x y l => intro H S; exact S.swap
  | trans _ _ ih1 ih2 => intro H S; exact ih2 (ih1 S)
theorem sepL_perm {B : α → Asrt} {xs ys : List α} (p : xs.Perm ys) (S : Star (sepL B xs :: l) H) : Star (sepL B ys :: l) H := S.hd fun _ S => S.perm (p.map B)
theorem sepL_nil {B : α → Asrt} (S : Star l H) : Star (sepL B [] :: l) H := S.free trivial
theorem sepL_cons {B : α → Asrt} {x : α} {xs : List α} (S : Star (B x :: sepL B xs :: l) H) : Star (sepL B (x :: xs) :: l) H :=
  Star.cl (k := B x :: xs.map B) (Star.under (fun _ S => Star.glue S) S) fun _ S => S
theorem sepL_unc {B : α → Asrt} {x : α} {xs : List α} (S : Star (sepL B (x :: xs) :: l) H) : Star (B x :: sepL B xs :: l) H :=
  (Star.op (k := B x :: xs.map B) S fun _ S => S).under fun _ S => Star.glue' S
theorem sepL_app {B : α → Asrt} {xs ys : List α} (S : Star (sepL B xs :: sepL B ys :: l) H) : Star (sepL B (xs ++ ys) :: l) H := by
  have S2 := Star.glue S
  have S3 : Star (sepL B ys :: (xs.map B ++ l)) H := S2.perm (List.perm_middle)
  have S4 := Star.glue S3
  refine Star.cl (k := (xs ++ ys).map B) (S4.perm ?_) fun _ S => S
  rw [List.map_append, ← List.append_assoc]
  exact (List.perm_append_comm).append_right l
theorem sepL_una {B : α → Asrt} {xs ys : List α} (S : Star (sepL B (xs ++ ys) :: l) H) : Star (sepL B xs :: sepL B ys :: l) H := by
  have S2 := Star.op (k := (xs ++ ys).map B) S fun _ S => S
  rw [List.map_append, List.append_assoc] at S2
  have S3 := Star.glue' S2
  exact S3.under fun _ S => Star.glue' S
theorem eraseIdx_perm {α : Type} : ∀ {xs : List α} {i : Nat} {x : α}, xs[i]? = some x → (x :: xs.eraseIdx i).Perm xs
  | y :: xs, 0, x, e => by
    cases e
    rw [List.eraseIdx_cons_zero]
  | y :: xs, i + 1, x, e => by
    rw [List.getElem?_cons_succ] at e
    rw [List.eraseIdx_cons_succ]
    exact (List.Perm.swap y x _).trans ((eraseIdx_perm e).cons y)
theorem eraseIdx_set {α : Type} : ∀ {xs : List α} {i : Nat} {y : α}, (xs.set i y).eraseIdx i = xs.eraseIdx i
  | [], _, _ => rfl
  | _ :: _, 0, _ => rfl
  | x :: xs, i + 1, y => by rw [List.set_cons_succ, List.eraseIdx_cons_succ, List.eraseIdx_cons_succ, eraseIdx_set]
/-- the one at a place, out and in -/
theorem sepL_out {B : α → Asrt} {xs : List α} {i : Nat} {x : α} (S : Star (sepL B xs :: l) H) (e : xs[i]? = some x) : Star (B x :: sepL B (xs.eraseIdx i) :: l) H := by
  exact sepL_unc (sepL_perm (eraseIdx_perm e).symm S)
theorem sepL_in {B : α → Asrt} {xs : List α} {i : Nat} {y : α} (hi : i < xs.length) (S : Star (B y :: sepL B (xs.eraseIdx i) :: l) H) : Star (sepL B (xs.set i y) :: l) H := by
  refine sepL_perm ?_ (sepL_cons S)
  rw [← eraseIdx_set (xs := xs) (i := i) (y := y)]
  exact eraseIdx_perm (by rw [List.getElem?_set_self hi])
end
end Fl
/-! Fl: dicts with whole keys: of whole numbers, of owned things. -/
namespace Fl
open PySem PySem.Spec PyProof.Rows L2
section
variable {β : Type}
def lkI (es : List (Int × β)) (n : Int) : Option β := (es.find? fun e => decide (e.1 = n)).map (·.2)
def putI (es : List (Int × β)) (n : Int) (x : β) : List (Int × β) := if (es.any fun e => decide (e.1 = n)) = true then es.map (fun e => if e.1 = n then (e.1, x) else e) else es ++ [(n, x)]
def dropI (es : List (Int × β)) (n : Int) : List (Int × β) := es.filter fun e => decide (e.1 ≠ n)
def keysI (es : List (Int × β)) : List Int := es.map (·.1)
theorem lkI_nil {n : Int} : lkI ([] : List (Int × β)) n = none := rfl
theorem lkI_cons {e : Int × β} {es : List (Int × β)} {n : Int} : lkI (e :: es) n = if e.1 = n then some e.2 else lkI es n := by
  unfold lkI
  rw [List.find?_cons]
  by_cases h : e.1 = n <;> simp [h]
theorem lkI_any {es : List (Int × β)} {n : Int} : (es.any fun e => decide (e.1 = n)) = (lkI es n).isSome := by
  induction es with
  | nil => rfl
  | cons e es ih =>
    rw [List.any_cons, ih, lkI_cons]
    by_cases h : e.1 = n <;> simp [h]
theorem lkI_mem {es : List (Int × β)} {n : Int} {x : β} (h : lkI es n = some x) : (n, x) ∈ es := by
  induction es with
  | nil => cases h
  | cons e es ih =>
    rw [lkI_cons] at h
    split at h
    · next q => cases h; subst q; exact .head _
    · exact .tail _ (ih h)
theorem lkI_none {es : List (Int × β)} {n : Int} : lkI es n = none ↔ n ∉ keysI es := by
  induction es with
  | nil => simp [lkI, keysI]
  | cons e es ih =>
    rw [lkI_cons]
    unfold keysI at ih ⊢
    rw [List.map_cons, List.mem_cons]
    split
    · next q => simp [q]
    · next q => rw [ih]; simp [Ne.symm q]
theorem lkI_some {es : List (Int × β)} {n : Int} (h : n ∈ keysI es) : ∃ x, lkI es n = some x := by
  cases e : lkI es n with
  | some x => exact ⟨x, rfl⟩
  | none => exact absurd h (lkI_none.mp e)
theorem mem_lkI {es : List (Int × β)} {n : Int} {x : β} (nd : (keysI es).Nodup) (h : (n, x) ∈ es) : lkI es n = some x := by
  induction es with
  | nil => cases h
  | cons e es ih =>
    unfold keysI at nd
    rw [List.map_cons, List.nodup_cons] at nd
    rw [lkI_cons]
    cases h with
    | head => simp
    | tail _ h =>
      have : e.1 ≠ n := fun q => nd.1 (q ▸ List.mem_map.mpr ⟨_, h, rfl⟩)
      rw [if_neg this]
      exact ih nd.2 h
theorem lkI_snoc {es : List (Int × β)} {n m : Int} {x : β} : lkI (es ++ [(n, x)]) m = (lkI es m).or (if n = m then some x else none) := by
  induction es with
  | nil => simp [lkI_cons, lkI_nil]
  | cons e es ih =>
    rw [List.cons_append, lkI_cons, lkI_cons, ih]
    split <;> simp
theorem lkI_map {es : List (Int × β)} {n m : Int} {x : β} : lkI (es.map fun e => if e.1 = n then (e.1, x) else e) m = if m = n then (lkI es m).map fun _ => x else lkI es m := by
  induction es with
  | nil => simp [lkI]
  | cons e es ih =>
    rw [List.map_cons, lkI_cons, lkI_cons, ih]
    by_cases h : e.1 = n
    · rw [if_pos h]
      by_cases h2 : e.1 = m
      · subst h2; simp [h]
      · rw [if_neg h2, if_neg h2]
    · rw [if_neg h]
      by_cases h2 : e.1 = m
      · subst h2; simp [h]
      · rw [if_neg h2, if_neg h2]
theorem lkI_put {es : List (Int × β)} {n m : Int} {x : β} : lkI (putI es n x) m = if m = n then some x else lkI es m := by
  unfold putI
  rw [lkI_any]
  split
  · next h =>
    rw [lkI_map]
    split
    · next q =>
      subst q
      cases e : lkI es m with
      | none => rw [e] at h; cases h
      | some y => rfl
    · rfl
  · next h =>
    rw [lkI_snoc]
    split
    · next q =>
      rw [if_pos q.symm, ← q]
      cases e : lkI es n with
      | none => simp
      | some y => rw [e] at h; exact absurd rfl h
    · next q => rw [if_neg (Ne.symm q)]; simp
theorem lkI_drop {es : List (Int × β)} {n m : Int} : lkI (dropI es n) m = if m = n then none else lkI es m := by
  induction es with
  | nil => unfold dropI lkI; simp
  | cons e es ih =>
    unfold dropI at ih ⊢
    by_cases h : e.1 = n
    · rw [List.filter_cons_of_neg (by simp [h]), ih, lkI_cons]
      by_cases h2 : m = n
      · rw [if_pos h2, if_pos h2]
      · rw [if_neg h2, if_neg h2, if_neg (fun q => h2 (q.symm.trans h))]
    · rw [List.filter_cons_of_pos (by simp [h]), lkI_cons, ih, lkI_cons]
      by_cases h2 : e.1 = m
      · rw [if_pos h2, if_pos h2, if_neg (fun q => h (h2.trans q))]
      · rw [if_neg h2, if_neg h2]
theorem keys_put {es : List (Int × β)} {n : Int} {x : β} : keysI (putI es n x) = if n ∈ keysI es then keysI es else keysI es ++ [n] := by
  unfold putI
  rw [lkI_any]
  by_cases h : n ∈ keysI es
  · obtain ⟨y, e⟩ := lkI_some h
    rw [if_pos (by rw [e]; rfl), if_pos h]
    unfold keysI
    rw [List.map_map]
    exact List.map_congr_left fun e _ => by
      show (if e.1 = n then (e.1, x) else e).1 = e.1
      split <;> rfl
  · rw [if_neg (by rw [lkI_none.mpr h]; exact Bool.false_ne_true), if_neg h]
    unfold keysI
    rw [List.map_append]; rfl
theorem nodup_put {es : List (Int × β)} {n : Int} {x : β} (h : (keysI es).Nodup) : (keysI (putI es n x)).Nodup := by
  rw [keys_put]
  split
  · exact h
  · next q => exact List.nodup_append.mpr ⟨h, by simp, fun a ha b hb e => by rw [List.mem_singleton] at hb; subst hb; subst e; exact q ha⟩
theorem keys_drop {es : List (Int × β)} {n : Int} : keysI (dropI es n) = (keysI es).filter fun k => decide (k ≠ n) := by
  unfold keysI dropI
  rw [List.filter_map]; rfl
theorem nodup_drop {es : List (Int × β)} {n : Int} (h : (keysI es).Nodup) : (keysI (dropI es n)).Nodup := by
  rw [keys_drop]; exact h.filter _
theorem len_put {es : List (Int × β)} {n : Int} {x : β} : (putI es n x).length ≤ es.length + 1 := by
  unfold putI; split <;> simp
theorem len_drop {es : List (Int × β)} {n : Int} : (dropI es n).length ≤ es.length := List.length_filter_le _ _
theorem mem_keys_put {es : List (Int × β)} {n m : Int} {x : β} : m ∈ keysI (putI es n x) ↔ m = n ∨ m ∈ keysI es := by
  rw [keys_put]
  split
  · next h => exact ⟨fun q => .inr q, fun q => q.elim (fun e => e ▸ h) id⟩
  · rw [List.mem_append, List.mem_singleton]; exact Or.comm
theorem mem_keys_drop {es : List (Int × β)} {n m : Int} : m ∈ keysI (dropI es n) ↔ m ≠ n ∧ m ∈ keysI es := by
  rw [keys_drop, List.mem_filter, decide_eq_true_eq]; exact And.comm
end
def optV : Option Int → V
  | none => .non
  | some i => .int i
theorem optV_e (o : Option Int) : optV o = (o.map V.int).getD .non := by cases o <;> rfl
theorem putI_putI {β : Type} {es : List (Int × β)} {n : Int} {x y : β} : putI (putI es n x) n y = putI es n y := by
  have e : ((putI es n x).any fun e => decide (e.1 = n)) = true := by rw [lkI_any, lkI_put, if_pos rfl]; rfl
  have e1 : putI (putI es n x) n y = (putI es n x).map fun e => if e.1 = n then (e.1, y) else e := if_pos e
  rw [e1]
  unfold putI
  split
  · rw [List.map_map]
    refine List.map_congr_left fun e _ => ?_
    show (if (if e.1 = n then (e.1, x) else e).1 = n then _ else _) = _
    by_cases h : e.1 = n
    · rw [if_pos h, if_pos h]; simp [h]
    · rw [if_neg h, if_neg h]; simp [h]
  · next h =>
    rw [List.map_append]
    have h2 : lkI es n = none := by rw [lkI_any] at h; simpa using h
    congr 1
    · refine (List.map_congr_left fun e he => ?_).trans (List.map_id _)
      have : e.1 ≠ n := fun q => lkI_none.mp h2 (q ▸ List.mem_map.mpr ⟨e, he, rfl⟩)
      rw [if_neg this]; rfl
    · simp
theorem dropI_putI {β : Type} {es : List (Int × β)} {n : Int} {x : β} : dropI (putI es n x) n = dropI es n := by
  unfold putI
  split
  · unfold dropI
    rw [List.filter_map]
    have : (es.filter ((fun c : Int × β => decide (c.1 ≠ n)) ∘ fun c => if c.1 = n then (c.1, x) else c)) = es.filter fun c => decide (c.1 ≠ n) := by
      refine List.filter_congr fun c _ => ?_
      show decide ((if c.1 = n then (c.1, x) else c).1 ≠ n) = decide (c.1 ≠ n)
      split <;> rfl
    rw [this]
    refine (List.map_congr_left fun c hc => ?_).trans (List.map_id _)
    have := (List.mem_filter.mp hc).2
    rw [decide_eq_true_eq] at this
    rw [if_neg this]; rfl
  · unfold dropI
    rw [List.filter_append]
    simp
/-! ### of whole numbers -/
def dmI (es : List (Int × Int)) : Dk := es.map fun e => (Sum.inl e.1, V.int e.2)
class DmI (kvs : Dk) (es : outParam (List (Int × Int))) : Prop where e : kvs = dmI es
instance dmI0 : DmI [] [] := ⟨rfl⟩
instance dmI1 {es : List (Int × Int)} : DmI (dmI es) es := ⟨rfl⟩
theorem dm_val {β : Type} {f : β → V} {es : List (Int × β)} {n : Int} : valV (es.map fun e => ((Sum.inl e.1 : Key), f e.2)) (Sum.inl n : Key) = (lkI es n).map f := by
  induction es with
  | nil => rfl
  | cons e es ih =>
    rw [List.map_cons, lkI_cons]
    by_cases h : e.1 = n
    · rw [valV_pos (by rw [h]), if_pos h]; rfl
    · rw [valV_neg (fun q => h (Sum.inl.inj q)), if_neg h, ih]
theorem dm_any {β : Type} {f : β → V} {es : List (Int × β)} {n : Int} : ((es.map fun e => ((Sum.inl e.1 : Key), f e.2)).any fun kv => decide (kv.1 = (Sum.inl n : Key))) = es.any fun e => decide (e.1 = n) := by
  rw [List.any_map]
  congr 1
  funext e
  show decide ((Sum.inl e.1 : Key) = Sum.inl n) = decide (e.1 = n)
  exact decide_eq_decide.mpr ⟨Sum.inl.inj, fun h => by rw [h]⟩
theorem dm_put {β : Type} {f : β → V} {es : List (Int × β)} {n : Int} {x : β} : putK (es.map fun e => ((Sum.inl e.1 : Key), f e.2)) (Sum.inl n : Key) (f x) = (putI es n x).map fun e => ((Sum.inl e.1 : Key), f e.2) := by
  unfold putK putI
  rw [dm_any]
  split
  · rw [List.map_map, List.map_map]
    refine List.map_congr_left fun e _ => ?_
    show (if (Sum.inl e.1 : Key) = Sum.inl n then _ else _) = _
    by_cases h : e.1 = n
    · simp [h]
    · rw [if_neg (fun q => h (Sum.inl.inj q))]; simp [h]
  · rw [List.map_append]; rfl
theorem dm_drop {β : Type} {f : β → V} {es : List (Int × β)} {n : Int} : dropK (es.map fun e => ((Sum.inl e.1 : Key), f e.2)) (Sum.inl n : Key) = (dropI es n).map fun e => ((Sum.inl e.1 : Key), f e.2) := by
  unfold dropK dropI
  rw [List.filter_map]
  congr 1
  refine List.filter_congr fun e _ => ?_
  show decide ((Sum.inl e.1 : Key) ≠ Sum.inl n) = decide (e.1 ≠ n)
  exact decide_eq_decide.mpr ⟨fun h q => h (by rw [q]), fun h q => h (Sum.inl.inj q)⟩
section
variable {K : PySem.W.Frag} {L l m : List Asrt} {H : Hp} {Q : VK} {d : Addr} {kvs : Dk} {es : List (Int × Int)} {n x : Int} {z : V} {w : Hp → Prop}
theorem r_inI [q : DmI kvs es] (S : Star L H) (P : Pull (pt d (.dK kvs)) L l) (h : Q (.bl (lkI es n).isSome) H) : kDIn (.int n) (.ref d) H Q := r_kDIn S P (by rw [q.e]; unfold dmI; rw [dm_val (f := V.int)]; simpa using h)
theorem r_notI [q : DmI kvs es] (S : Star L H) (P : Pull (pt d (.dK kvs)) L l) (h : Q (.bl (!(lkI es n).isSome)) H) : kDNot (.int n) (.ref d) H Q := r_kDNot S P (by rw [q.e]; unfold dmI; rw [dm_val (f := V.int)]; simpa using h)
theorem r_getI [q : DmI kvs es] (S : Star L H) (P : Pull (pt d (.dK kvs)) L l) (e : lkI es n = some x) (h : Q (.int x) H) : kDGet (.ref d) (.int n) H Q := r_kDGet S P (by rw [q.e]; unfold dmI; rw [dm_val (f := V.int), e]; rfl) h
class LkIc (es : List (Int × Int)) (n : Int) (x : outParam Int) : Prop where e : lkI es n = some x
instance lkic_put {es : List (Int × Int)} {n x : Int} : LkIc (putI es n x) n x := ⟨by rw [lkI_put, if_pos rfl]⟩
theorem r_getIc [q : DmI kvs es] [w : LkIc es n x] (S : Star L H) (P : Pull (pt d (.dK kvs)) L l) (h : Q (.int x) H) : kDGet (.ref d) (.int n) H Q := r_getI S P w.e h
theorem r_dgI [q : DmI kvs es] (S : Star L H) (P : Pull (pt d (.dK kvs)) L l) (h : Q (((lkI es n).map V.int).getD z) H) : kDg d (.int n) z H Q := r_kDg S P (by rw [q.e]; unfold dmI; rw [dm_val (f := V.int)]; exact h)
theorem r_dgO [q : DmI kvs es] (S : Star L H) (P : Pull (pt d (.dK kvs)) L l) (h : Q (optV (lkI es n)) H) : kDg d (.int n) .non H Q := r_dgI S P (by rw [← optV_e]; exact h)
theorem r_putI [q : DmI kvs es] (S : Star L H) (P : Pull (pt d (.dK kvs)) L l) (z : kvs.length < 100000) (h : ∀ H', Star (pt d (.dK (dmI (putI es n x))) :: l) H' → w H') : kDPut (.ref d) (.int n) (.int x) H w := by
  refine r_kDPut S P (Evl.sz_lt z) fun H' S' => h H' ?_
  have e := q.e
  subst e
  unfold dmI at S' ⊢
  rw [dm_put (f := V.int)] at S'
  exact S'
theorem r_popI [q : DmI kvs es] (S : Star L H) (P : Pull (pt d (.dK kvs)) L l) (e : lkI es n = some x) (h : ∀ H', Star (pt d (.dK (dmI (dropI es n))) :: l) H' → Q (.int x) H') : kDp1 d (.int n) H Q := by
  refine r_kDp1 (v := .int x) S P (by rw [q.e]; unfold dmI; rw [dm_val (f := V.int), e]; rfl) fun H' S' => h H' ?_
  have e := q.e
  subst e
  unfold dmI at S' ⊢
  rw [dm_drop (f := V.int)] at S'
  exact S'
theorem dmI_keys : (dmI es).map (·.1) = (keysI es).map Sum.inl := by
  unfold dmI keysI
  rw [List.map_map, List.map_map]; rfl
theorem r_sortedDI [q : DmI kvs es] (S : Star L H) (P : Pull (pt d (.dK kvs)) L l) (z : kvs.length < 64) (h : ∀ (ms : List Int) q H', ms.Perm (keysI es) → ms.Pairwise (· ≤ ·) → Star (pt q (.lst (ms.map V.int)) :: L) H' → Q (.ref q) H') : cSortedD [.ref d] H Q := by
  refine r_sortedD S P (ks := keysI es) (by rw [q.e]; exact dmI_keys) ?_ h
  have e := q.e
  subst e
  unfold keysI
  unfold dmI at z
  rw [List.length_map] at z ⊢
  exact z
theorem dmI_len : (dmI es).length = es.length := by unfold dmI; rw [List.length_map]
theorem r_lenDI [q : DmI kvs es] (S : Star L H) (P : Pull (pt d (.dK kvs)) L l) (h : Q (.int (es.length : Int)) H) : cLenD [.ref d] H Q := r_lenD S P (by rw [q.e, dmI_len]; exact h)
end
/-! ### of owned things -/
section
variable {β : Type} {A : β → V → Asrt} {K : PySem.W.Frag} {L l m : List Asrt} {H : Hp} {Q : VK} {d : Addr} {ns : List (Int × β)} {n : Int} {b b' : β} {v z : V} {w : Hp → Prop}
/-- what a dict's object holds -/
def dvs (cs : List (Int × β × V)) : Dk := cs.map fun c => (Sum.inl c.1, c.2.2)
def dss (cs : List (Int × β × V)) : List (Int × β) := cs.map fun c => (c.1, c.2.1)
def ownI (A : β → V → Asrt) (cs : List (Int × β × V)) : Asrt := sepL (fun c => A c.2.1 c.2.2) cs
def dictA (A : β → V → Asrt) (ns : List (Int × β)) (d : Addr) : Asrt := fun h => ∃ cs : List (Int × β × V), dss cs = ns ∧ (keysI ns).Nodup ∧ Star [pt d (.dK (dvs cs)), ownI A cs] h
/-- without the one at n, whose value is v -/
def dictF (A : β → V → Asrt) (ns : List (Int × β)) (n : Int) (v : V) (d : Addr) : Asrt := fun h => ∃ cs : List (Int × β × V), dss cs = ns ∧ (keysI ns).Nodup ∧ (∃ b, lkI cs n = some (b, v)) ∧ Star [pt d (.dK (dvs cs)), ownI A (dropI cs n)] h
theorem dss_keys {cs : List (Int × β × V)} : keysI (dss cs) = keysI cs := by unfold keysI dss; rw [List.map_map]; rfl
theorem dss_lk {cs : List (Int × β × V)} : lkI (dss cs) n = (lkI cs n).map (·.1) := by
  induction cs with
  | nil => rfl
  | cons c cs ih =>
    unfold dss at ih ⊢
    rw [List.map_cons, lkI_cons, lkI_cons, ih]
    split <;> rfl
theorem dvs_val {cs : List (Int × β × V)} : valV (dvs cs) (Sum.inl n : Key) = (lkI cs n).map (·.2) := dm_val (f := fun x : β × V => x.2)
theorem drop_perm : ∀ {cs : List (Int × β)}, (keysI cs).Nodup → lkI cs n = some b → ((n, b) :: dropI cs n).Perm cs
  | [], _, e => by cases e
  | c :: cs, nd, e => by
    unfold keysI at nd
    rw [List.map_cons, List.nodup_cons] at nd
    rw [lkI_cons] at e
    unfold dropI
    split at e
    · next q =>
      cases e
      subst q
      rw [List.filter_cons_of_neg (by simp)]
      have hf : (cs.filter fun e => decide (e.1 ≠ c.1)) = cs := List.filter_eq_self.mpr fun x hx => decide_eq_true (p := x.1 ≠ c.1) fun q => nd.1 (List.mem_map.mpr ⟨x, hx, q⟩)
      rw [hf]
    · next q =>
      rw [List.filter_cons_of_pos (by simp [q])]
      exact (List.Perm.swap c _ _).trans ((drop_perm (cs := cs) nd.2 e).cons c)
theorem dictA_open (S : Star (dictA A ns d :: l) H) : ∃ cs, dss cs = ns ∧ (keysI ns).Nodup ∧ Star (pt d (.dK (dvs cs)) :: ownI A cs :: l) H := by
  obtain ⟨h1, h2, dj, s1, s2, ⟨cs, e, nd, S1⟩, S2⟩ := S
  exact ⟨cs, e, nd, Star.glue (l := [_, _]) ⟨h1, h2, dj, s1, s2, S1, S2⟩⟩
theorem dictA_close {cs : List (Int × β × V)} (nd : (keysI (dss cs)).Nodup) (S : Star (pt d (.dK (dvs cs)) :: ownI A cs :: l) H) : Star (dictA A (dss cs) d :: l) H :=
  Star.cl (k := [_, _]) S fun h S => ⟨cs, rfl, nd, S⟩
theorem dictF_open (S : Star (dictF A ns n v d :: l) H) : ∃ cs, dss cs = ns ∧ (keysI ns).Nodup ∧ (∃ b, lkI cs n = some (b, v)) ∧ Star (pt d (.dK (dvs cs)) :: ownI A (dropI cs n) :: l) H := by
  obtain ⟨h1, h2, dj, s1, s2, ⟨cs, e, nd, hb, S1⟩, S2⟩ := S
  exact ⟨cs, e, nd, hb, Star.glue (l := [_, _]) ⟨h1, h2, dj, s1, s2, S1, S2⟩⟩
theorem dictA_new (S : Star (pt d (.dK []) :: l) H) : Star (dictA A [] d :: l) H := dictA_close (cs := []) List.nodup_nil (S.under fun _ S => sepL_nil S)
theorem dictA_newP {L : List Asrt} (S : Star L H) (P : Pull (pt d (.dK [])) L l) : Star (dictA A [] d :: l) H := dictA_new (S.pull P)
theorem own_out {cs : List (Int × β × V)} (nd : (keysI cs).Nodup) (e : lkI cs n = some (b, v)) (S : Star (ownI A cs :: l) H) : Star (A b v :: ownI A (dropI cs n) :: l) H :=
  sepL_unc (sepL_perm (drop_perm nd e).symm S)
theorem own_in {cs : List (Int × β × V)} (nd : (keysI cs).Nodup) {p : β × V} (e : lkI cs n = some p) (S : Star (A b v :: ownI A (dropI cs n) :: l) H) : Star (ownI A (putI cs n (b, v)) :: l) H := by
  have e2 : dropI (putI cs n (b, v)) n = dropI cs n := by
    unfold putI
    rw [lkI_any, e, if_pos (show (some p).isSome = true from rfl)]
    unfold dropI
    rw [List.filter_map]
    have : (cs.filter ((fun c : Int × β × V => decide (c.1 ≠ n)) ∘ fun c => if c.1 = n then (c.1, b, v) else c)) = cs.filter fun c => decide (c.1 ≠ n) := by
      refine List.filter_congr fun c _ => ?_
      show decide ((if c.1 = n then (c.1, b, v) else c).1 ≠ n) = decide (c.1 ≠ n)
      split <;> rfl
    rw [this]
    refine (List.map_congr_left fun c hc => ?_).trans (List.map_id _)
    have := (List.mem_filter.mp hc).2
    rw [decide_eq_true_eq] at this
    rw [if_neg this]; rfl
  refine sepL_perm (drop_perm (nodup_put nd) (n := n) (b := (b, v)) (by rw [lkI_put, if_pos rfl])) ?_
  rw [e2]
  exact sepL_cons S
theorem dss_put {cs : List (Int × β × V)} : dss (putI cs n (b, v)) = putI (dss cs) n b := by
  unfold putI
  rw [lkI_any, lkI_any, dss_lk, Option.isSome_map]
  split
  · unfold dss
    rw [List.map_map, List.map_map]
    refine List.map_congr_left fun c _ => ?_
    show ((if c.1 = n then (c.1, b, v) else c).1, (if c.1 = n then (c.1, b, v) else c).2.1) = if c.1 = n then (c.1, b) else (c.1, c.2.1)
    split <;> rfl
  · unfold dss; rw [List.map_append]; rfl
theorem dvs_put_same {cs : List (Int × β × V)} (nd : (keysI cs).Nodup) {b0 : β} (e : lkI cs n = some (b0, v)) : dvs (putI cs n (b, v)) = dvs cs := by
  unfold putI
  rw [lkI_any, e, if_pos (show (some (b0, v)).isSome = true from rfl)]
  unfold dvs
  rw [List.map_map]
  refine List.map_congr_left fun c hc => ?_
  show ((Sum.inl (if c.1 = n then (c.1, b, v) else c).1 : Key), (if c.1 = n then (c.1, b, v) else c).2.2) = (Sum.inl c.1, c.2.2)
  split
  · next q =>
    have := mem_lkI nd (n := c.1) (x := c.2) hc
    rw [q, e] at this
    rw [q, ← Option.some.inj this]
  · rfl
theorem dictA_out (S : Star (dictA A ns d :: l) H) (e : lkI ns n = some b) : ∃ v, Star (A b v :: dictF A ns n v d :: l) H ∧ ∃ kvs, H d = some (.dK kvs) ∧ valV kvs (Sum.inl n : Key) = some v := by
  obtain ⟨cs, rfl, nd, S⟩ := dictA_open S
  rw [dss_keys] at nd
  rw [dss_lk] at e
  cases e2 : lkI cs n with
  | none => rw [e2] at e; cases e
  | some p =>
    obtain ⟨b2, v⟩ := p
    rw [e2] at e
    obtain rfl : b2 = b := Option.some.inj e
    refine ⟨v, ?_, _, S.get (.head _), by rw [dvs_val, e2]; rfl⟩
    have S2 := Star.swap (S.under fun _ S => own_out nd e2 S)
    exact S2.under fun _ S => Star.cl (k := [_, _]) S fun h S => ⟨cs, rfl, by rw [dss_keys]; exact nd, ⟨_, e2⟩, S⟩
/-- changed, it is put back -/
theorem dictA_in (S : Star (A b v :: dictF A ns n v d :: l) H) : Star (dictA A (putI ns n b) d :: l) H := by
  obtain ⟨cs, rfl, nd, ⟨b0, e⟩, S⟩ := dictF_open S.swap
  rw [dss_keys] at nd
  have S2 := S.under fun _ S => own_in nd e S.swap
  rw [← dvs_put_same nd (b := b) e, ] at S2
  rw [← dss_put (v := v)]
  exact dictA_close (by rw [dss_keys]; exact nodup_put nd) S2
theorem putI_same {β : Type} {es : List (Int × β)} {n : Int} {x : β} (nd : (keysI es).Nodup) (e : lkI es n = some x) : putI es n x = es := by
  unfold putI
  rw [lkI_any, e, if_pos (show (some x).isSome = true from rfl)]
  refine (List.map_congr_left fun c hc => ?_).trans (List.map_id _)
  by_cases h : c.1 = n
  · have := mem_lkI nd (n := c.1) (x := c.2) hc
    rw [h, e] at this
    rw [if_pos h, Option.some.inj this]; rfl
  · rw [if_neg h]; rfl
theorem dropI_none {β : Type} {es : List (Int × β)} {n : Int} (e : lkI es n = none) : dropI es n = es :=
  List.filter_eq_self.mpr fun c hc => decide_eq_true (p := c.1 ≠ n) fun h => lkI_none.mp e (h ▸ List.mem_map.mpr ⟨c, hc, rfl⟩)
theorem dictA_back (S : Star L H) (P : Pull (A b v) L m) (P2 : Pull (dictF A ns n v d) m l) (e : lkI ns n = some b) : Star (dictA A ns d :: l) H := by
  have S1 := (S.pull P).under fun _ S => S.pull P2
  obtain ⟨cs, _, nd, _, _⟩ := dictF_open S1.swap
  have S2 := dictA_in S1
  rw [putI_same nd e] at S2
  exact S2
theorem sepL_mid {α : Type} {B : α → Asrt} {xs ys : List α} {x : α} (S : Star (sepL B (xs ++ x :: ys) :: l) H) : Star (B x :: sepL B (xs ++ ys) :: l) H := sepL_unc (sepL_perm List.perm_middle S)
theorem sepL_mid' {α : Type} {B : α → Asrt} {xs ys : List α} {x : α} (S : Star (B x :: sepL B (xs ++ ys) :: l) H) : Star (sepL B (xs ++ x :: ys) :: l) H := sepL_perm List.perm_middle.symm (sepL_cons S)
theorem dictA_inP (S : Star L H) (P : Pull (A b v) L m) (P2 : Pull (dictF A ns n v d) m l) : Star (dictA A (putI ns n b) d :: l) H := dictA_in ((S.pull P).under fun _ S => S.pull P2)
theorem dictA_cl {cs : List (Int × β × V)} (nd : (keysI (dss cs)).Nodup) (S : Star L H) (P : Pull (pt d (.dK (dvs cs))) L l) (P2 : Pull (ownI A cs) l m) : Star (dictA A (dss cs) d :: m) H := dictA_close nd ((S.pull P).under fun _ S => S.pull P2)
theorem sepL_midP {α : Type} {B : α → Asrt} {xs ys : List α} {x : α} (S : Star L H) (P : Pull (B x) L l) (P2 : Pull (sepL B (xs ++ ys)) l m) : Star (sepL B (xs ++ x :: ys) :: m) H := sepL_mid' ((S.pull P).under fun _ S => S.pull P2)
theorem r_inA (S : Star L H) (P : Pull (dictA A ns d) L l) (h : Q (.bl (lkI ns n).isSome) H) : kDIn (.int n) (.ref d) H Q := by
  obtain ⟨cs, rfl, nd, S⟩ := dictA_open (S.pull P)
  refine ⟨d, _, rfl, DGet.k (k := Sum.inl n) (S.get (.head _)), ?_⟩
  rw [dvs_val, Option.isSome_map]
  rw [dss_lk, Option.isSome_map] at h
  exact h
theorem r_notA (S : Star L H) (P : Pull (dictA A ns d) L l) (h : Q (.bl (!(lkI ns n).isSome)) H) : kDNot (.int n) (.ref d) H Q := by
  obtain ⟨cs, rfl, nd, S⟩ := dictA_open (S.pull P)
  refine ⟨d, _, rfl, DGet.k (k := Sum.inl n) (S.get (.head _)), ?_⟩
  rw [dvs_val, Option.isSome_map]
  rw [dss_lk, Option.isSome_map] at h
  exact h
theorem r_getA (S : Star L H) (P : Pull (dictA A ns d) L l) (e : lkI ns n = some b) (h : ∀ v, Star (A b v :: dictF A ns n v d :: l) H → Q v H) : kDGet (.ref d) (.int n) H Q := by
  obtain ⟨v, S2, kvs, e1, e2⟩ := dictA_out (S.pull P) e
  exact ⟨d, v, rfl, by rw [← e2]; exact DGet.k (k := Sum.inl n) e1, h v S2⟩
theorem r_isDA {R : Addr → Prop} (S : Star L H) (P : Pull (dictA A ns d) L l) (h : R d) : kIsD (.ref d) H R := by
  obtain ⟨cs, rfl, nd, S⟩ := dictA_open (S.pull P)
  exact ⟨d, rfl, .inl ⟨_, .inl (S.get (.head _))⟩, h⟩
theorem r_lenA (S : Star L H) (P : Pull (dictA A ns d) L l) (h : Q (.int (ns.length : Int)) H) : cLenD [.ref d] H Q := by
  obtain ⟨cs, rfl, nd, S⟩ := dictA_open (S.pull P)
  refine ⟨d, _, rfl, S.get (.head _), ?_⟩
  unfold dvs
  unfold dss at h
  rw [List.length_map] at h ⊢
  exact h
theorem dvs_keys {cs : List (Int × β × V)} : (dvs cs).map (·.1) = (keysI (dss cs)).map Sum.inl := by
  rw [dss_keys]
  unfold dvs keysI
  rw [List.map_map, List.map_map]; rfl
theorem r_sortedDA (S : Star L H) (P : Pull (dictA A ns d) L l) (z : ns.length < 64) (h : ∀ (ms : List Int) q H', ms.Perm (keysI ns) → ms.Pairwise (· ≤ ·) → Star (pt q (.lst (ms.map V.int)) :: L) H' → Q (.ref q) H') : cSortedD [.ref d] H Q := by
  obtain ⟨cs, e, nd, S2⟩ := dictA_open (S.pull P)
  refine ⟨d, _, keysI ns, rfl, .inl (S2.get (.head _)), by rw [← e]; exact dvs_keys, by unfold keysI; rw [List.length_map]; exact z, fun ms q pm pw n => h ms q _ pm pw (S.new n)⟩
/-- a new one is put in -/
theorem r_putA (S : Star L H) (P : Pull (A b v) L m) (P2 : Pull (dictA A ns d) m l) (e : lkI ns n = none) (z : ns.length < 100000) (h : ∀ H', Star (dictA A (putI ns n b) d :: l) H' → w H') : kDPut (.ref d) (.int n) v H w := by
  have S1 := (S.pull P).under fun _ S => S.pull P2
  obtain ⟨cs, rfl, nd, S2⟩ := dictA_open S1.swap
  rw [dss_keys] at nd
  have hl : (dss cs).length = cs.length := by unfold dss; rw [List.length_map]
  have hv : (dvs cs).length = cs.length := by unfold dvs; rw [List.length_map]
  rw [dss_lk] at e
  have e2 : lkI cs n = none := by
    cases q : lkI cs n with
    | none => rfl
    | some y => rw [q] at e; cases e
  refine ⟨d, _, rfl, DPut.k (k := Sum.inl n) (S2.get (.head _)) (Evl.sz_lt (by rw [hv, ← hl]; exact z)), h _ ?_⟩
  have S3 := S2.upd (u := .dK (putK (dvs cs) (Sum.inl n) v)) (fun ⟨_, q⟩ => nomatch q)
  have e3 : putK (dvs cs) (Sum.inl n) v = dvs (putI cs n (b, v)) := dm_put (f := fun x : β × V => x.2) (es := cs) (x := (b, v))
  have e4 : putI cs n (b, v) = cs ++ [(n, b, v)] := by unfold putI; rw [lkI_any, e2]; rfl
  rw [e3] at S3 ⊢
  rw [← dss_put (v := v)]
  refine dictA_close (by rw [dss_keys]; exact nodup_put nd) (S3.under fun _ S => ?_)
  rw [e4]
  exact sepL_app (S.under fun _ S => sepL_cons (S.under fun _ S => sepL_nil S))
/-- one is taken out -/
theorem r_popA (S : Star L H) (P : Pull (dictA A ns d) L l) (e : lkI ns n = some b) (h : ∀ v H', Star (dictA A (dropI ns n) d :: A b v :: l) H' → Q v H') : kDp1 d (.int n) H Q := by
  obtain ⟨cs, rfl, nd, S2⟩ := dictA_open (S.pull P)
  rw [dss_keys] at nd
  rw [dss_lk] at e
  cases e2 : lkI cs n with
  | none => rw [e2] at e; cases e
  | some p =>
    obtain ⟨b2, v⟩ := p
    rw [e2] at e
    obtain rfl : b2 = b := Option.some.inj e
    refine ⟨_, Sum.inl n, v, S2.get (.head _), rfl, by rw [dvs_val, e2]; rfl, h v _ ?_⟩
    have S3 := S2.upd (u := .dK (dropK (dvs cs) (Sum.inl n))) (fun ⟨_, q⟩ => nomatch q)
    have e3 : dropK (dvs cs) (Sum.inl n) = dvs (dropI cs n) := dm_drop (f := fun x : β × V => x.2) (es := cs)
    have e4 : dss (dropI cs n) = dropI (dss cs) n := by unfold dss dropI; rw [List.filter_map]; rfl
    rw [← e4, e3]
    rw [e3] at S3
    refine Star.swap ?_
    have S4 := Star.swap (S3.under fun _ S => own_out nd e2 S)
    exact S4.under fun _ S => dictA_close (by rw [dss_keys]; exact nodup_drop nd) S
end
section
variable {x y v z : V} {H : Hp} {Q : VK} {w : Hp → Prop} {d : Addr} {L l : List Asrt} {kvs : Dk} {n : Int}
/-- read while it is walked -/
theorem r_kDGetF {o : Obj} (S : Star L H) (P : Pull (pt d (.frz o (.dK kvs))) L l) (e : valV kvs (Sum.inl n : Key) = some v) (h : Q v H) : kDGet (.ref d) (.int n) H Q :=
  ⟨d, v, rfl, by rw [← e]; exact .inl ⟨kvs, Sum.inl n, .inr ⟨o, (S.pull P).get (.head _)⟩, rfl, rfl⟩, h⟩
end
end Fl
/-! Fl: a def read off its class: C.m(self, ..). -/
namespace Fl
open PySem PySem.Spec PyProof.Rows L2
section
variable {X : Cx} {CX : CXT} {k : Nat} {f C : Addr} {mc : Value} {fd : FuncData} {ps : List Str} {sp : Sp} {dvs : List V} {ds : List Value} {E : L2.St → XK} {m : Str} {pos apos : Pos} {e o : Expr} {es : List Expr} {ta : TE} {t : TA}
def kIsC (C : Addr) (x : V) (R : Prop) : Prop := x = .ref C ∧ R
def tCf (C : Addr) (sp : Sp) (dvs : List V) (E : L2.St → XK) (ta : TE) (t : TA) : TE := fun σ H Q => ta σ H fun x H1 => kIsC C x (t σ H1 fun vs H2 => kCall sp (vs ++ dvs) H2 Q (E σ))
theorem pe_cf {pl : Sem Bool} (he : PE X o ta) (r : ClX.CRead X.K C mc) (c : ClX.CVal X.K C mc m (.ref f) (.ref f)) (hk : PySem.W.keepIn X.K (.ref f) = true) (F : FnOk X.prog X.w X.K X.mg X.base CX k f fd ps sp) (hr : Room k X.A) (hb : Binds X.K fd ps ds) (hd : Vals dvs ds) (hx : ∀ σ, PassesAt CX X σ (E σ)) (ha : PA X (e :: es) t)
    (hst : starEach (e :: es) X.env = (false, eval e X.env) :: starEach es X.env := by rfl) (hpl : (backTo pos (starEach es X.env)).any (·.1) = false := by rfl)
    (ht : eval (.Call (.Attribute o m apos) (e :: es) [] pos) X.env = (do
      let ov ← eval o X.env
      standAt apos.atName
      let (f, first) ← holding [ov] (getMethod ov m pl)
      callWith pos f first (backTo pos (starEach (e :: es) X.env)) (backToKw pos (keywordEach [] X.env))) := by rfl) :
    PE X (.Call (.Attribute o m apos) (e :: es) [] pos) (tCf C sp dvs E ta t) := by
  refine ⟨fun pins s σ H Q I h => ?_⟩
  refine PySem.W.methodCall_KW (pl := pl) (thn (he.run pins s σ H _ I h) fun u s1 ⟨x, H1, I1, rx, ex, q⟩ => ?_) ht
  subst ex
  obtain rfl : u = Value.ref C := rx
  refine PySem.W.method_cls I1.kIn r.ga (ClX.getcval_ok I1 r c fun s2 I2 => ?_)
  refine PySem.W.callWith_K (first := []) (h₀ := X.base) I.ok.mod.kin hk (thn (ha.run pos pins s2 σ H1 _ I2 q) fun us s3 ⟨vs, H2, I3, rv, q2⟩ => ⟨I3.kIn, ?_⟩) hst hpl
  exact run_fnD F hr hb hd (hx σ) I3 rv q2
variable {H : Hp} {Q : VK} {σ : L2.St} {R R' : Prop} {tl : TA} {C' B a dx : Addr} {L l : List Asrt} {fs fs' : List (Str × V)} {v y : V} {tv : TE} {nx bk ct : L2.St → Hp → Prop} {rt : VK} {sp' : Sp} {w : Hp → Prop} {p : Addr} {is : List Int} {K : PySem.W.Frag}
/-- a promise by a number -/
def exSp (f : Nat → Sp) : Sp := fun vs H Q E => ∃ n, f n vs H Q E
theorem kCall_ex {f : Nat → Sp} {n : Nat} {vs : List V} {E : XK} (h : kCall (f n) vs H Q E) : kCall (exSp f) vs H Q E := ⟨n, h⟩
/-! one of two classes -/
instance i_r_fldC2 : Stp (tFldC2 C C' ta m σ H Q) (ta σ H fun x H1 => kFld2 C C' m x H1 Q) := ⟨fun h => h⟩
theorem r_fld2 [e : LkF fs m v] (S : Star L H) (P : Pull (pt a (.ins B dx fs)) L l) (hB : B = C ∨ B = C') (h : Q v H) : kFld2 C C' m (.ref a) H Q := ⟨a, B, dx, fs, v, rfl, hB, (S.pull P).get (.head _), e.e, h⟩
instance i_r_sfldC2 : Stp (sFldC2 C C' ta tv m ⟨nx, rt, bk, ct⟩ σ H) (tv σ H fun y H1 => ta σ H1 fun x H2 => kSto2 C C' m x y H2 fun H3 => nx σ H3) := ⟨fun h => h⟩
theorem r_sto2 (S : Star L H) (P : Pull (pt a (.ins B dx fs)) L l) (hB : B = C ∨ B = C') (z : fs.length < 1000) [e : PutF m y fs fs'] (h : ∀ H', Star (pt a (.ins B dx fs') :: l) H' → w H') : kSto2 C C' m (.ref a) y H w :=
  ⟨a, B, dx, fs, rfl, hB, (S.pull P).get (.head _), z, h _ (by rw [e.e]; exact (S.pull P).upd (fun ⟨_, q⟩ => nomatch q))⟩
instance i_r_mt2 {E : L2.St → XK} : Stp (tMt2 C C' m sp sp' E ta tl σ H Q) (ta σ H fun x H1 => kMt2 C C' m x H1 (tl σ H1 fun vs H2 => kCall sp (x :: vs) H2 Q (E σ)) (tl σ H1 fun vs H2 => kCall sp' (x :: vs) H2 Q (E σ))) := ⟨fun h => h⟩
theorem r_kMt2l (S : Star L H) (P : Pull (pt a (.ins C dx fs)) L l) (e : fs.lookup m = none) (h : R) : kMt2 C C' m (.ref a) H R R' := ⟨a, dx, fs, rfl, e, .inl ⟨(S.pull P).get (.head _), h⟩⟩
theorem r_kMt2r (S : Star L H) (P : Pull (pt a (.ins C' dx fs)) L l) (e : fs.lookup m = none) (h : R') : kMt2 C C' m (.ref a) H R R' := ⟨a, dx, fs, rfl, e, .inr ⟨(S.pull P).get (.head _), h⟩⟩
instance : Grp (kFld2 C C' m v H Q) 7 := ⟨⟩
instance : Grp (kFld2 C C' m v H Q) 100 := ⟨⟩
instance : Grp (kSto2 C C' m v y H w) 7 := ⟨⟩
instance : Grp (kSto2 C C' m v y H w) 101 := ⟨⟩
instance : Grp (kMt2 C C' m v H R R') 7 := ⟨⟩
instance : Grp (kMt2 C C' m v H R R') 102 := ⟨⟩
/-- the one at a place of a list of whole numbers -/
def nthI (is : List Int) (i : Int) : Option Int := if 0 ≤ i then is[i.toNat]? else none
theorem nthI_at {i x : Int} (e : nthI is i = some x) : atI (is.map V.int) i = some (.int x) := by
  unfold nthI at e
  split at e
  · next h =>
    have hi : i.toNat < is.length := (List.getElem?_eq_some_iff.mp e).1
    unfold atI ixN
    rw [List.length_map, if_pos h, if_pos (by omega)]
    simp [e]
  · cases e
theorem r_nthI {i x : Int} (S : Star L H) (P : Pull (pt p (.lst (is.map V.int))) L l) (e : nthI is i = some x) (h : Q (.int x) H) : rIxL K (.ref p) (.int i) H Q := r_ixL S P (nthI_at e) h
theorem nthI_drop {i x : Int} (e : nthI is i = some x) : is.drop i.toNat = x :: is.drop (i + 1).toNat := by
  unfold nthI at e
  split at e
  · next h => rw [drop_cons e]; congr 2; omega
  · cases e
theorem nthI_mem {i x : Int} (e : nthI is i = some x) : x ∈ is := by
  unfold nthI at e
  split at e
  · exact List.mem_of_getElem? e
  · cases e
theorem nthI_lt {i : Int} (h0 : 0 ≤ i) (h : i < is.length) : ∃ x, nthI is i = some x := by
  unfold nthI
  rw [if_pos h0]
  exact ⟨is[i.toNat]'(by omega), List.getElem?_eq_getElem (by omega)⟩
theorem r_isC (h : R) : kIsC C (.ref C) R := ⟨rfl, h⟩
instance i_r_isC : Stp (kIsC C (.ref C) R) R := ⟨r_isC⟩
theorem r_cf0 {E : L2.St → XK} (h : ta σ H fun x H1 => kIsC C x (tl σ H1 fun vs H2 => kCall sp vs H2 Q (E σ))) : tCf C sp [] E ta tl σ H Q := by
  show ta σ H fun x H1 => kIsC C x (tl σ H1 fun vs H2 => kCall sp (vs ++ []) H2 Q (E σ))
  simp only [List.append_nil]; exact h
instance i_r_cf0 {E : L2.St → XK} : Stp (tCf C sp [] E ta tl σ H Q) (ta σ H fun x H1 => kIsC C x (tl σ H1 fun vs H2 => kCall sp vs H2 Q (E σ))) := ⟨r_cf0⟩
end
end Fl
/-! Fl: lists of owned things; things that never change. -/
namespace Fl
open PySem PySem.Spec PyProof.Rows L2
def TupH (h : Hp) : Prop := ∀ a o, h a = some o → IsTup o
/-- leans on tuples alone -/
def Sup (A : Asrt) : Prop := ∀ h, A h → ∃ k, Sub k h ∧ TupH k ∧ A k
theorem Sup.pu {p : Prop} : Sup (pu p) := fun h x => ⟨fun _ => none, (fun _ _ e => nomatch e), (fun _ _ e => nomatch e), x⟩
theorem Sup.tup {p : Addr} {xs : List V} : Sup (pt p (.tup xs)) := fun h x => ⟨single p (.tup xs), single_sub x, (fun a o e => by
  unfold single at e
  split at e
  · cases e; exact ⟨_, rfl⟩
  · cases e), single_self⟩
theorem TupH.dsj {h k : Hp} (t : TupH k) (s : Sub k h) : Dsj k h := fun a o u e1 e2 => by
  have := s a o e1
  rw [this] at e2
  exact ⟨Option.some.inj e2, t a o e1⟩
theorem TupH.join {h k : Hp} (a : TupH h) (b : TupH k) : TupH (join h k) := fun c o e => by
  unfold Fl.join at e
  cases q : h c with
  | none => rw [q] at e; exact b c o e
  | some u => rw [q] at e; cases e; exact a c _ q
theorem Sup.star : ∀ {l : List Asrt}, (∀ A ∈ l, Sup A) → Sup (Star l)
  | [], _ => fun h _ => ⟨fun _ => none, (fun _ _ e => nomatch e), (fun _ _ e => nomatch e), trivial⟩
  | A :: l, q => fun h S => by
    obtain ⟨h1, h2, d, s1, s2, x, y⟩ := S
    obtain ⟨k1, t1, u1, x1⟩ := q A (.head _) h1 x
    obtain ⟨k2, t2, u2, x2⟩ := Sup.star (fun B hB => q B (.tail _ hB)) h2 y
    have dk : Dsj k1 k2 := d.mono t1 t2
    exact ⟨join k1 k2, join_sub (t1.trans s1) (t2.trans s2), u1.join u2, k1, k2, dk, join_l, join_r dk, x1, x2⟩
theorem Sup.ex {α : Type} {A : α → Asrt} (h : ∀ x, Sup (A x)) : Sup fun H => ∃ x, A x H := fun H ⟨x, y⟩ => by
  obtain ⟨k, s, t, z⟩ := h x H y
  exact ⟨k, s, t, x, z⟩
theorem Sup.and {p : Prop} {A : Asrt} (h : p → Sup A) : Sup fun H => p ∧ A H := fun H ⟨x, y⟩ => by
  obtain ⟨k, s, t, z⟩ := h x H y
  exact ⟨k, s, t, x, z⟩
theorem Star.dup {A : Asrt} {l : List Asrt} {H : Hp} (s : Sup A) (S : Star (A :: l) H) : Star (A :: A :: l) H := by
  obtain ⟨h1, h2, d, s1, s2, x, y⟩ := S
  obtain ⟨k, t, u, z⟩ := s h1 x
  have d1 : Dsj k h1 := u.dsj t
  have d2 : Dsj k h2 := d.mono t (Sub.refl _)
  exact ⟨k, join h1 h2, (join_dsj d1.symm d2.symm).symm, t.trans s1, join_sub s1 s2, z, h1, h2, d, join_l, join_r d, x, y⟩
class Pst {α : Type} (A : α → V → Asrt) : Prop where sup : ∀ x v, Sup (A x v)
section
variable {α : Type} {A : α → V → Asrt} {K : PySem.W.Frag} {L l m : List Asrt} {H : Hp} {Q : VK} {p q D : Addr} {xs ys zs : List α} {x y : α} {v : V} {i : Int} {w : Hp → Prop}
/-- a list of owned things -/
def ownL (A : α → V → Asrt) (cs : List (α × V)) : Asrt := sepL (fun c => A c.1 c.2) cs
def listA (A : α → V → Asrt) (xs : List α) (p : Addr) : Asrt := fun h => ∃ cs : List (α × V), cs.map Prod.fst = xs ∧ Star [pt p (.lst (cs.map Prod.snd)), ownL A cs] h
theorem listA_open (S : Star (listA A xs p :: l) H) : ∃ cs : List (α × V), cs.map Prod.fst = xs ∧ Star (pt p (.lst (cs.map Prod.snd)) :: ownL A cs :: l) H := by
  obtain ⟨h1, h2, dj, s1, s2, ⟨cs, e, S1⟩, S2⟩ := S
  exact ⟨cs, e, Star.glue (l := [_, _]) ⟨h1, h2, dj, s1, s2, S1, S2⟩⟩
theorem listA_close {cs : List (α × V)} (e : cs.map Prod.fst = xs) (S : Star (pt p (.lst (cs.map Prod.snd)) :: ownL A cs :: l) H) : Star (listA A xs p :: l) H :=
  Star.cl (k := [_, _]) S fun h S => ⟨cs, e, S⟩
theorem listA_cl {cs : List (α × V)} (e : cs.map Prod.fst = xs) (S : Star L H) (P : Pull (pt p (.lst (cs.map Prod.snd))) L l) (P2 : Pull (ownL A cs) l m) : Star (listA A xs p :: m) H :=
  listA_close e ((S.pull P).under fun _ S => S.pull P2)
theorem listA_new (S : Star (pt p (.lst []) :: l) H) : Star (listA A [] p :: l) H := listA_close (cs := []) rfl (S.under fun _ S => sepL_nil S)
theorem listA_newP (S : Star L H) (P : Pull (pt p (.lst [])) L l) : Star (listA A [] p :: l) H := listA_new (S.pull P)
/-- one of the row, taken twice -/
theorem own_dup [w : Pst A] {cs : List (α × V)} {c : α × V} (hc : c ∈ cs) (S : Star (ownL A cs :: l) H) : Star (A c.1 c.2 :: ownL A cs :: l) H := by
  obtain ⟨as, bs, rfl⟩ := List.append_of_mem hc
  have S1 := sepL_mid S
  exact (Star.dup (w.sup _ _) S1).under fun _ S => sepL_mid' S
theorem own_dups [w : Pst A] {cs ds : List (α × V)} (hd : ∀ c ∈ ds, c ∈ cs) (S : Star (ownL A cs :: l) H) : Star (ownL A ds :: ownL A cs :: l) H := by
  induction ds with
  | nil => exact sepL_nil S
  | cons d ds ih =>
    have S1 := ih fun c hc => hd c (.tail _ hc)
    have S2 := S1.swap
    have S3 := own_dup (hd d (.head _)) S2
    exact sepL_cons (S3.under fun _ S => S.swap)
theorem own_app {cs ds : List (α × V)} (S : Star (ownL A cs :: ownL A ds :: l) H) : Star (ownL A (cs ++ ds) :: l) H := sepL_app S
theorem r_lenLA (S : Star L H) (P : Pull (listA A xs p) L l) (h : Q (.int (xs.length : Int)) H) : cLenS K [.ref p] H Q := by
  obtain ⟨cs, rfl, S⟩ := listA_open (S.pull P)
  rw [List.length_map] at h
  exact ⟨p, _, rfl, .inl (SqL.of (S.get (.head _))), by rw [List.length_map]; exact h⟩
/-- the thing at a place -/
def nthA (xs : List α) (i : Int) : Option α := (ixN xs.length i).bind fun k => xs[k]?
theorem r_ixLA [Pst A] (S : Star L H) (P : Pull (listA A xs p) L l) (e : nthA xs i = some x) (h : ∀ v, Star (A x v :: listA A xs p :: l) H → Q v H) : rIxL K (.ref p) (.int i) H Q := by
  obtain ⟨cs, rfl, S⟩ := listA_open (S.pull P)
  unfold nthA at e
  rw [List.length_map] at e
  obtain ⟨k, e1, e2⟩ := Option.bind_eq_some_iff.mp e
  rw [List.getElem?_map] at e2
  obtain ⟨c, e3, rfl⟩ := Option.map_eq_some_iff.mp e2
  refine ⟨p, _, i, c.2, rfl, rfl, SqL.of (S.get (.head _)), ?_, h c.2 ?_⟩
  · unfold atI
    rw [List.length_map, e1]
    simp [e3]
  · have S2 := own_dup (List.mem_of_getElem? e3) S.swap
    exact S2.under fun _ S => listA_close rfl S.swap
theorem r_isiLA {C : String} {c : Bool} (S : Star L H) (P : Pull (listA A xs p) L l) (k : kitB "list" C = some c) (h : Q (.bl c) H) : rIsi K [.ref p, .ty C] H Q := by
  obtain ⟨cs, rfl, S⟩ := listA_open (S.pull P)
  exact r_isi (.base (.lst (S.get (.head _)))) k h
theorem r_kBMLA {R : Prop} (S : Star L H) (P : Pull (listA A xs p) L l) (h : R) : kBM K "list" (.ref p) H R := by
  obtain ⟨cs, rfl, S⟩ := listA_open (S.pull P)
  exact ⟨.inl ⟨rfl, _, SqL.of (S.get (.head _))⟩, h⟩
theorem upd_LA {cs : List (α × V)} {ws : List V} (S : Star (pt p (.lst (cs.map Prod.snd)) :: l) H) : Star (pt p (.lst ws) :: l) (upd H p (.lst ws)) := S.upd fun ⟨_, q⟩ => nomatch q
class MkA (A : α → V → Asrt) (o : HO) (x : outParam α) : Prop where made : ∀ {T : Addr} {h : Hp}, h T = some o → A x (.ref T) h
theorem r_appLA (S : Star L H) (P2 : Pull (listA A xs p) L m) (P : Pull (A x v) m l) (z : xs.length < 100000) (h : ∀ H', Star (listA A (xs ++ [x]) p :: l) H' → Q .non H') : rAppend (.ref p) [v] H Q := by
  obtain ⟨cs, rfl, S⟩ := listA_open ((S.pull P2).under fun _ S => S.pull P)
  rw [List.length_map] at z
  refine ⟨p, _, v, rfl, rfl, S.get (.head _), Evl.sz_lt (by rw [List.length_map]; exact z), h _ ?_⟩
  refine listA_close (cs := cs ++ [(x, v)]) (by rw [List.map_append]; rfl) ?_
  have S2 : Star (pt p (.lst ((cs ++ [(x, v)]).map Prod.snd)) :: _) _ := upd_LA (ws := (cs ++ [(x, v)]).map Prod.snd) S
  rw [List.map_append] at S2 ⊢
  exact S2.under fun _ S => own_app (S.under fun _ S => sepL_cons (S.under fun _ S => sepL_nil S))
theorem r_kAppLA (S : Star L H) (P2 : Pull (listA A xs p) L m) (P : Pull (A x v) m l) (z : xs.length < 100000) (h : ∀ H', Star (listA A (xs ++ [x]) p :: l) H' → w H') : kApp p v H w := by
  obtain ⟨cs, rfl, S⟩ := listA_open ((S.pull P2).under fun _ S => S.pull P)
  rw [List.length_map] at z
  refine ⟨_, S.get (.head _), Evl.sz_lt (by rw [List.length_map]; exact z), h _ ?_⟩
  refine listA_close (cs := cs ++ [(x, v)]) (by rw [List.map_append]; rfl) ?_
  have S2 : Star (pt p (.lst ((cs ++ [(x, v)]).map Prod.snd)) :: _) _ := upd_LA (ws := (cs ++ [(x, v)]).map Prod.snd) S
  rw [List.map_append] at S2 ⊢
  exact S2.under fun _ S => own_app (S.under fun _ S => sepL_cons (S.under fun _ S => sepL_nil S))
theorem r_appMk {T : Addr} {o : HO} [k : MkA A o x] (S : Star L H) (P2 : Pull (listA A xs p) L m) (P : Pull (pt T o) m l) (z : xs.length < 100000) (h : ∀ H', Star (listA A (xs ++ [x]) p :: l) H' → Q .non H') : rAppend (.ref p) [.ref T] H Q :=
  r_appLA (((S.pull P2).under fun _ S => (S.pull P).hd fun _ y => k.made y)) .here .here z h
theorem r_kAppMk {T : Addr} {o : HO} [k : MkA A o x] (S : Star L H) (P2 : Pull (listA A xs p) L m) (P : Pull (pt T o) m l) (z : xs.length < 100000) (h : ∀ H', Star (listA A (xs ++ [x]) p :: l) H' → w H') : kApp p (.ref T) H w :=
  r_kAppLA (((S.pull P2).under fun _ S => (S.pull P).hd fun _ y => k.made y)) .here .here z h
theorem r_kILA {R : It → Hp → Prop} (S : Star L H) (P : Pull (listA A xs p) L l) (h : R (Itl K p) H) : kIL K (.ref p) H R := by
  obtain ⟨cs, rfl, S⟩ := listA_open (S.pull P)
  exact ⟨p, rfl, ⟨_, SqL.of (S.get (.head _))⟩, h⟩
theorem r_extLA (S : Star L H) (P : Pull (listA A xs p) L m) (P2 : Pull (listA A ys q) m l) (z : xs.length + ys.length ≤ 100000) (h : ∀ H', Star (listA A (xs ++ ys) p :: l) H' → Q .non H') : rExtend (.ref p) [.ref q] H Q := by
  obtain ⟨cs, rfl, S1⟩ := listA_open ((S.pull P).under fun _ S => S.pull P2)
  obtain ⟨ds, rfl, S2⟩ := listA_open (S1.p2)
  rw [List.length_map, List.length_map] at z
  have S3 : Star (pt p (.lst (cs.map Prod.snd)) :: ownL A cs :: ownL A ds :: l) H := S2.keep (.cons (.there (.there .here)) (.cons (.there (.there .here)) (.drop .refl)))
  refine ⟨p, q, _, _, rfl, rfl, S3.get (.head _), S2.get (.head _), Evl.sz_of (by rw [List.length_map, List.length_map]; exact z), h _ ?_⟩
  refine listA_close (cs := cs ++ ds) (by rw [List.map_append]) ?_
  rw [List.map_append]
  exact (upd_LA S3).under fun _ S => own_app S
theorem r_clistLA [Pst A] (S : Star L H) (P : Pull (listA A xs p) L l) (h : ∀ q H', Star (listA A xs q :: listA A xs p :: l) H' → Q (.ref q) H') : cList K [.ref p] H Q := by
  obtain ⟨cs, rfl, S⟩ := listA_open (S.pull P)
  refine ⟨p, _, rfl, .inl (SqL.of (S.get (.head _))), fun q n => h q _ ?_⟩
  have S2 := (own_dups (ds := cs) (fun c h => h) S.swap).new (o := .lst (cs.map Prod.snd)) n
  exact listA_close rfl (S2.under fun _ S => S.under fun _ S => listA_close rfl S.swap)
theorem r_catLA [Pst A] (S : Star L H) (P : Pull (listA A xs p) L m) (P2 : Pull (listA A ys q) m l) (z : xs.length + ys.length ≤ 100000) (h : ∀ r H', Star (listA A (xs ++ ys) r :: listA A xs p :: listA A ys q :: l) H' → Q (.ref r) H') : rCat (.ref p) (.ref q) H Q := by
  obtain ⟨cs, rfl, S1⟩ := listA_open ((S.pull P).under fun _ S => S.pull P2)
  obtain ⟨ds, rfl, S2⟩ := listA_open (S1.p2)
  rw [List.length_map, List.length_map] at z
  refine ⟨p, q, _, _, rfl, rfl, S1.get (.head _), S2.get (.head _), Evl.sz_of (by rw [List.length_map, List.length_map]; exact z), fun r n => h r _ ?_⟩
  have S3 : Star (ownL A cs :: pt p (.lst (cs.map Prod.snd)) :: ownL A ds :: pt q (.lst (ds.map Prod.snd)) :: l) H := S2.keep (.cons (.there (.there (.there .here))) (.cons (.there (.there .here)) (.cons (.there .here) .refl)))
  have S4 := own_dups (ds := cs) (fun c h => h) S3
  have S5 : Star (ownL A ds :: ownL A cs :: ownL A cs :: pt p (.lst (cs.map Prod.snd)) :: pt q (.lst (ds.map Prod.snd)) :: l) H := S4.p3
  have S6 := own_dups (ds := ds) (fun c h => h) S5
  have S7 : Star (ownL A cs :: ownL A ds :: ownL A cs :: pt p (.lst (cs.map Prod.snd)) :: ownL A ds :: pt q (.lst (ds.map Prod.snd)) :: l) H := S6.keep (.cons (.there (.there .here)) (.cons .here (.cons (.there .here) (.cons (.there .here) .refl))))
  have S8 := own_app S7
  have S9 := S8.new (o := .lst ((cs ++ ds).map Prod.snd)) n
  have S10 := listA_close (cs := cs ++ ds) (xs := cs.map Prod.fst ++ ds.map Prod.fst) (by rw [List.map_append]) S9
  rw [List.map_append] at S10
  exact S10.under fun _ S => (listA_close rfl S.swap).under fun _ S => listA_close rfl S.swap
theorem r_revLA (S : Star L H) (P : Pull (listA A xs p) L l) (h : ∀ H', Star (listA A xs.reverse p :: l) H' → Q .non H') : rReverse (.ref p) [] H Q := by
  obtain ⟨cs, rfl, S⟩ := listA_open (S.pull P)
  refine ⟨p, _, rfl, rfl, S.get (.head _), h _ ?_⟩
  rw [← List.map_reverse]
  rw [← List.map_reverse]
  exact listA_close rfl ((upd_LA S).under fun _ S => sepL_perm (List.reverse_perm cs).symm S)
theorem r_popLA (S : Star L H) (P : Pull (listA A (xs ++ [x]) p) L l) (h : ∀ v H', Star (A x v :: listA A xs p :: l) H' → Q v H') : rPop (.ref p) [] H Q := by
  obtain ⟨cs, e, S⟩ := listA_open (S.pull P)
  obtain ⟨ds, c, rfl⟩ : ∃ ds c, cs = ds ++ [c] := by
    have hn : cs ≠ [] := fun q => by rw [q] at e; exact absurd e.symm (by simp)
    exact ⟨_, _, (List.dropLast_concat_getLast hn).symm⟩
  rw [List.map_append] at e
  obtain ⟨e1, e2⟩ := List.append_inj' e rfl
  obtain rfl : c.1 = x := by simpa using e2
  refine ⟨p, _, c.2, rfl, rfl, S.get (.head _), by rw [List.map_append]; simp, h _ _ ?_⟩
  have S2 := upd_LA (ws := ((ds ++ [c]).map Prod.snd).dropLast) S
  have e3 : ((ds ++ [c]).map Prod.snd).dropLast = ds.map Prod.snd := by simp
  rw [e3] at S2 ⊢
  have S3 := S2.under fun _ S => sepL_mid (xs := ds) (ys := []) (x := c) (B := fun c : α × V => A c.1 c.2) S
  rw [List.append_nil] at S3
  exact (Star.swap S3).under fun _ S => listA_close e1 S
end
/-! ### likeness -/
class Dta {α : Type} [DecidableEq α] (A : α → V → Asrt) (f : outParam (α → PyData)) : Prop where
  dp : ∀ {K : PySem.W.Frag} {H h : Hp} {x : α} {v : V}, A x v h → Sub h H → Dp K H v (f x)
  eq : ∀ x y, PyData.eqv (f x) (f y) = decide (x = y)
  lay : ∀ x, PyData.canLay0 (f x) = true
  dep : ∀ x, PyData.depth (f x) ≤ 8
section
variable {α : Type} [DecidableEq α] {A : α → V → Asrt} {f : α → PyData} {K : PySem.W.Frag} {L l m : List Asrt} {H : Hp} {Q : VK} {p q : Addr} {xs ys : List α}
theorem dps_own [w : Dta A f] : ∀ {cs : List (α × V)} {l : List Asrt} {H : Hp}, Star (ownL A cs :: l) H → DpAll K H (cs.map Prod.snd) ((cs.map Prod.fst).map f)
  | [], _, _, _ => .nil
  | c :: cs, l, H, S => by
    have S2 := sepL_unc S
    obtain ⟨h, s, x⟩ := S2.has (.head _)
    exact .cons (w.dp x s) (dps_own S2.tail)
theorem eqvAll_f [w : Dta A f] : ∀ {xs ys : List α}, PyData.eqvAll (xs.map f) (ys.map f) = decide (xs = ys)
  | [], [] => by simp [PyData.eqvAll]
  | [], y :: ys => by simp [PyData.eqvAll]
  | x :: xs, [] => by simp [PyData.eqvAll]
  | x :: xs, y :: ys => by
    simp only [List.map_cons, PyData.eqvAll, eqvAll_f (xs := xs) (ys := ys), w.eq]
    by_cases h : x = y <;> by_cases h2 : xs = ys <;> simp [h, h2]
theorem lay_f [w : Dta A f] : ∀ {xs : List α}, PyData.canLayAll0 (xs.map f) = true
  | [] => by simp [PyData.canLayAll0]
  | x :: xs => by simp [PyData.canLayAll0, w.lay, lay_f (xs := xs)]
theorem dep_f [w : Dta A f] : ∀ {xs : List α}, PyData.depthAll (xs.map f) ≤ 8
  | [] => by simp [PyData.depthAll]
  | x :: xs => by
    have h1 := w.dep x
    have h2 := dep_f (xs := xs)
    simp only [List.map_cons, PyData.depthAll]
    omega
theorem shL_f [w : Dta A f] : SeqAt.shaped (.list (xs.map f)) = true := by
  have := dep_f (A := A) (xs := xs)
  unfold SeqAt.shaped
  rw [PyData.canLay0, lay_f (A := A), Bool.true_and, decide_eq_true_eq, PyData.depth]
  omega
theorem r_eqLA [w : Dta A f] (S : Star L H) (P : Pull (listA A xs p) L l) (P2 : Pull (listA A ys q) L m) (h : Q (.bl (decide (xs = ys))) H) : rEqD K (.ref p) (.ref q) H Q := by
  obtain ⟨cs, rfl, S1⟩ := listA_open (S.pull P)
  obtain ⟨ds, rfl, S2⟩ := listA_open (S.pull P2)
  refine ⟨_, _, .lst (SqL.of (S1.get (.head _))) (dps_own S1.tail), .lst (SqL.of (S2.get (.head _))) (dps_own S2.tail), shL_f (A := A), shL_f (A := A), ?_⟩
  rw [PyData.eqv, eqvAll_f (A := A)]; exact h
theorem r_neLA [w : Dta A f] (S : Star L H) (P : Pull (listA A xs p) L l) (P2 : Pull (listA A ys q) L m) (h : Q (.bl (!decide (xs = ys))) H) : rNeD K (.ref p) (.ref q) H Q := by
  obtain ⟨cs, rfl, S1⟩ := listA_open (S.pull P)
  obtain ⟨ds, rfl, S2⟩ := listA_open (S.pull P2)
  refine ⟨_, _, .lst (SqL.of (S1.get (.head _))) (dps_own S1.tail), .lst (SqL.of (S2.get (.head _))) (dps_own S2.tail), shL_f (A := A), shL_f (A := A), ?_⟩
  rw [PyData.eqv, eqvAll_f (A := A)]; exact h
end
/-! ### pairs of whole numbers -/
def pairA (e : Int × Int) (v : V) : Asrt := fun h => ∃ p, v = .ref p ∧ h p = some (.tup [.int e.1, .int e.2])
instance : Pst pairA := ⟨fun e v => Sup.ex fun p => Sup.and fun _ => Sup.tup⟩
instance : Dta pairA (fun e => .tuple [.int e.1, .int e.2]) where
  dp := fun {K H h x v} ⟨p, e, q⟩ s => by
    subst e
    exact .tup (SqT.of (s _ _ q)) (.cons (.int _) (.cons (.int _) .nil))
  eq := fun x y => by
    obtain ⟨a, b⟩ := x
    obtain ⟨c, d⟩ := y
    simp only [PyData.eqv, PyData.eqvAll, Bool.and_true]
    by_cases h : a = c <;> by_cases h2 : b = d <;> simp [h, h2]
  lay := fun x => by simp [PyData.canLay0, PyData.canLayAll0]
  dep := fun x => by simp [PyData.depth, PyData.depthAll]
instance {a b : Int} : MkA pairA (.tup [.int a, .int b]) (a, b) := ⟨fun {T h} e => ⟨T, rfl, e⟩⟩
section
variable {L l m : List Asrt} {H : Hp} {p : Addr} {a b : Int} {v : V}
theorem pair_mk (S : Star L H) (P : Pull (pt p (.tup [.int a, .int b])) L l) : Star (pairA (a, b) (.ref p) :: l) H := (S.pull P).hd fun h x => ⟨p, rfl, x⟩
theorem pair_open {e : Int × Int} (S : Star L H) (P : Pull (pairA e v) L l) : ∃ p, v = .ref p ∧ Star (pt p (.tup [.int e.1, .int e.2]) :: l) H := by
  obtain ⟨h1, h2, d, s1, s2, ⟨p, e1, x⟩, y⟩ := S.pull P
  exact ⟨p, e1, h1, h2, d, s1, s2, x, y⟩
theorem r_ixPair {K : PySem.W.Frag} {Q : VK} {xs : List (Int × Int)} {i : Int} (S : Star L H) (P : Pull (listA pairA xs p) L l) (e : nthA xs i = some (a, b)) (h : ∀ T, Star (pt T (.tup [.int a, .int b]) :: listA pairA xs p :: l) H → Q (.ref T) H) : rIxL K (.ref p) (.int i) H Q :=
  r_ixLA S P e fun v S2 => by
    obtain ⟨T, e2, S3⟩ := pair_open S2 .here
    rw [e2]; exact h T S3
end
end Fl
/-! Fl: shapes in plain numbers. -/
namespace Fl
def goodS (lv fn gr : Int) : Prop := 2 ≤ lv ∧ lv ≤ 3 ∧ 1 ≤ fn ∧ fn ≤ 8 ∧ 0 ≤ gr ∧ gr ≤ 4
theorem p2pos (n : Nat) : (0 : Int) < 2 ^ n := Int.pow_pos (by decide)
theorem p2mono {m n : Nat} (h : m ≤ n) : (2 : Int) ^ m ≤ 2 ^ n := by
  have := Nat.pow_le_pow_right (n := 2) (by decide) h
  exact_mod_cast this
theorem p2le {m : Nat} {n : Nat} {B : Int} (h : m ≤ n) (e : (2 : Int) ^ n = B) : (2 : Int) ^ m ≤ B := e ▸ p2mono h
/-- the pages of a room -/
def pgs (lv fn : Int) : Int := 2 ^ (lv * fn).toNat
/-- the size of a sheet -/
def szs (gr : Int) : Int := 2 ^ gr.toNat
/-- how wide a step is -/
def wid (fn : Int) : Int := 2 ^ fn.toNat
theorem goodS_mul {lv fn gr : Int} (h : goodS lv fn gr) : 0 ≤ lv * fn ∧ lv * fn ≤ 24 := by
  obtain ⟨g1, g2, g3, g4, g5, g6⟩ := h
  obtain rfl | rfl : lv = 2 ∨ lv = 3 := by omega
  · omega
  · omega
theorem pgs_b {lv fn gr : Int} (h : goodS lv fn gr) : 1 ≤ pgs lv fn ∧ pgs lv fn ≤ 16777216 := by
  have hm := goodS_mul h
  have h1 := p2pos (lv * fn).toNat
  have h2 := p2le (m := (lv * fn).toNat) (n := 24) (by omega) (by decide : (2 : Int) ^ 24 = 16777216)
  unfold pgs
  omega
theorem szs_b {lv fn gr : Int} (h : goodS lv fn gr) : 1 ≤ szs gr ∧ szs gr ≤ 16 := by
  obtain ⟨g1, g2, g3, g4, g5, g6⟩ := h
  have h1 := p2pos gr.toNat
  have h2 := p2le (m := gr.toNat) (n := 4) (by omega) (by decide : (2 : Int) ^ 4 = 16)
  unfold szs
  omega
theorem wid_b {lv fn gr : Int} (h : goodS lv fn gr) : 2 ≤ wid fn ∧ wid fn ≤ 256 := by
  obtain ⟨g1, g2, g3, g4, g5, g6⟩ := h
  have h1 := p2mono (m := 1) (n := fn.toNat) (by omega)
  have h2 := p2le (m := fn.toNat) (n := 8) (by omega) (by decide : (2 : Int) ^ 8 = 256)
  unfold wid
  omega
theorem pgs_wid {lv fn : Int} (h0 : 0 ≤ lv) (h : 0 ≤ fn) : pgs lv fn = wid fn ^ lv.toNat := by
  unfold pgs wid
  rw [← Int.pow_mul, Int.toNat_mul h0 h, Nat.mul_comm]
/-- the steps of a page -/
def stepAt (lv fn p : Int) (k : Nat) : Int := p / 2 ^ (fn * (lv - 1 - k)).toNat % wid fn
def stepsL (lv fn p : Int) : List Int := (List.range lv.toNat).map (stepAt lv fn p)
/-- the page of steps -/
def pageOf (fn : Int) (ds : List Int) : Int := ds.foldl (fun p s => p * wid fn + s) 0
theorem steps2 {fn p : Int} (h : 0 ≤ fn) : stepsL 2 fn p = [p / wid fn % wid fn, p % wid fn] := by
  have e0 : stepAt 2 fn p 0 = p / wid fn % wid fn := by unfold stepAt wid; rw [show fn * (2 - 1 - ((0 : Nat) : Int)) = fn by simp]
  have e1 : stepAt 2 fn p 1 = p % wid fn := by unfold stepAt wid; rw [show fn * (2 - 1 - ((1 : Nat) : Int)) = 0 by simp]; simp
  show [stepAt 2 fn p 0, stepAt 2 fn p 1] = _
  rw [e0, e1]
theorem steps3 {fn p : Int} (h : 0 ≤ fn) : stepsL 3 fn p = [p / (wid fn * wid fn) % wid fn, p / wid fn % wid fn, p % wid fn] := by
  have e0 : stepAt 3 fn p 0 = p / (wid fn * wid fn) % wid fn := by
    unfold stepAt wid
    rw [show fn * (3 - 1 - ((0 : Nat) : Int)) = fn + fn by omega, Int.toNat_add h h, Int.pow_add]
  have e1 : stepAt 3 fn p 1 = p / wid fn % wid fn := by unfold stepAt wid; rw [show fn * (3 - 1 - ((1 : Nat) : Int)) = fn by simp]
  have e2 : stepAt 3 fn p 2 = p % wid fn := by unfold stepAt wid; rw [show fn * (3 - 1 - ((2 : Nat) : Int)) = 0 by simp]; simp
  show [stepAt 3 fn p 0, stepAt 3 fn p 1, stepAt 3 fn p 2] = _
  rw [e0, e1, e2]
theorem dig2 {B p : Int} (hB : 0 < B) (h0 : 0 ≤ p) (h : p < B * B) : p / B % B = p / B ∧ p / B * B + p % B = p ∧ 0 ≤ p / B ∧ p / B < B := by
  have h1 : p / B < B := Int.ediv_lt_of_lt_mul hB h
  have h2 : 0 ≤ p / B := Int.ediv_nonneg h0 (by omega)
  refine ⟨Int.emod_eq_of_lt h2 h1, ?_, h2, h1⟩
  rw [Int.mul_comm]; exact Int.mul_ediv_add_emod p B
theorem pageOf_snoc {fn s : Int} {ds : List Int} : pageOf fn (ds ++ [s]) = pageOf fn ds * wid fn + s := by unfold pageOf; rw [List.foldl_append]; rfl
theorem pageOf_lt {fn : Int} (hw : 1 ≤ wid fn) : ∀ n (ds : List Int), ds.length = n → (∀ d ∈ ds, 0 ≤ d ∧ d < wid fn) → 0 ≤ pageOf fn ds ∧ pageOf fn ds < wid fn ^ n
  | 0, ds, e, h => by
    rw [List.length_eq_zero_iff] at e
    subst e
    exact ⟨Int.le_refl 0, by rw [Int.pow_zero]; show (0 : Int) < 1; decide⟩
  | n + 1, ds, e, h => by
    have hn : ds ≠ [] := fun q => by rw [q] at e; cases e
    rw [← List.dropLast_concat_getLast hn] at h ⊢
    obtain ⟨i1, i2⟩ := pageOf_lt hw n ds.dropLast (by simp [e]) fun d hd => h d (by simp [hd])
    obtain ⟨s1, s2⟩ := h (ds.getLast hn) (by simp)
    rw [pageOf_snoc]
    generalize ds.getLast hn = s at *
    generalize pageOf fn ds.dropLast = p at *
    rw [Int.pow_succ]
    generalize wid fn ^ n = m at *
    have m0 : 0 ≤ p * wid fn := Int.mul_nonneg i1 (by omega)
    have m1 : (p + 1) * wid fn ≤ m * wid fn := Int.mul_le_mul_of_nonneg_right (by omega) (by omega)
    rw [Int.add_mul, Int.one_mul] at m1
    omega
theorem pageOf_64 {lv fn gr : Int} {ds : List Int} (g : goodS lv fn gr) (hl : ds.length ≤ 3) (h : ∀ d ∈ ds, 0 ≤ d ∧ d < wid fn) : 0 ≤ pageOf fn ds ∧ pageOf fn ds < 16777216 := by
  have hw := wid_b g
  obtain ⟨i1, i2⟩ := pageOf_lt (fn := fn) (by omega) _ ds rfl h
  refine ⟨i1, Int.lt_of_lt_of_le i2 ?_⟩
  unfold wid
  rw [← Int.pow_mul]
  refine p2le (n := 24) ?_ (by decide)
  obtain ⟨g1, g2, g3, g4, g5, g6⟩ := g
  exact Nat.mul_le_mul (show fn.toNat ≤ 8 by omega) hl
theorem pageOf_steps {lv fn gr p : Int} (g : goodS lv fn gr) (h0 : 0 ≤ p) (h : p < pgs lv fn) : pageOf fn (stepsL lv fn p) = p := by
  have hw := wid_b g
  obtain ⟨g1, g2, g3, g4, g5, g6⟩ := g
  rw [pgs_wid (by omega) (by omega)] at h
  obtain rfl | rfl : lv = 2 ∨ lv = 3 := by omega
  · rw [steps2 (by omega)]
    unfold pageOf
    generalize wid fn = B at *
    rw [show ((2 : Int).toNat) = 2 from rfl, Int.pow_succ, Int.pow_succ, Int.pow_zero, Int.one_mul] at h
    obtain ⟨e1, e2, _, _⟩ := dig2 (by omega) h0 h
    simp only [List.foldl_cons, List.foldl_nil, Int.zero_mul, Int.zero_add]
    rw [e1, e2]
  · rw [steps3 (by omega)]
    unfold pageOf
    generalize wid fn = B at *
    rw [show ((3 : Int).toNat) = 3 from rfl, Int.pow_succ, Int.pow_succ, Int.pow_succ, Int.pow_zero, Int.one_mul] at h
    have hB : 0 < B := by omega
    have hq : p / B < B * B := Int.ediv_lt_of_lt_mul hB h
    obtain ⟨e1, e2, _, _⟩ := dig2 hB (Int.ediv_nonneg h0 (by omega)) hq
    simp only [List.foldl_cons, List.foldl_nil, Int.zero_mul, Int.zero_add]
    rw [Int.ediv_ediv_of_nonneg (by omega)] at e1 e2
    rw [e1, e2, Int.mul_comm]; exact Int.mul_ediv_add_emod p B
theorem stepsL_len {lv fn p : Int} : (stepsL lv fn p).length = lv.toNat := by simp [stepsL]
theorem stepsL_b {lv fn gr p d : Int} (g : goodS lv fn gr) (h : d ∈ stepsL lv fn p) : 0 ≤ d ∧ d < wid fn := by
  have hw := wid_b g
  unfold stepsL at h
  obtain ⟨k, _, rfl⟩ := List.mem_map.mp h
  exact ⟨Int.emod_nonneg _ (by omega), Int.emod_lt_of_pos _ (by omega)⟩
/-- good figures -/
def okSteps (lv fn : Int) (ds : List Int) : Prop := (ds.length : Int) = lv ∧ ∀ d ∈ ds, 0 ≤ d ∧ d < wid fn
instance {lv fn : Int} {ds : List Int} : Decidable (okSteps lv fn ds) := inferInstanceAs (Decidable (_ ∧ _))
theorem pageOf_b {lv fn gr : Int} {ds : List Int} (g : goodS lv fn gr) (h : okSteps lv fn ds) : 0 ≤ pageOf fn ds ∧ pageOf fn ds < pgs lv fn ∧ stepsL lv fn (pageOf fn ds) = ds := by
  have hw := wid_b g
  obtain ⟨g1, g2, g3, g4, g5, g6⟩ := g
  rw [pgs_wid (by omega) (by omega)]
  obtain ⟨hl, hd⟩ := h
  obtain rfl | rfl : lv = 2 ∨ lv = 3 := by omega
  · rw [steps2 (by omega)]
    obtain ⟨a, b, rfl⟩ : ∃ a b, ds = [a, b] := by
      match ds, hl with
      | [a, b], _ => exact ⟨a, b, rfl⟩
    obtain ⟨a0, a1⟩ := hd a (by simp)
    obtain ⟨b0, b1⟩ := hd b (by simp)
    unfold pageOf
    generalize wid fn = B at *
    have hB : 0 < B := by omega
    rw [show ((2 : Int).toNat) = 2 from rfl, Int.pow_succ, Int.pow_succ, Int.pow_zero, Int.one_mul]
    simp only [List.foldl_cons, List.foldl_nil, Int.zero_mul, Int.zero_add]
    have m0 : 0 ≤ a * B := Int.mul_nonneg a0 (by omega)
    have m1 : (a + 1) * B ≤ B * B := Int.mul_le_mul_of_nonneg_right (by omega) (by omega)
    rw [Int.add_mul, Int.one_mul] at m1
    have e1 : (a * B + b) / B = a := by
      rw [Int.add_comm, Int.add_mul_ediv_right _ _ (by omega), Int.ediv_eq_zero_of_lt b0 b1, Int.zero_add]
    have e2 : (a * B + b) % B = b := by
      rw [Int.add_comm, Int.add_mul_emod_self_right, Int.emod_eq_of_lt b0 b1]
    refine ⟨by omega, by omega, ?_⟩
    rw [e1, e2, Int.emod_eq_of_lt a0 a1]
  · rw [steps3 (by omega)]
    obtain ⟨a, b, c, rfl⟩ : ∃ a b c, ds = [a, b, c] := by
      match ds, hl with
      | [a, b, c], _ => exact ⟨a, b, c, rfl⟩
    obtain ⟨a0, a1⟩ := hd a (by simp)
    obtain ⟨b0, b1⟩ := hd b (by simp)
    obtain ⟨c0, c1⟩ := hd c (by simp)
    unfold pageOf
    generalize wid fn = B at *
    have hB : 0 < B := by omega
    rw [show ((3 : Int).toNat) = 3 from rfl, Int.pow_succ, Int.pow_succ, Int.pow_succ, Int.pow_zero, Int.one_mul]
    simp only [List.foldl_cons, List.foldl_nil, Int.zero_mul, Int.zero_add]
    have m0 : 0 ≤ a * B := Int.mul_nonneg a0 (by omega)
    have m1 : (a + 1) * B ≤ B * B := Int.mul_le_mul_of_nonneg_right (by omega) (by omega)
    rw [Int.add_mul, Int.one_mul] at m1
    generalize hx : a * B + b = x at *
    have x0 : 0 ≤ x := by omega
    have x1 : x + 1 ≤ B * B := by omega
    have m2 : 0 ≤ x * B := Int.mul_nonneg x0 (by omega)
    have m3 : (x + 1) * B ≤ B * B * B := Int.mul_le_mul_of_nonneg_right x1 (by omega)
    rw [Int.add_mul, Int.one_mul] at m3
    have e1 : x / B = a := by
      rw [← hx, Int.add_comm, Int.add_mul_ediv_right _ _ (by omega), Int.ediv_eq_zero_of_lt b0 b1, Int.zero_add]
    have e2 : x % B = b := by
      rw [← hx, Int.add_comm, Int.add_mul_emod_self_right, Int.emod_eq_of_lt b0 b1]
    have e3 : (x * B + c) / B = x := by
      rw [Int.add_comm, Int.add_mul_ediv_right _ _ (by omega), Int.ediv_eq_zero_of_lt c0 c1, Int.zero_add]
    have e4 : (x * B + c) % B = c := by
      rw [Int.add_comm, Int.add_mul_emod_self_right, Int.emod_eq_of_lt c0 c1]
    refine ⟨by omega, by omega, ?_⟩
    rw [← Int.ediv_ediv_of_nonneg (by omega), e3, e4, e1, e2, Int.emod_eq_of_lt a0 a1]
/-- a stretch fits the room -/
def fitsS (lv fn f m : Int) : Bool := decide (0 ≤ f ∧ 1 ≤ m ∧ m ≤ 64 ∧ f + m ≤ pgs lv fn)
end Fl
/-! Fl: tables of some levels in plain Lean. -/
namespace Fl
def TT : Nat → Type
  | 0 => List (Int × Int)
  | n + 1 => List (Int × TT n)
def ents (t : TT 0) : List (Int × Int) := t
def subs {n : Nat} (t : TT (n + 1)) : List (Int × TT n) := t
def mk0 (l : List (Int × Int)) : TT 0 := l
def mk1 {n : Nat} (l : List (Int × TT n)) : TT (n + 1) := l
theorem ents_mk (l : List (Int × Int)) : ents (mk0 l) = l := rfl
theorem subs_mk {n : Nat} (l : List (Int × TT n)) : subs (mk1 l) = l := rfl
def empT : (n : Nat) → TT n
  | 0 => mk0 []
  | n + 1 => mk1 []
def lenT : (n : Nat) → TT n → Nat
  | 0, t => (ents t).length
  | n + 1, t => (subs t).length
def lookT : (n : Nat) → TT n → List Int → Option Int
  | 0, t, s :: _ => lkI (ents t) s
  | n + 1, t, s :: r => (lkI (subs t) s).bind fun c => lookT n c r
  | _, _, [] => none
def putT : (n : Nat) → TT n → List Int → Int → TT n
  | 0, t, s :: _, e => mk0 (putI (ents t) s e)
  | n + 1, t, s :: r, e => mk1 (putI (subs t) s (putT n ((lkI (subs t) s).getD (empT n)) r e))
  | _, t, [], _ => t
def dropT : (n : Nat) → TT n → List Int → TT n
  | 0, t, s :: _ => mk0 (dropI (ents t) s)
  | n + 1, t, s :: r => match lkI (subs t) s with
    | none => t
    | some c => if lenT n (dropT n c r) = 0 then mk1 (dropI (subs t) s) else mk1 (putI (subs t) s (dropT n c r))
  | 0, t, [] => t
  | n + 1, t, [] => t
theorem dropT_cons {n : Nat} {t : TT (n + 1)} {s : Int} {r : List Int} : dropT (n + 1) t (s :: r) = match lkI (subs t) s with
    | none => t
    | some c => if lenT n (dropT n c r) = 0 then mk1 (dropI (subs t) s) else mk1 (putI (subs t) s (dropT n c r)) := rfl
def cntT : (n : Nat) → TT n → Nat
  | 0, _ => 1
  | n + 1, t => 1 + ((subs t).map fun c => cntT n c.2).sum
def reachT : (n : Nat) → TT n → List Int → Nat
  | 0, _, _ => 1
  | n + 1, t, r => match r with
    | [] => 1
    | s :: r => match lkI (subs t) s with
      | none => 1
      | some c => 1 + reachT n c r
theorem reachT_cons {n : Nat} {t : TT (n + 1)} {s : Int} {r : List Int} : reachT (n + 1) t (s :: r) = match lkI (subs t) s with
    | none => 1
    | some c => 1 + reachT n c r := rfl
theorem reachT_none {n : Nat} {t : TT (n + 1)} {s : Int} {r : List Int} (h : lkI (subs t) s = none) : reachT (n + 1) t (s :: r) = 1 := by rw [reachT_cons, h]
theorem reachT_some {n : Nat} {t : TT (n + 1)} {s : Int} {r : List Int} {c : TT n} (h : lkI (subs t) s = some c) : reachT (n + 1) t (s :: r) = 1 + reachT n c r := by rw [reachT_cons, h]
theorem reachT_zero {t : TT 0} {r : List Int} : reachT 0 t r = 1 := rfl
/-- few at each place -/
def smT (m : Nat) : (n : Nat) → TT n → Prop
  | 0, t => (ents t).length ≤ m
  | n + 1, t => (subs t).length ≤ m ∧ ∀ c ∈ subs t, smT m n c.2
/-- in order: no number twice, none bare beneath -/
def okT (B : Int) : (n : Nat) → TT n → Prop
  | 0, t => (keysI (ents t)).Nodup ∧ ∀ k ∈ keysI (ents t), 0 ≤ k ∧ k < B
  | n + 1, t => (keysI (subs t)).Nodup ∧ (∀ k ∈ keysI (subs t), 0 ≤ k ∧ k < B) ∧ ∀ c ∈ subs t, okT B n c.2 ∧ lenT n c.2 ≠ 0
theorem lookT_emp : ∀ n r, lookT n (empT n) r = none
  | 0, [] => rfl
  | 0, _ :: _ => rfl
  | n + 1, [] => rfl
  | n + 1, _ :: _ => rfl
theorem len_emp : ∀ n, lenT n (empT n) = 0
  | 0 => rfl
  | n + 1 => rfl
theorem emp_len : ∀ n t, lenT n t = 0 → t = empT n
  | 0, t, h => List.length_eq_zero_iff.mp h
  | n + 1, t, h => List.length_eq_zero_iff.mp h
theorem smT_emp {m : Nat} : ∀ n, smT m n (empT n)
  | 0 => Nat.zero_le _
  | n + 1 => ⟨Nat.zero_le _, fun c h => by cases h⟩
theorem okT_emp {B : Int} : ∀ n, okT B n (empT n)
  | 0 => ⟨List.nodup_nil, fun k h => by cases h⟩
  | n + 1 => ⟨List.nodup_nil, (fun k h => by cases h), (fun c h => by cases h)⟩
theorem smT_mono {m k : Nat} (h : m ≤ k) : ∀ {n t}, smT m n t → smT k n t
  | 0, t, s => Nat.le_trans s h
  | n + 1, t, s => ⟨Nat.le_trans s.1 h, fun c hc => smT_mono h (s.2 c hc)⟩
theorem mem_put {β : Type} {es : List (Int × β)} {n : Int} {x : β} {c : Int × β} (h : c ∈ putI es n x) : c = (n, x) ∨ c ∈ es := by
  unfold putI at h
  split at h
  · obtain ⟨e, he, rfl⟩ := List.mem_map.mp h
    split
    · next q => exact .inl (by rw [q])
    · exact .inr he
  · rcases List.mem_append.mp h with h | h
    · exact .inr h
    · rw [List.mem_singleton] at h; exact .inl h
theorem mem_drop {β : Type} {es : List (Int × β)} {n : Int} {c : Int × β} (h : c ∈ dropI es n) : c ∈ es := (List.mem_filter.mp h).1
theorem smT_put {m : Nat} {e : Int} : ∀ {n t s}, smT m n t → smT (m + 1) n (putT n t s e)
  | 0, t, [], h => smT_mono (Nat.le_succ _) (n := 0) h
  | 0, t, s :: r, h => Nat.le_trans len_put (Nat.succ_le_succ h)
  | n + 1, t, [], h => smT_mono (Nat.le_succ _) (n := n + 1) h
  | n + 1, t, s :: r, h => by
    refine ⟨Nat.le_trans len_put (Nat.succ_le_succ h.1), fun c hc => ?_⟩
    rcases mem_put hc with rfl | hc
    · refine smT_put ?_
      cases e : lkI (subs t) s with
      | none => exact smT_emp n
      | some c => exact h.2 _ (lkI_mem e)
    · exact smT_mono (Nat.le_succ _) (h.2 c hc)
theorem smT_drop {m : Nat} : ∀ {n t s}, smT m n t → smT m n (dropT n t s)
  | 0, t, [], h => h
  | 0, t, s :: r, h => Nat.le_trans len_drop h
  | n + 1, t, [], h => h
  | n + 1, t, s :: r, h => by
    rw [dropT_cons]
    cases e : lkI (subs t) s with
    | none => exact h
    | some c =>
      dsimp only
      split
      · exact ⟨Nat.le_trans len_drop h.1, fun c hc => h.2 c (mem_drop hc)⟩
      · refine ⟨?_, fun c' hc => ?_⟩
        · have hk : putI (subs t) s (dropT n c r) = (subs t).map (fun e : Int × TT n => if e.1 = s then (e.1, dropT n c r) else e) := by
            unfold putI; rw [lkI_any, e, if_pos (show (some c).isSome = true from rfl)]
          show (putI (subs t) s (dropT n c r)).length ≤ m
          rw [hk, List.length_map]; exact h.1
        · rcases mem_put hc with rfl | hc
          · exact smT_drop (h.2 _ (lkI_mem e))
          · exact h.2 c' hc
theorem lookT_put {e : Int} : ∀ {n t s s'}, s.length = n + 1 → s'.length = n + 1 → lookT n (putT n t s e) s' = if s' = s then some e else lookT n t s'
  | 0, t, [a], [b], _, _ => by
    show lkI (putI (ents t) a e) b = if [b] = [a] then some e else lkI (ents t) b
    rw [lkI_put]
    by_cases h : b = a <;> simp [h]
  | n + 1, t, a :: r, b :: r', h, h' => by
    show (lkI (putI (subs t) a _) b).bind (fun c => lookT n c r') = if b :: r' = a :: r then some e else (lkI (subs t) b).bind fun c => lookT n c r'
    rw [lkI_put]
    by_cases q : b = a
    · subst q
      rw [if_pos rfl, Option.bind_some, lookT_put (by simpa using h) (by simpa using h')]
      by_cases q2 : r' = r
      · rw [if_pos q2, if_pos (by rw [q2])]
      · rw [if_neg q2, if_neg (fun z => q2 (List.cons.inj z).2)]
        cases e2 : lkI (subs t) b with
        | none => exact lookT_emp n r'
        | some c => rfl
    · rw [if_neg q, if_neg (fun z => q (List.cons.inj z).1)]
theorem lookT_drop {B : Int} : ∀ {n t s s'}, okT B n t → s.length = n + 1 → s'.length = n + 1 → lookT n (dropT n t s) s' = if s' = s then none else lookT n t s'
  | 0, t, [a], [b], _, _, _ => by
    show lkI (dropI (ents t) a) b = if [b] = [a] then none else lkI (ents t) b
    rw [lkI_drop]
    by_cases h : b = a <;> simp [h]
  | n + 1, t, a :: r, b :: r', o, h, h' => by
    rw [dropT_cons]
    have L : ∀ u : TT (n + 1), lookT (n + 1) u (b :: r') = (lkI (subs u) b).bind fun c => lookT n c r' := fun _ => rfl
    cases e : lkI (subs t) a with
    | none =>
      dsimp only
      split
      · next q =>
        injection q with q1 q2
        rw [L, q1, e]; rfl
      · rfl
    | some c =>
      dsimp only
      have ih := lookT_drop (s := r) (s' := r') (o.2.2 _ (lkI_mem e)).1 (by simpa using h) (by simpa using h')
      split
      · next z =>
        rw [L, L, subs_mk, lkI_drop]
        by_cases q : b = a
        · subst q
          rw [if_pos rfl, e]
          by_cases q2 : r' = r
          · rw [if_pos (by rw [q2])]; rfl
          · rw [if_neg (fun z => q2 (List.cons.inj z).2)]
            rw [if_neg q2, emp_len n _ z, lookT_emp] at ih
            exact ih
        · rw [if_neg q, if_neg (fun z => q (List.cons.inj z).1)]
      · rw [L, L, subs_mk, lkI_put]
        by_cases q : b = a
        · subst q
          rw [if_pos rfl, e]
          show lookT n (dropT n c r) r' = _
          rw [ih]
          by_cases q2 : r' = r
          · rw [if_pos q2, if_pos (by rw [q2])]
          · rw [if_neg q2, if_neg (fun z => q2 (List.cons.inj z).2)]; rfl
        · rw [if_neg q, if_neg (fun z => q (List.cons.inj z).1)]
theorem putI_ne {β : Type} {es : List (Int × β)} {n : Int} {x : β} : (putI es n x).length ≠ 0 := fun h => by
  have h2 := List.length_eq_zero_iff.mp h
  have h3 : lkI (putI es n x) n = some x := by rw [lkI_put, if_pos rfl]
  rw [h2] at h3
  cases h3
theorem putT_ne {e : Int} : ∀ {n t s}, s.length = n + 1 → lenT n (putT n t s e) ≠ 0
  | 0, t, a :: r, _ => putI_ne
  | n + 1, t, a :: r, _ => putI_ne
theorem okT_put {B e : Int} : ∀ {n t s}, okT B n t → s.length = n + 1 → (∀ d ∈ s, 0 ≤ d ∧ d < B) → okT B n (putT n t s e)
  | 0, t, a :: r, o, h, hb => by
    refine ⟨nodup_put o.1, fun k hk => ?_⟩
    rcases mem_keys_put.mp hk with rfl | hk
    · exact hb _ (.head _)
    · exact o.2 k hk
  | n + 1, t, a :: r, o, h, hb => by
    refine ⟨nodup_put o.1, fun k hk => ?_, fun c hc => ?_⟩
    · rcases mem_keys_put.mp hk with rfl | hk
      · exact hb _ (.head _)
      · exact o.2.1 k hk
    · rcases mem_put hc with rfl | hc
      · refine ⟨okT_put ?_ (by simpa using h) fun d hd => hb d (.tail _ hd), putT_ne (by simpa using h)⟩
        cases e2 : lkI (subs t) a with
        | none => exact okT_emp n
        | some c => exact (o.2.2 _ (lkI_mem e2)).1
      · exact o.2.2 c hc
theorem okT_drop {B : Int} : ∀ {n t s}, okT B n t → okT B n (dropT n t s)
  | 0, t, [], o => o
  | n + 1, t, [], o => o
  | 0, t, a :: r, o => ⟨nodup_drop o.1, fun k hk => o.2 k (mem_keys_drop.mp hk).2⟩
  | n + 1, t, a :: r, o => by
    rw [dropT_cons]
    cases e : lkI (subs t) a with
    | none => exact o
    | some c =>
      dsimp only
      split
      · exact ⟨nodup_drop o.1, fun k hk => o.2.1 k (mem_keys_drop.mp hk).2, fun c hc => o.2.2 c (mem_drop hc)⟩
      · next z =>
        refine ⟨nodup_put o.1, fun k hk => ?_, fun c' hc => ?_⟩
        · rcases mem_keys_put.mp hk with rfl | hk
          · exact o.2.1 _ (List.mem_map.mpr ⟨_, lkI_mem e, rfl⟩)
          · exact o.2.1 k hk
        · rcases mem_put hc with rfl | hc
          · exact ⟨okT_drop (o.2.2 _ (lkI_mem e)).1, z⟩
          · exact o.2.2 c' hc
/-- the table t tells what the dict es tells -/
def TE (n : Nat) (fn : Int) (t : TT (n + 1)) (es : List (Int × Int)) : Prop := ∀ p, 0 ≤ p → p < pgs ((n : Int) + 2) fn → lookT (n + 1) t (stepsL ((n : Int) + 2) fn p) = lkI es p
theorem steps_inj {lv fn gr p p' : Int} (g : goodS lv fn gr) (h0 : 0 ≤ p) (h : p < pgs lv fn) (h0' : 0 ≤ p') (h' : p' < pgs lv fn) : stepsL lv fn p' = stepsL lv fn p ↔ p' = p :=
  ⟨fun e => by rw [← pageOf_steps g h0 h, ← pageOf_steps g h0' h', e], fun e => by rw [e]⟩
theorem TE_emp {n : Nat} {fn : Int} : TE n fn (empT (n + 1)) [] := fun p _ _ => by rw [lookT_emp, lkI_nil]
theorem steps_n {n : Nat} {fn p : Int} : (stepsL ((n : Int) + 2) fn p).length = n + 1 + 1 := by rw [stepsL_len]; omega
theorem TE_put {n : Nat} {fn gr p e : Int} {t : TT (n + 1)} {es : List (Int × Int)} (g : goodS ((n : Int) + 2) fn gr) (h : TE n fn t es) (h0 : 0 ≤ p) (h1 : p < pgs ((n : Int) + 2) fn) : TE n fn (putT (n + 1) t (stepsL ((n : Int) + 2) fn p) e) (putI es p e) := fun p' h0' h1' => by
  rw [lookT_put steps_n steps_n, lkI_put]
  by_cases q : p' = p
  · rw [if_pos q, if_pos (by rw [q])]
  · rw [if_neg q, if_neg (fun z => q ((steps_inj g h0 h1 h0' h1').mp z)), h p' h0' h1']
theorem TE_drop {n : Nat} {fn gr p : Int} {t : TT (n + 1)} {es : List (Int × Int)} (g : goodS ((n : Int) + 2) fn gr) (o : okT (wid fn) (n + 1) t) (h : TE n fn t es) (h0 : 0 ≤ p) (h1 : p < pgs ((n : Int) + 2) fn) : TE n fn (dropT (n + 1) t (stepsL ((n : Int) + 2) fn p)) (dropI es p) := fun p' h0' h1' => by
  rw [lookT_drop o steps_n steps_n, lkI_drop]
  by_cases q : p' = p
  · rw [if_pos q, if_pos (by rw [q])]
  · rw [if_neg q, if_neg (fun z => q ((steps_inj g h0 h1 h0' h1').mp z)), h p' h0' h1']
/-- what holds of a table and the dict beside it, j puts on -/
structure tbI (n : Nat) (fn : Int) (t : TT (n + 1)) (es : List (Int × Int)) (j : Nat) : Prop where
  te : TE n fn t es
  ok : okT (wid fn) (n + 1) t
  sm : smT j (n + 1) t
  nd : (keysI es).Nodup
  le : es.length ≤ j
  kb : ∀ k ∈ keysI es, 0 ≤ k ∧ k < pgs ((n : Int) + 2) fn
theorem tbI_emp {n : Nat} {fn : Int} : tbI n fn (empT (n + 1)) [] 0 := ⟨TE_emp, okT_emp _, smT_emp _, List.nodup_nil, Nat.le_refl _, fun k h => by cases h⟩
theorem tbI_put {n j : Nat} {fn gr p e : Int} {t : TT (n + 1)} {es : List (Int × Int)} (g : goodS ((n : Int) + 2) fn gr) (h : tbI n fn t es j) (h0 : 0 ≤ p) (h1 : p < pgs ((n : Int) + 2) fn) : tbI n fn (putT (n + 1) t (stepsL ((n : Int) + 2) fn p) e) (putI es p e) (j + 1) :=
  ⟨TE_put g h.te h0 h1, okT_put h.ok steps_n (fun d hd => stepsL_b g hd), smT_put h.sm, nodup_put h.nd, Nat.le_trans len_put (Nat.succ_le_succ h.le), fun k hk => (mem_keys_put.mp hk).elim (fun e => e ▸ ⟨h0, h1⟩) (h.kb k)⟩
theorem tbI_drop {n j : Nat} {fn gr p : Int} {t : TT (n + 1)} {es : List (Int × Int)} (g : goodS ((n : Int) + 2) fn gr) (h : tbI n fn t es j) (h0 : 0 ≤ p) (h1 : p < pgs ((n : Int) + 2) fn) : tbI n fn (dropT (n + 1) t (stepsL ((n : Int) + 2) fn p)) (dropI es p) j :=
  ⟨TE_drop g h.ok h.te h0 h1, okT_drop h.ok, smT_drop h.sm, nodup_drop h.nd, Nat.le_trans len_drop h.le, fun k hk => h.kb k (mem_keys_drop.mp hk).2⟩
theorem tbI_mono {n j k : Nat} {fn : Int} {t : TT (n + 1)} {es : List (Int × Int)} (h : tbI n fn t es j) (z : j ≤ k) : tbI n fn t es k := ⟨h.te, h.ok, smT_mono z h.sm, h.nd, Nat.le_trans h.le z, h.kb⟩
/-! ### all that a table tells -/
def sortI (l : List Int) : List Int := l.mergeSort fun a b => decide (a ≤ b)
theorem sortI_perm (l : List Int) : (sortI l).Perm l := List.mergeSort_perm l _
theorem sortI_pw (l : List Int) : (sortI l).Pairwise (· ≤ ·) := by
  refine (List.pairwise_mergeSort (le := fun a b : Int => decide (a ≤ b)) (fun a b c h1 h2 => ?_) (fun a b => ?_) l).imp fun h => of_decide_eq_true h
  · exact decide_eq_true (Int.le_trans (of_decide_eq_true h1) (of_decide_eq_true h2))
  · rw [Bool.or_eq_true, decide_eq_true_eq, decide_eq_true_eq]; exact Int.le_total a b
theorem sortI_of {ms l : List Int} (p : ms.Perm l) (w : ms.Pairwise (· ≤ ·)) : ms = sortI l :=
  List.Perm.eq_of_pairwise (fun a b _ _ h1 h2 => Int.le_antisymm h1 h2) w (sortI_pw l) (p.trans (sortI_perm l).symm)
theorem mem_sortI {l : List Int} {x : Int} : x ∈ sortI l ↔ x ∈ l := (sortI_perm l).mem_iff
theorem sortI_lt {l : List Int} (nd : l.Nodup) : (sortI l).Pairwise (· < ·) := by
  have nd2 : (sortI l).Nodup := (sortI_perm l).nodup_iff.mpr nd
  exact ((sortI_pw l).and nd2).imp fun ⟨h1, h2⟩ => by omega
theorem len_sortI {l : List Int} : (sortI l).length = l.length := (sortI_perm l).length_eq
def gathT (B : Int) : (n : Nat) → TT n → Int → List (Int × Int)
  | 0, t, h => (sortI (keysI (ents t))).map fun s => (h * B + s, (lkI (ents t) s).getD 0)
  | n + 1, t, h => (sortI (keysI (subs t))).flatMap fun s => gathT B n ((lkI (subs t) s).getD (empT n)) (h * B + s)
/-- lists told alike -/
theorem told_eq {l m : List (Int × Int)} (a : l.Pairwise fun x y => x.1 < y.1) (b : m.Pairwise fun x y => x.1 < y.1) (h : ∀ e, e ∈ l ↔ e ∈ m) : l = m := by
  have na : l.Nodup := a.imp fun {x y} h e => by rw [e] at h; omega
  have nb : m.Nodup := b.imp fun {x y} h e => by rw [e] at h; omega
  exact List.Perm.eq_of_pairwise (fun x y _ _ h1 h2 => by omega) a b ((List.perm_ext_iff_of_nodup na nb).mpr h)
def dig (B h : Int) (s : List Int) : Int := s.foldl (fun a d => a * B + d) h
theorem gath_mem {B : Int} : ∀ {n t h p e}, okT B n t → ((p, e) ∈ gathT B n t h ↔ ∃ s, s.length = n + 1 ∧ (∀ d ∈ s, 0 ≤ d ∧ d < B) ∧ lookT n t s = some e ∧ p = dig B h s)
  | 0, t, h, p, e, o => by
    show (p, e) ∈ (sortI (keysI (ents t))).map _ ↔ _
    rw [List.mem_map]
    constructor
    · rintro ⟨s, hs, he⟩
      injection he with e1 e2
      have hs := mem_sortI.mp hs
      obtain ⟨x, hx⟩ := lkI_some hs
      refine ⟨[s], rfl, fun d hd => ?_, ?_, e1.symm⟩
      · rw [List.mem_singleton] at hd; subst hd; exact o.2 d hs
      · show lkI (ents t) s = some e
        rw [hx] at e2 ⊢; exact congrArg some e2
    · rintro ⟨s, hl, hb, hk, hp⟩
      match s, hl with
      | [s], _ =>
        have hk : lkI (ents t) s = some e := hk
        exact ⟨s, mem_sortI.mpr (List.mem_map.mpr ⟨_, lkI_mem hk, rfl⟩), by rw [hk, hp]; rfl⟩
  | n + 1, t, h, p, e, o => by
    show (p, e) ∈ (sortI (keysI (subs t))).flatMap _ ↔ _
    rw [List.mem_flatMap]
    constructor
    · rintro ⟨s, hs, he⟩
      have hs := mem_sortI.mp hs
      obtain ⟨c, hc⟩ := lkI_some hs
      rw [hc] at he
      obtain ⟨r, r1, r2, r3, r4⟩ := (gath_mem (o.2.2 _ (lkI_mem hc)).1).mp he
      refine ⟨s :: r, by simp [r1], fun d hd => ?_, ?_, r4⟩
      · rcases List.mem_cons.mp hd with rfl | hd
        · exact o.2.1 _ hs
        · exact r2 d hd
      · show (lkI (subs t) s).bind _ = _
        rw [hc]; exact r3
    · rintro ⟨s, hl, hb, hk, hp⟩
      match s, hl with
      | s :: r, hl =>
        have hk : (lkI (subs t) s).bind (fun c => lookT n c r) = some e := hk
        obtain ⟨c, hc, hk⟩ := Option.bind_eq_some_iff.mp hk
        refine ⟨s, mem_sortI.mpr (List.mem_map.mpr ⟨_, lkI_mem hc, rfl⟩), ?_⟩
        rw [hc]
        exact (gath_mem (o.2.2 _ (lkI_mem hc)).1).mpr ⟨r, by simpa using hl, fun d hd => hb d (.tail _ hd), hk, hp⟩
theorem dig_b {B : Int} (hB : 0 < B) : ∀ {s : List Int} {h : Int}, (∀ d ∈ s, 0 ≤ d ∧ d < B) → h * B ^ s.length ≤ dig B h s ∧ dig B h s < (h + 1) * B ^ s.length
  | [], h, _ => by simp [dig]; omega
  | d :: s, h, hb => by
    obtain ⟨i1, i2⟩ := dig_b hB (s := s) (h := h * B + d) fun x hx => hb x (.tail _ hx)
    obtain ⟨d0, d1⟩ := hb d (.head _)
    have e : dig B h (d :: s) = dig B (h * B + d) s := rfl
    rw [e, List.length_cons, Int.pow_succ]
    have hp : 0 < B ^ s.length := Int.pow_pos hB
    have m1 : (h * B) * B ^ s.length ≤ (h * B + d) * B ^ s.length := Int.mul_le_mul_of_nonneg_right (by omega) (by omega)
    have m2 : (h * B + d + 1) * B ^ s.length ≤ ((h + 1) * B) * B ^ s.length := Int.mul_le_mul_of_nonneg_right (by rw [Int.add_mul]; omega) (by omega)
    rw [Int.mul_assoc, Int.mul_comm B] at m1 m2
    exact ⟨Int.le_trans m1 i1, Int.lt_of_lt_of_le i2 m2⟩
theorem gath_pw {B : Int} (hB : 0 < B) : ∀ {n t h}, okT B n t → (gathT B n t h).Pairwise fun x y => x.1 < y.1
  | 0, t, h, o => by
    show ((sortI (keysI (ents t))).map _).Pairwise _
    rw [List.pairwise_map]
    exact (sortI_lt o.1).imp fun h => by show _ + _ < _ + _; omega
  | n + 1, t, h, o => by
    show ((sortI (keysI (subs t))).flatMap _).Pairwise _
    rw [List.pairwise_flatMap]
    constructor
    · intro s hs
      obtain ⟨c, hc⟩ := lkI_some (mem_sortI.mp hs)
      rw [hc]
      exact gath_pw hB (o.2.2 _ (lkI_mem hc)).1
    · refine ((sortI_lt o.1).imp_of_mem (S := fun a b => ∀ x ∈ gathT B n ((lkI (subs t) a).getD (empT n)) (h * B + a), ∀ y ∈ gathT B n ((lkI (subs t) b).getD (empT n)) (h * B + b), x.1 < y.1) ?_)
      intro a b ha hb hab x hx y hy
      obtain ⟨c, hc⟩ := lkI_some (mem_sortI.mp ha)
      obtain ⟨c2, hc2⟩ := lkI_some (mem_sortI.mp hb)
      rw [hc] at hx
      rw [hc2] at hy
      obtain ⟨s, s1, s2, _, s4⟩ := (gath_mem (p := x.1) (e := x.2) (o.2.2 _ (lkI_mem hc)).1).mp hx
      obtain ⟨r, r1, r2, _, r4⟩ := (gath_mem (p := y.1) (e := y.2) (o.2.2 _ (lkI_mem hc2)).1).mp hy
      have b1 := (dig_b hB (h := h * B + a) s2).2
      have b2 := (dig_b hB (h := h * B + b) r2).1
      rw [s4, r4]
      rw [s1] at b1
      rw [r1] at b2
      have m := Int.mul_le_mul_of_nonneg_right (show h * B + a + 1 ≤ h * B + b by omega) (Int.le_of_lt (Int.pow_pos (m := n + 1) hB))
      omega
theorem pageOf_dig {fn : Int} {s : List Int} : pageOf fn s = dig (wid fn) 0 s := rfl
/-- what a table tells is what the dict beside it holds, sorted -/
theorem gath_told {n j : Nat} {fn gr : Int} {t : TT (n + 1)} {es : List (Int × Int)} (g : goodS ((n : Int) + 2) fn gr) (h : tbI n fn t es j) : gathT (wid fn) (n + 1) t 0 = (sortI (keysI es)).map fun p => (p, (lkI es p).getD 0) := by
  have hw := wid_b g
  refine told_eq (gath_pw (by omega) h.ok) ?_ ?_
  · rw [List.pairwise_map]; exact sortI_lt h.nd
  · rintro ⟨p, e⟩
    rw [gath_mem h.ok, List.mem_map]
    constructor
    · rintro ⟨s, s1, s2, s3, s4⟩
      obtain ⟨b1, b2, b3⟩ := pageOf_b (ds := s) g ⟨by omega, s2⟩
      rw [pageOf_dig, ← s4] at b1 b2 b3
      have := h.te p b1 b2
      rw [b3, s3] at this
      exact ⟨p, mem_sortI.mpr (List.mem_map.mpr ⟨_, lkI_mem this.symm, rfl⟩), by rw [← this]; rfl⟩
    · rintro ⟨q, hq, e2⟩
      injection e2 with e3 e4
      subst e3
      have hq := mem_sortI.mp hq
      obtain ⟨x, hx⟩ := lkI_some hq
      obtain ⟨k0, k1⟩ := h.kb q hq
      rw [hx] at e4
      refine ⟨stepsL ((n : Int) + 2) fn q, steps_n, fun d hd => stepsL_b g hd, ?_, by rw [← pageOf_dig, pageOf_steps g k0 k1]⟩
      rw [h.te q k0 k1, hx]; exact congrArg some e4
/-! ### how deep a page is -/
theorem dig_app {B h : Int} {s r : List Int} : dig B h (s ++ r) = dig B (dig B h s) r := by unfold dig; rw [List.foldl_append]
theorem dig_div {B h : Int} {r : List Int} (hB : 0 < B) (hb : ∀ d ∈ r, 0 ≤ d ∧ d < B) : dig B h r / B ^ r.length = h := by
  obtain ⟨b1, b2⟩ := dig_b hB (h := h) hb
  have hp : 0 < B ^ r.length := Int.pow_pos hB
  have h1 : h ≤ dig B h r / B ^ r.length := (Int.le_ediv_iff_mul_le hp).mpr b1
  have h2 : dig B h r / B ^ r.length < h + 1 := (Int.ediv_lt_iff_lt_mul hp).mpr b2
  omega
theorem dig_inj {B : Int} (hB : 0 < B) : ∀ {s s' : List Int} {h h' : Int}, s.length = s'.length → (∀ d ∈ s, 0 ≤ d ∧ d < B) → (∀ d ∈ s', 0 ≤ d ∧ d < B) → dig B h s = dig B h' s' → h = h' ∧ s = s'
  | [], [], h, h', _, _, _, e => ⟨e, rfl⟩
  | d :: s, d' :: s', h, h', hl, hb, hb', e => by
    obtain ⟨e1, e2⟩ := dig_inj hB (s := s) (s' := s') (h := h * B + d) (h' := h' * B + d') (by simpa using hl) (fun x hx => hb x (.tail _ hx)) (fun x hx => hb' x (.tail _ hx)) e
    obtain ⟨d0, d1⟩ := hb d (.head _)
    obtain ⟨d0', d1'⟩ := hb' d' (.head _)
    have q1 : (h * B + d) / B = h := by rw [Int.add_comm, Int.add_mul_ediv_right _ _ (by omega), Int.ediv_eq_zero_of_lt d0 d1, Int.zero_add]
    have q2 : (h' * B + d') / B = h' := by rw [Int.add_comm, Int.add_mul_ediv_right _ _ (by omega), Int.ediv_eq_zero_of_lt d0' d1', Int.zero_add]
    have q3 : h = h' := by rw [← q1, ← q2, e1]
    subst q3
    exact ⟨rfl, by rw [e2, show d = d' by omega]⟩
/-- some entry stands beneath these steps -/
def hasT (B : Int) (n : Nat) (t : TT n) (pre : List Int) : Prop := ∃ r, pre.length + r.length = n + 1 ∧ (∀ d ∈ r, 0 ≤ d ∧ d < B) ∧ ∃ e, lookT n t (pre ++ r) = some e
theorem hasT_nil {B : Int} : ∀ {n t}, okT B n t → lenT n t ≠ 0 → hasT B n t []
  | 0, t, o, h => by
    cases e : ents t with
    | nil => exact absurd (by show (ents t).length = 0; rw [e]; rfl) h
    | cons c cs =>
      have hk : c.1 ∈ keysI (ents t) := by rw [e]; exact .head _
      obtain ⟨x, hx⟩ := lkI_some hk
      exact ⟨[c.1], rfl, fun d hd => by rw [List.mem_singleton] at hd; subst hd; exact o.2 _ hk, x, hx⟩
  | n + 1, t, o, h => by
    cases e : subs t with
    | nil => exact absurd (by show (subs t).length = 0; rw [e]; rfl) h
    | cons c cs =>
      have hk : c.1 ∈ keysI (subs t) := by rw [e]; exact .head _
      obtain ⟨u, hu⟩ := lkI_some hk
      obtain ⟨o1, o2⟩ := o.2.2 _ (lkI_mem hu)
      obtain ⟨r, r1, r2, y, r3⟩ := hasT_nil o1 o2
      refine ⟨c.1 :: r, by simpa using r1, fun d hd => ?_, y, ?_⟩
      · rcases List.mem_cons.mp hd with rfl | hd
        · exact o.2.1 _ hk
        · exact r2 d hd
      · show (lkI (subs t) c.1).bind _ = _
        rw [hu]; exact r3
theorem hasT_none {B s : Int} {n : Nat} {t : TT (n + 1)} {pre : List Int} (h : lkI (subs t) s = none) : ¬ hasT B (n + 1) t (s :: pre) := fun ⟨r, _, _, e, r3⟩ => by
  have r3 : (lkI (subs t) s).bind (fun c => lookT n c (pre ++ r)) = some e := r3
  rw [h] at r3; cases r3
theorem hasT_some {B s : Int} {n : Nat} {t : TT (n + 1)} {pre : List Int} {c : TT n} (h : lkI (subs t) s = some c) : hasT B (n + 1) t (s :: pre) ↔ hasT B n c pre := by
  constructor
  · rintro ⟨r, r1, r2, e, r3⟩
    have r3 : (lkI (subs t) s).bind (fun c => lookT n c (pre ++ r)) = some e := r3
    rw [h] at r3
    exact ⟨r, by simpa [Nat.add_right_comm] using r1, r2, e, r3⟩
  · rintro ⟨r, r1, r2, e, r3⟩
    refine ⟨r, by rw [List.length_cons]; omega, r2, e, ?_⟩
    show (lkI (subs t) s).bind (fun c => lookT n c (pre ++ r)) = some e
    rw [h]; exact r3
theorem has_page {n j k : Nat} {fn gr p : Int} {t : TT (n + 1)} {es : List (Int × Int)} (g : goodS ((n : Int) + 2) fn gr) (h : tbI n fn t es j) (h0 : 0 ≤ p) (h1 : p < pgs ((n : Int) + 2) fn) (hk : k ≤ n + 2) :
    (∃ q ∈ keysI es, q / wid fn ^ k = p / wid fn ^ k) ↔ hasT (wid fn) (n + 1) t ((stepsL ((n : Int) + 2) fn p).take (n + 2 - k)) := by
  have hw := wid_b g
  have hB : 0 < wid fn := by omega
  have tk : ∀ q, 0 ≤ q → q < pgs ((n : Int) + 2) fn → q / wid fn ^ k = dig (wid fn) 0 ((stepsL ((n : Int) + 2) fn q).take (n + 2 - k)) := fun q q0 q1 => by
    have e := pageOf_steps g q0 q1
    rw [pageOf_dig, ← List.take_append_drop (n + 2 - k) (stepsL ((n : Int) + 2) fn q), dig_app] at e
    have hd : ((stepsL ((n : Int) + 2) fn q).drop (n + 2 - k)).length = k := by rw [List.length_drop, steps_n]; omega
    have := dig_div hB (h := dig (wid fn) 0 ((stepsL ((n : Int) + 2) fn q).take (n + 2 - k))) (r := (stepsL ((n : Int) + 2) fn q).drop (n + 2 - k)) fun d hd => stepsL_b g (List.mem_of_mem_drop hd)
    rw [hd, e] at this
    exact this
  have hpl : ((stepsL ((n : Int) + 2) fn p).take (n + 2 - k)).length = n + 2 - k := by rw [List.length_take, steps_n]; omega
  constructor
  · rintro ⟨q, hq, e⟩
    obtain ⟨q0, q1⟩ := h.kb q hq
    obtain ⟨x, hx⟩ := lkI_some hq
    rw [tk q q0 q1, tk p h0 h1] at e
    have hql : ((stepsL ((n : Int) + 2) fn q).take (n + 2 - k)).length = n + 2 - k := by rw [List.length_take, steps_n]; omega
    have e2 := (dig_inj hB (by rw [hql, hpl]) (fun d hd => stepsL_b g (List.mem_of_mem_take hd)) (fun d hd => stepsL_b g (List.mem_of_mem_take hd)) e).2
    refine ⟨(stepsL ((n : Int) + 2) fn q).drop (n + 2 - k), by rw [hpl, List.length_drop, steps_n]; omega, fun d hd => stepsL_b g (List.mem_of_mem_drop hd), x, ?_⟩
    rw [← e2, List.take_append_drop, h.te q q0 q1, hx]
  · rintro ⟨r, r1, r2, x, r3⟩
    rw [hpl] at r1
    obtain ⟨b1, b2, b3⟩ := pageOf_b (ds := (stepsL ((n : Int) + 2) fn p).take (n + 2 - k) ++ r) g ⟨by rw [List.length_append, hpl]; omega, fun d hd => (List.mem_append.mp hd).elim (fun hd => stepsL_b g (List.mem_of_mem_take hd)) (r2 d)⟩
    have e := h.te _ b1 b2
    rw [b3, r3] at e
    refine ⟨_, List.mem_map.mpr ⟨_, lkI_mem e.symm, rfl⟩, ?_⟩
    rw [tk p h0 h1]
    show pageOf fn _ / _ = _
    rw [pageOf_dig, dig_app]
    have := dig_div hB (h := dig (wid fn) 0 ((stepsL ((n : Int) + 2) fn p).take (n + 2 - k))) r2
    rw [show r.length = k by omega] at this
    exact this
/-- the depth due -/
def deepD (n : Nat) (fn : Int) (es : List (Int × Int)) (p : Int) : Nat := if ∃ q ∈ keysI es, q / wid fn ^ 1 = p / wid fn ^ 1 then n + 2 else if n = 1 ∧ ∃ q ∈ keysI es, q / wid fn ^ 2 = p / wid fn ^ 2 then 2 else 1
theorem reach_due {n j : Nat} {fn gr p : Int} {t : TT (n + 1)} {es : List (Int × Int)} (g : goodS ((n : Int) + 2) fn gr) (hn : n ≤ 1) (h : tbI n fn t es j) (h0 : 0 ≤ p) (h1 : p < pgs ((n : Int) + 2) fn) : reachT (n + 1) t (stepsL ((n : Int) + 2) fn p) = deepD n fn es p := by
  unfold deepD
  have e1 := has_page (k := 1) g h h0 h1 (by omega)
  have e2 := has_page (k := 2) g h h0 h1 (by omega)
  have hl := steps_n (n := n) (fn := fn) (p := p)
  obtain rfl | rfl : n = 0 ∨ n = 1 := by omega
  · generalize stepsL (((0 : Nat) : Int) + 2) fn p = s at *
    match s, hl with
    | [a, b], _ =>
      have e1 : _ ↔ hasT (wid fn) 1 t [a] := e1
      cases hc : lkI (subs t) a with
      | none => rw [if_neg (fun z => hasT_none hc (e1.mp z)), if_neg (by omega)]; exact reachT_none hc
      | some c =>
        have o := h.ok.2.2 _ (lkI_mem hc)
        rw [if_pos (e1.mpr ((hasT_some hc).mpr (hasT_nil o.1 o.2)))]; exact reachT_some hc
  · generalize stepsL (((1 : Nat) : Int) + 2) fn p = s at *
    match s, hl with
    | [a, b, c], _ =>
      have e1 : _ ↔ hasT (wid fn) 2 t [a, b] := e1
      have e2 : _ ↔ hasT (wid fn) 2 t [a] := e2
      cases hc : lkI (subs t) a with
      | none => rw [if_neg (fun z => hasT_none hc (e1.mp z)), if_neg (fun z => hasT_none hc (e2.mp z.2))]; exact reachT_none hc
      | some u =>
        have o := h.ok.2.2 _ (lkI_mem hc)
        refine (reachT_some hc).trans ?_
        cases hd : lkI (subs u) b with
        | none => rw [if_neg (fun z => hasT_none hd ((hasT_some hc).mp (e1.mp z))), if_pos ⟨rfl, e2.mpr ((hasT_some hc).mpr (hasT_nil o.1 o.2))⟩, reachT_none hd]
        | some v =>
          have o2 := o.1.2.2 _ (lkI_mem hd)
          rw [if_pos (e1.mpr ((hasT_some hc).mpr ((hasT_some hd).mpr (hasT_nil o2.1 o2.2)))), reachT_some hd]; rfl
end Fl
/-! Fl: dicts with tuple keys, each with True; how many tables there are. -/
namespace Fl
open PySem PySem.Spec PyProof.Rows L2
def dmS (ks : List (List Int)) : List (List Key × V) := ks.map fun k => (k.map Sum.inl, V.bl true)
def putS (ks : List (List Int)) (k : List Int) : List (List Int) := if k ∈ ks then ks else ks ++ [k]
theorem inl_inj : ∀ {a b : List Int}, a.map (Sum.inl : Int → Key) = b.map Sum.inl ↔ a = b := by
  intro a b
  constructor
  · intro h
    induction a generalizing b with
    | nil => cases b with
      | nil => rfl
      | cons y b => cases h
    | cons x a ih => cases b with
      | nil => cases h
      | cons y b =>
        rw [List.map_cons, List.map_cons] at h
        injection h with h1 h2
        rw [Sum.inl.inj h1, ih h2]
  · rintro rfl; rfl
theorem dmS_put {ks : List (List Int)} {k : List Int} : putK (dmS ks) (k.map Sum.inl) (.bl true) = dmS (putS ks k) := by
  have e : ((dmS ks).any fun kv => decide (kv.1 = k.map Sum.inl)) = decide (k ∈ ks) := by
    unfold dmS
    rw [List.any_map]
    induction ks with
    | nil => simp
    | cons x ks ih =>
      rw [List.any_cons, ih]
      show (decide (x.map (Sum.inl : Int → Key) = k.map Sum.inl) || _) = _
      rw [decide_eq_decide.mpr inl_inj]
      rw [Bool.eq_iff_iff, Bool.or_eq_true, decide_eq_true_eq, decide_eq_true_eq, decide_eq_true_eq, List.mem_cons]
      exact ⟨fun z => z.imp Eq.symm id, fun z => z.imp Eq.symm id⟩
  unfold putK putS
  rw [e]
  by_cases h : k ∈ ks
  · rw [if_pos (decide_eq_true h), if_pos h]
    unfold dmS
    rw [List.map_map]
    refine List.map_congr_left fun x _ => ?_
    show (if x.map (Sum.inl : Int → Key) = k.map Sum.inl then (x.map (Sum.inl : Int → Key), V.bl true) else _) = _
    split <;> rfl
  · rw [if_neg (by simp [h]), if_neg h]
    unfold dmS
    rw [List.map_append]; rfl
theorem putS_len {ks : List (List Int)} {k : List Int} : (putS ks k).length ≤ ks.length + 1 := by unfold putS; split <;> simp
theorem mem_putS {ks : List (List Int)} {k x : List Int} : x ∈ putS ks k ↔ x = k ∨ x ∈ ks := by
  unfold putS
  split
  · next h => exact ⟨fun q => .inr q, fun q => q.elim (fun e => e ▸ h) id⟩
  · rw [List.mem_append, List.mem_singleton]; exact Or.comm
theorem putS_nd {ks : List (List Int)} {k : List Int} (h : ks.Nodup) : (putS ks k).Nodup := by
  unfold putS
  split
  · exact h
  · next q => exact List.nodup_append.mpr ⟨h, by simp, fun a ha b hb e => by rw [List.mem_singleton] at hb; subst hb; subst e; exact q ha⟩
theorem cdiv_ok {i j : Int} (h0 : 0 < j) (h : j < 2 ^ 200) : CDivW i j := by
  refine ⟨h0, Nat.lt_trans (m := 200) ((Nat.log2_lt (by omega)).mpr ?_) (by decide)⟩
  have e : ((j.natAbs : Nat) : Int) = j := by omega
  have : ((j.natAbs : Nat) : Int) < ((2 ^ 200 : Nat) : Int) := by rw [e]; exact_mod_cast h
  exact_mod_cast this
class TupI (xs : List V) (k : outParam (List Int)) : Prop where e : xs = k.map V.int
instance tupI0 : TupI [] [] := ⟨rfl⟩
instance tupI1 {i : Int} {xs : List V} {k : List Int} [q : TupI xs k] : TupI (.int i :: xs) (i :: k) := ⟨by rw [q.e]; rfl⟩
section
variable {L l m : List Asrt} {H : Hp} {Q : VK} {d p : Addr} {ks : List (List Int)} {k : List Int} {xs : List V} {w : Hp → Prop}
theorem r_putS [q : TupI xs k] (S : Star L H) (P : Pull (pt d (.dT (dmS ks))) L l) (P2 : Pull (pt p (.tup xs)) l m) (z : ks.length < 100000) (h : ∀ H', Star (pt d (.dT (dmS (putS ks k))) :: m) H' → w H') : kDPut (.ref d) (.ref p) (.bl true) H w := by
  have S1 := S.pull P
  have S2 := S1.under fun _ S => S.pull P2
  have e1 := S1.get (.head _)
  have e2 := S2.get (.tail _ (.head _))
  have e3 : H p = some (.tup ((k.map (Sum.inl : Int → Key)).map kV)) := by rw [e2, q.e, List.map_map]; rfl
  refine ⟨d, _, rfl, DPut.t e1 e3 (Evl.sz_lt (by unfold dmS; rw [List.length_map]; exact z)), h _ ?_⟩
  rw [dmS_put]
  exact ((S1.upd fun ⟨_, q⟩ => nomatch q)).under fun _ S => (S.pull P2).tail
theorem r_lenS (S : Star L H) (P : Pull (pt d (.dT (dmS ks))) L l) (h : Q (.int (ks.length : Int)) H) : rLenT [.ref d] H Q :=
  ⟨d, _, rfl, (S.pull P).get (.head _), by unfold dmS; rw [List.length_map]; exact h⟩
instance {vs : List V} : Grp (rLenT vs H Q) 5 := ⟨⟩
instance {vs : List V} : Grp (rLenT vs H Q) 193 := ⟨⟩
end
/-! ### the heads of a table -/
def headT (B : Int) : (n : Nat) → TT n → Int → List (List Int)
  | 0, _, _ => []
  | n + 1, t, h => (subs t).flatMap fun c => [(n : Int) + 1, h * B + c.1] :: headT B n c.2 (h * B + c.1)
theorem headT_cons {B h : Int} {n : Nat} {t : TT (n + 1)} : headT B (n + 1) t h = (subs t).flatMap fun c => [(n : Int) + 1, h * B + c.1] :: headT B n c.2 (h * B + c.1) := rfl
theorem headT_len {B : Int} : ∀ {n t h}, cntT n t = 1 + (headT B n t h).length
  | 0, t, h => rfl
  | n + 1, t, h => by
    rw [headT_cons, List.length_flatMap]
    show 1 + ((subs t).map fun c => cntT n c.2).sum = _
    congr 2
    refine List.map_congr_left fun c _ => ?_
    rw [List.length_cons, headT_len (B := B) (h := h * B + c.1)]; omega
theorem headT_mem {B : Int} : ∀ {n t h x}, okT B n t → (x ∈ headT B n t h ↔ ∃ s : List Int, ∃ j : Nat, s.length + j = n + 1 ∧ 1 ≤ j ∧ 1 ≤ s.length ∧ (∀ d ∈ s, 0 ≤ d ∧ d < B) ∧ hasT B n t s ∧ x = [(j : Int), dig B h s])
  | 0, t, h, x, o => by
    constructor
    · intro h; cases h
    · rintro ⟨s, j, h1, h2, h3, _⟩; omega
  | n + 1, t, h, x, o => by
    rw [headT_cons, List.mem_flatMap]
    constructor
    · rintro ⟨c, hc, hx⟩
      have hl : lkI (subs t) c.1 = some c.2 := mem_lkI o.1 hc
      have hk : c.1 ∈ keysI (subs t) := List.mem_map.mpr ⟨_, hc, rfl⟩
      obtain ⟨o1, o2⟩ := o.2.2 _ hc
      rcases List.mem_cons.mp hx with rfl | hx
      · exact ⟨[c.1], n + 1, by simp; omega, by omega, by simp, fun d hd => by rw [List.mem_singleton] at hd; subst hd; exact o.2.1 _ hk, (hasT_some hl).mpr (hasT_nil o1 o2), by simp [dig]⟩
      · obtain ⟨s, j, s1, s2, s3, s4, s5, s6⟩ := (headT_mem o1).mp hx
        refine ⟨c.1 :: s, j, by simp; omega, s2, by simp, fun d hd => ?_, (hasT_some hl).mpr s5, s6⟩
        rcases List.mem_cons.mp hd with rfl | hd
        · exact o.2.1 _ hk
        · exact s4 d hd
    · rintro ⟨s, j, s1, s2, s3, s4, s5, rfl⟩
      match s, s3 with
      | a :: r, _ =>
        cases hl : lkI (subs t) a with
        | none => exact absurd s5 (hasT_none hl)
        | some c =>
          have s5 := (hasT_some hl).mp s5
          refine ⟨(a, c), lkI_mem hl, ?_⟩
          obtain ⟨o1, o2⟩ := o.2.2 _ (lkI_mem hl)
          match r with
          | [] =>
            rw [List.length_cons, List.length_nil] at s1
            obtain rfl : j = n + 1 := by omega
            refine List.mem_cons.mpr (.inl ?_)
            simp [dig]
          | b :: r =>
            refine List.mem_cons.mpr (.inr ((headT_mem o1).mpr ⟨b :: r, j, by simp at s1 ⊢; omega, s2, by simp, fun d hd => s4 d (.tail _ hd), s5, rfl⟩))
theorem headT_nd {B : Int} (hB : 0 < B) : ∀ {n t h}, okT B n t → (headT B n t h).Nodup
  | 0, t, h, o => List.nodup_nil
  | n + 1, t, h, o => by
    rw [headT_cons]
    unfold List.Nodup
    rw [List.pairwise_flatMap]
    constructor
    · intro c hc
      obtain ⟨o1, o2⟩ := o.2.2 _ hc
      refine List.pairwise_cons.mpr ⟨fun x hx e => ?_, headT_nd hB o1⟩
      obtain ⟨s, j, s1, s2, s3, s4, s5, rfl⟩ := (headT_mem o1).mp hx
      injection e with e1 e2
      omega
    · have nd : (subs t).Pairwise fun a b => a.1 ≠ b.1 := by
        have := o.1
        unfold keysI List.Nodup at this
        rwa [List.pairwise_map] at this
      refine nd.imp_of_mem ?_
      intro c c' hc hc' hne x hx y hy e
      subst e
      obtain ⟨o1, o2⟩ := o.2.2 _ hc
      obtain ⟨o1', o2'⟩ := o.2.2 _ hc'
      have hx2 : ∃ j : Nat, ∃ s : List Int, s.length + j = n + 1 ∧ (∀ d ∈ s, 0 ≤ d ∧ d < B) ∧ x = [(j : Int), dig B (h * B + c.1) s] := by
        rcases List.mem_cons.mp hx with rfl | hx
        · exact ⟨n + 1, [], by simp, by simp, by simp [dig]⟩
        · obtain ⟨s, j, s1, s2, s3, s4, s5, s6⟩ := (headT_mem o1).mp hx
          exact ⟨j, s, s1, s4, s6⟩
      have hy2 : ∃ j : Nat, ∃ s : List Int, s.length + j = n + 1 ∧ (∀ d ∈ s, 0 ≤ d ∧ d < B) ∧ x = [(j : Int), dig B (h * B + c'.1) s] := by
        rcases List.mem_cons.mp hy with hy | hy
        · exact ⟨n + 1, [], by simp, by simp, by rw [hy]; simp [dig]⟩
        · obtain ⟨s, j, s1, s2, s3, s4, s5, s6⟩ := (headT_mem o1').mp hy
          exact ⟨j, s, s1, s4, s6⟩
      obtain ⟨j, s, a1, a2, a3⟩ := hx2
      obtain ⟨j', s', b1, b2, b3⟩ := hy2
      rw [a3] at b3
      injection b3 with b4 b5
      injection b5 with b5
      have := (dig_inj hB (by omega) a2 b2 b5).1
      omega
/-- the heads of pages -/
theorem heads_due {n j : Nat} {fn gr : Int} {t : TT (n + 1)} {es : List (Int × Int)} {hs : List (List Int)} (g : goodS ((n : Int) + 2) fn gr) (h : tbI n fn t es j) (nd : hs.Nodup)
    (hm : ∀ x, x ∈ hs ↔ ∃ q ∈ keysI es, ∃ k : Nat, 1 ≤ k ∧ k ≤ n + 1 ∧ x = [(k : Int), q / wid fn ^ k]) : cntT (n + 1) t = 1 + hs.length := by
  have hw := wid_b g
  have hB : 0 < wid fn := by omega
  rw [headT_len (B := wid fn) (h := 0)]
  congr 1
  refine List.Perm.length_eq ((List.perm_ext_iff_of_nodup (headT_nd hB h.ok) nd).mpr fun x => ?_)
  rw [headT_mem h.ok, hm]
  constructor
  · rintro ⟨s, k, s1, s2, s3, s4, ⟨r, r1, r2, e, r3⟩, rfl⟩
    have hr : r.length = k := by omega
    obtain ⟨b1, b2, b3⟩ := pageOf_b (ds := s ++ r) g ⟨by rw [List.length_append]; omega, fun d hd => (List.mem_append.mp hd).elim (s4 d) (r2 d)⟩
    have e2 := h.te _ b1 b2
    rw [b3, r3] at e2
    refine ⟨_, List.mem_map.mpr ⟨_, lkI_mem e2.symm, rfl⟩, k, s2, by omega, ?_⟩
    show _ = [(k : Int), pageOf fn (s ++ r) / _]
    rw [pageOf_dig, dig_app, ← hr, dig_div hB r2]
  · rintro ⟨q, hq, k, k1, k2, rfl⟩
    obtain ⟨q0, q1⟩ := h.kb q hq
    obtain ⟨x, hx⟩ := lkI_some hq
    have e := pageOf_steps g q0 q1
    have hl := steps_n (n := n) (fn := fn) (p := q)
    have hd : ((stepsL ((n : Int) + 2) fn q).drop (n + 2 - k)).length = k := by rw [List.length_drop, hl]; omega
    have ht : ((stepsL ((n : Int) + 2) fn q).take (n + 2 - k)).length = n + 2 - k := by rw [List.length_take, hl]; omega
    refine ⟨(stepsL ((n : Int) + 2) fn q).take (n + 2 - k), k, by rw [ht]; omega, k1, by rw [ht]; omega, fun d hd => stepsL_b g (List.mem_of_mem_take hd), ⟨(stepsL ((n : Int) + 2) fn q).drop (n + 2 - k), by rw [ht, hd]; omega, fun d hd => stepsL_b g (List.mem_of_mem_drop hd), x, ?_⟩, ?_⟩
    · rw [List.take_append_drop, h.te q q0 q1, hx]
    · rw [pageOf_dig, ← List.take_append_drop (n + 2 - k) (stepsL ((n : Int) + 2) fn q), dig_app] at e
      have := dig_div hB (h := dig (wid fn) 0 ((stepsL ((n : Int) + 2) fn q).take (n + 2 - k))) (r := (stepsL ((n : Int) + 2) fn q).drop (n + 2 - k)) fun d hd => stepsL_b g (List.mem_of_mem_drop hd)
      rw [hd, e] at this
      rw [this]
/-! in a tuple of whole numbers -/
theorem inV_ints {i : Int} {is : List Int} : inV (.int i) (is.map V.int) = decide (i ∈ is) := by
  unfold inV
  rw [List.any_map]
  induction is with
  | nil => rfl
  | cons j is ih =>
    rw [List.any_cons, ih]
    show ((j == i) || decide (i ∈ is)) = _
    by_cases h : j = i
    · subst h; simp
    · have h2 : ¬ i = j := fun e => h e.symm
      rw [show (j == i) = false by simpa using h, Bool.false_or]
      simp [h2]
theorem r_inTI {K : PySem.W.Frag} {xs : List V} {is : List Int} {i : Int} {p : Addr} {L l : List Asrt} {H : Hp} {Q : VK} [q : TupI xs is] (S : Star L H) (P : Pull (pt p (.tup xs)) L l) (h : Q (.bl (decide (i ∈ is))) H) : rIn K false (.int i) (.ref p) H Q :=
  ⟨p, xs, rfl, .inr (SqT.of ((S.pull P).get (.head _))), rfl, by rw [q.e, List.all_map]; exact List.all_eq_true.mpr fun _ _ => rfl, by rw [if_neg Bool.false_ne_true, q.e, inV_ints]; exact h⟩
instance {K : PySem.W.Frag} {b : Bool} {x y : V} {H : Hp} {Q : VK} : Grp (rIn K b x y H Q) 4 := ⟨⟩
instance {K : PySem.W.Frag} {b : Bool} {x y : V} {H : Hp} {Q : VK} : Grp (rIn K b x y H Q) 194 := ⟨⟩
end Fl
/-! Fl: sorted(d, reverse=True) of a dict with whole keys. -/
namespace Fl
open PySem PySem.Spec PyProof.Rows L2 Srt SrtO
def cSortDR : List V → List V → Hp → VK → Prop := fun vs zs H Q => ∃ (a : Addr) (kvs : List (Key × V)) (ks : List Int), vs = [.ref a] ∧ zs = [.bl true] ∧ Rd H a (.dK kvs) ∧ kvs.map (·.1) = ks.map Sum.inl ∧ ks.length < 64 ∧
  ∀ (ys : List Int) (p : Addr), ys.Perm ks → ys.Pairwise (· ≥ ·) → H p = none → Q (.ref p) (upd H p (.lst (ys.map V.int)))
theorem callSortDR {X : Cx} (calm : X.calm = true) : CallRK X (.builtin "sorted") [Str.ofString "reverse"] cSortDR := by
  intro pins s σ H vs zs us ws Q I r rz q
  obtain ⟨a, kvs, ks, rfl, rfl, hd, hks, few, q⟩ := q
  obtain rfl := Vals.ref1 r
  obtain ⟨w1, rfl, e1⟩ := vals1 rz
  obtain rfl : w1 = Value.bool true := e1
  obtain ⟨z, lo, ds, rel, dd⟩ := dk_rd I.hok hd
  obtain ⟨ep, hat⟩ := dd.dictAt
  have keysd : ds.map (·.1) = ks.map Sum.inl := rel.keys.symm.trans hks
  have hl : ds.length = ks.length := by simpa using congrArg List.length keysd
  refine PyProof.Rows.call_function_entry_kw kind_sorted plain_sorted entry_sorted (args_sorted_rev _ _) ?_
  unfold Builtin.«sorted»
  refine wpAny_bind (m := checkCount "sorted" 1 1 _) (wpAny_pure ?_)
  refine wpAny_bind (PySem.W.kdu_collect (A := X.A.in1) (PySem.W.kdl_dict (knd := mixKind X.prog X.w) (kvs := ds) (ep := ep) lo) (I.ok.hd calm) hat (by rw [hl, sizeLine_eq]; omega) fun h' tk acc hk hacc => ?_)
  have alen : acc.toList.length = ks.length := by rw [Array.length_toList, hacc.1, hl]
  have hInt : IntsAre acc.toList ks := ints_each alen fun j v e => by
    obtain ⟨k, x, e1, e2⟩ := hacc.2 j v (by rw [← Array.getElem?_toList]; exact e)
    have at3 : (ds.map (·.1))[j]? = some k := by rw [List.getElem?_map, e1]; rfl
    rw [keysd, List.getElem?_map] at at3
    cases at4 : ks[j]? with
    | none => rw [at4] at at3; cases at3
    | some y =>
      rw [at4] at at3
      obtain rfl : Sum.inl y = k := Option.some.inj at3
      rcases keyIs_shape (show keyIs (Sum.inl y) v = true from e2) with ⟨i, t, ek, ev⟩ | ⟨z, t, ek, ev⟩
      · cases ek
        exact ⟨y, t, rfl, ev⟩
      · cases ek
  have I1 : Inv X pins σ H { s with heap := h', toks := tk } := I.kept hk
  refine wpAny_bind (wpAny_newList ?_ (by rw [alen, sizeLine_eq]; omega))
  have hoL : (h'.push (seqObj "list" acc.toList.toArray 0)).get? h'.objs.size = some (seqObj "list" acc.toList.toArray 0) := Heap.get?_push_size _ rfl
  show wpAny _ _ _ _ _ { s with heap := h'.push (seqObj "list" acc.toList.toArray 0), toks := tk }
  refine wpAny_bind (wpAny_holding (wpAny_call_entry_kw slot_list_sort ⟨_, hoL, rfl⟩ entry_list_sort ?_ (args_list_sort_rev _ _)))
  refine SrtR.list_sort_ordR (b := true) swo_int hoL (by rw [alen, sizeLine_eq]; omega) (fun h2 => ints_sortable hInt h2) fun out g1 g2 => ⟨_, rfl, ?_⟩
  obtain ⟨ys, k1, k2, k3⟩ := SrtR.ints_outR hInt g1 g2
  obtain ⟨e', he'⟩ := sortedHeap_at (vs := acc.toList) (out := out.toArray.reverse) hoL
  have hlen : (ys.map V.int).length ≤ sizeLine := by
    rw [List.length_map, k2.length_eq, sizeLine_eq]
    omega
  refine wpAny_pure ⟨_, rfl, .ref h'.objs.size, upd H h'.objs.size (.lst (ys.map V.int)), I1.laid (t' := tk) (fun b u e => ?_) (Nat.le_refl _)
    (show ObjOk X.prog X.w _ _ _ (.lst (ys.map V.int)) from ⟨hlen, _, e', vals_of_ints k1, by rw [Array.toArray_toList]; exact he'⟩), rfl, q ys _ k2 k3 (I1.hok.fresh (Nat.le_refl _))⟩
  have hb : b < h'.objs.size := Heap.lt_size e
  rw [sortedHeap_old (Nat.ne_of_lt hb) (by rw [size_push']; exact Nat.lt_succ_of_lt hb)]
  exact Heap.get?_push_of_some _ e
section
variable {σ : L2.St} {H : Hp} {Q : VK} {t tk : TA} {r : List V → List V → Hp → VK → Prop} {L l : List Asrt} {d : Addr} {kvs : Dk} {es : List (Int × Int)}
instance i_r_ckw : Stp (tCKw r t tk σ H Q) (t σ H fun vs H1 => tk σ H1 fun zs H2 => r vs zs H2 Q) := ⟨fun h => h⟩
theorem r_sortDR [q : DmI kvs es] (S : Star L H) (P : Pull (pt d (.dK kvs)) L l) (z : kvs.length < 64) (h : ∀ (ms : List Int) q H', ms.Perm (keysI es) → ms.Pairwise (· ≥ ·) → Star (pt q (.lst (ms.map V.int)) :: L) H' → Q (.ref q) H') : cSortDR [.ref d] [.bl true] H Q := by
  have e := q.e
  subst e
  refine ⟨d, _, keysI es, rfl, rfl, .inl ((S.pull P).get (.head _)), dmI_keys, ?_, fun ms q pm pw n => h ms q _ pm pw (S.new n)⟩
  unfold keysI
  rw [dmI_len] at z
  rw [List.length_map]; exact z
instance {vs zs : List V} : Grp (cSortDR vs zs H Q) 5 := ⟨⟩
instance {vs zs : List V} : Grp (cSortDR vs zs H Q) 187 := ⟨⟩
end
end Fl
/-! Fl: lists of owned things, one of them taken out; loops over them. -/
namespace Fl
open PySem PySem.Spec PyProof.Rows L2
theorem dec_nn : decide (V.non = V.non) = true := rfl
theorem dec_rn {a : Addr} : decide (V.ref a = V.non) = false := rfl
theorem dec_in {i : Int} : decide (V.int i = V.non) = false := rfl
theorem ndec_nn : (!decide (V.non = V.non)) = false := rfl
theorem ndec_rn {a : Addr} : (!decide (V.ref a = V.non)) = true := rfl
theorem ndec_in {i : Int} : (!decide (V.int i = V.non)) = true := rfl
section
variable {α : Type} {A : α → V → Asrt} {K : PySem.W.Frag} {L l m : List Asrt} {H : Hp} {Q : VK} {p q D : Addr} {xs ys : List α} {x y : α} {v u : V} {i : Nat} {w : Hp → Prop}
/-- without the one at i, whose value is v -/
def listF (A : α → V → Asrt) (xs : List α) (i : Nat) (v : V) (p : Addr) : Asrt := fun h => ∃ cs : List (α × V), cs.map Prod.fst = xs ∧ (cs[i]?).map Prod.snd = some v ∧ Star [pt p (.lst (cs.map Prod.snd)), ownL A (cs.eraseIdx i)] h
theorem listF_open (S : Star (listF A xs i v p :: l) H) : ∃ cs : List (α × V), cs.map Prod.fst = xs ∧ (cs[i]?).map Prod.snd = some v ∧ Star (pt p (.lst (cs.map Prod.snd)) :: ownL A (cs.eraseIdx i) :: l) H := by
  obtain ⟨h1, h2, dj, s1, s2, ⟨cs, e, e2, S1⟩, S2⟩ := S
  exact ⟨cs, e, e2, Star.glue (l := [_, _]) ⟨h1, h2, dj, s1, s2, S1, S2⟩⟩
theorem listF_close {cs : List (α × V)} (e : cs.map Prod.fst = xs) (e2 : (cs[i]?).map Prod.snd = some v) (S : Star (pt p (.lst (cs.map Prod.snd)) :: ownL A (cs.eraseIdx i) :: l) H) : Star (listF A xs i v p :: l) H :=
  Star.cl (k := [_, _]) S fun h S => ⟨cs, e, e2, S⟩
theorem own_take {cs : List (α × V)} {c : α × V} (e : cs[i]? = some c) (S : Star (ownL A cs :: l) H) : Star (A c.1 c.2 :: ownL A (cs.eraseIdx i) :: l) H := sepL_out S e
theorem listA_take (S : Star L H) (P : Pull (listA A xs p) L l) (e : xs[i]? = some x) : ∃ v, Star (A x v :: listF A xs i v p :: l) H := by
  obtain ⟨cs, rfl, S⟩ := listA_open (S.pull P)
  rw [List.getElem?_map] at e
  obtain ⟨c, e1, rfl⟩ := Option.map_eq_some_iff.mp e
  exact ⟨c.2, (S.under fun _ S => own_take e1 S).swap.under fun _ S => listF_close rfl (by rw [e1]; rfl) S⟩
/-- put back, changed or not -/
theorem listF_put (S : Star L H) (P : Pull (A y v) L l) (P2 : Pull (listF A xs i v p) l m) : Star (listA A (xs.set i y) p :: m) H := by
  obtain ⟨cs, rfl, e2, S⟩ := listF_open ((S.pull P).under fun _ S => S.pull P2).swap
  obtain ⟨c, e3, e4⟩ := Option.map_eq_some_iff.mp e2
  subst e4
  have hi : i < cs.length := (List.getElem?_eq_some_iff.mp e3).1
  refine listA_close (cs := cs.set i (y, c.2)) (by rw [List.map_set]) ?_
  have e5 : (cs.set i (y, c.2)).map Prod.snd = cs.map Prod.snd := by
    rw [List.map_set]
    refine List.ext_getElem? fun k => ?_
    rw [List.getElem?_set]
    split
    · next h =>
      subst h
      rw [List.length_map, if_pos hi, List.getElem?_map, e3]; rfl
    · rfl
  rw [e5]
  exact S.under fun _ S => sepL_in (B := fun c : α × V => A c.1 c.2) (y := (y, c.2)) hi S.swap
theorem set_same {α : Type} {xs : List α} {i : Nat} {x : α} (e : xs[i]? = some x) : xs.set i x = xs := by
  refine List.ext_getElem? fun k => ?_
  rw [List.getElem?_set]
  split
  · next h =>
    subst h
    rw [if_pos (List.getElem?_eq_some_iff.mp e).1, e]
  · rfl
theorem listF_back (e : xs[i]? = some y) (S : Star L H) (P : Pull (A y v) L l) (P2 : Pull (listF A xs i v p) l m) : Star (listA A xs p :: m) H := by
  have := listF_put S P P2
  rwa [set_same e] at this
theorem r_takeLA (S : Star L H) (P : Pull (listA A xs p) L l) (e : xs[i]? = some x) (h : ∀ v, Star (A x v :: listF A xs i v p :: l) H → Q v H) : rIxL K (.ref p) (.int (i : Int)) H Q := by
  obtain ⟨cs, rfl, S⟩ := listA_open (S.pull P)
  rw [List.getElem?_map] at e
  obtain ⟨c, e1, rfl⟩ := Option.map_eq_some_iff.mp e
  refine ⟨p, _, (i : Int), c.2, rfl, rfl, SqL.of (S.get (.head _)), ?_, h c.2 ?_⟩
  · have hi := (List.getElem?_eq_some_iff.mp e1).1
    unfold atI ixN
    rw [List.length_map, if_pos (by omega), if_pos (by omega)]
    simp [e1]
  · exact (S.under fun _ S => own_take e1 S).swap.under fun _ S => listF_close rfl (by rw [e1]; rfl) S
theorem r_ixLF (S : Star L H) (P : Pull (listF A xs i v p) L l) (h : Q v H) : rIxL K (.ref p) (.int (i : Int)) H Q := by
  obtain ⟨cs, rfl, e2, S⟩ := listF_open (S.pull P)
  obtain ⟨c, e1, rfl⟩ := Option.map_eq_some_iff.mp e2
  refine ⟨p, _, (i : Int), c.2, rfl, rfl, SqL.of (S.get (.head _)), ?_, h⟩
  have hi := (List.getElem?_eq_some_iff.mp e1).1
  unfold atI ixN
  rw [List.length_map, if_pos (by omega), if_pos (by omega)]
  simp [e1]
theorem r_clearLA (S : Star L H) (P : Pull (listA A xs p) L l) (h : ∀ H', Star (listA A [] p :: l) H' → Q .non H') : rClear (.ref p) [] H Q := by
  obtain ⟨cs, rfl, S⟩ := listA_open (S.pull P)
  refine ⟨p, _, rfl, rfl, S.get (.head _), h _ ?_⟩
  exact listA_new (upd_LA (ws := []) (S.under fun _ S => S.tail))
instance {v : V} {vs : List V} : Grp (rClear v vs H Q) 4 := ⟨⟩
instance {v : V} {vs : List V} : Grp (rClear v vs H Q) 183 := ⟨⟩
/-- xs[i] = v -/
theorem r_setLA (S : Star L H) (P : Pull (A x v) L l) (P2 : Pull (listA A xs p) l m) (hi : i < xs.length) (h : ∀ H', Star (listA A (xs.set i x) p :: m) H' → w H') : rSetL (.ref p) (.int (i : Int)) v H w := by
  obtain ⟨cs, rfl, S⟩ := listA_open ((S.pull P).under fun _ S => S.pull P2).swap
  rw [List.length_map] at hi
  obtain ⟨c, hc⟩ : ∃ c, cs[i]? = some c := ⟨cs[i], List.getElem?_eq_getElem hi⟩
  refine ⟨p, _, (i : Int), i, rfl, rfl, S.get (.head _), by rw [List.length_map]; exact ixN_set (by omega) (by omega), h _ ?_⟩
  have S2 := upd_LA (ws := (cs.map Prod.snd).set i v) S
  refine listA_close (cs := cs.set i (x, v)) (by rw [List.map_set]) ?_
  rw [List.map_set]
  exact S2.under fun _ S => sepL_in (B := fun c : α × V => A c.1 c.2) (y := (x, v)) hi (own_take hc S).tail.swap
theorem r_kIELA {R : It → Hp → Prop} (S : Star L H) (P : Pull (listA A xs p) L l) (h : R (Ite K p) H) : kIE K [.ref p] H R := by
  obtain ⟨cs, rfl, S⟩ := listA_open (S.pull P)
  exact ⟨p, _, rfl, SqL.of (S.get (.head _)), h⟩
variable {g : TG} {tb : TS} {tt : L2.TT} {te : L2.TE} {nx bk ct : L2.St → Hp → Prop} {rt : VK} {σ σ' : L2.St} {ws : List Nat}
theorem mid_take {cs done r : List (α × V)} {c : α × V} (e : cs = done ++ c :: r) : cs[done.length]? = some c := by rw [e]; simp
theorem mid_put {cs done r : List (α × V)} {c : α × V} (e : cs = done ++ c :: r) (S : Star (A c.1 c.2 :: Star [pt p (.lst (cs.map Prod.snd)), ownL A (cs.eraseIdx done.length)] :: l) H) : Star (pt p (.lst (cs.map Prod.snd)) :: ownL A cs :: l) H := by
  have S1 : Star (pt p (.lst (cs.map Prod.snd)) :: ownL A (cs.eraseIdx done.length) :: A c.1 c.2 :: l) H := Star.glue (l := [_, _]) S.swap |>.keep (.cons .here (.cons .here (.cons .here .refl)))
  refine S1.under fun _ S => ?_
  have hi : done.length < cs.length := by rw [e]; simp
  have S2 := sepL_in (B := fun c : α × V => A c.1 c.2) (y := c) hi S.swap
  rwa [set_same (mid_take e)] at S2
theorem mid_out {cs done r : List (α × V)} {c : α × V} (e : cs = done ++ c :: r) (S : Star (pt p (.lst (cs.map Prod.snd)) :: ownL A cs :: l) H) : Star (A c.1 c.2 :: Star [pt p (.lst (cs.map Prod.snd)), ownL A (cs.eraseIdx done.length)] :: l) H := by
  have S2 := (S.under fun _ S => own_take (mid_take e) S).swap
  exact S2.under fun _ S => Star.glue' (l := [_, _]) S
theorem mid_sq {a : Addr} {xs : List V} {A B : Asrt} {H : Hp} (S : Star (A :: Star [pt a (.lst xs), B] :: l) H) : SqL K H a xs := by
  obtain ⟨h, s, x⟩ := S.tail.has (.head _)
  exact SqL.of (s _ _ (Star.get x (.head _)))
/-- for x in xs -/
theorem fl_LA (J : List α → L2.St → List Asrt → Prop) (S : Star L H) (P : Pull (listA A xs p) L l) (j : J [] σ l) (h0 : ∀ σ l H, J xs σ l → Star (listA A xs p :: l) H → nx σ H)
    (hs : ∀ done x r σ l H v R, xs = done ++ x :: r → J done σ l → Star (A x v :: R :: l) H → (∀ l' H', Star (A x v :: R :: l') H' → Star (listA A xs p :: l') H') → (∀ l' H', Star (R :: l') H' → Star (listF A xs done.length v p :: l') H') → ∀ N : L2.St → Hp → Prop, (∀ σ' l' H', J (done ++ [x]) σ' l' → Star (A x v :: R :: l') H' → N σ' H') → g v σ H fun σ2 H2 => tb ⟨N, rt, nx, N⟩ σ2 H2) :
    kW (Itl K p) g tb nx rt bk ct σ H := by
  obtain ⟨cs, rfl, S⟩ := listA_open (S.pull P)
  refine r_w (xs := cs.map Prod.snd) use_list (fl_indM (f := Prod.snd) (fun r σ H => ∃ done l, cs = done ++ r ∧ J (done.map Prod.fst) σ l ∧ Star (pt p (.lst (cs.map Prod.snd)) :: ownL A cs :: l) H) ⟨[], l, rfl, j, S⟩ ?_ ?_)
  · rintro σ H ⟨done, l, e, j, S⟩
    rw [List.append_nil] at e
    subst e
    exact ⟨SqL.of (S.get (.head _)), h0 _ _ _ j (listA_close rfl S)⟩
  · rintro c r σ H ⟨done, l, e, j, S⟩ N hN
    exact ⟨SqL.of (S.get (.head _)), hs (done.map Prod.fst) c.1 (r.map Prod.fst) σ l H c.2 _ (by rw [e, List.map_append, List.map_cons]) j (mid_out e S) (fun l' H' S' => listA_close rfl (mid_put e S')) (fun l' H' S' => by rw [List.length_map]; exact listF_close rfl (by rw [mid_take e]; rfl) (Star.glue (l := [_, _]) S')) N fun σ' l' H' j' S' => hN _ _ ⟨done ++ [c], l', by rw [e]; simp, by rw [List.map_append]; exact j', mid_put e S'⟩⟩
/-- for k, x in enumerate(xs) -/
theorem fl_LAE (J : List α → L2.St → List Asrt → Prop) (S : Star L H) (P : Pull (listA A xs p) L l) (j : J [] σ l) (h0 : ∀ σ l H, J xs σ l → Star (listA A xs p :: l) H → nx σ H)
    (hs : ∀ done x r σ l H v R T, xs = done ++ x :: r → J done σ l → Star (pt T (.tup [.int (done.length : Nat), v]) :: A x v :: R :: l) H → (∀ l' H', Star (A x v :: R :: l') H' → Star (listA A xs p :: l') H') → (∀ l' H', Star (R :: l') H' → Star (listF A xs done.length v p :: l') H') → ∀ N : L2.St → Hp → Prop, (∀ σ' l' H', J (done ++ [x]) σ' l' → Star (A x v :: R :: l') H' → N σ' H') → g (.ref T) σ H fun σ2 H2 => tb ⟨N, rt, nx, N⟩ σ2 H2) :
    kW (Ite K p) g tb nx rt bk ct σ H := by
  obtain ⟨cs, rfl, S⟩ := listA_open (S.pull P)
  refine r_w (xs := enums 0 (cs.map Prod.snd)) use_enum (fl_indE (f := Prod.snd) (fun k r σ H => ∃ done l, k = done.length ∧ cs = done ++ r ∧ J (done.map Prod.fst) σ l ∧ Star (pt p (.lst (cs.map Prod.snd)) :: ownL A cs :: l) H) ⟨[], l, rfl, rfl, j, S⟩ ?_ ?_)
  · rintro k σ H ⟨done, l, ek, e, j, S⟩
    rw [List.append_nil] at e
    subst e
    exact ⟨SqL.of (S.get (.head _)), h0 _ _ _ j (listA_close rfl S)⟩
  · rintro k c r σ H ⟨done, l, ek, e, j, S⟩ N hN
    subst ek
    refine ⟨SqL.of (S.get (.head _)), fun T H' hT => ?_⟩
    exact hs (done.map Prod.fst) c.1 (r.map Prod.fst) σ l H' c.2 _ T (by rw [e, List.map_append, List.map_cons]) j (by rw [List.length_map]; exact hT _ (mid_out e S)) (fun l' H' S' => listA_close rfl (mid_put e S')) (fun l' H' S' => by rw [List.length_map]; exact listF_close rfl (by rw [mid_take e]; rfl) (Star.glue (l := [_, _]) S')) N fun σ' l' H' j' S' => hN _ _ ⟨done ++ [c], l', by simp, by rw [e]; simp, by rw [List.map_append]; exact j', mid_put e S'⟩
/-- [f(x) for x in xs], f asked of the owned things -/
theorem cl_LA {f : α → V} (S : Star L H) (P : Pull (listA A xs p) L l) (hw : wipe σ ws = σ') (z : xs.length ≤ 100000)
    (hs : ∀ x v acc R D H, x ∈ xs → acc.length < 100000 → Star (A x v :: pt D (.lst acc) :: R :: l) H → ∀ N : Hp → Prop, (∀ H', Star (A x v :: pt D (.lst (acc ++ [f x])) :: R :: l) H' → N H') → g v σ' H fun σ2 H2 => wipe σ2 ws = σ' ∧ tt σ2 H2 fun b H3 => if b = true then te σ2 H3 fun y H4 => kApp D y H4 N else N H3)
    (h0 : ∀ D H', Star (pt D (.lst (xs.map f)) :: listA A xs p :: l) H' → Q (.ref D) H') : kLW (Itl K p) g tt te ws σ Q H := by
  obtain ⟨cs, rfl, S⟩ := listA_open (S.pull P)
  refine r_lw (xs := cs.map Prod.snd) use_list hw S fun D H' S' => cl_indM (f := Prod.snd) (fun r H => ∃ done, cs = done ++ r ∧ Star (pt D (.lst ((done.map Prod.fst).map f)) :: pt p (.lst (cs.map Prod.snd)) :: ownL A cs :: l) H) ⟨[], rfl, S'⟩ ?_ ?_
  · rintro H ⟨done, e, S⟩
    rw [List.append_nil] at e
    subst e
    exact ⟨SqL.of (S.get (.tail _ (.head _))), h0 _ _ (S.under fun _ S => listA_close rfl S)⟩
  · rintro c r H ⟨done, e, S⟩ N hN
    have S2 := (S.under fun _ S => mid_out e S).swap
    refine ⟨SqL.of (S.get (.tail _ (.head _))), hs c.1 c.2 _ _ D H (by rw [e]; simp) ?_ S2 N fun H' S' => hN _ ⟨done ++ [c], by rw [e]; simp, ?_⟩⟩
    · rw [e] at z
      simp at z ⊢
      omega
    · rw [List.map_append, List.map_append]
      exact S'.swap.under fun _ S => mid_put e S
theorem nthA_nat {α : Type} {xs : List α} {k : Nat} {x : α} (e : xs[k]? = some x) : nthA xs (k : Int) = some x := by
  have hk := (List.getElem?_eq_some_iff.mp e).1
  unfold nthA
  rw [show ixN xs.length (k : Int) = some k by unfold ixN; rw [if_pos (by omega), if_pos (by omega)]; rfl]
  exact e
/-! a value that is a tuple of plain things, told by a function -/
def tupA {α : Type} (f : α → List V) (x : α) (v : V) : Asrt := fun h => ∃ p, v = .ref p ∧ h p = some (.tup (f x))
instance {α : Type} {f : α → List V} : Pst (tupA f) := ⟨fun e v => Sup.ex fun p => Sup.and fun _ => Sup.tup⟩
theorem tup_open {α : Type} {f : α → List V} {x : α} {v : V} {xs : List V} (e : f x = xs) {L l : List Asrt} {H : Hp} (S : Star L H) (P : Pull (tupA f x v) L l) : ∃ a, v = .ref a ∧ Star (pt a (.tup xs) :: l) H := by
  subst e
  obtain ⟨h1, h2, dj, s1, s2, ⟨a, e, S1⟩, S2⟩ := S.pull P
  exact ⟨a, e, h1, h2, dj, s1, s2, S1, S2⟩
theorem tup_close {α : Type} {f : α → List V} (x : α) {a : Addr} {xs : List V} {L l : List Asrt} {H : Hp} (S : Star L H) (P : Pull (pt a (.tup xs)) L l) (e : f x = xs) : Star (tupA f x (.ref a) :: l) H := by
  subst e
  exact (S.pull P).hd fun _ y => ⟨a, rfl, y⟩
/-! a part of a list, and a list of one -/
theorem cutI_map {α β : Type} {f : α → β} {xs : List α} {lo hi : Option Int} : cutI (xs.map f) lo hi = (cutI xs lo hi).map f := by
  unfold cutI
  rw [List.length_map, List.map_take, List.map_drop]
theorem cutI_mem {α : Type} {xs : List α} {lo hi : Option Int} {x : α} (h : x ∈ cutI xs lo hi) : x ∈ xs := by
  unfold cutI at h
  exact List.mem_of_mem_drop (List.mem_of_mem_take h)
theorem r_slLA {lo hi : Option Int} [Pst A] (S : Star L H) (P : Pull (listA A xs p) L l) (h : ∀ q H', Star (listA A (cutI xs lo hi) q :: listA A xs p :: l) H' → Q (.ref q) H') : rSlL K (.ref p) lo hi H Q := by
  obtain ⟨cs, rfl, S⟩ := listA_open (S.pull P)
  refine ⟨p, _, rfl, SqL.of (S.get (.head _)), fun q n => h q _ ?_⟩
  rw [cutV_map, cutI_map]
  have S2 := (own_dups (ds := cutI cs lo hi) (fun c h => cutI_mem h) S.swap).new (o := .lst ((cutI cs lo hi).map Prod.snd)) n
  exact listA_close rfl (S2.under fun _ S => S.under fun _ S => listA_close rfl S.swap)
theorem listA_one (S : Star L H) (P : Pull (A x v) L l) (P2 : Pull (pt p (.lst [v])) l m) : Star (listA A [x] p :: m) H :=
  listA_close (cs := [(x, v)]) rfl ((((S.pull P).under fun _ S => S.pull P2).swap).under fun _ S => sepL_cons (S.under fun _ S => sepL_nil S))
/-! tuples of plain things -/
theorem r_slTup {lo hi : Option Int} {n : Nat} {ys zs : List V} (S : Star L H) (P : Pull (pt p (.tup zs)) L l) (hn : zs.length = n) (e : cutV zs lo hi = ys) (hw : ¬ (HT.sIx n 0 lo = 0 ∧ HT.sIx n n hi = n)) (h : ∀ q H', Star (pt q (.tup ys) :: L) H' → Q (.ref q) H') : rSlT K (.ref p) lo hi H Q :=
  ⟨p, zs, rfl, SqT.of ((S.pull P).get (.head _)), by rw [hn]; exact hw, fun q n => h q _ (by rw [e]; exact S.new n)⟩
theorem r_catTup {xs ys zs : List V} (S : Star L H) (P : Pull (pt p (.tup xs)) L l) (P2 : Pull (pt q (.tup ys)) L m) (e : xs ++ ys = zs) (hx : xs ≠ []) (hy : ys ≠ []) (z : xs.length + ys.length ≤ 100000) (h : ∀ r H', Star (pt r (.tup zs) :: L) H' → Q (.ref r) H') : rCatT K (.ref p) (.ref q) H Q :=
  ⟨p, q, xs, ys, rfl, rfl, SqT.of ((S.pull P).get (.head _)), SqT.of ((S.pull P2).get (.head _)), hx, Evl.sz_of z, fun e => absurd e hy, fun _ r n => h r _ (by rw [e]; exact S.new n)⟩
class DatL (xs : List V) (ds : outParam (List PyData)) : Prop where
  dp : ∀ {K : PySem.W.Frag} {H : Hp}, DpAll K H xs ds
  lay : PyData.canLayAll0 ds = true
  dep : PyData.depthAll ds = 0
instance datL0 : DatL [] [] := ⟨.nil, by simp [PyData.canLayAll0], by simp [PyData.depthAll]⟩
instance datL1 {i : Int} {xs : List V} {ds : List PyData} [q : DatL xs ds] : DatL (.int i :: xs) (.int i :: ds) := ⟨.cons (.int _) q.dp, by simp [PyData.canLayAll0, PyData.canLay0, q.lay], by simp [PyData.depthAll, PyData.depth, q.dep]⟩
instance datL2 {b : Bool} {xs : List V} {ds : List PyData} [q : DatL xs ds] : DatL (.bl b :: xs) (.bool b :: ds) := ⟨.cons (.bl _) q.dp, by simp [PyData.canLayAll0, PyData.canLay0, q.lay], by simp [PyData.depthAll, PyData.depth, q.dep]⟩
instance datL3 {xs : List V} {ds : List PyData} [q : DatL xs ds] : DatL (.non :: xs) (.none :: ds) := ⟨.cons .non q.dp, by simp [PyData.canLayAll0, PyData.canLay0, q.lay], by simp [PyData.depthAll, PyData.depth, q.dep]⟩
theorem datT {xs : List V} {ds : List PyData} [q : DatL xs ds] : SeqAt.shaped (.tuple ds) = true := by
  unfold SeqAt.shaped
  rw [PyData.canLay0, q.lay, Bool.true_and, decide_eq_true_eq, PyData.depth, q.dep]
  decide
theorem r_eqTD {xs ys : List V} {ds es : List PyData} [a : DatL xs ds] [b : DatL ys es] (S : Star L H) (P : Pull (pt p (.tup xs)) L l) (P2 : Pull (pt q (.tup ys)) L m) (h : Q (.bl (PyData.eqvAll ds es)) H) : rEqD K (.ref p) (.ref q) H Q := by
  refine ⟨_, _, .tup (SqT.of ((S.pull P).get (.head _))) a.dp, .tup (SqT.of ((S.pull P2).get (.head _))) b.dp, datT (xs := xs), datT (xs := ys), ?_⟩
  rw [PyData.eqv]; exact h
theorem r_neTD {xs ys : List V} {ds es : List PyData} [a : DatL xs ds] [b : DatL ys es] (S : Star L H) (P : Pull (pt p (.tup xs)) L l) (P2 : Pull (pt q (.tup ys)) L m) (h : Q (.bl (!PyData.eqvAll ds es)) H) : rNeD K (.ref p) (.ref q) H Q := by
  refine ⟨_, _, .tup (SqT.of ((S.pull P).get (.head _))) a.dp, .tup (SqT.of ((S.pull P2).get (.head _))) b.dp, datT (xs := xs), datT (xs := ys), ?_⟩
  rw [PyData.eqv]; exact h
variable {lo hi : Option Int}
instance : Grp (rSlT K v lo hi H Q) 4 := ⟨⟩
instance : Grp (rSlT K v lo hi H Q) 184 := ⟨⟩
instance : Grp (rCatT K v u H Q) 4 := ⟨⟩
instance : Grp (rCatT K v u H Q) 185 := ⟨⟩
end
/-- the place that is out gets another value -/
theorem r_setFA {α : Type} {A : α → V → Asrt} {L l m : List Asrt} {H : Hp} {p : Addr} {xs : List α} {i : Nat} {u v : V} {y : α} {w : Hp → Prop} (S : Star L H) (P : Pull (A y u) L m) (P2 : Pull (listF A xs i v p) m l) (h : ∀ H', Star (listA A (xs.set i y) p :: l) H' → w H') : rSetL (.ref p) (.int (i : Int)) u H w := by
  obtain ⟨cs, rfl, e2, S⟩ := listF_open ((S.pull P).under fun _ S => S.pull P2).swap
  obtain ⟨c, e3, e4⟩ := Option.map_eq_some_iff.mp e2
  have hi : i < cs.length := (List.getElem?_eq_some_iff.mp e3).1
  refine ⟨p, _, (i : Int), i, rfl, rfl, S.get (.head _), by rw [List.length_map]; exact ixN_set (by omega) (by omega), h _ ?_⟩
  have S2 := upd_LA (ws := (cs.map Prod.snd).set i u) S
  refine listA_close (cs := cs.set i (y, u)) (by rw [List.map_set]) ?_
  rw [List.map_set]
  exact S2.under fun _ S => sepL_in (B := fun c : α × V => A c.1 c.2) (y := (y, u)) hi S.swap
/-! found by its place, the rest by computation -/
theorem Pull.ePt {a : Addr} {o o' : HO} {L l : List Asrt} (p : Pull (pt a o') L l) (e : o' = o) : Pull (pt a o) L l := by subst e; exact p
theorem Pull.eLA {α : Type} {A : α → V → Asrt} {xs xs' : List α} {q : Addr} {L l : List Asrt} (p : Pull (listA A xs' q) L l) (e : xs' = xs) : Pull (listA A xs q) L l := by subst e; exact p
theorem Pull.eLF {α : Type} {A : α → V → Asrt} {xs xs' : List α} {i : Nat} {v : V} {q : Addr} {L l : List Asrt} (p : Pull (listF A xs' i v q) L l) (e : xs' = xs) : Pull (listF A xs i v q) L l := by subst e; exact p
end Fl
/-! Fl: spans of pages with rights and ties: as values, and in plain Lean. -/
namespace Fl
open PySem PySem.Spec PyProof.Rows L2
abbrev Tie := Option (Int × Int)
structure Sp1 where
  f : Int
  m : Int
  r : Int
  t : Tie
deriving DecidableEq
abbrev Spans := List Sp1
def tieOn (t : Tie) (k : Int) : Tie := t.map fun x => (x.1, x.2 + k)
def goesOn (s o : Sp1) : Bool := decide (s.f + s.m = o.f) && decide (s.r = o.r) && decide (tieOn s.t s.m = o.t)
def joinStep (row : Spans) (s : Sp1) : Spans := match row.getLast? with
  | some l => if goesOn l s = true then row.dropLast ++ [⟨l.f, l.m + s.m, l.r, l.t⟩] else row ++ [s]
  | none => row ++ [s]
def joined (xs : Spans) : Spans := xs.foldl joinStep []
def maxI (i j : Int) : Int := if j > i then j else i
def minI (i j : Int) : Int := if j < i then j else i
def partOf (s : Sp1) (b e : Int) : Option Sp1 := if maxI s.f b ≥ minI (s.f + s.m) e then none else some ⟨maxI s.f b, minI (s.f + s.m) e - maxI s.f b, s.r, tieOn s.t (maxI s.f b - s.f)⟩
def manyO : Option Sp1 → Int
  | none => 0
  | some s => s.m
def commonS : Spans → Int → Int → Int
  | [], _, _ => 0
  | s :: xs, f, m => manyO (partOf s f (f + m)) + commonS xs f m
def putS1 (xs : Spans) (s : Sp1) : Spans := joined (xs.filter (fun x => decide (x.f < s.f)) ++ [s] ++ xs.filter (fun x => decide (x.f > s.f)))
def optL (o : Option Sp1) : Spans := o.toList
def cutP (f m : Int) (s : Sp1) : Spans := optL (partOf s 0 f) ++ optL (partOf s (f + m) (s.f + s.m))
def cutS (xs : Spans) (f m : Int) : Spans := xs.flatMap (cutP f m)
def withR (r : Int) (s : Sp1) : Sp1 := ⟨s.f, s.m, r, s.t⟩
def guardP (f m r : Int) (s : Sp1) : Spans := optL (partOf s 0 f) ++ optL ((partOf s f (f + m)).map (withR r)) ++ optL (partOf s (f + m) (s.f + s.m))
def guardS (xs : Spans) (f m r : Int) : Spans := joined (xs.flatMap (guardP f m r))
def hasP (p : Int) (s : Sp1) : Bool := decide (s.f ≤ p) && decide (p < s.f + s.m)
def spanAt (xs : Spans) (p : Int) : Option Sp1 := (xs.find? (hasP p)).bind fun s => partOf s p (p + 1)
def rightsAt (xs : Spans) (p : Int) : Option Int := (spanAt xs p).map Sp1.r
def tieAt (xs : Spans) (p : Int) : Tie := (spanAt xs p).bind Sp1.t
def tiedB (b : Int) (s : Sp1) : Bool := match s.t with
  | none => false
  | some x => decide (x.1 = b)
def isTied (xs : Spans) (b : Int) : Bool := xs.any (tiedB b)
theorem joined_nil : joined [] = [] := rfl
theorem joined_snoc {xs : Spans} {s : Sp1} : joined (xs ++ [s]) = joinStep (joined xs) s := by unfold joined; rw [List.foldl_append]; rfl
theorem joinStep_nil {s : Sp1} : joinStep [] s = [s] := rfl
theorem joinStep_on {ys : Spans} {l s : Sp1} (h : goesOn l s = true) : joinStep (ys ++ [l]) s = ys ++ [⟨l.f, l.m + s.m, l.r, l.t⟩] := by unfold joinStep; rw [List.getLast?_concat]; dsimp only; rw [if_pos h, List.dropLast_concat]
theorem joinStep_off {ys : Spans} {l s : Sp1} (h : goesOn l s = false) : joinStep (ys ++ [l]) s = ys ++ [l] ++ [s] := by unfold joinStep; rw [List.getLast?_concat]; dsimp only; rw [if_neg (by rw [h]; exact Bool.false_ne_true)]
theorem snoc_cases {α : Type} (xs : List α) : xs = [] ∨ ∃ ys y, xs = ys ++ [y] := by
  rcases List.eq_nil_or_concat xs with h | ⟨ys, y, h⟩
  · exact .inl h
  · exact .inr ⟨ys, y, by rw [h, List.concat_eq_append]⟩
theorem joinStep_len {xs : Spans} {s : Sp1} : (joinStep xs s).length ≤ xs.length + 1 := by
  rcases snoc_cases xs with rfl | ⟨ys, l, rfl⟩
  · exact Nat.le_refl _
  · cases h : goesOn l s with
    | true => rw [joinStep_on h]; simp
    | false => rw [joinStep_off h]; simp
theorem joined_len : ∀ {xs : Spans}, (joined xs).length ≤ xs.length := by
  intro xs
  have key : ∀ (xs row : Spans), (xs.foldl joinStep row).length ≤ row.length + xs.length := by
    intro xs
    induction xs with
    | nil => intro row; exact Nat.le_refl _
    | cons x xs ih =>
      intro row
      have := ih (joinStep row x)
      have := joinStep_len (xs := row) (s := x)
      rw [List.foldl_cons, List.length_cons]; omega
  have := key xs []
  simpa [joined] using this
theorem nthA_last {α : Type} {ys : List α} {y : α} : nthA (ys ++ [y]) (-1) = some y := by
  unfold nthA
  rw [show ixN (ys ++ [y]).length (-1) = some ys.length by unfold ixN; rw [if_neg (by omega), List.length_append, List.length_singleton, if_pos (by omega)]; congr 1; omega]
  simp
theorem commonS_snoc {f m : Int} {s : Sp1} : ∀ {xs : Spans}, commonS (xs ++ [s]) f m = commonS xs f m + manyO (partOf s f (f + m))
  | [] => by show _ + commonS [] f m = commonS [] f m + _; show _ + (0 : Int) = 0 + _; omega
  | x :: xs => by
    show _ + commonS (xs ++ [s]) f m = (_ + commonS xs f m) + _
    rw [commonS_snoc]; omega
theorem part_in {s : Sp1} {b e : Int} (h : maxI s.f b < minI (s.f + s.m) e) : partOf s b e = some ⟨maxI s.f b, minI (s.f + s.m) e - maxI s.f b, s.r, tieOn s.t (maxI s.f b - s.f)⟩ := if_neg (by omega)
theorem part_out {s : Sp1} {b e : Int} (h : minI (s.f + s.m) e ≤ maxI s.f b) : partOf s b e = none := if_pos h
theorem maxI_l {i j : Int} (h : j ≤ i) : maxI i j = i := if_neg (by omega)
theorem maxI_r {i j : Int} (h : i ≤ j) : maxI i j = j := by unfold maxI; split <;> omega
theorem minI_l {i j : Int} (h : i ≤ j) : minI i j = i := if_neg (by omega)
theorem minI_r {i j : Int} (h : j ≤ i) : minI i j = j := by unfold minI; split <;> omega
theorem tieOn_zero {t : Tie} : tieOn t 0 = t := by
  cases t with
  | none => rfl
  | some x => show some (x.1, x.2 + 0) = _; rw [Int.add_zero]
theorem tieOn_add {t : Tie} {a b : Int} : tieOn (tieOn t a) b = tieOn t (a + b) := by
  cases t with
  | none => rfl
  | some x => show some (x.1, x.2 + a + b) = some (x.1, x.2 + (a + b)); rw [Int.add_assoc]
theorem part_page {s : Sp1} {g : Int} (h : hasP g s = true) : partOf s g (g + 1) = some ⟨g, 1, s.r, tieOn s.t (g - s.f)⟩ := by
  unfold hasP at h
  rw [Bool.and_eq_true, decide_eq_true_eq, decide_eq_true_eq] at h
  rw [part_in (by rw [maxI_r h.1, minI_r (by omega)]; omega), maxI_r h.1, minI_r (by omega)]
  congr 2; omega
theorem spanAt_none {xs : Spans} {g : Int} (h : ∀ s ∈ xs, hasP g s = false) : spanAt xs g = none := by
  unfold spanAt
  rw [List.find?_eq_none.mpr fun y hy => by rw [h y hy]; exact Bool.false_ne_true]; rfl
theorem spanAt_some {xs : Spans} {g : Int} {s : Sp1} (h : xs.find? (hasP g) = some s) : spanAt xs g = some ⟨g, 1, s.r, tieOn s.t (g - s.f)⟩ := by
  unfold spanAt
  rw [h]
  exact part_page (List.find?_some h)
theorem hasP_iff {g : Int} {s : Sp1} : hasP g s = true ↔ s.f ≤ g ∧ g < s.f + s.m := by unfold hasP; rw [Bool.and_eq_true, decide_eq_true_eq, decide_eq_true_eq]
theorem hasP_no {g : Int} {s : Sp1} (h : ¬ (s.f ≤ g ∧ g < s.f + s.m)) : hasP g s = false := by
  cases e : hasP g s with
  | false => rfl
  | true => exact absurd (hasP_iff.mp e) h
/-! one span -/
theorem one_in {s : Sp1} {g : Int} (h : s.f ≤ g ∧ g < s.f + s.m) : spanAt [s] g = some ⟨g, 1, s.r, tieOn s.t (g - s.f)⟩ := spanAt_some (by rw [List.find?_cons, hasP_iff.mpr h])
theorem one_out {s : Sp1} {g : Int} (h : ¬ (s.f ≤ g ∧ g < s.f + s.m)) : spanAt [s] g = none := spanAt_none fun y hy => by rw [List.mem_singleton] at hy; subst hy; exact hasP_no h
theorem many_part {s : Sp1} {f m : Int} : manyO (partOf s f (f + m)) = if maxI s.f f < minI (s.f + s.m) (f + m) then minI (s.f + s.m) (f + m) - maxI s.f f else 0 := by
  unfold partOf
  split
  · rw [if_neg (by omega)]; rfl
  · rw [if_pos (by omega)]; rfl
theorem one_common {s : Sp1} {f m : Int} : commonS [s] f m = if maxI s.f f < minI (s.f + s.m) (f + m) then minI (s.f + s.m) (f + m) - maxI s.f f else 0 := by
  show manyO _ + 0 = _
  rw [many_part, Int.add_zero]
theorem one_free {s : Sp1} {f m : Int} (h0 : 0 < s.m) (h1 : 0 < m) : commonS [s] f m = 0 ↔ f + m ≤ s.f ∨ s.f + s.m ≤ f := by
  rw [one_common]
  unfold maxI minI
  split <;> split <;> split <;> omega
theorem one_full {s : Sp1} {f m : Int} (h0 : 0 < s.m) (h1 : 0 < m) : commonS [s] f m = m ↔ s.f ≤ f ∧ f + m ≤ s.f + s.m := by
  rw [one_common]
  unfold maxI minI
  split <;> split <;> split <;> omega
theorem put_first {s : Sp1} : putS1 [] s = [s] := rfl
theorem optL_len {o : Option Sp1} : (optL o).length ≤ 1 := by cases o <;> simp [optL]
theorem cutP_len {f m : Int} {s : Sp1} : (cutP f m s).length ≤ 2 := by
  unfold cutP
  have := optL_len (o := partOf s 0 f)
  have := optL_len (o := partOf s (f + m) (s.f + s.m))
  rw [List.length_append]; omega
theorem cutS_snoc {xs : Spans} {s : Sp1} {f m : Int} : cutS (xs ++ [s]) f m = cutS xs f m ++ cutP f m s := by unfold cutS; rw [List.flatMap_append]; simp
theorem cutS_len {f m : Int} : ∀ {xs : Spans}, (cutS xs f m).length ≤ 2 * xs.length
  | [] => Nat.le_refl _
  | x :: xs => by
    have := cutS_len (f := f) (m := m) (xs := xs)
    have := cutP_len (f := f) (m := m) (s := x)
    show (cutP f m x ++ cutS xs f m).length ≤ _
    rw [List.length_append, List.length_cons]; omega
theorem guardP_len {f m r : Int} {s : Sp1} : (guardP f m r s).length ≤ 3 := by
  unfold guardP
  have := optL_len (o := partOf s 0 f)
  have := optL_len (o := (partOf s f (f + m)).map (withR r))
  have := optL_len (o := partOf s (f + m) (s.f + s.m))
  rw [List.length_append, List.length_append]; omega
theorem guard_snoc {xs : Spans} {s : Sp1} {f m r : Int} : (xs ++ [s]).flatMap (guardP f m r) = xs.flatMap (guardP f m r) ++ guardP f m r s := by rw [List.flatMap_append]; simp
theorem guard_len {f m r : Int} : ∀ {xs : Spans}, (xs.flatMap (guardP f m r)).length ≤ 3 * xs.length
  | [] => Nat.le_refl _
  | x :: xs => by
    have := guard_len (f := f) (m := m) (r := r) (xs := xs)
    have := guardP_len (f := f) (m := m) (r := r) (s := x)
    rw [List.flatMap_cons, List.length_append, List.length_cons]; omega
theorem cut_left {f m r sk : Int} {t : Tie} (h0 : 0 ≤ f) (h1 : 0 ≤ sk) (h2 : sk ≤ m) : partOf ⟨f, m, r, t⟩ 0 (f + sk) = if 0 < sk then some ⟨f, sk, r, t⟩ else none := by
  unfold partOf
  dsimp only
  rw [maxI_l h0, minI_r (show f + sk ≤ f + m by omega)]
  by_cases h : 0 < sk
  · rw [if_neg (by omega), if_pos h, show f + sk - f = sk by omega, show f - f = 0 by omega, tieOn_zero]
  · rw [if_pos (by omega), if_neg h]
theorem cut_right {f m r k : Int} {t : Tie} (h1 : 0 ≤ k) (h2 : k ≤ m) : partOf ⟨f, m, r, t⟩ (f + k) (f + m) = if k < m then some ⟨f + k, m - k, r, tieOn t k⟩ else none := by
  unfold partOf
  dsimp only
  rw [maxI_r (show f ≤ f + k by omega), minI_l (Int.le_refl _)]
  by_cases h : k < m
  · rw [if_neg (by omega), if_pos h, show f + m - (f + k) = m - k by omega, show f + k - f = k by omega]
  · rw [if_pos (by omega), if_neg h]
theorem cut_one {f m r sk sz : Int} {t : Tie} (h0 : 0 ≤ f) (h1 : 0 ≤ sk) (h2 : 0 < sz) (h3 : sk + sz ≤ m) : cutS [⟨f, m, r, t⟩] (f + sk) sz = (if 0 < sk then [⟨f, sk, r, t⟩] else []) ++ (if sk + sz < m then [⟨f + (sk + sz), m - (sk + sz), r, tieOn t (sk + sz)⟩] else []) := by
  show cutP _ _ _ ++ [] = _
  rw [List.append_nil]
  unfold cutP optL
  rw [cut_left h0 h1 (by omega)]
  dsimp only
  rw [show f + sk + sz = f + (sk + sz) by omega, cut_right (by omega) h3]
  by_cases ha : 0 < sk <;> by_cases hb : sk + sz < m <;> simp [ha, hb]
/-- what a cut leaves of one span -/
def leftS (f m r sk sz : Int) (t : Tie) : Spans := (if 0 < sk then [⟨f, sk, r, t⟩] else []) ++ (if sk + sz < m then [⟨f + (sk + sz), m - (sk + sz), r, tieOn t (sk + sz)⟩] else [])
theorem left_none {f m r sk sz g : Int} {t : Tie} (h : f + sk ≤ g ∧ g < f + (sk + sz)) : spanAt (leftS f m r sk sz t) g = none := spanAt_none fun s hs => by
  unfold leftS at hs
  rcases List.mem_append.mp hs with hs | hs
  · split at hs
    · rw [List.mem_singleton] at hs; subst hs; exact hasP_no (by show ¬ (f ≤ g ∧ g < f + sk); omega)
    · cases hs
  · split at hs
    · rw [List.mem_singleton] at hs; subst hs; exact hasP_no (by show ¬ (f + (sk + sz) ≤ g ∧ g < f + (sk + sz) + (m - (sk + sz))); omega)
    · cases hs
theorem left_a {f m r sk sz : Int} {t : Tie} (h : 0 < sk) : spanAt (leftS f m r sk sz t) (f + sk - 1) = some ⟨f + sk - 1, 1, r, tieOn t (sk - 1)⟩ := by
  unfold leftS
  rw [if_pos h, spanAt_some (s := ⟨f, sk, r, t⟩) (by rw [List.cons_append, List.find?_cons, hasP_iff.mpr (by show f ≤ f + sk - 1 ∧ f + sk - 1 < f + sk; omega)])]
  show some (⟨_, _, _, tieOn t (f + sk - 1 - f)⟩ : Sp1) = _
  rw [show f + sk - 1 - f = sk - 1 by omega]
theorem left_b {f m r sk sz : Int} {t : Tie} (h1 : 0 ≤ sk) (h2 : 0 < sz) (h : sk + sz < m) : spanAt (leftS f m r sk sz t) (f + (sk + sz)) = some ⟨f + (sk + sz), 1, r, tieOn t (sk + sz)⟩ := by
  unfold leftS
  rw [if_pos h, spanAt_some (s := ⟨f + (sk + sz), m - (sk + sz), r, tieOn t (sk + sz)⟩) (by
    have hp : hasP (f + (sk + sz)) (⟨f + (sk + sz), m - (sk + sz), r, tieOn t (sk + sz)⟩ : Sp1) = true := hasP_iff.mpr (by show f + (sk + sz) ≤ f + (sk + sz) ∧ f + (sk + sz) < f + (sk + sz) + (m - (sk + sz)); omega)
    by_cases h0 : 0 < sk
    · rw [if_pos h0, List.cons_append, List.find?_cons, hasP_no (by show ¬ (f ≤ f + (sk + sz) ∧ f + (sk + sz) < f + sk); omega), List.nil_append, List.find?_cons, hp]
    · rw [if_neg h0, List.nil_append, List.find?_cons, hp])]
  show some (⟨_, _, _, tieOn (tieOn t (sk + sz)) (f + (sk + sz) - (f + (sk + sz)))⟩ : Sp1) = _
  rw [Int.sub_self, tieOn_zero]
theorem left_free {f m r sk sz : Int} {t : Tie} (h1 : 0 ≤ sk) (h2 : 0 < sz) (h3 : sk + sz ≤ m) : commonS (leftS f m r sk sz t) (f + sk) sz = 0 := by
  have key : ∀ (xs ys : Spans) (a b : Int), commonS (xs ++ ys) a b = commonS xs a b + commonS ys a b := by
    intro xs ys a b
    induction xs with
    | nil => show commonS ys a b = 0 + commonS ys a b; omega
    | cons x xs ih => show manyO _ + commonS (xs ++ ys) a b = manyO _ + commonS xs a b + commonS ys a b; rw [ih]; omega
  unfold leftS
  rw [key]
  have e1 : commonS (if 0 < sk then [(⟨f, sk, r, t⟩ : Sp1)] else []) (f + sk) sz = 0 := by
    by_cases h : 0 < sk
    · rw [if_pos h]; exact (one_free (s := ⟨f, sk, r, t⟩) h h2).mpr (.inr (Int.le_refl _))
    · rw [if_neg h]; rfl
  have e2 : commonS (if sk + sz < m then [(⟨f + (sk + sz), m - (sk + sz), r, tieOn t (sk + sz)⟩ : Sp1)] else []) (f + sk) sz = 0 := by
    by_cases h : sk + sz < m
    · rw [if_pos h]; exact (one_free (s := ⟨f + (sk + sz), m - (sk + sz), r, tieOn t (sk + sz)⟩) (by show 0 < m - (sk + sz); omega) h2).mpr (.inl (by show f + sk + sz ≤ f + (sk + sz); omega))
    · rw [if_neg h]; rfl
  rw [e1, e2]; rfl
theorem goes_yes {f m r k : Int} {t : Tie} : goesOn ⟨f, m, r, t⟩ ⟨f + m, k, r, tieOn t m⟩ = true := by
  unfold goesOn
  dsimp only
  rw [decide_eq_true rfl, decide_eq_true rfl, decide_eq_true rfl]; rfl
theorem join2 {f m r k : Int} {t : Tie} : joined [⟨f, m, r, t⟩, ⟨f + m, k, r, tieOn t m⟩] = [⟨f, m + k, r, t⟩] := by
  show joinStep (joinStep [] _) _ = _
  rw [joinStep_nil]
  exact joinStep_on (ys := []) goes_yes
theorem join3 {f m r k j : Int} {t : Tie} : joined [⟨f, m, r, t⟩, ⟨f + m, k, r, tieOn t m⟩, ⟨f + (m + k), j, r, tieOn t (m + k)⟩] = [⟨f, m + k + j, r, t⟩] := by
  rw [show [(⟨f, m, r, t⟩ : Sp1), ⟨f + m, k, r, tieOn t m⟩, ⟨f + (m + k), j, r, tieOn t (m + k)⟩] = [⟨f, m, r, t⟩, ⟨f + m, k, r, tieOn t m⟩] ++ [⟨f + (m + k), j, r, tieOn t (m + k)⟩] from rfl, joined_snoc, join2]
  exact joinStep_on (ys := []) goes_yes
theorem left_put {f m r sk sz : Int} {t : Tie} (h1 : 0 ≤ sk) (h2 : 0 < sz) (h3 : sk + sz ≤ m) : putS1 (leftS f m r sk sz t) ⟨f + sk, sz, r, tieOn t sk⟩ = [⟨f, m, r, t⟩] := by
  unfold putS1 leftS
  dsimp only
  by_cases ha : 0 < sk <;> by_cases hb : sk + sz < m
  · rw [if_pos ha, if_pos hb]
    have e1 : ([(⟨f, sk, r, t⟩ : Sp1)] ++ [(⟨f + (sk + sz), m - (sk + sz), r, tieOn t (sk + sz)⟩ : Sp1)]).filter (fun x : Sp1 => decide (x.f < f + sk)) = [⟨f, sk, r, t⟩] := by
      simp only [List.cons_append, List.nil_append, List.filter_cons, List.filter_nil]
      rw [decide_eq_true (show f < f + sk by omega), decide_eq_false (show ¬ f + (sk + sz) < f + sk by omega)]; rfl
    have e2 : ([(⟨f, sk, r, t⟩ : Sp1)] ++ [(⟨f + (sk + sz), m - (sk + sz), r, tieOn t (sk + sz)⟩ : Sp1)]).filter (fun x : Sp1 => decide (x.f > f + sk)) = [⟨f + (sk + sz), m - (sk + sz), r, tieOn t (sk + sz)⟩] := by
      simp only [List.cons_append, List.nil_append, List.filter_cons, List.filter_nil]
      rw [decide_eq_false (show ¬ f > f + sk by omega), decide_eq_true (show f + (sk + sz) > f + sk by omega)]; rfl
    rw [e1, e2]
    have := join3 (f := f) (m := sk) (r := r) (k := sz) (j := m - (sk + sz)) (t := t)
    rw [show sk + sz + (m - (sk + sz)) = m by omega] at this
    exact this
  · rw [if_pos ha, if_neg hb, List.append_nil]
    have e1 : ([(⟨f, sk, r, t⟩ : Sp1)]).filter (fun x : Sp1 => decide (x.f < f + sk)) = [⟨f, sk, r, t⟩] := by
      simp only [List.filter_cons, List.filter_nil]
      rw [decide_eq_true (show f < f + sk by omega)]; rfl
    have e2 : ([(⟨f, sk, r, t⟩ : Sp1)]).filter (fun x : Sp1 => decide (x.f > f + sk)) = [] := by
      simp only [List.filter_cons, List.filter_nil]
      rw [decide_eq_false (show ¬ f > f + sk by omega)]; rfl
    rw [e1, e2]
    have := join2 (f := f) (m := sk) (r := r) (k := sz) (t := t)
    rw [show sk + sz = m by omega] at this
    exact this
  · rw [if_neg ha, if_pos hb, List.nil_append]
    obtain rfl : sk = 0 := by omega
    have e1 : ([(⟨f + (0 + sz), m - (0 + sz), r, tieOn t (0 + sz)⟩ : Sp1)]).filter (fun x : Sp1 => decide (x.f < f + 0)) = [] := by
      simp only [List.filter_cons, List.filter_nil]
      rw [decide_eq_false (show ¬ f + (0 + sz) < f + 0 by omega)]; rfl
    have e2 : ([(⟨f + (0 + sz), m - (0 + sz), r, tieOn t (0 + sz)⟩ : Sp1)]).filter (fun x : Sp1 => decide (x.f > f + 0)) = [⟨f + (0 + sz), m - (0 + sz), r, tieOn t (0 + sz)⟩] := by
      simp only [List.filter_cons, List.filter_nil]
      rw [decide_eq_true (show f + (0 + sz) > f + 0 by omega)]; rfl
    rw [e1, e2, Int.add_zero, tieOn_zero, Int.zero_add]
    have := join2 (f := f) (m := sz) (r := r) (k := m - sz) (t := t)
    rw [show sz + (m - sz) = m by omega] at this
    exact this
  · rw [if_neg ha, if_neg hb]
    obtain rfl : sk = 0 := by omega
    obtain rfl : sz = m := by omega
    rw [Int.add_zero, tieOn_zero]; rfl
theorem cut_whole {f m r : Int} {t : Tie} (h0 : 0 ≤ f) (hm : 0 < m) : cutS [⟨f, m, r, t⟩] f m = [] := by
  have := cut_one (f := f) (m := m) (r := r) (sk := 0) (sz := m) (t := t) h0 (Int.le_refl _) hm (by omega)
  rw [Int.add_zero] at this
  rw [this, if_neg (by omega), if_neg (by omega)]; rfl
/-! as values -/
def tieA : Tie → V → Asrt
  | none => fun v => pu (v = .non)
  | some x => fun v h => ∃ a, v = .ref a ∧ h a = some (.tup [.int x.1, .int x.2])
instance : Pst tieA := ⟨fun e v => by
  cases e with
  | none => exact Sup.pu
  | some b => exact Sup.ex fun p => Sup.and fun _ => Sup.tup⟩
def tieD : Tie → PyData
  | none => .none
  | some x => .tuple [.int x.1, .int x.2]
instance : Dta tieA tieD where
  dp := fun {K H h x v} e s => by
    cases x with
    | none => cases (show v = .non from e); exact .non
    | some x =>
      obtain ⟨p, e, q⟩ := e
      subst e
      exact .tup (SqT.of (s _ _ q)) (.cons (.int _) (.cons (.int _) .nil))
  eq := fun x y => by
    cases x with
    | none => cases y <;> simp [tieD, PyData.eqv]
    | some x =>
      cases y with
      | none => simp [tieD, PyData.eqv]
      | some y =>
        obtain ⟨a, b⟩ := x
        obtain ⟨c, d⟩ := y
        simp only [tieD, PyData.eqv, PyData.eqvAll, Bool.and_true]
        by_cases h : a = c <;> by_cases h2 : b = d <;> simp [h, h2]
  lay := fun x => by cases x <;> simp [tieD, PyData.canLay0, PyData.canLayAll0]
  dep := fun x => by cases x <;> simp [tieD, PyData.depth, PyData.depthAll]
def spanA (s : Sp1) (v : V) : Asrt := fun h => ∃ a tv, v = .ref a ∧ Star [pt a (.tup [.int s.f, .int s.m, .int s.r, tv]), tieA s.t tv] h
instance : Pst spanA := ⟨fun e v => Sup.ex fun a => Sup.ex fun tv => Sup.and fun _ => Sup.star fun A hA => by
  rcases List.mem_cons.mp hA with rfl | hA
  · exact Sup.tup
  · rw [List.mem_singleton] at hA; subst hA; exact Pst.sup e.t tv⟩
def spanD (s : Sp1) : PyData := .tuple [.int s.f, .int s.m, .int s.r, tieD s.t]
instance : Dta spanA spanD where
  dp := fun {K H h x v} e s => by
    obtain ⟨a, tv, rfl, S⟩ := e
    obtain ⟨h1, s1, q⟩ := S.has (.head _)
    obtain ⟨h2, s2, q2⟩ := S.has (.tail _ (.head _))
    exact .tup (SqT.of (s _ _ (s1 _ _ q))) (.cons (.int _) (.cons (.int _) (.cons (.int _) (.cons (Dta.dp q2 (s2.trans s)) .nil))))
  eq := fun x y => by
    obtain ⟨f, m, r, t⟩ := x
    obtain ⟨f', m', r', t'⟩ := y
    have := Dta.eq (A := tieA) t t'
    simp only [spanD, PyData.eqv, PyData.eqvAll, Bool.and_true]
    rw [this]
    by_cases h : f = f' <;> by_cases h2 : m = m' <;> by_cases h3 : r = r' <;> by_cases h4 : t = t' <;> simp [h, h2, h3, h4]
  lay := fun x => by
    have := Dta.lay (A := tieA) x.t
    simp [spanD, PyData.canLay0, PyData.canLayAll0, this]
  dep := fun x => by
    have e : PyData.depth (tieD x.t) ≤ 2 := by cases x.t <;> simp [tieD, PyData.depth, PyData.depthAll]
    simp [spanD, PyData.depth, PyData.depthAll]
    omega
def ospA : Option Sp1 → V → Asrt
  | none => fun v => pu (v = .non)
  | some s => spanA s
section
variable {L l m : List Asrt} {H : Hp} {v : V} {a : Addr} {s : Sp1} {tv : V}
theorem span_open (S : Star L H) (P : Pull (spanA s v) L l) : ∃ a tv, v = .ref a ∧ Star (pt a (.tup [.int s.f, .int s.m, .int s.r, tv]) :: tieA s.t tv :: l) H := by
  obtain ⟨h1, h2, dj, s1, s2, ⟨a, tv, e, S1⟩, S2⟩ := S.pull P
  exact ⟨a, tv, e, Star.glue (l := [_, _]) ⟨h1, h2, dj, s1, s2, S1, S2⟩⟩
theorem span_close {f k r : Int} {t : Tie} (S : Star L H) (P : Pull (pt a (.tup [.int f, .int k, .int r, tv])) L l) (P2 : Pull (tieA t tv) l m) : Star (spanA ⟨f, k, r, t⟩ (.ref a) :: m) H :=
  Star.cl (k := [_, _]) ((S.pull P).under fun _ S => S.pull P2) fun h S => ⟨a, tv, rfl, S⟩
theorem osp_none (S : Star L H) (P : Pull (ospA none v) L l) : v = .non := (S.pull P).fact
theorem none_osp (S : Star L H) : Star (ospA none .non :: L) H := Star.put (p := V.non = .non) rfl S
theorem tie_none (S : Star L H) (P : Pull (tieA none v) L l) : v = .non := (S.pull P).fact
theorem none_tie (S : Star L H) : Star (tieA none .non :: L) H := Star.put (p := V.non = .non) rfl S
theorem tie_open {x : Int × Int} (S : Star L H) (P : Pull (tieA (some x) v) L l) : ∃ a, v = .ref a ∧ Star (pt a (.tup [.int x.1, .int x.2]) :: l) H := by
  obtain ⟨h1, h2, dj, s1, s2, ⟨a, e, S1⟩, S2⟩ := S.pull P
  exact ⟨a, e, h1, h2, dj, s1, s2, S1, S2⟩
theorem tie_close {b p : Int} (S : Star L H) (P : Pull (pt a (.tup [.int b, .int p])) L l) : Star (tieA (some (b, p)) (.ref a) :: l) H :=
  (S.pull P).hd fun _ y => ⟨a, rfl, y⟩
theorem osp_ref (S : Star L H) (P : Pull (ospA (some s) v) L l) : ∃ a, v = .ref a ∧ Star (spanA s (.ref a) :: l) H := by
  have S2 : Star (spanA s v :: spanA s v :: l) H := Star.dup (Pst.sup s v) (S.pull P)
  obtain ⟨a, tv, e, _⟩ := span_open S2 .here
  subst e
  exact ⟨a, rfl, S.pull P⟩
theorem osp_non (S : Star L H) (P : Pull (ospA none v) L l) : v = .non ∧ Star l H := ⟨(S.pull P).fact, (S.pull P).tail⟩
def optsL (cs : List (Option Sp1 × V)) : Spans := cs.flatMap fun c => optL c.1
theorem optsL_snoc {cs : List (Option Sp1 × V)} {c : Option Sp1 × V} : optsL (cs ++ [c]) = optsL cs ++ optL c.1 := by unfold optsL; rw [List.flatMap_append]; simp
theorem opts2 {x y : Option Sp1} {u v : V} (S : Star L H) (P : Pull (ospA x u) L l) (P2 : Pull (ospA y v) l m) : Star (ownL ospA [(x, u), (y, v)] :: m) H :=
  sepL_cons ((S.pull P).under fun _ S => sepL_cons ((S.pull P2).under fun _ S => sepL_nil S))
theorem opts3 {x y z : Option Sp1} {u v w : V} {k : List Asrt} (S : Star L H) (P : Pull (ospA x u) L l) (P2 : Pull (ospA y v) l m) (P3 : Pull (ospA z w) m k) : Star (ownL ospA [(x, u), (y, v), (z, w)] :: k) H :=
  sepL_cons ((S.pull P).under fun _ S => sepL_cons ((S.pull P2).under fun _ S => sepL_cons ((S.pull P3).under fun _ S => sepL_nil S)))
theorem opts_un {c : Option Sp1 × V} {cs : List (Option Sp1 × V)} (S : Star L H) (P : Pull (ownL ospA (c :: cs)) L l) : Star (ospA c.1 c.2 :: ownL ospA cs :: l) H := sepL_unc (S.pull P)
/-- deep == of two values of one kind -/
theorem r_eqDa {α : Type} [DecidableEq α] {A : α → V → Asrt} {f : α → PyData} {K : PySem.W.Frag} {Q : VK} {x y : α} {u : V} [w : Dta A f] (S : Star L H) (P : Pull (A x v) L l) (P2 : Pull (A y u) l m) (h : Q (.bl (decide (x = y))) H) : rEqD K v u H Q := by
  obtain ⟨h1, s1, q1⟩ := (S.pull P).has (.head _)
  obtain ⟨h2, s2, q2⟩ := ((S.pull P).under fun _ S => S.pull P2).has (.tail _ (.head _))
  refine ⟨_, _, Dta.dp q1 s1, Dta.dp q2 s2, ?_, ?_, by rw [Dta.eq (A := A)]; exact h⟩
  · have := Dta.dep (A := A) x; show (_ && decide _) = true; rw [Dta.lay (A := A), decide_eq_true (by omega)]; rfl
  · have := Dta.dep (A := A) y; show (_ && decide _) = true; rw [Dta.lay (A := A), decide_eq_true (by omega)]; rfl
end
theorem r_notB {c d : Bool} {H : Hp} {Q : VK} (h : Q (.bl (!decide (c = d))) H) : rNotB (.bl c) (.bl d) H Q := ⟨c, d, rfl, rfl, h⟩
instance i_r_notB {c d : Bool} {H : Hp} {Q : VK} : Stp (rNotB (.bl c) (.bl d) H Q) (Q (.bl (!decide (c = d))) H) := ⟨r_notB⟩
/-! a method called with defaults -/
section
variable {C : Addr} {m : Str} {sp : Sp} {ta : L2.TE} {tl : TA} {σ : L2.St} {H : Hp} {Q : VK} {d x : V} {ds : List V}
instance i_r_mtD {E : L2.St → XK} : Stp (tMt C m sp (d :: ds) E ta tl σ H Q) (ta σ H fun x H1 => kMt C m x H1 (tl σ H1 fun vs H2 => kCall sp (x :: (vs ++ d :: ds)) H2 Q (E σ))) := ⟨r_mt⟩
instance i_r_mkD {E : L2.St → XK} : Stp (tMk C sp (d :: ds) E tl σ H Q) (tl σ H fun vs H1 => kMk C sp (vs ++ d :: ds) H1 Q (E σ)) := ⟨r_mk⟩
instance i_app0 {E : XK} : Stp (kCall sp (x :: ([] ++ ds)) H Q E) (kCall sp (x :: ds) H Q E) := ⟨id⟩
instance i_mapp0 {E : XK} : Stp (kMk C sp ([] ++ ds) H Q E) (kMk C sp (ds) H Q E) := ⟨id⟩
instance i_app1 {v0 : V} {E : XK} : Stp (kCall sp (x :: ([v0] ++ ds)) H Q E) (kCall sp (x :: v0 :: ds) H Q E) := ⟨id⟩
instance i_mapp1 {v0 : V} {E : XK} : Stp (kMk C sp ([v0] ++ ds) H Q E) (kMk C sp (v0 :: ds) H Q E) := ⟨id⟩
instance i_app2 {v0 v1 : V} {E : XK} : Stp (kCall sp (x :: ([v0, v1] ++ ds)) H Q E) (kCall sp (x :: v0 :: v1 :: ds) H Q E) := ⟨id⟩
instance i_mapp2 {v0 v1 : V} {E : XK} : Stp (kMk C sp ([v0, v1] ++ ds) H Q E) (kMk C sp (v0 :: v1 :: ds) H Q E) := ⟨id⟩
instance i_app3 {v0 v1 v2 : V} {E : XK} : Stp (kCall sp (x :: ([v0, v1, v2] ++ ds)) H Q E) (kCall sp (x :: v0 :: v1 :: v2 :: ds) H Q E) := ⟨id⟩
instance i_mapp3 {v0 v1 v2 : V} {E : XK} : Stp (kMk C sp ([v0, v1, v2] ++ ds) H Q E) (kMk C sp (v0 :: v1 :: v2 :: ds) H Q E) := ⟨id⟩
instance i_app4 {v0 v1 v2 v3 : V} {E : XK} : Stp (kCall sp (x :: ([v0, v1, v2, v3] ++ ds)) H Q E) (kCall sp (x :: v0 :: v1 :: v2 :: v3 :: ds) H Q E) := ⟨id⟩
instance i_mapp4 {v0 v1 v2 v3 : V} {E : XK} : Stp (kMk C sp ([v0, v1, v2, v3] ++ ds) H Q E) (kMk C sp (v0 :: v1 :: v2 :: v3 :: ds) H Q E) := ⟨id⟩
instance i_app5 {v0 v1 v2 v3 v4 : V} {E : XK} : Stp (kCall sp (x :: ([v0, v1, v2, v3, v4] ++ ds)) H Q E) (kCall sp (x :: v0 :: v1 :: v2 :: v3 :: v4 :: ds) H Q E) := ⟨id⟩
instance i_mapp5 {v0 v1 v2 v3 v4 : V} {E : XK} : Stp (kMk C sp ([v0, v1, v2, v3, v4] ++ ds) H Q E) (kMk C sp (v0 :: v1 :: v2 :: v3 :: v4 :: ds) H Q E) := ⟨id⟩
instance i_app6 {v0 v1 v2 v3 v4 v5 : V} {E : XK} : Stp (kCall sp (x :: ([v0, v1, v2, v3, v4, v5] ++ ds)) H Q E) (kCall sp (x :: v0 :: v1 :: v2 :: v3 :: v4 :: v5 :: ds) H Q E) := ⟨id⟩
instance i_mapp6 {v0 v1 v2 v3 v4 v5 : V} {E : XK} : Stp (kMk C sp ([v0, v1, v2, v3, v4, v5] ++ ds) H Q E) (kMk C sp (v0 :: v1 :: v2 :: v3 :: v4 :: v5 :: ds) H Q E) := ⟨id⟩
end
/-! defs with defaults -/
end Fl
namespace L2
open PySem PySem.Spec PyProof.Rows
theorem FunD.okX {P : Program} {w : World} {K : PySem.W.Frag} {mg : Str → Option Value} {base : Heap} {x qual : Str} {pr : Arguments} {bd : List Stmt} {sc : Scope} {dvs : List V} {kws : List (Str × V)} {f : Addr} {fd : FuncData} {N ps : List Str} {k : Nat} {sp : Sp} (F : FunD K x qual pr bd sc dvs kws f fd) (S : FnScope N ps sc) (len : ∀ vs H Q E, sp vs H Q E → vs.length = ps.length)
    (hbody : ∀ (cdv : Value) (A : Around) (outer : List Env) (s : Shared) (H : Hp) (vs : List V) (Q : VK) (E : XK), Room k (A.deeper (envOfC qual sc s.heap.objs.size f cdv)) → sp vs H Q E →
      ∃ t, PSs (cxOf (L2.CX P w) P w K mg base N qual sc f cdv A outer s H E) bd t ∧ t { nx := fun _ H' => Q .non H', rt := Q } (start N vs) H) : FnOk P w K mg base (L2.CX P w) (k + 1) f fd ps sp := F.ok S len hbody
end L2
namespace Fl
open PySem PySem.Spec PyProof.Rows L2
abbrev FunDf (K : PySem.W.Frag) (x qual : Str) (st : Stmt) (dvs : List V) (f : Addr) (fd : FuncData) : Prop := FunD K x qual (defArgs st) (defBody st) (defScope st) dvs [] f fd
theorem fund_mk {K : PySem.W.Frag} {x qual : Str} {st : Stmt} {f T : Addr} {oc tc : Value} {od an tod : Option Addr} {osl tsl : Array (Option Value)} {kV doc pm cdv ct : Value} {its : List Value} {n : Nat} {dvs : List V} (l : K.lookup f = some ⟨oc, od, .func (PySem.W.fnOf x qual (defArgs st) (defBody st) (defScope st) (.ref T) kV doc pm an cdv ct), osl⟩)
    (c : PySem.W.codeIn K cdv qual = true) (k : PySem.W.keepIn K (.ref f) = true) (lT : K.lookup T = some ⟨tc, tod, .seq its.toArray n, tsl⟩) (hv : Vals dvs its) (hd : dvs ≠ []) : FunDf K x qual st dvs f (PySem.W.fnOf x qual (defArgs st) (defBody st) (defScope st) (.ref T) kV doc pm an cdv ct) :=
  ⟨⟨oc, od, .ref T, kV, doc, pm, an, cdv, ct, osl, rfl, l, c, .inr ⟨hd, T, _, its, n, rfl, lT, rfl, hv⟩, .inl rfl⟩, k⟩
/-- [x for x in xs if P(x)] over things that may be had twice -/
theorem cl_LAk {α : Type} {A : α → V → Asrt} [Pst A] {K : PySem.W.Frag} {L l : List Asrt} {H : Hp} {p : Addr} {xs : List α} {Q : VK} {g : TG} {tt : L2.TT} {te : L2.TE} {ws : List Nat} {σ σ' : L2.St} {P : α → Bool} (S : Star L H) (Pu : Pull (listA A xs p) L l) (hw : wipe σ ws = σ') (z : xs.length ≤ 100000)
    (hs : ∀ x v acc R D H, x ∈ xs → acc.length < 100000 → Star (A x v :: pt D (.lst acc) :: R :: l) H → ∀ N : Hp → Prop, (∀ H', Star (A x v :: pt D (.lst (if P x = true then acc ++ [v] else acc)) :: R :: l) H' → N H') → g v σ' H fun σ2 H2 => wipe σ2 ws = σ' ∧ tt σ2 H2 fun b H3 => if b = true then te σ2 H3 fun y H4 => kApp D y H4 N else N H3)
    (h0 : ∀ D H', Star (listA A (xs.filter P) D :: listA A xs p :: l) H' → Q (.ref D) H') : kLW (Itl K p) g tt te ws σ Q H := by
  obtain ⟨cs, rfl, S⟩ := listA_open (S.pull Pu)
  refine r_lw (xs := cs.map Prod.snd) use_list hw S fun D H' S' => cl_indM (f := Prod.snd) (fun r H => ∃ done, cs = done ++ r ∧ Star (pt D (.lst ((done.filter fun c => P c.1).map Prod.snd)) :: pt p (.lst (cs.map Prod.snd)) :: ownL A cs :: l) H) ⟨[], rfl, S'⟩ ?_ ?_
  · rintro H ⟨done, e, S⟩
    rw [List.append_nil] at e
    subst e
    refine ⟨SqL.of (S.get (.tail _ (.head _))), h0 _ _ ?_⟩
    have S2 : Star (ownL A cs :: pt D (.lst ((cs.filter fun c => P c.1).map Prod.snd)) :: pt p (.lst (cs.map Prod.snd)) :: l) H := S.keep (.cons (.there (.there .here)) (.cons .here (.cons .here .refl)))
    have S3 := own_dups (ds := cs.filter fun c => P c.1) (fun c h => (List.mem_filter.mp h).1) S2
    have S4 : Star (pt D (.lst ((cs.filter fun c => P c.1).map Prod.snd)) :: ownL A (cs.filter fun c => P c.1) :: pt p (.lst (cs.map Prod.snd)) :: ownL A cs :: l) H := S3.keep (.cons (.there (.there .here)) (.cons .here (.cons (.there .here) (.cons .here .refl))))
    exact (listA_close (xs := (cs.map Prod.fst).filter P) (by rw [List.filter_map]; rfl) S4).under fun _ S => listA_close rfl S
  · rintro c r H ⟨done, e, S⟩ N hN
    have S2 := (S.under fun _ S => mid_out e S).swap
    refine ⟨SqL.of (S.get (.tail _ (.head _))), hs c.1 c.2 _ _ D H (by rw [e]; simp) ?_ S2 N fun H' S' => hN _ ⟨done ++ [c], by rw [e]; simp, ?_⟩⟩
    · rw [e] at z
      have := List.length_filter_le (fun c => P c.1) done
      simp at z ⊢
      omega
    · have e2 : ((done ++ [c]).filter fun c => P c.1).map Prod.snd = if P c.1 = true then (done.filter fun c => P c.1).map Prod.snd ++ [c.2] else (done.filter fun c => P c.1).map Prod.snd := by
        rw [List.filter_append]
        by_cases h : P c.1 = true
        · rw [if_pos h]; simp [h]
        · rw [if_neg h]; simp [h]
      rw [e2]
      exact S'.swap.under fun _ S => mid_put e S
end Fl
/-! Fl: spans page by page. -/
namespace Fl
/-- rights and tie of a page -/
abbrev Pg := Int × Tie
def pgS (s : Sp1) (g : Int) : Pg := (s.r, tieOn s.t (g - s.f))
def pgAt (xs : Spans) (g : Int) : Option Pg := (xs.find? (hasP g)).map fun s => pgS s g
def ordS (xs : Spans) : Prop := xs.Pairwise (fun a b => a.f + a.m ≤ b.f) ∧ ∀ s ∈ xs, 0 ≤ s.f ∧ 0 < s.m
def leastS (xs : Spans) : Prop := ∀ a ∈ xs, ∀ b ∈ xs, goesOn a b = false
def canon (xs : Spans) : Prop := ordS xs ∧ leastS xs
theorem canon_nil : canon [] := ⟨⟨.nil, fun _ h => (nomatch h)⟩, fun _ h => (nomatch h)⟩
theorem rights_pg {xs : Spans} {g : Int} : rightsAt xs g = (pgAt xs g).map Prod.fst := by
  unfold rightsAt pgAt
  cases h : xs.find? (hasP g) with
  | none => unfold spanAt; rw [h]; rfl
  | some s => rw [spanAt_some h]; rfl
theorem tie_pg {xs : Spans} {g : Int} : tieAt xs g = (pgAt xs g).bind Prod.snd := by
  unfold tieAt pgAt
  cases h : xs.find? (hasP g) with
  | none => unfold spanAt; rw [h]; rfl
  | some s => rw [spanAt_some h]; rfl
theorem pg_none {xs : Spans} {g : Int} : pgAt xs g = none ↔ ∀ s ∈ xs, ¬ (s.f ≤ g ∧ g < s.f + s.m) := by
  unfold pgAt
  rw [Option.map_eq_none_iff, List.find?_eq_none]
  constructor
  · intro h s hs q; exact h s hs (hasP_iff.mpr q)
  · intro h s hs q; exact h s hs (hasP_iff.mp q)
theorem ord_cons {s : Sp1} {xs : Spans} (h : ordS (s :: xs)) : ordS xs ∧ 0 ≤ s.f ∧ 0 < s.m ∧ ∀ x ∈ xs, s.f + s.m ≤ x.f := by
  obtain ⟨h1, h2⟩ := h
  rw [List.pairwise_cons] at h1
  exact ⟨⟨h1.2, fun x hx => h2 x (.tail _ hx)⟩, (h2 s (.head _)).1, (h2 s (.head _)).2, h1.1⟩
theorem pg_iff {g : Int} {v : Pg} : ∀ {xs : Spans}, ordS xs → (pgAt xs g = some v ↔ ∃ s ∈ xs, s.f ≤ g ∧ g < s.f + s.m ∧ v = pgS s g)
  | [], _ => ⟨fun h => (nomatch h), fun ⟨_, h, _⟩ => (nomatch h)⟩
  | x :: xs, h => by
    obtain ⟨h1, h2, h3, h4⟩ := ord_cons h
    by_cases e : x.f ≤ g ∧ g < x.f + x.m
    · have : pgAt (x :: xs) g = some (pgS x g) := by unfold pgAt; rw [List.find?_cons, hasP_iff.mpr e]; rfl
      rw [this]
      constructor
      · intro q; cases q; exact ⟨x, .head _, e.1, e.2, rfl⟩
      · rintro ⟨s, hs, e1, e2, rfl⟩
        rcases List.mem_cons.mp hs with rfl | hs
        · rfl
        · have := h4 s hs; omega
    · have : pgAt (x :: xs) g = pgAt xs g := by unfold pgAt; rw [List.find?_cons, hasP_no e]
      rw [this, pg_iff h1]
      constructor
      · rintro ⟨s, hs, q⟩; exact ⟨s, .tail _ hs, q⟩
      · rintro ⟨s, hs, e1, e2, q⟩
        rcases List.mem_cons.mp hs with rfl | hs
        · exact absurd ⟨e1, e2⟩ e
        · exact ⟨s, hs, e1, e2, q⟩
theorem opt_ext {α : Type} {x y : Option α} (h : ∀ v, x = some v ↔ y = some v) : x = y := by
  cases x with
  | none => cases y with
    | none => rfl
    | some v => exact ((h v).mpr rfl)
  | some v => exact ((h v).mp rfl).symm
theorem goes_iff {a b : Sp1} : goesOn a b = true ↔ a.f + a.m = b.f ∧ a.r = b.r ∧ tieOn a.t a.m = b.t := by
  unfold goesOn
  rw [Bool.and_eq_true, Bool.and_eq_true, decide_eq_true_eq, decide_eq_true_eq, decide_eq_true_eq, and_assoc]
/-- two least rows with the same pages are one -/
theorem canon_uniq : ∀ {xs ys : Spans}, canon xs → canon ys → (∀ g, pgAt xs g = pgAt ys g) → xs = ys
  | [], [], _, _, _ => rfl
  | [], y :: ys, _, hy, h => by
    have h2 := (h y.f).symm
    have := (pg_iff hy.1 (g := y.f) (v := pgS y y.f)).mpr ⟨y, .head _, Int.le_refl _, by have := (ord_cons hy.1).2.2.1; omega, rfl⟩
    rw [this] at h2; cases h2
  | x :: xs, [], hx, _, h => by
    have h2 := h x.f
    have := (pg_iff hx.1 (g := x.f) (v := pgS x x.f)).mpr ⟨x, .head _, Int.le_refl _, by have := (ord_cons hx.1).2.2.1; omega, rfl⟩
    rw [this] at h2; cases h2
  | x :: xs, y :: ys, hx, hy, h => by
    have ox := ord_cons hx.1
    have oy := ord_cons hy.1
    have key : ∀ {x y : Sp1} {xs ys : Spans}, ordS (x :: xs) → ordS (y :: ys) → (∀ g, pgAt (x :: xs) g = pgAt (y :: ys) g) → y.f ≤ x.f := by
      intro x y xs ys hx hy h
      have ox := ord_cons hx
      have oy := ord_cons hy
      have := (pg_iff hx (g := x.f) (v := pgS x x.f)).mpr ⟨x, .head _, Int.le_refl _, by have := ox.2.2.1; omega, rfl⟩
      rw [h] at this
      obtain ⟨s, hs, e1, e2, _⟩ := (pg_iff hy).mp this
      rcases List.mem_cons.mp hs with rfl | hs
      · exact e1
      · have := oy.2.2.2 s hs; have := oy.2.2.1; omega
    have ef : x.f = y.f := Int.le_antisymm (key hy.1 hx.1 fun g => (h g).symm) (key hx.1 hy.1 h)
    have e0 := (pg_iff hx.1 (g := x.f) (v := pgS x x.f)).mpr ⟨x, .head _, Int.le_refl _, by have := ox.2.2.1; omega, rfl⟩
    rw [h] at e0
    obtain ⟨s, hs, e1, e2, e3⟩ := (pg_iff hy.1).mp e0
    have hsy : s = y := by
      rcases List.mem_cons.mp hs with rfl | hs
      · rfl
      · have := oy.2.2.2 s hs; have := oy.2.2.1; omega
    subst hsy
    unfold pgS at e3
    rw [← ef, Int.sub_self, tieOn_zero, tieOn_zero] at e3
    have er : x.r = s.r := congrArg Prod.fst e3
    have et : x.t = s.t := congrArg Prod.snd e3
    have lem : ∀ {x s : Sp1} {xs ys : Spans}, canon (x :: xs) → canon (s :: ys) → (∀ g, pgAt (x :: xs) g = pgAt (s :: ys) g) → x.f = s.f → x.r = s.r → x.t = s.t → s.m ≤ x.m := by
      intro x s xs ys hx hy h ef er et
      have ox := ord_cons hx.1
      have oy := ord_cons hy.1
      by_cases hm : s.m ≤ x.m
      · exact hm
      exfalso
      have e1 := (pg_iff hy.1 (g := x.f + x.m) (v := pgS s (x.f + x.m))).mpr ⟨s, .head _, by have := ox.2.2.1; omega, by omega, rfl⟩
      rw [← h] at e1
      obtain ⟨c, hc, c1, c2, c3⟩ := (pg_iff hx.1).mp e1
      rcases List.mem_cons.mp hc with rfl | hc'
      · omega
      · have c4 := ox.2.2.2 c hc'
        have c5 : c.f = x.f + x.m := by omega
        have := hx.2 x (.head _) c hc
        rw [goes_iff.mpr ⟨c5.symm, ?_, ?_⟩] at this
        · cases this
        · rw [er]; exact congrArg Prod.fst c3
        · have := congrArg Prod.snd c3
          unfold pgS at this
          dsimp only at this
          rw [c5, Int.sub_self, tieOn_zero, ← et, ← ef, show x.f + x.m - x.f = x.m by omega] at this
          exact this
    have em : x.m = s.m := Int.le_antisymm (lem hy hx (fun g => (h g).symm) ef.symm er.symm et.symm) (lem hx hy h ef er et)
    have exs : x = s := by cases x; cases s; simp only at ef em er et; subst ef em er et; rfl
    subst exs
    congr 1
    refine canon_uniq ⟨ox.1, fun a ha b hb => hx.2 a (.tail _ ha) b (.tail _ hb)⟩ ⟨oy.1, fun a ha b hb => hy.2 a (.tail _ ha) b (.tail _ hb)⟩ fun g => ?_
    by_cases e : x.f ≤ g ∧ g < x.f + x.m
    · rw [pg_none.mpr fun s hs q => by have := ox.2.2.2 s hs; omega, pg_none.mpr fun s hs q => by have := oy.2.2.2 s hs; omega]
    · have e1 : ∀ zs, pgAt (x :: zs) g = pgAt zs g := fun zs => by unfold pgAt; rw [List.find?_cons, hasP_no e]
      have := h g
      rw [e1, e1] at this
      exact this
/-! joined -/
theorem tie_goes {l s : Sp1} (e : goesOn l s = true) {g : Int} : pgS s g = pgS l g := by
  obtain ⟨e1, e2, e3⟩ := goes_iff.mp e
  unfold pgS
  rw [← e3, tieOn_add, e2, show l.m + (g - s.f) = g - l.f by omega]
theorem joined_ok : ∀ {n : Nat} {xs : Spans}, xs.length = n → ordS xs → canon (joined xs) ∧ (∀ B, (∀ x ∈ xs, x.f + x.m ≤ B) → ∀ y ∈ joined xs, y.f + y.m ≤ B) ∧ ∀ g, pgAt (joined xs) g = pgAt xs g
  | n, xs, hn, h => by
    rcases snoc_cases xs with rfl | ⟨ys, s, rfl⟩
    · exact ⟨canon_nil, fun B hB y hy => (nomatch hy), fun g => rfl⟩
    cases n with
    | zero => simp at hn
    | succ n =>
    obtain ⟨hp, hm⟩ := h
    rw [List.pairwise_append] at hp
    have oy : ordS ys := ⟨hp.1, fun s hs => hm s (List.mem_append_left _ hs)⟩
    obtain ⟨c, bd, pg⟩ := joined_ok (n := n) (by simpa using hn) oy
    have hs0 := hm s (by simp)
    have hb := bd s.f fun x hx => hp.2.2 x hx s (.head _)
    rw [joined_snoc]
    have ho : ordS (ys ++ [s]) := ⟨by rw [List.pairwise_append]; exact hp, hm⟩
    rcases snoc_cases (joined ys) with hj | ⟨zs, l, hj⟩
    · rw [hj, joinStep_nil]
      refine ⟨⟨⟨List.pairwise_singleton _ _, fun x hx => by rw [List.mem_singleton] at hx; subst hx; exact hs0⟩, fun a ha b hb => ?_⟩, fun B hB y hy => by rw [List.mem_singleton] at hy; subst hy; exact hB _ (by simp), fun g => ?_⟩
      · rw [List.mem_singleton] at ha hb; subst ha; subst hb
        cases e : goesOn b b with
        | false => rfl
        | true => have := (goes_iff.mp e).1; omega
      · have hys : ∀ g, pgAt ys g = none := fun g => by rw [← pg, hj]; rfl
        unfold pgAt
        rw [List.find?_append]
        have := hys g
        unfold pgAt at this
        rw [Option.map_eq_none_iff] at this
        rw [this]; rfl
    · have oj := c.1
      have lj := c.2
      rw [hj] at oj lj hb bd pg ⊢
      have hl : l ∈ zs ++ [l] := by simp
      have hl0 := oj.2 l hl
      have hlb := hb l hl
      have hpz := List.pairwise_append.mp oj.1
      have pgall : ∀ g v, pgAt (ys ++ [s]) g = some v ↔ (pgAt ys g = some v ∨ (s.f ≤ g ∧ g < s.f + s.m ∧ v = pgS s g)) := by
        intro g v
        rw [pg_iff ho, pg_iff oy]
        constructor
        · rintro ⟨x, hx, q⟩
          rcases List.mem_append.mp hx with hx | hx
          · exact .inl ⟨x, hx, q⟩
          · rw [List.mem_singleton] at hx; subst hx; exact .inr q
        · rintro (⟨x, hx, q⟩ | q)
          · exact ⟨x, List.mem_append_left _ hx, q⟩
          · exact ⟨s, by simp, q⟩
      cases e : goesOn l s with
      | true =>
        obtain ⟨e1, e2, e3⟩ := goes_iff.mp e
        rw [joinStep_on e]
        have on : ordS (zs ++ [⟨l.f, l.m + s.m, l.r, l.t⟩]) := by
          refine ⟨List.pairwise_append.mpr ⟨hpz.1, List.pairwise_singleton _ _, fun a ha b hb => ?_⟩, fun x hx => ?_⟩
          · rw [List.mem_singleton] at hb; subst hb; exact hpz.2.2 a ha l (.head _)
          · rcases List.mem_append.mp hx with hx | hx
            · exact oj.2 x (List.mem_append_left _ hx)
            · rw [List.mem_singleton] at hx; subst hx; exact ⟨hl0.1, by show 0 < l.m + s.m; omega⟩
        refine ⟨⟨on, fun a ha b hb => ?_⟩, fun B hB y hy => ?_, fun g => opt_ext fun v => ?_⟩
        · cases eg : goesOn a b with
          | false => rfl
          | true =>
            exfalso
            obtain ⟨g1, g2, g3⟩ := goes_iff.mp eg
            rcases List.mem_append.mp ha with ha | ha
            · rcases List.mem_append.mp hb with hb | hb
              · have := lj a (List.mem_append_left _ ha) b (List.mem_append_left _ hb); rw [eg] at this; cases this
              · rw [List.mem_singleton] at hb; subst hb
                have := lj a (List.mem_append_left _ ha) l hl
                have q : goesOn a l = true := goes_iff.mpr ⟨g1, g2, g3⟩
                rw [q] at this; cases this
            · rw [List.mem_singleton] at ha; subst ha
              dsimp only at g1
              rcases List.mem_append.mp hb with hb | hb
              · have := hpz.2.2 b hb l (.head _); have := oj.2 b (List.mem_append_left _ hb); omega
              · rw [List.mem_singleton] at hb; subst hb; dsimp only at g1; omega
        · rcases List.mem_append.mp hy with hy | hy
          · exact bd B (fun x hx => hB x (List.mem_append_left _ hx)) y (List.mem_append_left _ hy)
          · rw [List.mem_singleton] at hy; subst hy
            have := hB s (by simp)
            show l.f + (l.m + s.m) ≤ B
            omega
        · rw [pgall, ← pg, pg_iff on, pg_iff oj]
          constructor
          · rintro ⟨x, hx, x1, x2, x3⟩
            rcases List.mem_append.mp hx with hx | hx
            · exact .inl ⟨x, List.mem_append_left _ hx, x1, x2, x3⟩
            · rw [List.mem_singleton] at hx; subst hx
              dsimp only at x1 x2
              by_cases hg : g < l.f + l.m
              · exact .inl ⟨l, hl, x1, hg, x3⟩
              · exact .inr ⟨by omega, by omega, by rw [tie_goes e]; exact x3⟩
          · rintro (⟨x, hx, x1, x2, x3⟩ | ⟨x1, x2, x3⟩)
            · rcases List.mem_append.mp hx with hx | hx
              · exact ⟨x, List.mem_append_left _ hx, x1, x2, x3⟩
              · rw [List.mem_singleton] at hx; subst hx
                exact ⟨⟨x.f, x.m + s.m, x.r, x.t⟩, by simp, x1, by show g < x.f + (x.m + s.m); omega, x3⟩
            · exact ⟨⟨l.f, l.m + s.m, l.r, l.t⟩, by simp, by show l.f ≤ g; omega, by show g < l.f + (l.m + s.m); omega, by rw [tie_goes e] at x3; exact x3⟩
      | false =>
        rw [joinStep_off e]
        have on : ordS (zs ++ [l] ++ [s]) := by
          refine ⟨List.pairwise_append.mpr ⟨oj.1, List.pairwise_singleton _ _, fun a ha b hb' => ?_⟩, fun x hx => ?_⟩
          · rw [List.mem_singleton] at hb'; subst hb'; exact hb a ha
          · rcases List.mem_append.mp hx with hx | hx
            · exact oj.2 x hx
            · rw [List.mem_singleton] at hx; subst hx; exact hs0
        refine ⟨⟨on, fun a ha b hb' => ?_⟩, fun B hB y hy => ?_, fun g => opt_ext fun v => ?_⟩
        · cases eg : goesOn a b with
          | false => rfl
          | true =>
            exfalso
            obtain ⟨g1, g2, g3⟩ := goes_iff.mp eg
            rcases List.mem_append.mp ha with ha1 | ha1
            · rcases List.mem_append.mp hb' with hb' | hb'
              · have := lj a ha1 b hb'; rw [eg] at this; cases this
              · rw [List.mem_singleton] at hb'; subst hb'
                rcases List.mem_append.mp ha1 with ha2 | ha2
                · have := hpz.2.2 a ha2 l (.head _); omega
                · rw [List.mem_singleton] at ha2; subst ha2; rw [e] at eg; cases eg
            · rw [List.mem_singleton] at ha1; subst ha1
              rcases List.mem_append.mp hb' with hb' | hb'
              · have := hb b hb'; have := oj.2 b hb'; omega
              · rw [List.mem_singleton] at hb'; subst hb'; omega
        · rcases List.mem_append.mp hy with hy | hy
          · exact bd B (fun x hx => hB x (List.mem_append_left _ hx)) y hy
          · rw [List.mem_singleton] at hy; subst hy; exact hB y (by simp)
        · rw [pgall, ← pg, pg_iff on, pg_iff oj]
          constructor
          · rintro ⟨x, hx, x1, x2, x3⟩
            rcases List.mem_append.mp hx with hx | hx
            · exact .inl ⟨x, hx, x1, x2, x3⟩
            · rw [List.mem_singleton] at hx; subst hx; exact .inr ⟨x1, x2, x3⟩
          · rintro (⟨x, hx, x1, x2, x3⟩ | ⟨x1, x2, x3⟩)
            · exact ⟨x, List.mem_append_left _ hx, x1, x2, x3⟩
            · exact ⟨s, by simp, x1, x2, x3⟩
/-! rows of rows -/
theorem pg_of {xs ys : Spans} {g : Int} (hx : ordS xs) (hy : ordS ys) (h : ∀ v, (∃ s ∈ xs, s.f ≤ g ∧ g < s.f + s.m ∧ v = pgS s g) ↔ ∃ s ∈ ys, s.f ≤ g ∧ g < s.f + s.m ∧ v = pgS s g) : pgAt xs g = pgAt ys g :=
  opt_ext fun v => by rw [pg_iff hx, pg_iff hy]; exact h v
theorem pg_uniq {xs : Spans} (hx : ordS xs) {g : Int} {a b : Sp1} (ha : a ∈ xs) (hb : b ∈ xs) (h1 : a.f ≤ g ∧ g < a.f + a.m) (h2 : b.f ≤ g ∧ g < b.f + b.m) : pgS a g = pgS b g := by
  have e1 := (pg_iff hx (g := g) (v := pgS a g)).mpr ⟨a, ha, h1.1, h1.2, rfl⟩
  have e2 := (pg_iff hx (g := g) (v := pgS b g)).mpr ⟨b, hb, h2.1, h2.2, rfl⟩
  rw [e1] at e2
  exact Option.some.inj e2
theorem ord_flat {P : Sp1 → Spans} : ∀ {xs : Spans}, ordS xs → (∀ s ∈ xs, ordS (P s) ∧ ∀ x ∈ P s, s.f ≤ x.f ∧ x.f + x.m ≤ s.f + s.m) → ordS (xs.flatMap P)
  | [], _, _ => canon_nil.1
  | s :: xs, h, hP => by
    obtain ⟨h1, h2, h3, h4⟩ := ord_cons h
    have hs := hP s (.head _)
    have ih := ord_flat h1 fun x hx => hP x (.tail _ hx)
    rw [List.flatMap_cons]
    refine ⟨List.pairwise_append.mpr ⟨hs.1.1, ih.1, fun a ha b hb => ?_⟩, fun x hx => ?_⟩
    · obtain ⟨c, hc, hb⟩ := List.mem_flatMap.mp hb
      have := hs.2 a ha
      have := (hP c (.tail _ hc)).2 b hb
      have := h4 c hc
      omega
    · rcases List.mem_append.mp hx with hx | hx
      · exact hs.1.2 x hx
      · exact ih.2 x hx
/-- what of a span is a part: the pages of both -/
theorem part_some {s x : Sp1} {b e : Int} (h : partOf s b e = some x) : x.f = maxI s.f b ∧ x.f + x.m = minI (s.f + s.m) e ∧ 0 < x.m ∧ x.r = s.r ∧ x.t = tieOn s.t (x.f - s.f) := by
  unfold partOf at h
  split at h
  · cases h
  · cases h
    refine ⟨rfl, ?_, ?_, rfl, rfl⟩
    · show maxI s.f b + (minI (s.f + s.m) e - maxI s.f b) = _; omega
    · show 0 < minI (s.f + s.m) e - maxI s.f b; omega
theorem maxI_le {i j g : Int} : maxI i j ≤ g ↔ i ≤ g ∧ j ≤ g := by unfold maxI; split <;> omega
theorem lt_minI {i j g : Int} : g < minI i j ↔ g < i ∧ g < j := by unfold minI; split <;> omega
theorem part_pg {s x : Sp1} {b e g : Int} (h : partOf s b e = some x) (hg : x.f ≤ g) : pgS x g = pgS s g := by
  obtain ⟨h1, h2, h3, h4, h5⟩ := part_some h
  unfold pgS
  rw [h4, h5, tieOn_add, show x.f - s.f + (g - x.f) = g - s.f by omega]
theorem part_iff {s : Sp1} {b e g : Int} {v : Pg} : (∃ x, partOf s b e = some x ∧ x.f ≤ g ∧ g < x.f + x.m ∧ v = pgS x g) ↔ s.f ≤ g ∧ g < s.f + s.m ∧ b ≤ g ∧ g < e ∧ v = pgS s g := by
  constructor
  · rintro ⟨x, h, h1, h2, h3⟩
    obtain ⟨e1, e2, e3, e4, e5⟩ := part_some h
    rw [part_pg h h1] at h3
    rw [e1, maxI_le] at h1
    rw [e2, lt_minI] at h2
    exact ⟨h1.1, h2.1, h1.2, h2.2, h3⟩
  · rintro ⟨h1, h2, h3, h4, h5⟩
    have a1 : maxI s.f b ≤ g := maxI_le.mpr ⟨h1, h3⟩
    have a2 : g < minI (s.f + s.m) e := lt_minI.mpr ⟨h2, h4⟩
    have hp := part_in (s := s) (b := b) (e := e) (by omega)
    exact ⟨_, hp, a1, by show g < maxI s.f b + (minI (s.f + s.m) e - maxI s.f b); omega, by rw [part_pg hp a1]; exact h5⟩
theorem mem_optL {o : Option Sp1} {x : Sp1} : x ∈ optL o ↔ o = some x := by cases o <;> simp [optL, eq_comm]
theorem ord_nil : ordS [] := canon_nil.1
theorem ord_optL {o : Option Sp1} (h : ∀ x, o = some x → 0 ≤ x.f ∧ 0 < x.m) : ordS (optL o) := by
  cases o with
  | none => exact ord_nil
  | some x => exact ⟨List.pairwise_singleton _ _, fun y hy => by rw [show optL (some x) = [x] from rfl, List.mem_singleton] at hy; subst hy; exact h _ rfl⟩
theorem ord_app {xs ys : Spans} (hx : ordS xs) (hy : ordS ys) (h : ∀ a ∈ xs, ∀ b ∈ ys, a.f + a.m ≤ b.f) : ordS (xs ++ ys) :=
  ⟨List.pairwise_append.mpr ⟨hx.1, hy.1, h⟩, fun x hm => (List.mem_append.mp hm).elim (hx.2 x) (hy.2 x)⟩
theorem ord_sub {xs ys : Spans} (hx : ordS xs) (h : ys.Sublist xs) : ordS ys := ⟨hx.1.sublist h, fun x hm => hx.2 x (h.subset hm)⟩
theorem maxI_ge {i j : Int} : i ≤ maxI i j ∧ j ≤ maxI i j := by unfold maxI; split <;> omega
theorem minI_le {i j : Int} : minI i j ≤ i ∧ minI i j ≤ j := by unfold minI; split <;> omega
/-! cut -/
theorem cutP_ord {f m : Int} {s : Sp1} (h0 : 0 ≤ s.f) (hm : 0 < m) : ordS (cutP f m s) ∧ ∀ x ∈ cutP f m s, s.f ≤ x.f ∧ x.f + x.m ≤ s.f + s.m := by
  have part0 : ∀ {b e x}, partOf s b e = some x → s.f ≤ x.f ∧ x.f + x.m ≤ s.f + s.m ∧ b ≤ x.f ∧ x.f + x.m ≤ e ∧ 0 < x.m := by
    intro b e x h
    obtain ⟨e1, e2, e3, _, _⟩ := part_some h
    have := maxI_ge (i := s.f) (j := b)
    have := minI_le (i := s.f + s.m) (j := e)
    omega
  refine ⟨ord_app (ord_optL fun x h => ?_) (ord_optL fun x h => ?_) fun a ha b hb => ?_, fun x hx => ?_⟩
  · have := part0 h; omega
  · have := part0 h; omega
  · have := part0 (mem_optL.mp ha); have := part0 (mem_optL.mp hb); omega
  · rcases List.mem_append.mp hx with hx | hx <;> (have := part0 (mem_optL.mp hx); omega)
theorem cut_canon {xs : Spans} {f m : Int} (c : canon xs) (hm : 0 < m) : canon (cutS xs f m) := by
  refine ⟨ord_flat c.1 fun s hs => cutP_ord (c.1.2 s hs).1 hm, fun a ha b hb => ?_⟩
  cases eg : goesOn a b with
  | false => rfl
  | true =>
    exfalso
    obtain ⟨g1, g2, g3⟩ := goes_iff.mp eg
    obtain ⟨s, hs, ha⟩ := List.mem_flatMap.mp ha
    obtain ⟨u, hu, hb⟩ := List.mem_flatMap.mp hb
    have part1 : ∀ {s x : Sp1}, s ∈ xs → x ∈ cutP f m s → s.f ≤ x.f ∧ x.f + x.m ≤ s.f + s.m ∧ 0 < x.m ∧ x.r = s.r ∧ x.t = tieOn s.t (x.f - s.f) ∧ ((x.f = s.f ∧ x.f + x.m ≤ f) ∨ (f + m ≤ x.f ∧ x.f + x.m = s.f + s.m)) := by
      intro s x hs hx
      rcases List.mem_append.mp hx with hx | hx
      · obtain ⟨e1, e2, e3, e4, e5⟩ := part_some (mem_optL.mp hx)
        have := maxI_ge (i := s.f) (j := 0)
        have := minI_le (i := s.f + s.m) (j := f)
        rw [maxI_l (c.1.2 s hs).1] at e1
        exact ⟨by omega, by omega, e3, e4, e5, .inl ⟨e1, by omega⟩⟩
      · obtain ⟨e1, e2, e3, e4, e5⟩ := part_some (mem_optL.mp hx)
        have := maxI_ge (i := s.f) (j := f + m)
        have := minI_le (i := s.f + s.m) (j := s.f + s.m)
        rw [minI_l (Int.le_refl _)] at e2
        exact ⟨by omega, by omega, e3, e4, e5, .inr ⟨by omega, e2⟩⟩
    obtain ⟨a1, a2, a3, a4, a5, a6⟩ := part1 hs ha
    obtain ⟨b1, b2, b3, b4, b5, b6⟩ := part1 hu hb
    have hsu : s.f + s.m ≤ u.f ∨ s = u ∨ u.f + u.m ≤ s.f := by
      rcases List.mem_iff_getElem.mp hs with ⟨i, hi, rfl⟩
      rcases List.mem_iff_getElem.mp hu with ⟨j, hj, rfl⟩
      have hp := List.pairwise_iff_getElem.mp c.1.1
      rcases Nat.lt_trichotomy i j with h | h | h
      · exact .inl (hp i j hi hj h)
      · subst h; exact .inr (.inl rfl)
      · exact .inr (.inr (hp j i hj hi h))
    have h5 := c.1.2 s hs
    have h6 := c.1.2 u hu
    rcases hsu with h | rfl | h
    · have := c.2 s hs u hu
      have q : goesOn s u = true := goes_iff.mpr ⟨by omega, by rw [← a4, ← b4]; exact g2, by
        rw [a5, b5, tieOn_add, show a.f - s.f + a.m = s.m by omega, show b.f - u.f = 0 by omega, tieOn_zero] at g3
        exact g3⟩
      rw [q] at this; cases this
    · omega
    · omega
theorem mem_cut {xs : Spans} {f m : Int} {x : Sp1} : x ∈ cutS xs f m ↔ ∃ s ∈ xs, partOf s 0 f = some x ∨ partOf s (f + m) (s.f + s.m) = some x := by
  unfold cutS cutP
  rw [List.mem_flatMap]
  constructor
  · rintro ⟨s, hs, h⟩
    rcases List.mem_append.mp h with h | h
    · exact ⟨s, hs, .inl (mem_optL.mp h)⟩
    · exact ⟨s, hs, .inr (mem_optL.mp h)⟩
  · rintro ⟨s, hs, h | h⟩
    · exact ⟨s, hs, List.mem_append_left _ (mem_optL.mpr h)⟩
    · exact ⟨s, hs, List.mem_append_right _ (mem_optL.mpr h)⟩
theorem cut_pg {xs : Spans} {f m : Int} (c : canon xs) (hm : 0 < m) (g : Int) : pgAt (cutS xs f m) g = if f ≤ g ∧ g < f + m then none else pgAt xs g := by
  have cc := (cut_canon (f := f) c hm).1
  refine opt_ext fun v => ?_
  rw [pg_iff cc]
  have key : (∃ x ∈ cutS xs f m, x.f ≤ g ∧ g < x.f + x.m ∧ v = pgS x g) ↔ ∃ s ∈ xs, s.f ≤ g ∧ g < s.f + s.m ∧ ¬ (f ≤ g ∧ g < f + m) ∧ v = pgS s g := by
    constructor
    · rintro ⟨x, hx, q⟩
      obtain ⟨s, hs, h | h⟩ := mem_cut.mp hx
      · obtain ⟨q1, q2, q3, q4, q5⟩ := part_iff.mp ⟨x, h, q⟩
        exact ⟨s, hs, q1, q2, by omega, q5⟩
      · obtain ⟨q1, q2, q3, q4, q5⟩ := part_iff.mp ⟨x, h, q⟩
        exact ⟨s, hs, q1, q2, by omega, q5⟩
    · rintro ⟨s, hs, q1, q2, q3, q4⟩
      have := (c.1.2 s hs).1
      by_cases h : g < f
      · obtain ⟨x, hx, q⟩ := part_iff.mpr ⟨q1, q2, (show (0:Int) ≤ g by omega), h, q4⟩
        exact ⟨x, mem_cut.mpr ⟨s, hs, .inl hx⟩, q⟩
      · obtain ⟨x, hx, q⟩ := part_iff.mpr ⟨q1, q2, (show f + m ≤ g by omega), q2, q4⟩
        exact ⟨x, mem_cut.mpr ⟨s, hs, .inr hx⟩, q⟩
  rw [key]
  by_cases h : f ≤ g ∧ g < f + m
  · rw [if_pos h]
    exact ⟨fun ⟨s, _, _, _, q, _⟩ => absurd h q, fun q => nomatch q⟩
  · rw [if_neg h, pg_iff c.1]
    exact ⟨fun ⟨s, a, b, d, _, e⟩ => ⟨s, a, b, d, e⟩, fun ⟨s, a, b, d, e⟩ => ⟨s, a, b, d, h, e⟩⟩
/-! guard -/
theorem guard_ord {xs : Spans} {f m r : Int} (c : ordS xs) (hm : 0 < m) : ordS (xs.flatMap (guardP f m r)) := by
  refine ord_flat c fun s hs => ?_
  have h0 := (c.2 s hs).1
  have part0 : ∀ {b e x}, partOf s b e = some x → s.f ≤ x.f ∧ x.f + x.m ≤ s.f + s.m ∧ b ≤ x.f ∧ x.f + x.m ≤ e ∧ 0 < x.m := by
    intro b e x h
    obtain ⟨e1, e2, e3, _, _⟩ := part_some h
    have := maxI_ge (i := s.f) (j := b)
    have := minI_le (i := s.f + s.m) (j := e)
    omega
  have part1 : ∀ {x}, (partOf s f (f + m)).map (withR r) = some x → s.f ≤ x.f ∧ x.f + x.m ≤ s.f + s.m ∧ f ≤ x.f ∧ x.f + x.m ≤ f + m ∧ 0 < x.m := by
    intro x h
    cases hp : partOf s f (f + m) with
    | none => rw [hp] at h; cases h
    | some y => rw [hp] at h; cases h; have := part0 hp; exact this
  unfold guardP
  refine ⟨ord_app (ord_app (ord_optL fun x h => ?_) (ord_optL fun x h => ?_) fun a ha b hb => ?_) (ord_optL fun x h => ?_) fun a ha b hb => ?_, fun x hx => ?_⟩
  · have := part0 h; omega
  · have := part1 h; omega
  · have := part0 (mem_optL.mp ha); have := part1 (mem_optL.mp hb); omega
  · have := part0 h; omega
  · have := part0 (mem_optL.mp hb)
    rcases List.mem_append.mp ha with ha | ha
    · have := part0 (mem_optL.mp ha); omega
    · have := part1 (mem_optL.mp ha); omega
  · rcases List.mem_append.mp hx with hx | hx
    · rcases List.mem_append.mp hx with hx | hx
      · have := part0 (mem_optL.mp hx); omega
      · have := part1 (mem_optL.mp hx); omega
    · have := part0 (mem_optL.mp hx); omega
theorem guard_canon {xs : Spans} {f m r : Int} (c : ordS xs) (hm : 0 < m) : canon (guardS xs f m r) := (joined_ok rfl (guard_ord c hm)).1
theorem mem_guard {xs : Spans} {f m r : Int} {x : Sp1} : x ∈ xs.flatMap (guardP f m r) ↔ ∃ s ∈ xs, partOf s 0 f = some x ∨ (∃ y, partOf s f (f + m) = some y ∧ x = withR r y) ∨ partOf s (f + m) (s.f + s.m) = some x := by
  unfold guardP
  rw [List.mem_flatMap]
  constructor
  · rintro ⟨s, hs, h⟩
    rcases List.mem_append.mp h with h | h
    · rcases List.mem_append.mp h with h | h
      · exact ⟨s, hs, .inl (mem_optL.mp h)⟩
      · obtain ⟨y, hy, e⟩ := Option.map_eq_some_iff.mp (mem_optL.mp h)
        exact ⟨s, hs, .inr (.inl ⟨y, hy, e.symm⟩)⟩
    · exact ⟨s, hs, .inr (.inr (mem_optL.mp h))⟩
  · rintro ⟨s, hs, h | ⟨y, hy, rfl⟩ | h⟩
    · exact ⟨s, hs, List.mem_append_left _ (List.mem_append_left _ (mem_optL.mpr h))⟩
    · exact ⟨s, hs, List.mem_append_left _ (List.mem_append_right _ (mem_optL.mpr (by rw [hy]; rfl)))⟩
    · exact ⟨s, hs, List.mem_append_right _ (mem_optL.mpr h)⟩
theorem guard_pg {xs : Spans} {f m r : Int} (c : ordS xs) (hm : 0 < m) (g : Int) : pgAt (guardS xs f m r) g = (pgAt xs g).map fun v => if f ≤ g ∧ g < f + m then (r, v.2) else v := by
  have co := guard_ord (f := f) (r := r) c hm
  show pgAt (joined _) g = _
  rw [(joined_ok rfl co).2.2 g]
  refine opt_ext fun v => ?_
  rw [pg_iff co, Option.map_eq_some_iff]
  constructor
  · rintro ⟨x, hx, q⟩
    obtain ⟨s, hs, h | ⟨y, hy, rfl⟩ | h⟩ := mem_guard.mp hx
    · obtain ⟨q1, q2, q3, q4, q5⟩ := part_iff.mp ⟨x, h, q⟩
      exact ⟨pgS s g, (pg_iff c).mpr ⟨s, hs, q1, q2, rfl⟩, by rw [if_neg (by omega), q5]⟩
    · obtain ⟨q1, q2, q3⟩ := q
      obtain ⟨p1, p2, p3, p4, _⟩ := part_iff.mp ⟨y, hy, q1, q2, rfl⟩
      refine ⟨pgS s g, (pg_iff c).mpr ⟨s, hs, p1, p2, rfl⟩, ?_⟩
      rw [if_pos ⟨p3, p4⟩, q3]
      have := part_pg hy q1
      show _ = (r, (pgS y g).2)
      rw [this]
    · obtain ⟨q1, q2, q3, q4, q5⟩ := part_iff.mp ⟨x, h, q⟩
      exact ⟨pgS s g, (pg_iff c).mpr ⟨s, hs, q1, q2, rfl⟩, by rw [if_neg (by omega), q5]⟩
  · rintro ⟨u, hu, e⟩
    obtain ⟨s, hs, q1, q2, rfl⟩ := (pg_iff c).mp hu
    have := (c.2 s hs).1
    by_cases h : f ≤ g ∧ g < f + m
    · rw [if_pos h] at e
      obtain ⟨y, hy, p1, p2, p3⟩ := part_iff.mpr ⟨q1, q2, h.1, h.2, rfl⟩
      exact ⟨withR r y, mem_guard.mpr ⟨s, hs, .inr (.inl ⟨y, hy, rfl⟩)⟩, p1, p2, by rw [← e, p3]; rfl⟩
    · rw [if_neg h] at e
      by_cases h2 : g < f
      · obtain ⟨y, hy, p⟩ := part_iff.mpr ⟨q1, q2, (show (0 : Int) ≤ g by omega), h2, e.symm⟩
        exact ⟨y, mem_guard.mpr ⟨s, hs, .inl hy⟩, p⟩
      · obtain ⟨y, hy, p⟩ := part_iff.mpr ⟨q1, q2, (show f + m ≤ g by omega), q2, e.symm⟩
        exact ⟨y, mem_guard.mpr ⟨s, hs, .inr (.inr hy)⟩, p⟩
/-! put -/
theorem put_row {xs : Spans} {s : Sp1} (c : ordS xs) (h0 : 0 ≤ s.f) (hm : 0 < s.m) (hf : ∀ g, s.f ≤ g → g < s.f + s.m → pgAt xs g = none) : ordS (xs.filter (fun x => decide (x.f < s.f)) ++ [s] ++ xs.filter (fun x => decide (x.f > s.f))) ∧ ∀ x, x ∈ xs.filter (fun x => decide (x.f < s.f)) ++ [s] ++ xs.filter (fun x => decide (x.f > s.f)) ↔ x = s ∨ x ∈ xs := by
  have apart : ∀ x ∈ xs, x.f + x.m ≤ s.f ∨ s.f + s.m ≤ x.f := by
    intro x hx
    have := c.2 x hx
    by_cases h : x.f + x.m ≤ s.f
    · exact .inl h
    · by_cases h2 : s.f + s.m ≤ x.f
      · exact .inr h2
      · exfalso
        by_cases h3 : x.f ≤ s.f
        · have := pg_none.mp (hf s.f (Int.le_refl _) (by omega)) x hx; omega
        · have := pg_none.mp (hf x.f (by omega) (by omega)) x hx; omega
  refine ⟨ord_app (ord_app (ord_sub c List.filter_sublist) ⟨List.pairwise_singleton _ _, fun x hx => by rw [List.mem_singleton] at hx; subst hx; exact ⟨h0, hm⟩⟩ fun a ha b hb => ?_) (ord_sub c List.filter_sublist) fun a ha b hb => ?_, fun x => ?_⟩
  · rw [List.mem_singleton] at hb; subst hb
    obtain ⟨ha, h1⟩ := List.mem_filter.mp ha
    have := of_decide_eq_true h1
    have := c.2 a ha
    rcases apart a ha with h | h <;> omega
  · obtain ⟨hb, h1⟩ := List.mem_filter.mp hb
    have := of_decide_eq_true h1
    have hb2 := apart b hb
    have := c.2 b hb
    rcases List.mem_append.mp ha with ha | ha
    · obtain ⟨ha, h2⟩ := List.mem_filter.mp ha
      have := of_decide_eq_true h2
      have := c.2 a ha
      rcases apart a ha with h | h <;> omega
    · rw [List.mem_singleton] at ha; subst ha
      omega
  · rw [List.mem_append, List.mem_append, List.mem_filter, List.mem_filter, List.mem_singleton]
    constructor
    · rintro ((⟨h, _⟩ | h) | ⟨h, _⟩)
      · exact .inr h
      · exact .inl h
      · exact .inr h
    · rintro (h | h)
      · exact .inl (.inr h)
      · have := c.2 x h
        rcases apart x h with q | q
        · exact .inl (.inl ⟨h, decide_eq_true (by omega)⟩)
        · exact .inr ⟨h, decide_eq_true (show x.f > s.f by omega)⟩
theorem put_canon {xs : Spans} {s : Sp1} (c : ordS xs) (h0 : 0 ≤ s.f) (hm : 0 < s.m) (hf : ∀ g, s.f ≤ g → g < s.f + s.m → pgAt xs g = none) : canon (putS1 xs s) := (joined_ok rfl (put_row c h0 hm hf).1).1
theorem put_pg {xs : Spans} {s : Sp1} (c : ordS xs) (h0 : 0 ≤ s.f) (hm : 0 < s.m) (hf : ∀ g, s.f ≤ g → g < s.f + s.m → pgAt xs g = none) (g : Int) : pgAt (putS1 xs s) g = if s.f ≤ g ∧ g < s.f + s.m then some (pgS s g) else pgAt xs g := by
  obtain ⟨o, mem⟩ := put_row c h0 hm hf
  show pgAt (joined _) g = _
  rw [(joined_ok rfl o).2.2 g]
  refine opt_ext fun v => ?_
  rw [pg_iff o]
  by_cases h : s.f ≤ g ∧ g < s.f + s.m
  · rw [if_pos h]
    constructor
    · rintro ⟨x, hx, q1, q2, q3⟩
      rcases (mem x).mp hx with rfl | hx
      · rw [q3]
      · exact absurd ⟨q1, q2⟩ (pg_none.mp (hf g h.1 h.2) x hx)
    · intro e; cases e
      exact ⟨s, (mem s).mpr (.inl rfl), h.1, h.2, rfl⟩
  · rw [if_neg h, pg_iff c]
    constructor
    · rintro ⟨x, hx, q1, q2, q3⟩
      rcases (mem x).mp hx with rfl | hx
      · exact absurd ⟨q1, q2⟩ h
      · exact ⟨x, hx, q1, q2, q3⟩
    · rintro ⟨x, hx, q⟩
      exact ⟨x, (mem x).mpr (.inr hx), q⟩
/-! how many are mapped -/
def cnt1 (xs : Spans) (g : Int) : Int := if (pgAt xs g).isSome = true then 1 else 0
theorem common_zero {xs : Spans} (c : ordS xs) {f : Int} : commonS xs f 0 = 0 := by
  induction xs with
  | nil => rfl
  | cons x xs ih =>
    obtain ⟨h1, h2, h3, h4⟩ := ord_cons c
    show manyO _ + commonS xs f 0 = 0
    rw [ih h1, many_part, if_neg (by unfold maxI minI; split <;> split <;> omega)]; rfl
theorem cnt_cons {x : Sp1} {xs : Spans} (c : ordS (x :: xs)) {g : Int} : cnt1 (x :: xs) g = (if x.f ≤ g ∧ g < x.f + x.m then 1 else 0) + cnt1 xs g := by
  obtain ⟨h1, h2, h3, h4⟩ := ord_cons c
  by_cases e : x.f ≤ g ∧ g < x.f + x.m
  · rw [if_pos e]
    have a : cnt1 (x :: xs) g = 1 := by
      unfold cnt1 pgAt
      rw [List.find?_cons, hasP_iff.mpr e]; rfl
    have b : cnt1 xs g = 0 := by
      unfold cnt1
      rw [pg_none.mpr fun s hs q => by have := h4 s hs; omega]; rfl
    rw [a, b]; rfl
  · rw [if_neg e, Int.zero_add]
    unfold cnt1 pgAt
    rw [List.find?_cons, hasP_no e]
theorem common_succ {xs : Spans} (c : ordS xs) {f : Int} {n : Nat} : commonS xs f ((n : Int) + 1) = commonS xs f n + cnt1 xs (f + n) := by
  induction xs with
  | nil => rfl
  | cons x xs ih =>
    obtain ⟨h1, h2, h3, h4⟩ := ord_cons c
    show manyO _ + commonS xs f _ = manyO _ + commonS xs f _ + _
    rw [ih h1, cnt_cons c, many_part, many_part]
    have : (if maxI x.f f < minI (x.f + x.m) (f + (↑n + 1)) then minI (x.f + x.m) (f + (↑n + 1)) - maxI x.f f else 0) = (if maxI x.f f < minI (x.f + x.m) (f + ↑n) then minI (x.f + x.m) (f + ↑n) - maxI x.f f else 0) + (if x.f ≤ f + ↑n ∧ f + ↑n < x.f + x.m then (1 : Int) else 0) := by
      unfold maxI minI
      repeat' split
      all_goals omega
    rw [this]; omega
theorem common_rng {xs : Spans} (c : ordS xs) {f : Int} : ∀ n : Nat, 0 ≤ commonS xs f n ∧ commonS xs f n ≤ n ∧ (commonS xs f n = 0 ↔ ∀ i : Nat, i < n → pgAt xs (f + i) = none) ∧ (commonS xs f n = n ↔ ∀ i : Nat, i < n → (pgAt xs (f + i)).isSome = true)
  | 0 => by rw [show ((0 : Nat) : Int) = 0 from rfl, common_zero c]; exact ⟨Int.le_refl _, Int.le_refl _, ⟨fun _ i h => by omega, fun _ => rfl⟩, ⟨fun _ i h => by omega, fun _ => rfl⟩⟩
  | n + 1 => by
    obtain ⟨h1, h2, h3, h4⟩ := common_rng c n (f := f)
    have e := common_succ c (f := f) (n := n)
    rw [show ((n + 1 : Nat) : Int) = (n : Int) + 1 by omega, e]
    unfold cnt1
    cases hp : pgAt xs (f + n) with
    | none =>
      rw [show (if (none : Option Pg).isSome = true then (1 : Int) else 0) = 0 from rfl, Int.add_zero]
      refine ⟨h1, by omega, ⟨fun h i hi => ?_, fun h => h3.mpr fun i hi => h i (by omega)⟩, ⟨fun h => by omega, fun h => ?_⟩⟩
      · by_cases e : i = n
        · subst e; exact hp
        · exact h3.mp h i (by omega)
      · have := h n (by omega); rw [hp] at this; cases this
    | some v =>
      rw [show (if (some v).isSome = true then (1 : Int) else 0) = 1 from rfl]
      refine ⟨by omega, by omega, ⟨fun h => by omega, fun h => ?_⟩, ⟨fun h i hi => ?_, fun h => ?_⟩⟩
      · have := h n (by omega); rw [hp] at this; cases this
      · by_cases e : i = n
        · subst e; rw [hp]; rfl
        · exact h4.mp (by omega) i (by omega)
      · have := h4.mpr fun i hi => h i (by omega)
        omega
theorem free_iff {xs : Spans} (c : ordS xs) {f m : Int} (hm : 0 ≤ m) : commonS xs f m = 0 ↔ ∀ g, f ≤ g → g < f + m → pgAt xs g = none := by
  obtain ⟨n, rfl⟩ := Int.eq_ofNat_of_zero_le hm
  rw [(common_rng c n).2.2.1]
  constructor
  · intro h g h1 h2
    have := h (g - f).toNat (by omega)
    rwa [show f + ((g - f).toNat : Int) = g by omega] at this
  · intro h i hi
    exact h _ (by omega) (by omega)
theorem full_iff {xs : Spans} (c : ordS xs) {f m : Int} (hm : 0 ≤ m) : commonS xs f m = m ↔ ∀ g, f ≤ g → g < f + m → (pgAt xs g).isSome = true := by
  obtain ⟨n, rfl⟩ := Int.eq_ofNat_of_zero_le hm
  rw [(common_rng c n).2.2.2]
  constructor
  · intro h g h1 h2
    have := h (g - f).toNat (by omega)
    rwa [show f + ((g - f).toNat : Int) = g by omega] at this
  · intro h i hi
    exact h _ (by omega) (by omega)
/-! ties -/
theorem tied_iff {xs : Spans} (c : ordS xs) {b : Int} : isTied xs b = true ↔ ∃ g v k, pgAt xs g = some v ∧ v.2 = some (b, k) := by
  unfold isTied
  rw [List.any_eq_true]
  constructor
  · rintro ⟨s, hs, h⟩
    unfold tiedB at h
    cases ht : s.t with
    | none => rw [ht] at h; cases h
    | some x =>
      rw [ht] at h
      have e := of_decide_eq_true h
      have := c.2 s hs
      exact ⟨s.f, pgS s s.f, x.2, (pg_iff c).mpr ⟨s, hs, Int.le_refl _, by omega, rfl⟩, by unfold pgS; dsimp only; rw [Int.sub_self, tieOn_zero, ht, ← e]⟩
  · rintro ⟨g, v, k, h, e⟩
    obtain ⟨s, hs, q1, q2, rfl⟩ := (pg_iff c).mp h
    refine ⟨s, hs, ?_⟩
    unfold pgS at e
    dsimp only at e
    unfold tiedB
    cases ht : s.t with
    | none => rw [ht] at e; cases e
    | some x => rw [ht] at e; cases e; exact decide_eq_true rfl
/-! one span, one row -/
theorem canon_one {s : Sp1} (h0 : 0 ≤ s.f) (hm : 0 < s.m) : canon [s] := by
  refine ⟨⟨List.pairwise_singleton _ _, fun x hx => by rw [List.mem_singleton] at hx; subst hx; exact ⟨h0, hm⟩⟩, fun a ha b hb => ?_⟩
  rw [List.mem_singleton] at ha hb; subst ha; subst hb
  cases e : goesOn b b with
  | false => rfl
  | true => have := (goes_iff.mp e).1; omega
theorem pg_one {s : Sp1} {g : Int} : pgAt [s] g = if s.f ≤ g ∧ g < s.f + s.m then some (pgS s g) else none := by
  unfold pgAt
  by_cases h : s.f ≤ g ∧ g < s.f + s.m
  · rw [if_pos h, List.find?_cons, hasP_iff.mpr h]; rfl
  · rw [if_neg h, List.find?_cons, hasP_no h]; rfl
theorem row_in {xs : Spans} (c : ordS xs) {s : Sp1} (hs : s ∈ xs) {k : Int} (h0 : 0 ≤ k) (h1 : k < s.m) : rightsAt xs (s.f + k) = some s.r ∧ tieAt xs (s.f + k) = tieOn s.t k := by
  have e := (pg_iff c (g := s.f + k) (v := pgS s (s.f + k))).mpr ⟨s, hs, by omega, by omega, rfl⟩
  rw [rights_pg, tie_pg, e]
  refine ⟨rfl, ?_⟩
  show tieOn s.t _ = _
  rw [show s.f + k - s.f = k by omega]
theorem row_ends {xs : Spans} (c : ordS xs) {s : Sp1} (hs : s ∈ xs) : rightsAt xs s.f = some s.r ∧ tieAt xs s.f = s.t ∧ rightsAt xs (s.f + s.m - 1) = some s.r ∧ tieAt xs (s.f + s.m - 1) = tieOn s.t (s.m - 1) := by
  have := (c.2 s hs).2
  have a := row_in c hs (Int.le_refl 0) this
  have b := row_in c hs (k := s.m - 1) (by omega) (by omega)
  rw [Int.add_zero, tieOn_zero] at a
  rw [show s.f + (s.m - 1) = s.f + s.m - 1 by omega] at b
  exact ⟨a.1, a.2, b.1, b.2⟩
/-- the rows that are not empty, of rows in order -/
theorem some_rows {xs : Spans} (h : xs.Pairwise (fun a b => a.f + a.m ≤ b.f)) (h2 : ∀ s ∈ xs, 0 ≤ s.f) : ordS (xs.filter fun x => decide (x.m > 0)) :=
  ⟨h.sublist List.filter_sublist, fun x hx => ⟨h2 x (List.mem_filter.mp hx).1, of_decide_eq_true (List.mem_filter.mp hx).2⟩⟩
theorem pg_some_rows {xs : Spans} (c : ordS (xs.filter fun x => decide (x.m > 0))) {g : Int} {v : Pg} : pgAt (xs.filter fun x => decide (x.m > 0)) g = some v ↔ ∃ s ∈ xs, s.f ≤ g ∧ g < s.f + s.m ∧ v = pgS s g := by
  rw [pg_iff c]
  constructor
  · rintro ⟨s, hs, q⟩; exact ⟨s, (List.mem_filter.mp hs).1, q⟩
  · rintro ⟨s, hs, q1, q2, q3⟩; exact ⟨s, List.mem_filter.mpr ⟨hs, decide_eq_true (show s.m > 0 by omega)⟩, q1, q2, q3⟩
def dueG (f m r sk sz o : Int) (t : Tie) : Spans := if o = r then [⟨f, m, r, t⟩] else [⟨f, sk, r, t⟩, ⟨f + sk, sz, o, tieOn t sk⟩, ⟨f + sk + sz, m - sk - sz, r, tieOn t (sk + sz)⟩].filter fun x => decide (x.m > 0)
theorem guard_one {f m r sk sz o : Int} {t : Tie} (h0 : 0 ≤ f) (h1 : 0 ≤ sk) (h2 : 0 < sz) (h3 : sk + sz ≤ m) : guardS [⟨f, m, r, t⟩] (f + sk) sz o = dueG f m r sk sz o t := by
  have c1 := canon_one (s := ⟨f, m, r, t⟩) h0 (show 0 < m by omega)
  have cg := guard_canon (r := o) (f := f + sk) c1.1 h2
  have cd : canon (dueG f m r sk sz o t) := by
    unfold dueG
    split
    · exact c1
    · next ho =>
      refine ⟨some_rows ?_ ?_, ?_⟩
      · simp only [List.pairwise_cons, List.mem_cons, List.not_mem_nil, or_false, forall_eq_or_imp, forall_eq, false_implies, implies_true, and_true, List.Pairwise.nil]
        omega
      · simp only [List.mem_cons, List.not_mem_nil, or_false, forall_eq_or_imp, forall_eq]
        omega
      · intro a ha b hb
        obtain ⟨ha, pa⟩ := List.mem_filter.mp ha
        obtain ⟨hb, pb⟩ := List.mem_filter.mp hb
        have pa := of_decide_eq_true pa
        have pb := of_decide_eq_true pb
        cases e : goesOn a b with
        | false => rfl
        | true =>
          exfalso
          obtain ⟨e1, e2, e3⟩ := goes_iff.mp e
          simp only [List.mem_cons, List.not_mem_nil, or_false] at ha hb
          rcases ha with rfl | rfl | rfl <;> rcases hb with rfl | rfl | rfl <;> simp only at e1 e2 pa pb <;> omega
  refine canon_uniq cg cd fun g => ?_
  rw [guard_pg c1.1 h2, pg_one]
  unfold dueG at cd ⊢
  by_cases ho : o = r
  · subst ho
    rw [if_pos rfl, pg_one]
    dsimp only
    by_cases hg : f ≤ g ∧ g < f + m
    · rw [if_pos hg, Option.map_some]; split <;> rfl
    · rw [if_neg hg]; rfl
  · rw [if_neg ho] at cd ⊢
    refine opt_ext fun v => ?_
    rw [pg_some_rows cd.1]
    simp only [List.mem_cons, List.not_mem_nil, or_false, exists_eq_or_imp, exists_eq_left]
    have p1 : ∀ g, pgS ⟨f + sk, sz, o, tieOn t sk⟩ g = (o, tieOn t (g - f)) := fun g => by unfold pgS; dsimp only; rw [tieOn_add, show sk + (g - (f + sk)) = g - f by omega]
    have p2 : ∀ g, pgS ⟨f + sk + sz, m - sk - sz, r, tieOn t (sk + sz)⟩ g = (r, tieOn t (g - f)) := fun g => by unfold pgS; dsimp only; rw [tieOn_add, show sk + sz + (g - (f + sk + sz)) = g - f by omega]
    have p3 : ∀ m g, pgS ⟨f, m, r, t⟩ g = (r, tieOn t (g - f)) := fun m g => rfl
    rw [p1, p2, p3, p3]
    by_cases hg : f ≤ g ∧ g < f + m
    · rw [if_pos hg, Option.map_some, Option.some_inj]
      by_cases hi : f + sk ≤ g ∧ g < f + sk + sz
      · rw [if_pos hi]
        constructor
        · intro e; exact .inr (.inl ⟨hi.1, hi.2, e.symm⟩)
        · rintro (⟨q1, q2, q3⟩ | ⟨q1, q2, q3⟩ | ⟨q1, q2, q3⟩)
          · omega
          · exact q3.symm
          · omega
      · rw [if_neg hi]
        constructor
        · intro e
          by_cases hl : g < f + sk
          · exact .inl ⟨hg.1, hl, e.symm⟩
          · exact .inr (.inr ⟨by omega, by omega, e.symm⟩)
        · rintro (⟨q1, q2, q3⟩ | ⟨q1, q2, q3⟩ | ⟨q1, q2, q3⟩)
          · exact q3.symm
          · omega
          · exact q3.symm
    · rw [if_neg hg]
      constructor
      · intro e; cases e
      · rintro (⟨q1, q2, q3⟩ | ⟨q1, q2, q3⟩ | ⟨q1, q2, q3⟩) <;> omega
theorem guard_canon' {f m r sk sz o : Int} {t : Tie} (h0 : 0 ≤ f) (h1 : 0 ≤ sk) (h2 : 0 < sz) (h3 : sk + sz ≤ m) : canon (dueG f m r sk sz o t) := by
  rw [← guard_one h0 h1 h2 h3]
  exact guard_canon (canon_one (s := ⟨f, m, r, t⟩) h0 (show 0 < m by omega)).1 h2
theorem dueG_pg {f m r sk sz o : Int} {t : Tie} (h0 : 0 ≤ f) (h1 : 0 ≤ sk) (h2 : 0 < sz) (h3 : sk + sz ≤ m) (g : Int) : pgAt (dueG f m r sk sz o t) g = if f ≤ g ∧ g < f + m then some (if f + sk ≤ g ∧ g < f + sk + sz then o else r, tieOn t (g - f)) else none := by
  rw [← guard_one h0 h1 h2 h3, guard_pg (canon_one (s := ⟨f, m, r, t⟩) h0 (show 0 < m by omega)).1 h2, pg_one]
  dsimp only
  by_cases hg : f ≤ g ∧ g < f + m
  · rw [if_pos hg, if_pos hg, Option.map_some]
    split <;> rfl
  · rw [if_neg hg, if_neg hg]; rfl
theorem guard_whole {f m r sk sz o q : Int} {t : Tie} (h0 : 0 ≤ f) (h1 : 0 ≤ sk) (h2 : 0 < sz) (h3 : sk + sz ≤ m) : guardS (dueG f m r sk sz o t) f m q = [⟨f, m, q, t⟩] := by
  have c := guard_canon' (r := r) (o := o) (t := t) h0 h1 h2 h3
  refine canon_uniq (guard_canon c.1 (by omega)) (canon_one h0 (show 0 < m by omega)) fun g => ?_
  rw [guard_pg c.1 (by omega), dueG_pg h0 h1 h2 h3, pg_one]
  dsimp only
  split
  · rw [Option.map_some]; rfl
  · rfl
theorem due_full {f m r sk sz o : Int} {t : Tie} (h0 : 0 ≤ f) (h1 : 0 ≤ sk) (h2 : 0 < sz) (h3 : sk + sz ≤ m) : commonS (dueG f m r sk sz o t) f m = m := by
  refine (full_iff (guard_canon' h0 h1 h2 h3).1 (by omega)).mpr fun g g1 g2 => ?_
  rw [dueG_pg h0 h1 h2 h3, if_pos ⟨g1, g2⟩]; rfl
theorem due_filter {f m r sk sz o : Int} {t : Tie} (hm : 0 < m) : (if o = r then [(⟨f, m, r, t⟩ : Sp1)] else [⟨f, sk, r, t⟩, ⟨f + sk, sz, o, tieOn t sk⟩, ⟨f + sk + sz, m - sk - sz, r, tieOn t (sk + sz)⟩]).filter (fun x => decide (x.m > 0)) = dueG f m r sk sz o t := by
  unfold dueG
  by_cases h : o = r
  · rw [if_pos h, if_pos h, List.filter_cons, if_pos (decide_eq_true hm)]; rfl
  · rw [if_neg h, if_neg h]
theorem dueG_len {f m r sk sz o : Int} {t : Tie} : (dueG f m r sk sz o t).length ≤ 3 := by
  unfold dueG
  split
  · simp
  · exact Nat.le_trans (List.length_filter_le ..) (Nat.le_refl _)
/-! two rows side by side -/
theorem bool_ext {a b : Bool} (h : a = true ↔ b = true) : a = b := by cases a <;> cases b <;> simp_all
theorem tied_pg {xs ys : Spans} (hx : ordS xs) (hy : ordS ys) (h : ∀ g, pgAt xs g = pgAt ys g) {b : Int} : isTied xs b = isTied ys b :=
  bool_ext (by rw [tied_iff hx, tied_iff hy]; simp only [h])
def tieB (c : Int) : Tie → Bool
  | none => false
  | some x => decide (x.1 = c)
theorem tied_any {xs : Spans} {c : Int} : isTied xs c = (xs.map Sp1.t).any (tieB c) := by
  unfold isTied
  rw [List.any_map]
  congr 1
theorem ord_two {s u : Sp1} (h0 : 0 ≤ s.f) (h1 : 0 < s.m) (h2 : 0 < u.m) (e : s.f + s.m ≤ u.f) : ordS [s, u] := by
  refine ⟨?_, ?_⟩
  · simp only [List.pairwise_cons, List.mem_cons, List.not_mem_nil, or_false, forall_eq, false_implies, implies_true, and_true, List.Pairwise.nil]
    exact e
  · simp only [List.mem_cons, List.not_mem_nil, or_false, forall_eq_or_imp, forall_eq]
    omega
theorem join_two {s u : Sp1} : joined [s, u] = if goesOn s u = true then [⟨s.f, s.m + u.m, s.r, s.t⟩] else [s, u] := by
  show joinStep (joinStep [] s) u = _
  rw [joinStep_nil]
  cases h : goesOn s u with
  | true => rw [if_pos rfl]; exact joinStep_on (ys := []) h
  | false => rw [if_neg Bool.false_ne_true]; exact joinStep_off (ys := []) h
theorem put_behind {s u : Sp1} (h : s.f < u.f) : putS1 [s] u = joined [s, u] := by
  unfold putS1
  rw [List.filter_cons, if_pos (decide_eq_true h), List.filter_cons, if_neg (by rw [decide_eq_false (by omega)]; exact Bool.false_ne_true)]; rfl
theorem put_ahead {s u : Sp1} (h : s.f < u.f) : putS1 [u] s = joined [s, u] := by
  unfold putS1
  rw [List.filter_cons, if_neg (by rw [decide_eq_false (by omega)]; exact Bool.false_ne_true), List.filter_cons, if_pos (decide_eq_true (show u.f > s.f by omega))]; rfl
theorem joined_pg {xs : Spans} (h : ordS xs) (g : Int) : pgAt (joined xs) g = pgAt xs g := (joined_ok rfl h).2.2 g
theorem joined_canon {xs : Spans} (h : ordS xs) : canon (joined xs) := (joined_ok rfl h).1
theorem joined_tied {xs : Spans} (h : ordS xs) {b : Int} : isTied (joined xs) b = isTied xs b := tied_pg (joined_canon h).1 h (joined_pg h)
theorem joined_common {xs : Spans} (h : ordS xs) {f m : Int} (hm : 0 ≤ m) : (commonS (joined xs) f m = 0 ↔ ∀ g, f ≤ g → g < f + m → pgAt xs g = none) ∧ (commonS (joined xs) f m = m ↔ ∀ g, f ≤ g → g < f + m → (pgAt xs g).isSome = true) := by
  rw [free_iff (joined_canon h).1 hm, full_iff (joined_canon h).1 hm]
  simp only [joined_pg h]
  exact ⟨trivial, trivial⟩
theorem pg_cons {s : Sp1} {xs : Spans} {g : Int} : pgAt (s :: xs) g = if s.f ≤ g ∧ g < s.f + s.m then some (pgS s g) else pgAt xs g := by
  unfold pgAt
  by_cases h : s.f ≤ g ∧ g < s.f + s.m
  · rw [if_pos h, List.find?_cons, hasP_iff.mpr h]; rfl
  · rw [if_neg h, List.find?_cons, hasP_no h]
theorem pg_nil {g : Int} : pgAt [] g = none := rfl
theorem guard_joined {xs : Spans} (h : ordS xs) {f m q : Int} (hm : 0 < m) (ha : ∀ s ∈ xs, f ≤ s.f ∧ s.f + s.m ≤ f + m) : guardS (joined xs) f m q = joined (xs.map (withR q)) := by
  have h2 : ordS (xs.map (withR q)) := by
    refine ⟨List.pairwise_map.mpr h.1, fun x hx => ?_⟩
    obtain ⟨y, hy, rfl⟩ := List.mem_map.mp hx
    exact h.2 y hy
  refine canon_uniq (guard_canon (joined_canon h).1 hm) (joined_canon h2) fun g => ?_
  rw [guard_pg (joined_canon h).1 hm, joined_pg h, joined_pg h2]
  refine opt_ext fun v => ?_
  rw [pg_iff h2, Option.map_eq_some_iff]
  constructor
  · rintro ⟨w, hw, e⟩
    obtain ⟨s, hs, q1, q2, rfl⟩ := (pg_iff h).mp hw
    have := ha s hs
    rw [if_pos (by omega)] at e
    exact ⟨withR q s, List.mem_map.mpr ⟨s, hs, rfl⟩, q1, q2, e.symm⟩
  · rintro ⟨x, hx, q1, q2, e⟩
    obtain ⟨s, hs, rfl⟩ := List.mem_map.mp hx
    have := ha s hs
    have q1 : s.f ≤ g := q1
    have q2 : g < s.f + s.m := q2
    exact ⟨pgS s g, (pg_iff h).mpr ⟨s, hs, q1, q2, rfl⟩, by rw [if_pos (by omega), e]; rfl⟩
theorem cut_two {s u : Sp1} (h0 : 0 ≤ s.f) (h1 : 0 < s.m) (h2 : 0 < u.m) (e : s.f + s.m ≤ u.f) : cutS (joined [s, u]) s.f s.m = [u] ∧ cutS (joined [s, u]) u.f u.m = [s] := by
  have o := ord_two h0 h1 h2 e
  have c := joined_canon o
  refine ⟨canon_uniq (cut_canon c h1) (canon_one (by omega) h2) fun g => ?_, canon_uniq (cut_canon c h2) (canon_one h0 h1) fun g => ?_⟩
  · rw [cut_pg c h1, joined_pg o, pg_cons, pg_one]
    by_cases h : s.f ≤ g ∧ g < s.f + s.m
    · rw [if_pos h, if_neg (by omega)]
    · rw [if_neg h, if_neg h]
  · rw [cut_pg c h2, joined_pg o, pg_cons, pg_one, pg_one]
    by_cases h : u.f ≤ g ∧ g < u.f + u.m
    · rw [if_pos h, if_neg (by omega)]
    · rw [if_neg h, if_neg h]
theorem nthA_c0 {α : Type} {x : α} {xs : List α} : nthA (x :: xs) 0 = some x := by
  unfold nthA L2.ixN
  rw [if_pos (by omega), List.length_cons, if_pos (by omega)]; rfl
theorem nthA_c1 {α : Type} {x y : α} {xs : List α} : nthA (x :: y :: xs) 1 = some y := by
  unfold nthA L2.ixN
  rw [if_pos (by omega), List.length_cons, List.length_cons, if_pos (by omega)]; rfl
theorem pick_two {α : Type} {s u : α} {k : Int} (h0 : 0 ≤ k) (h1 : k < 2) : ∃ x y, nthA [s, u] k = some x ∧ nthA [s, u] (1 - k) = some y ∧ ((x = s ∧ y = u) ∨ (x = u ∧ y = s)) := by
  have : k = 0 ∨ k = 1 := by omega
  rcases this with rfl | rfl
  · exact ⟨s, u, nthA_c0, nthA_c1, .inl ⟨rfl, rfl⟩⟩
  · exact ⟨u, s, nthA_c1, nthA_c0, .inr ⟨rfl, rfl⟩⟩
theorem two_facts {s u x y : Sp1} (h0 : 0 ≤ s.f) (h1 : 0 < s.m) (h2 : 0 < u.m) (e : s.f + s.m = u.f) (hxy : (x = s ∧ y = u) ∨ (x = u ∧ y = s)) :
    commonS [x] y.f y.m = 0 ∧ putS1 [x] y = joined [s, u] ∧ (∀ q, cutS (joined [withR q s, withR q u]) x.f x.m = [withR q y]) ∧ (∀ q, commonS (joined [withR q s, withR q u]) x.f x.m = x.m) ∧
    commonS (joined [s, u]) s.f (s.m + u.m) = s.m + u.m ∧ (∀ q, guardS (joined [s, u]) s.f (s.m + u.m) q = joined [withR q s, withR q u]) ∧ (∀ z ∈ [s, u], ∀ k, 0 ≤ k → k < z.m → tieAt (joined [s, u]) (z.f + k) = tieOn z.t k) := by
  have o := ord_two h0 h1 h2 (Int.le_of_eq e)
  have oq : ∀ q, ordS [withR q s, withR q u] := fun q => ord_two h0 h1 h2 (Int.le_of_eq e)
  refine ⟨?_, ?_, fun q => ?_, fun q => ?_, ?_, fun q => ?_, fun z hz k k0 k1 => ?_⟩
  · rcases hxy with ⟨rfl, rfl⟩ | ⟨rfl, rfl⟩
    · exact (one_free h1 h2).mpr (.inr (by omega))
    · exact (one_free h2 h1).mpr (.inl (by omega))
  · rcases hxy with ⟨rfl, rfl⟩ | ⟨rfl, rfl⟩
    · exact put_behind (by omega)
    · exact put_ahead (by omega)
  · rcases hxy with ⟨rfl, rfl⟩ | ⟨rfl, rfl⟩
    · exact (cut_two (s := withR q x) (u := withR q y) h0 h1 h2 (Int.le_of_eq e)).1
    · exact (cut_two (s := withR q y) (u := withR q x) h0 h1 h2 (Int.le_of_eq e)).2
  · have hx : withR q x ∈ [withR q s, withR q u] := by rcases hxy with ⟨rfl, rfl⟩ | ⟨rfl, rfl⟩ <;> simp
    have hxm : 0 ≤ x.m := by rcases hxy with ⟨rfl, rfl⟩ | ⟨rfl, rfl⟩ <;> omega
    refine ((joined_common (oq q) hxm).2).mpr fun g g1 g2 => ?_
    rw [(pg_iff (oq q) (g := g) (v := pgS (withR q x) g)).mpr ⟨_, hx, g1, g2, rfl⟩]; rfl
  · refine ((joined_common o (by omega)).2).mpr fun g g1 g2 => ?_
    rw [pg_cons, pg_one]
    by_cases h : s.f ≤ g ∧ g < s.f + s.m
    · rw [if_pos h]; rfl
    · rw [if_neg h, if_pos (by omega)]; rfl
  · exact guard_joined o (by omega) fun z hz => by
      rcases List.mem_cons.mp hz with rfl | hz
      · omega
      · rw [List.mem_singleton] at hz; subst hz; omega
  · have := (row_in o hz k0 k1).2
    rw [tie_pg] at this ⊢
    rw [joined_pg o]; exact this
section
open PySem PySem.Spec PyProof.Rows L2
variable {α : Type} {A : α → V → Asrt} {L l m k j : List Asrt} {H : Hp} {p : Addr} {x y z : α} {u v w : V}
theorem listA_two (S : Star L H) (P : Pull (pt p (.lst [u, v])) L l) (P1 : Pull (A x u) l m) (P2 : Pull (A y v) m k) : Star (listA A [x, y] p :: k) H :=
  listA_close (cs := [(x, u), (y, v)]) rfl ((S.pull P).under fun _ S => sepL_cons ((S.pull P1).under fun _ S => sepL_cons ((S.pull P2).under fun _ S => sepL_nil S)))
theorem listA_three (S : Star L H) (P : Pull (pt p (.lst [u, v, w])) L l) (P1 : Pull (A x u) l m) (P2 : Pull (A y v) m k) (P3 : Pull (A z w) k j) : Star (listA A [x, y, z] p :: j) H :=
  listA_close (cs := [(x, u), (y, v), (z, w)]) rfl ((S.pull P).under fun _ S => sepL_cons ((S.pull P1).under fun _ S => sepL_cons ((S.pull P2).under fun _ S => sepL_cons ((S.pull P3).under fun _ S => sepL_nil S))))
/-- [e(x) for x in xs], each a thing of its own -/
theorem cl_LAm {β : Type} {B : β → V → Asrt} {G : α → β} {K : PySem.W.Frag} {xs : List α} {Q : VK} {g : TG} {tt : L2.TT} {te : L2.TE} {ws : List Nat} {σ σ' : L2.St} (S : Star L H) (Pu : Pull (listA A xs p) L l) (hw : wipe σ ws = σ') (z : xs.length ≤ 100000)
    (hs : ∀ x v acc R D H, x ∈ xs → acc.length < 100000 → Star (A x v :: pt D (.lst acc) :: R :: l) H → ∀ N : Hp → Prop, (∀ w H', Star (B (G x) w :: A x v :: pt D (.lst (acc ++ [w])) :: R :: l) H' → N H') → g v σ' H fun σ2 H2 => wipe σ2 ws = σ' ∧ tt σ2 H2 fun b H3 => if b = true then te σ2 H3 fun y H4 => kApp D y H4 N else N H3)
    (h0 : ∀ D H', Star (listA B (xs.map G) D :: listA A xs p :: l) H' → Q (.ref D) H') : kLW (Itl K p) g tt te ws σ Q H := by
  obtain ⟨cs, rfl, S⟩ := listA_open (S.pull Pu)
  refine r_lw (xs := cs.map Prod.snd) use_list hw S fun D H' S' => cl_indM (f := Prod.snd) (fun r H => ∃ (done : List (α × V)) (ds : List (β × V)), cs = done ++ r ∧ ds.map Prod.fst = (done.map Prod.fst).map G ∧ Star (pt D (.lst (ds.map Prod.snd)) :: pt p (.lst (cs.map Prod.snd)) :: ownL A cs :: ownL B ds :: l) H) ⟨[], [], rfl, rfl, ?_⟩ ?_ ?_
  · have S2 : Star (ownL B [] :: pt D (.lst []) :: pt p (.lst (cs.map Prod.snd)) :: ownL A cs :: l) H' := sepL_nil S'
    exact S2.keep (.cons (.there .here) (.cons (.there .here) (.cons (.there .here) (.cons .here .refl))))
  · rintro H ⟨done, ds, e, e2, S⟩
    rw [List.append_nil] at e
    subst e
    refine ⟨SqL.of (S.get (.tail _ (.head _))), h0 _ _ ?_⟩
    have S2 : Star (pt D (.lst (ds.map Prod.snd)) :: ownL B ds :: pt p (.lst (cs.map Prod.snd)) :: ownL A cs :: l) H := S.keep (.cons .here (.cons (.there (.there .here)) (.cons .here (.cons .here .refl))))
    exact (listA_close e2 S2).under fun _ S => listA_close rfl S
  · rintro c r H ⟨done, ds, e, e2, S⟩ N hN
    have S1 : Star (pt p (.lst (cs.map Prod.snd)) :: ownL A cs :: pt D (.lst (ds.map Prod.snd)) :: ownL B ds :: l) H := S.keep (.cons (.there .here) (.cons (.there .here) (.cons .here (.cons .here .refl))))
    have S2 := mid_out e S1
    have hlen : (ds.map Prod.snd).length < 100000 := by
      have := congrArg List.length e2
      simp only [List.length_map] at this ⊢
      rw [e] at z
      simp at z
      omega
    have S3 : Star (A c.1 c.2 :: pt D (.lst (ds.map Prod.snd)) :: Star [Star [pt p (.lst (cs.map Prod.snd)), ownL A (cs.eraseIdx done.length)], ownL B ds] :: l) H := by
      refine S2.under fun _ T => ?_
      exact (Star.glue' (l := [_, _]) (T.keep (.cons .here (.cons (.there .here) (.cons .here .refl))))).swap
    refine ⟨SqL.of (S.get (.tail _ (.head _))), hs c.1 c.2 _ _ D H (by rw [e]; simp) hlen S3 N fun w H' S' => hN _ ⟨done ++ [c], ds ++ [(G c.1, w)], by rw [e]; simp, by simp [e2], ?_⟩⟩
    rw [List.map_append]
    have S4 := S'.keep (m := Star [Star [pt p (.lst (cs.map Prod.snd)), ownL A (cs.eraseIdx done.length)], ownL B ds] :: B (G c.1) w :: A c.1 c.2 :: pt D (.lst (ds.map Prod.snd ++ [w])) :: l) (.cons (.there (.there (.there .here))) (.cons .here (.cons .here (.cons .here .refl))))
    have S5 := Star.glue S4
    have S6 : Star (A c.1 c.2 :: Star [pt p (.lst (cs.map Prod.snd)), ownL A (cs.eraseIdx done.length)] :: pt D (.lst (ds.map Prod.snd ++ [w])) :: B (G c.1) w :: ownL B ds :: l) H' := S5.keep (.cons (.there (.there (.there .here))) (.cons .here (.cons (.there (.there .here)) (.cons (.there .here) (.cons .here .refl)))))
    have S7 := mid_put e S6
    have S8 : Star (B (G c.1) w :: ownL B ds :: pt D (.lst (ds.map Prod.snd ++ [w])) :: pt p (.lst (cs.map Prod.snd)) :: ownL A cs :: l) H' := S7.keep (.cons (.there (.there (.there .here))) (.cons (.there (.there (.there .here))) (.cons (.there (.there .here)) (.cons .here (.cons .here .refl)))))
    have S9 : Star (ownL B (ds ++ [(G c.1, w)]) :: pt D (.lst (ds.map Prod.snd ++ [w])) :: pt p (.lst (cs.map Prod.snd)) :: ownL A cs :: l) H' := sepL_perm (xs := (G c.1, w) :: ds) (List.perm_append_comm (l₁ := [(G c.1, w)]) (l₂ := ds)) (sepL_cons S8)
    exact S9.keep (.cons (.there .here) (.cons (.there .here) (.cons (.there .here) (.cons .here .refl))))
end
end Fl
/-! Fl: deep values that are read, not owned. -/
namespace Fl
open PySem PySem.Spec PyProof.Rows L2
mutual
inductive Dq (H : Hp) : V → PyData → Prop
  | non : Dq H .non .none
  | bl (b : Bool) : Dq H (.bl b) (.bool b)
  | int (i : Int) : Dq H (.int i) (.int i)
  | str (x : Str) (h : PyData.strOk x = true) : Dq H (.str x) (.str x)
  | lst {a : Addr} {xs : List V} {ds : List PyData} (e : H a = some (.lst xs)) (h : DqAll H xs ds) : Dq H (.ref a) (.list ds)
  | tup {a : Addr} {xs : List V} {ds : List PyData} (e : H a = some (.tup xs)) (h : DqAll H xs ds) : Dq H (.ref a) (.tuple ds)
inductive DqAll (H : Hp) : List V → List PyData → Prop
  | nil : DqAll H [] []
  | cons {v : V} {vs : List V} {d : PyData} {ds : List PyData} (h : Dq H v d) (t : DqAll H vs ds) : DqAll H (v :: vs) (d :: ds)
end
section
variable {K : PySem.W.Frag} {H H' : Hp} {L l m : List Asrt}
mutual
theorem Dq.dp : ∀ {v : V} {d : PyData}, Dq H v d → Dp K H v d
  | _, _, .non => .non
  | _, _, .bl b => .bl b
  | _, _, .int i => .int i
  | _, _, .str x _ => .str x
  | _, _, .lst e h => .lst (SqL.of e) (DqAll.dp h)
  | _, _, .tup e h => .tup (SqT.of e) (DqAll.dp h)
theorem DqAll.dp : ∀ {vs : List V} {ds : List PyData}, DqAll H vs ds → DpAll K H vs ds
  | _, _, .nil => .nil
  | _, _, .cons h t => .cons (Dq.dp h) (DqAll.dp t)
end
mutual
theorem Dq.mono (s : Sub H H') : ∀ {v : V} {d : PyData}, Dq H v d → Dq H' v d
  | _, _, .non => .non
  | _, _, .bl b => .bl b
  | _, _, .int i => .int i
  | _, _, .str x h => .str x h
  | _, _, .lst e h => .lst (s _ _ e) (DqAll.mono s h)
  | _, _, .tup e h => .tup (s _ _ e) (DqAll.mono s h)
theorem DqAll.mono (s : Sub H H') : ∀ {vs : List V} {ds : List PyData}, DqAll H vs ds → DqAll H' vs ds
  | _, _, .nil => .nil
  | _, _, .cons h t => .cons (Dq.mono s h) (DqAll.mono s t)
end
mutual
theorem Dq.lay : ∀ {v : V} {d : PyData}, Dq H v d → d.canLay0 = true
  | _, _, .non => rfl
  | _, _, .bl b => rfl
  | _, _, .int i => rfl
  | _, _, .str x h => by simp only [PyData.canLay0]; exact h
  | _, _, .lst e h => by simp only [PyData.canLay0]; exact DqAll.lay h
  | _, _, .tup e h => by simp only [PyData.canLay0]; exact DqAll.lay h
theorem DqAll.lay : ∀ {vs : List V} {ds : List PyData}, DqAll H vs ds → PyData.canLayAll0 ds = true
  | _, _, .nil => rfl
  | _, _, .cons h t => by simp only [PyData.canLayAll0, Bool.and_eq_true]; exact ⟨Dq.lay h, DqAll.lay t⟩
end
mutual
theorem Dq.refl : ∀ {v : V} {d : PyData}, Dq H v d → PyData.eqv d d = true
  | _, _, .non => rfl
  | _, _, .bl b => by simp [PyData.eqv]
  | _, _, .int i => by simp [PyData.eqv]
  | _, _, .str x h => by simp [PyData.eqv]
  | _, _, .lst e h => by simp only [PyData.eqv]; exact DqAll.refl h
  | _, _, .tup e h => by simp only [PyData.eqv]; exact DqAll.refl h
theorem DqAll.refl : ∀ {vs : List V} {ds : List PyData}, DqAll H vs ds → PyData.eqvAll ds ds = true
  | _, _, .nil => by simp [PyData.eqvAll]
  | _, _, .cons h t => by simp only [PyData.eqvAll, Bool.and_eq_true]; exact ⟨Dq.refl h, DqAll.refl t⟩
end
theorem DqAll.len : ∀ {vs : List V} {ds : List PyData}, DqAll H vs ds → vs.length = ds.length
  | _, _, .nil => rfl
  | _, _, .cons h t => by rw [List.length_cons, List.length_cons, DqAll.len t]
theorem DqAll.at : ∀ {vs : List V} {ds : List PyData} {k : Nat}, DqAll H vs ds → k < ds.length → ∃ v d, vs[k]? = some v ∧ ds[k]? = some d ∧ Dq H v d
  | _, _, _, .nil, h => absurd h (Nat.not_lt_zero _)
  | _, _, 0, .cons h t, _ => ⟨_, _, rfl, rfl, h⟩
  | _, _, k + 1, .cons h t, hk => by
    obtain ⟨v, d, e1, e2, q⟩ := DqAll.at (k := k) t (by rw [List.length_cons] at hk; omega)
    exact ⟨v, d, by rw [List.getElem?_cons_succ]; exact e1, by rw [List.getElem?_cons_succ]; exact e2, q⟩
theorem depth_at {ds : List PyData} {k : Nat} {d : PyData} (e : ds[k]? = some d) : d.depth ≤ PyData.depthAll ds := by
  induction ds generalizing k with
  | nil => cases e
  | cons x xs ih =>
    simp only [PyData.depthAll]
    cases k with
    | zero => cases e; exact Nat.le_max_left _ _
    | succ k => rw [List.getElem?_cons_succ] at e; exact Nat.le_trans (ih e) (Nat.le_max_right _ _)
theorem depth_map {α : Type} {f : α → PyData} {k : Nat} (h : ∀ x, (f x).depth ≤ k) : ∀ {xs : List α}, PyData.depthAll (xs.map f) ≤ k
  | [] => by simp [PyData.depthAll]
  | x :: xs => by
    simp only [List.map_cons, PyData.depthAll]
    exact Nat.max_le.mpr ⟨h x, depth_map h⟩
mutual
/-- rows of no great length -/
def Small : PyData → Prop
  | .list ds => ds.length ≤ 100000 ∧ SmallAll ds
  | .tuple ds => ds.length ≤ 100000 ∧ SmallAll ds
  | _ => True
def SmallAll : List PyData → Prop
  | [] => True
  | d :: ds => Small d ∧ SmallAll ds
end
theorem small_at : ∀ {ds : List PyData} {k : Nat} {d : PyData}, SmallAll ds → ds[k]? = some d → Small d
  | [], _, _, _, e => nomatch e
  | x :: ds, 0, _, h, e => by cases e; simp only [SmallAll] at h; exact h.1
  | x :: ds, k + 1, _, h, e => by rw [List.getElem?_cons_succ] at e; simp only [SmallAll] at h; exact small_at h.2 e
theorem small_map {α : Type} {f : α → PyData} (h : ∀ x, Small (f x)) : ∀ {xs : List α}, SmallAll (xs.map f)
  | [] => by simp [SmallAll]
  | x :: xs => by simp only [List.map_cons, SmallAll]; exact ⟨h x, small_map h⟩
theorem small_app : ∀ {xs ys : List PyData}, SmallAll xs → SmallAll ys → SmallAll (xs ++ ys)
  | [], ys, _, h => h
  | x :: xs, ys, h1, h2 => by simp only [List.cons_append, SmallAll] at h1 ⊢; exact ⟨h1.1, small_app h1.2 h2⟩
/-! ### found in what is owned -/
/-- things of one kind with their data -/
class Dqa {α : Type} (A : α → V → Asrt) (f : outParam (α → PyData)) (k : outParam Nat) : Prop where
  dq : ∀ {H h : Hp} {x : α} {v : V}, A x v h → Sub h H → Dq H v (f x)
  dep : ∀ x : α, (f x).depth ≤ k
  sm : ∀ x : α, Small (f x)
class FindR (L0 L : List Asrt) (v : V) (D : outParam PyData) (k : outParam Nat) (c : outParam Prop) : Prop where
  dq : ∀ {H}, Star L0 H → (∀ A ∈ L, A ∈ L0) → Dq H v D
  dep : D.depth ≤ k
  sm : c → Small D
class FindD (L : List Asrt) (v : V) (D : outParam PyData) (k : outParam Nat) (c : outParam Prop) : Prop where
  dq : ∀ {H}, Star L H → Dq H v D
  dep : D.depth ≤ k
  sm : c → Small D
instance findD {L : List Asrt} {v : V} {D : PyData} {k : Nat} {c : Prop} [w : FindR L L v D k c] : FindD L v D k c := ⟨fun S => w.dq S fun _ h => h, w.dep, w.sm⟩
class FindDs (L : List Asrt) (vs : List V) (Ds : outParam (List PyData)) (k n : outParam Nat) (c : outParam Prop) : Prop where
  dq : ∀ {H}, Star L H → DqAll H vs Ds
  dep : PyData.depthAll Ds ≤ k
  sm : c → SmallAll Ds
  len : Ds.length = n
class HdD (L0 : List Asrt) (A : Asrt) (v : V) (D : outParam PyData) (k : outParam Nat) (c : outParam Prop) : Prop where
  dq : ∀ {H h}, Star L0 H → Sub h H → A h → Dq H v D
  dep : D.depth ≤ k
  sm : c → Small D
instance frThere {L0 L : List Asrt} {B : Asrt} {v : V} {D : PyData} {k : Nat} {c : Prop} [w : FindR L0 L v D k c] : FindR L0 (B :: L) v D k c := ⟨fun S h => w.dq S fun A hA => h A (.tail _ hA), w.dep, w.sm⟩
instance frHere {L0 L : List Asrt} {A : Asrt} {v : V} {D : PyData} {k : Nat} {c : Prop} [w : HdD L0 A v D k c] : FindR L0 (A :: L) v D k c := ⟨fun S h => by
  obtain ⟨h1, s, x⟩ := S.has (h A (.head _))
  exact w.dq S s x, w.dep, w.sm⟩
theorem smI {i : Int} : Small (.int i) := by simp [Small]
theorem smB {i : Bool} : Small (.bool i) := by simp [Small]
theorem smS {i : Str} : Small (.str i) := by simp [Small]
theorem smN : Small .none := by simp [Small]
instance frInt {L0 L : List Asrt} {i : Int} : FindR L0 L (.int i) (.int i) 0 True := ⟨fun _ _ => .int i, Nat.le_refl _, fun _ => smI⟩
instance frBl {L0 L : List Asrt} {i : Bool} : FindR L0 L (.bl i) (.bool i) 0 True := ⟨fun _ _ => .bl i, Nat.le_refl _, fun _ => smB⟩
instance frNon {L0 L : List Asrt} : FindR L0 L .non .none 0 True := ⟨fun _ _ => .non, Nat.le_refl _, fun _ => smN⟩
class StrK (x : Str) : Prop where e : PyData.strOk x = true
instance frStr {L0 L : List Asrt} {x : Str} [w : StrK x] : FindR L0 L (.str x) (.str x) 0 True := ⟨fun _ _ => .str x w.e, Nat.le_refl _, fun _ => smS⟩
def optD : Option Int → PyData
  | none => .none
  | some i => .int i
theorem smO {o : Option Int} : Small (optD o) := by cases o; exact smN; exact smI
instance frOpt {L0 L : List Asrt} {o : Option Int} : FindR L0 L (optV o) (optD o) 0 True := ⟨fun _ _ => by cases o <;> constructor, by cases o <;> exact Nat.le_refl _, fun _ => smO⟩
instance fds0 {L : List Asrt} : FindDs L [] [] 0 0 True := ⟨fun _ => .nil, by simp [PyData.depthAll], fun _ => by simp [SmallAll], rfl⟩
instance fds1 {L : List Asrt} {v : V} {vs : List V} {D : PyData} {Ds : List PyData} {k j n : Nat} {c c' : Prop} [w : FindD L v D k c] [q : FindDs L vs Ds j n c'] : FindDs L (v :: vs) (D :: Ds) (max k j) (n + 1) (c ∧ c') := ⟨fun S => .cons (w.dq S) (q.dq S), by simp only [PyData.depthAll]; have := w.dep; have := q.dep; omega, fun h => by simp only [SmallAll]; exact ⟨w.sm h.1, q.sm h.2⟩, by rw [List.length_cons, q.len]⟩
theorem dq_ints : ∀ {is : List Int}, DqAll H (is.map V.int) (is.map PyData.int)
  | [] => .nil
  | i :: is => .cons (.int i) dq_ints
theorem dq_bls : ∀ {is : List Bool}, DqAll H (is.map V.bl) (is.map PyData.bool)
  | [] => .nil
  | i :: is => .cons (.bl i) dq_bls
theorem dq_opts : ∀ {is : List (Option Int)}, DqAll H (is.map optV) (is.map optD)
  | [] => .nil
  | i :: is => .cons (by cases i <;> constructor) dq_opts
instance fdsI {L : List Asrt} {is : List Int} : FindDs L (is.map V.int) (is.map PyData.int) 0 is.length True := ⟨fun _ => dq_ints, depth_map (f := PyData.int) fun _ => by simp [PyData.depth], fun _ => small_map fun _ => smI, List.length_map _⟩
instance fdsB {L : List Asrt} {is : List Bool} : FindDs L (is.map V.bl) (is.map PyData.bool) 0 is.length True := ⟨fun _ => dq_bls, depth_map (f := PyData.bool) fun _ => by simp [PyData.depth], fun _ => small_map fun _ => smB, List.length_map _⟩
instance fdsO {L : List Asrt} {is : List (Option Int)} : FindDs L (is.map optV) (is.map optD) 0 is.length True := ⟨fun _ => dq_opts, depth_map fun x => by cases x <;> exact Nat.le_refl _, fun _ => small_map fun _ => smO, List.length_map _⟩
theorem dqAll_app : ∀ {vs ws : List V} {Ds Es : List PyData}, DqAll H vs Ds → DqAll H ws Es → DqAll H (vs ++ ws) (Ds ++ Es)
  | _, _, _, _, .nil, h => h
  | _, _, _, _, .cons h t, h2 => .cons h (dqAll_app t h2)
theorem depth_app : ∀ {xs ys : List PyData}, PyData.depthAll (xs ++ ys) = max (PyData.depthAll xs) (PyData.depthAll ys)
  | [], ys => by simp [PyData.depthAll]
  | x :: xs, ys => by simp only [List.cons_append, PyData.depthAll, depth_app (xs := xs)]; omega
instance fdsA {L : List Asrt} {vs ws : List V} {Ds Es : List PyData} {k j n n' : Nat} {c c' : Prop} [w : FindDs L vs Ds k n c] [q : FindDs L ws Es j n' c'] : FindDs L (vs ++ ws) (Ds ++ Es) (max k j) (n + n') (c ∧ c') := ⟨fun S => dqAll_app (w.dq S) (q.dq S), by rw [depth_app]; have := w.dep; have := q.dep; omega, fun h => small_app (w.sm h.1) (q.sm h.2), by rw [List.length_append, w.len, q.len]⟩
instance hdTup {L : List Asrt} {p : Addr} {vs : List V} {Ds : List PyData} {k n : Nat} {c : Prop} [w : FindDs L vs Ds k n c] : HdD L (pt p (.tup vs)) (.ref p) (.tuple Ds) (k + 1) (n ≤ 100000 ∧ c) := ⟨fun S s x => .tup (s _ _ x) (w.dq S), by simp only [PyData.depth]; have := w.dep; omega, fun h => by simp only [Small]; exact ⟨by rw [w.len]; exact h.1, w.sm h.2⟩⟩
instance hdLst {L : List Asrt} {p : Addr} {vs : List V} {Ds : List PyData} {k n : Nat} {c : Prop} [w : FindDs L vs Ds k n c] : HdD L (pt p (.lst vs)) (.ref p) (.list Ds) (k + 1) (n ≤ 100000 ∧ c) := ⟨fun S s x => .lst (s _ _ x) (w.dq S), by simp only [PyData.depth]; have := w.dep; omega, fun h => by simp only [Small]; exact ⟨by rw [w.len]; exact h.1, w.sm h.2⟩⟩
theorem dq_own {α : Type} {A : α → V → Asrt} {f : α → PyData} {k : Nat} [w : Dqa A f k] : ∀ {cs : List (α × V)} {l : List Asrt} {H : Hp}, Star (ownL A cs :: l) H → DqAll H (cs.map Prod.snd) ((cs.map Prod.fst).map f)
  | [], _, _, _ => .nil
  | c :: cs, l, H, S => by
    have S2 : Star (A c.1 c.2 :: ownL A cs :: l) H := sepL_unc S
    obtain ⟨h, s, x⟩ := S2.has (.head _)
    exact .cons (w.dq x s) (dq_own S2.tail)
theorem dq_list {α : Type} {A : α → V → Asrt} {f : α → PyData} {k : Nat} [w : Dqa A f k] {xs : List α} {p : Addr} {h : Hp} (x : listA A xs p h) (s : Sub h H) : Dq H (.ref p) (.list (xs.map f)) := by
  obtain ⟨cs, rfl, S⟩ := x
  have := S.get (.head _)
  exact .lst (s _ _ this) (DqAll.mono s (dq_own S.tail))
instance hdList {α : Type} {L : List Asrt} {A : α → V → Asrt} {f : α → PyData} {k : Nat} {xs : List α} {p : Addr} [w : Dqa A f k] : HdD L (listA A xs p) (.ref p) (.list (xs.map f)) (k + 1) (xs.length ≤ 100000) := ⟨fun S s x => dq_list x s, by simp only [PyData.depth]; have := depth_map (xs := xs) (fun x => w.dep x); omega, fun h => by simp only [Small]; exact ⟨by rw [List.length_map]; exact h, small_map w.sm⟩⟩
instance dqTie : Dqa tieA tieD 1 := ⟨fun {H h x v} e s => by
  cases x with
  | none => cases (show v = .non from e); exact .non
  | some x =>
    obtain ⟨p, e, q⟩ := e
    subst e
    exact .tup (s _ _ q) (.cons (.int _) (.cons (.int _) .nil)), fun x => by cases x <;> simp [tieD, PyData.depth, PyData.depthAll], fun x => by cases x <;> simp [tieD, Small, SmallAll]⟩
instance dqSpan : Dqa spanA spanD 2 := ⟨fun {H h x v} e s => by
  obtain ⟨a, tv, rfl, S⟩ := e
  obtain ⟨h1, s1, q⟩ := S.has (.head _)
  obtain ⟨h2, s2, q2⟩ := S.has (.tail _ (.head _))
  exact .tup (s _ _ (s1 _ _ q)) (.cons (.int _) (.cons (.int _) (.cons (.int _) (.cons (Dqa.dq q2 (s2.trans s)) .nil)))), fun x => by
  have e : PyData.depth (tieD x.t) ≤ 1 := Dqa.dep (A := tieA) x.t
  simp only [spanD, PyData.depth, PyData.depthAll]
  omega, fun x => by have e : Small (tieD x.t) := Dqa.sm (A := tieA) x.t; simp [spanD, Small, SmallAll, e]⟩
instance dqPair : Dqa pairA (fun e => .tuple [.int e.1, .int e.2]) 1 := ⟨fun {H h x v} e s => by
  obtain ⟨p, e, q⟩ := e
  subst e
  exact .tup (s _ _ q) (.cons (.int _) (.cons (.int _) .nil)), fun x => by simp [PyData.depth, PyData.depthAll], fun x => by simp [Small, SmallAll]⟩
instance hdTie {L : List Asrt} {t : Tie} {v : V} : HdD L (tieA t v) v (tieD t) 1 True := ⟨fun S s x => Dqa.dq x s, Dqa.dep (A := tieA) t, fun _ => dqTie.sm t⟩
instance hdSpan {L : List Asrt} {t : Sp1} {v : V} : HdD L (spanA t v) v (spanD t) 2 True := ⟨fun S s x => Dqa.dq x s, Dqa.dep (A := spanA) t, fun _ => dqSpan.sm t⟩
instance hdPair {L : List Asrt} {t : Int × Int} {v : V} : HdD L (pairA t v) v (.tuple [.int t.1, .int t.2]) 1 True := ⟨fun S s x => dqPair.dq x s, Dqa.dep (A := pairA) t, fun _ => dqPair.sm t⟩
/-- deep == -/
theorem r_eqQ {K : PySem.W.Frag} {Q : VK} {u v : V} {D E : PyData} {k j : Nat} {c c' : Prop} [w : FindD L u D k c] [w2 : FindD L v E j c'] (S : Star L H) (e : D = E) (hk : k ≤ 60) (h : Q (.bl true) H) : rEqD K u v H Q := by
  subst e
  have q1 := w.dq S
  have q2 := w2.dq S
  have hs : SeqAt.shaped D = true := by show (_ && decide _) = true; rw [q1.lay, decide_eq_true (by have := w.dep; omega)]; rfl
  exact ⟨_, _, q1.dp, q2.dp, hs, hs, by rw [q1.refl]; exact h⟩
theorem r_neQ {K : PySem.W.Frag} {Q : VK} {u v : V} {D E : PyData} {k j : Nat} {c c' : Prop} [w : FindD L u D k c] [w2 : FindD L v E j c'] (S : Star L H) (e : D = E) (hk : k ≤ 60) (h : Q (.bl false) H) : rNeD K u v H Q := by
  subst e
  have q1 := w.dq S
  have q2 := w2.dq S
  have hs : SeqAt.shaped D = true := by show (_ && decide _) = true; rw [q1.lay, decide_eq_true (by have := w.dep; omega)]; rfl
  exact ⟨_, _, q1.dp, q2.dp, hs, hs, by rw [q1.refl]; exact h⟩
/-! ### isinstance of a value that is written -/
class IsB (v : V) (C : String) (b : outParam Bool) : Prop where e : ∀ {K : PySem.W.Frag} {H : Hp} {Q : VK}, Q (.bl b) H → rIsi K [v, .ty C] H Q
instance i_isB {K : PySem.W.Frag} {Q : VK} {v : V} {C : String} {b : Bool} [w : IsB v C b] : Stp (rIsi K [v, .ty C] H Q) (Q (.bl b) H) := ⟨w.e⟩
instance {i : Int} : IsB (.int i) "str" false := ⟨r_isi (.base (.int i)) (by decide +kernel)⟩
instance {i : Int} : IsB (.int i) "list" false := ⟨r_isi (.base (.int i)) (by decide +kernel)⟩
instance {i : Int} : IsB (.int i) "tuple" false := ⟨r_isi (.base (.int i)) (by decide +kernel)⟩
instance {i : Bool} : IsB (.bl i) "str" false := ⟨r_isi (.base (.bl i)) (by decide +kernel)⟩
instance {i : Bool} : IsB (.bl i) "list" false := ⟨r_isi (.base (.bl i)) (by decide +kernel)⟩
instance {i : Bool} : IsB (.bl i) "tuple" false := ⟨r_isi (.base (.bl i)) (by decide +kernel)⟩
instance {i : Str} : IsB (.str i) "str" true := ⟨r_isi (.base (.str i)) (by decide +kernel)⟩
instance {i : Str} : IsB (.str i) "int" false := ⟨r_isi (.base (.str i)) (by decide +kernel)⟩
instance {i : Str} : IsB (.str i) "bool" false := ⟨r_isi (.base (.str i)) (by decide +kernel)⟩
instance {i : Str} : IsB (.str i) "list" false := ⟨r_isi (.base (.str i)) (by decide +kernel)⟩
instance {i : Str} : IsB (.str i) "tuple" false := ⟨r_isi (.base (.str i)) (by decide +kernel)⟩
instance : IsB .non "str" false := ⟨r_isi (.base .non) (by decide +kernel)⟩
instance : IsB .non "bool" false := ⟨r_isi (.base .non) (by decide +kernel)⟩
instance : IsB .non "list" false := ⟨r_isi (.base .non) (by decide +kernel)⟩
instance : IsB .non "tuple" false := ⟨r_isi (.base .non) (by decide +kernel)⟩
theorem isi_lstH {K : PySem.W.Frag} {Q : VK} {p : Addr} {xs : List V} {C : String} {c : Bool} (e : H p = some (.lst xs)) (k : kitB "list" C = some c) (h : Q (.bl c) H) : rIsi K [.ref p, .ty C] H Q := r_isi (.base (.lst e)) k h
theorem isi_tupH {K : PySem.W.Frag} {Q : VK} {p : Addr} {xs : List V} {C : String} {c : Bool} (e : H p = some (.tup xs)) (k : kitB "tuple" C = some c) (h : Q (.bl c) H) : rIsi K [.ref p, .ty C] H Q := r_isi (.base (.tup e)) k h
theorem len_lstH {K : PySem.W.Frag} {Q : VK} {p : Addr} {xs : List V} {n : Nat} (e : H p = some (.lst xs)) (hn : xs.length = n) (h : Q (.int (n : Int)) H) : cLenS K [.ref p] H Q := ⟨p, xs, rfl, .inl (SqL.of e), by rw [hn]; exact h⟩
theorem len_tupH {K : PySem.W.Frag} {Q : VK} {p : Addr} {xs : List V} {n : Nat} (e : H p = some (.tup xs)) (hn : xs.length = n) (h : Q (.int (n : Int)) H) : cLenS K [.ref p] H Q := ⟨p, xs, rfl, .inr (SqT.of e), by rw [hn]; exact h⟩
/-- an index into a list or a tuple -/
def rIxE (K : PySem.W.Frag) : R2 := fun x y H Q => rIxL K x y H Q ∨ rIxT K x y H Q
theorem ixE {X : Cx} (h : X.K = K) : IxR X (rIxE K) := fun value slice pins s σ H x y v u Q I rx ry q e => q.elim (fun q => ixL h value slice pins s σ H x y v u Q I rx ry q e) fun q => ixT h value slice pins s σ H x y v u Q I rx ry q e
theorem ixE_lst {K : PySem.W.Frag} {Q : VK} {p : Addr} {xs : List V} {k : Nat} {v : V} (e : H p = some (.lst xs)) (e2 : xs[k]? = some v) (h : Q v H) : rIxE K (.ref p) (.int (k : Nat)) H Q := .inl ⟨p, xs, _, v, rfl, rfl, SqL.of e, by
  have hi := (List.getElem?_eq_some_iff.mp e2).1
  unfold atI ixN
  rw [if_pos (by omega), if_pos (by omega)]
  simp [e2], h⟩
theorem ixE_tup {K : PySem.W.Frag} {Q : VK} {p : Addr} {xs : List V} {k : Nat} {v : V} (e : H p = some (.tup xs)) (e2 : xs[k]? = some v) (h : Q v H) : rIxE K (.ref p) (.int (k : Nat)) H Q := .inr ⟨p, xs, _, v, rfl, rfl, SqT.of e, by
  have hi := (List.getElem?_eq_some_iff.mp e2).1
  unfold atI ixN
  rw [if_pos (by omega), if_pos (by omega)]
  simp [e2], h⟩
theorem r_eqSS {Q : VK} {x : Str} (h : Q (.bl true) H) : rEq (.str x) (.str x) H Q := ⟨rfl, by rw [show decide (V.str x = V.str x) = true from decide_eq_true rfl]; exact h⟩
/-- what `like` asks and answers -/
def spLike (n : Nat) : Sp := fun vs H Q E => ∃ (u v : V) (D : PyData), vs = [u, v] ∧ Dq H u D ∧ Dq H v D ∧ D.depth < n ∧ Small D ∧ ∀ H', Sub H H' → Q (.bl true) H'
theorem spLike_mono {n m : Nat} (h : n ≤ m) {vs : List V} {H : Hp} {Q : VK} {E : XK} (x : spLike n vs H Q E) : spLike m vs H Q E := by
  obtain ⟨u, v, D, e, h1, h2, h3, h4⟩ := x
  exact ⟨u, v, D, e, h1, h2, by omega, h4⟩
instance {n : Nat} : Ctg (spLike n) 9001 := ⟨⟩
theorem c_like {n : Nat} {Q : VK} {E : XK} {u v : V} {D D' : PyData} {k j : Nat} {c c' : Prop} [w : FindD L u D k c] [w2 : FindD L v D' j c'] (S : Star L H) (e : D = D') (hk : j < n) (hc : c) (q : ∀ H', Star L H' → Q (.bl true) H') : kCall (spLike n) [u, v] H Q E := by
  subst e
  exact ⟨u, v, D, rfl, w.dq S, w2.dq S, Nat.lt_of_le_of_lt w2.dep hk, w.sm hc, fun H' s => q H' (S.mono s)⟩
mutual
def noS : PyData → Prop
  | .str _ => False
  | .list ds => noSs ds
  | .tuple ds => noSs ds
  | _ => True
def noSs : List PyData → Prop
  | [] => True
  | d :: ds => noS d ∧ noSs ds
end
theorem noS_at : ∀ {ds : List PyData} {k : Nat} {d : PyData}, noSs ds → ds[k]? = some d → noS d
  | [], _, _, _, e => nomatch e
  | x :: ds, 0, _, h, e => by cases e; simp only [noSs] at h; exact h.1
  | x :: ds, k + 1, _, h, e => by rw [List.getElem?_cons_succ] at e; simp only [noSs] at h; exact noS_at h.2 e
class NoS (d : PyData) : Prop where e : noS d
class NoSs (d : List PyData) : Prop where e : noSs d
class NoSf {α : Type} (f : α → PyData) : Prop where e : ∀ x, noS (f x)
instance {i : Int} : NoS (.int i) := ⟨by simp [noS]⟩
instance {i : Bool} : NoS (.bool i) := ⟨by simp [noS]⟩
instance : NoS .none := ⟨by simp [noS]⟩
instance {o : Option Int} : NoS (optD o) := ⟨by cases o <;> simp [optD, noS]⟩
instance nosT {t : Tie} : NoS (tieD t) := ⟨by cases t <;> simp [tieD, noS, noSs]⟩
instance nosP {t : Sp1} : NoS (spanD t) := ⟨by have := (nosT (t := t.t)).e; simp [spanD, noS, noSs, this]⟩
instance : NoSf spanD := ⟨fun x => nosP.e⟩
instance {ds : List PyData} [w : NoSs ds] : NoS (.tuple ds) := ⟨by simp only [noS]; exact w.e⟩
instance {ds : List PyData} [w : NoSs ds] : NoS (.list ds) := ⟨by simp only [noS]; exact w.e⟩
instance : NoSs [] := ⟨by simp [noSs]⟩
instance {d : PyData} {ds : List PyData} [q : NoS d] [w : NoSs ds] : NoSs (d :: ds) := ⟨by simp only [noSs]; exact ⟨q.e, w.e⟩⟩
theorem noS_map {α : Type} {f : α → PyData} (h : ∀ x, noS (f x)) : ∀ {xs : List α}, noSs (xs.map f)
  | [] => by simp [noSs]
  | x :: xs => by simp only [List.map_cons, noSs]; exact ⟨h x, noS_map h⟩
instance {α : Type} {f : α → PyData} {xs : List α} [w : NoSf f] : NoSs (xs.map f) := ⟨noS_map w.e⟩
def spLike0 (n : Nat) : Sp := fun vs H Q E => ∃ (u v : V) (D : PyData), vs = [u, v] ∧ Dq H u D ∧ Dq H v D ∧ D.depth < n ∧ (Small D ∧ noS D) ∧ ∀ H', Sub H H' → Q (.bl true) H'
instance {n : Nat} : Ctg (spLike0 n) 9001 := ⟨⟩
theorem c_like0 {n : Nat} {Q : VK} {E : XK} {u v : V} {D D' : PyData} {k j : Nat} {c c' : Prop} [w : FindD L u D k c] [w2 : FindD L v D' j c'] [ns : NoS D] (S : Star L H) (e : D = D') (hk : j < n) (hc : c) (q : ∀ H', Star L H' → Q (.bl true) H') : kCall (spLike0 n) [u, v] H Q E := by
  subst e
  exact ⟨u, v, D, rfl, w.dq S, w2.dq S, Nat.lt_of_le_of_lt w2.dep hk, ⟨w.sm hc, ns.e⟩, fun H' s => q H' (S.mono s)⟩
/-! ### a heap that is kept whole, while new things come -/
def own (H0 : Hp) : Asrt := fun h => Sub H0 h
theorem own_self : Star [own H] H := ⟨H, fun _ => none, (fun _ _ _ _ e => nomatch e), Sub.refl _, (fun _ _ e => nomatch e), Sub.refl _, trivial⟩
theorem own_sub {H0 : Hp} (S : Star L H) (P : Pull (own H0) L l) : Sub H0 H := by
  obtain ⟨h, s, x⟩ := (S.pull P).has (.head _)
  exact Sub.trans x s
class TyV (x : V) (T : outParam String) : Prop where e : ∀ {K : PySem.W.Frag} {H : Hp}, TyX K H x (.type T)
instance {i : Int} : TyV (.int i) "int" := ⟨.base (.int i)⟩
instance {i : Bool} : TyV (.bl i) "bool" := ⟨.base (.bl i)⟩
instance {i : Str} : TyV (.str i) "str" := ⟨.base (.str i)⟩
theorem isi_lstO {K : PySem.W.Frag} {Q : VK} {H0 : Hp} {p : Addr} {xs : List V} {C : String} {c : Bool} (S : Star L H) (P : Pull (own H0) L l) (e : H0 p = some (.lst xs)) (k : kitB "list" C = some c) (h : Q (.bl c) H) : rIsi K [.ref p, .ty C] H Q := isi_lstH (own_sub S P _ _ e) k h
theorem isi_tupO {K : PySem.W.Frag} {Q : VK} {H0 : Hp} {p : Addr} {xs : List V} {C : String} {c : Bool} (S : Star L H) (P : Pull (own H0) L l) (e : H0 p = some (.tup xs)) (k : kitB "tuple" C = some c) (h : Q (.bl c) H) : rIsi K [.ref p, .ty C] H Q := isi_tupH (own_sub S P _ _ e) k h
theorem len_lstO {K : PySem.W.Frag} {Q : VK} {H0 : Hp} {p : Addr} {xs : List V} {n : Nat} (S : Star L H) (P : Pull (own H0) L l) (e : H0 p = some (.lst xs)) (hn : xs.length = n) (h : Q (.int (n : Int)) H) : cLenS K [.ref p] H Q := len_lstH (own_sub S P _ _ e) hn h
theorem len_tupO {K : PySem.W.Frag} {Q : VK} {H0 : Hp} {p : Addr} {xs : List V} {n : Nat} (S : Star L H) (P : Pull (own H0) L l) (e : H0 p = some (.tup xs)) (hn : xs.length = n) (h : Q (.int (n : Int)) H) : cLenS K [.ref p] H Q := len_tupH (own_sub S P _ _ e) hn h
class OrV (b b' : Bool) (c : outParam Bool) : Prop where e : (b || b') = c
instance : OrV true true true := ⟨rfl⟩
instance : OrV true false true := ⟨rfl⟩
instance : OrV false true true := ⟨rfl⟩
instance : OrV false false false := ⟨rfl⟩
class KiC (K : PySem.W.Frag) (t : Value) (cs : List V) (b : outParam Bool) : Prop where e : KiA K t cs b
instance kic0 {K : PySem.W.Frag} {t : Value} : KiC K t [] false := ⟨kia0⟩
instance kic1 {K : PySem.W.Frag} {t : Value} {T : String} {cs : List V} {b b' c : Bool} [w : Ki K t (.type T) b] [w' : KiC K t cs b'] [o : OrV b b' c] : KiC K t (.ty T :: cs) c := ⟨by
  have := w'.e
  rw [← o.e]; exact kia2⟩
instance kic2 {K : PySem.W.Frag} {t : Value} {C : Addr} {cs : List V} {b b' c : Bool} [w : Ki K t (.ref C) b] [w' : KiC K t cs b'] [o : OrV b b' c] : KiC K t (.ref C :: cs) c := ⟨by
  have := w'.e
  rw [← o.e]; exact kia1⟩
theorem r_isiT0 {K : PySem.W.Frag} {Q : VK} {x : V} {T : String} {tp : Addr} {cs : List V} {b : Bool} [w : KiC K (.type T) cs b] (ty : TyX K H x (.type T)) (S : Star L H) (P : Pull (pt tp (.tup cs)) L l) (h : Q (.bl b) H) : rIsiT K [x, .ref tp] H Q := by
  obtain ⟨us, p, e⟩ := w.e.e
  exact ⟨x, tp, cs, _, us, b, rfl, (S.pull P).get (.head _), p, ty, e, h⟩
theorem r_isiTV {K : PySem.W.Frag} {Q : VK} {x : V} {T : String} {tp : Addr} {cs : List V} {b : Bool} [t : TyV x T] [w : KiC K (.type T) cs b] (S : Star L H) (P : Pull (pt tp (.tup cs)) L l) (h : Q (.bl b) H) : rIsiT K [x, .ref tp] H Q := r_isiT0 t.e S P h
theorem r_isiTlO {K : PySem.W.Frag} {Q : VK} {H0 : Hp} {p : Addr} {xs : List V} {tp : Addr} {cs : List V} {b : Bool} [w : KiC K (.type "list") cs b] (S : Star L H) (P : Pull (own H0) L m) (e : H0 p = some (.lst xs)) (P2 : Pull (pt tp (.tup cs)) L l) (h : Q (.bl b) H) : rIsiT K [.ref p, .ref tp] H Q := r_isiT0 (.base (.lst (own_sub S P _ _ e))) S P2 h
theorem r_isiTtO {K : PySem.W.Frag} {Q : VK} {H0 : Hp} {p : Addr} {xs : List V} {tp : Addr} {cs : List V} {b : Bool} [w : KiC K (.type "tuple") cs b] (S : Star L H) (P : Pull (own H0) L m) (e : H0 p = some (.tup xs)) (P2 : Pull (pt tp (.tup cs)) L l) (h : Q (.bl b) H) : rIsiT K [.ref p, .ref tp] H Q := r_isiT0 (.base (.tup (own_sub S P _ _ e))) S P2 h
instance {K : PySem.W.Frag} : Ki K (.type "int") (.type "list") false := ⟨kit_ty (by decide +kernel)⟩
instance {K : PySem.W.Frag} : Ki K (.type "int") (.type "tuple") false := ⟨kit_ty (by decide +kernel)⟩
instance {K : PySem.W.Frag} : Ki K (.type "bool") (.type "list") false := ⟨kit_ty (by decide +kernel)⟩
instance {K : PySem.W.Frag} : Ki K (.type "bool") (.type "tuple") false := ⟨kit_ty (by decide +kernel)⟩
instance {K : PySem.W.Frag} : Ki K (.type "str") (.type "list") false := ⟨kit_ty (by decide +kernel)⟩
instance {K : PySem.W.Frag} : Ki K (.type "str") (.type "tuple") false := ⟨kit_ty (by decide +kernel)⟩
instance {K : PySem.W.Frag} : Ki K (.type "list") (.type "list") true := ⟨kit_ty (by decide +kernel)⟩
instance {K : PySem.W.Frag} : Ki K (.type "list") (.type "tuple") false := ⟨kit_ty (by decide +kernel)⟩
instance {K : PySem.W.Frag} : Ki K (.type "tuple") (.type "list") false := ⟨kit_ty (by decide +kernel)⟩
instance {K : PySem.W.Frag} : Ki K (.type "tuple") (.type "tuple") true := ⟨kit_ty (by decide +kernel)⟩
instance {K : PySem.W.Frag} {Q : VK} {x : V} {tp : Addr} : Grp (rIsiT K [x, .ref tp] H Q) 9 := ⟨⟩
instance {K : PySem.W.Frag} {Q : VK} {x : V} {tp : Addr} : Grp (rIsiT K [x, .ref tp] H Q) 103 := ⟨⟩
end
end Fl
/-! Fl: texts compared, sums, the place of a truth in a row. -/
namespace Fl
open PySem PySem.Spec PyProof.Rows L2
section
variable {K : PySem.W.Frag} {H : Hp} {L l : List Asrt} {Q : VK}
theorem callSum {X : Cx} (e : X.K = K) (hc : X.calm = true) : CallR X (.builtin "sum") (rSum K) := by subst e; exact cr_sum hc
theorem mtIndex {X : Cx} (h : X.K = K) : MtR X "list.index" (rIndex K) := by subst h; exact mt_index
def cInt1 : List V → Hp → VK → Prop := fun xs H Q => (∃ i, xs = [.int i] ∧ Q (.int i) H) ∨ ∃ k, xs = [.bl k] ∧ Q (.int (if k then 1 else 0)) H
theorem callInt1 {X : Cx} : CallR X (.type "int") cInt1 := call_int1
instance i_int1i {i : Int} : Stp (cInt1 [.int i] H Q) (Q (.int i) H) := ⟨fun h => .inl ⟨i, rfl, h⟩⟩
instance i_int1b {b : Bool} : Stp (cInt1 [.bl b] H Q) (Q (.int (if b then 1 else 0)) H) := ⟨fun h => .inr ⟨b, rfl, h⟩⟩
theorem r_sumI {p : Addr} {xs : List V} {is : List Int} [w : IntsL xs is] (S : Star L H) (P : Pull (pt p (.lst xs)) L l) (h : Q (.int is.sum) H) : rSum K [.ref p] H Q := ⟨p, is, rfl, by rw [← w.e]; exact SqL.of ((S.pull P).get (.head _)), h⟩
theorem r_indexB {p : Addr} {xs : List V} {bs : List Bool} {j : Nat} (w : xs = bs.map V.bl) (e : bs[j]? = some true) (e2 : ∀ m, m < j → bs[m]? ≠ some true) (S : Star L H) (P : Pull (pt p (.lst xs)) L l) (h : Q (.int (j : Nat)) H) : rIndex K (.ref p) [.bl true] H Q := by
  subst w
  refine ⟨p, _, .bl true, j, .bl true, rfl, rfl, SqL.of ((S.pull P).get (.head _)), rfl, ?_, by rw [List.getElem?_map, e]; rfl, rfl, fun m z hm hz => ?_, h⟩
  · rw [List.all_eq_true]
    intro x hx
    obtain ⟨b, _, rfl⟩ := List.mem_map.mp hx
    rfl
  · rw [List.getElem?_map] at hz
    cases hb : bs[m]? with
    | none => rw [hb] at hz; cases hz
    | some b =>
      rw [hb] at hz
      cases hz
      cases b with
      | false => rfl
      | true => exact absurd hb (e2 m hm)
theorem r_eqT {x y : Str} (e : x = y) (h : Q (.bl true) H) : rEq (.str x) (.str y) H Q := ⟨rfl, by rw [decide_eq_true (by rw [e])]; exact h⟩
theorem r_eqF {x y : Str} (e : x ≠ y) (h : Q (.bl false) H) : rEq (.str x) (.str y) H Q := ⟨rfl, by rw [decide_eq_false (fun z => e (V.str.inj z))]; exact h⟩
theorem r_neT {x y : Str} (e : x = y) (h : Q (.bl false) H) : rNe (.str x) (.str y) H Q := ⟨rfl, by rw [decide_eq_true (by rw [e])]; exact h⟩
theorem r_neF {x y : Str} (e : x ≠ y) (h : Q (.bl true) H) : rNe (.str x) (.str y) H Q := ⟨rfl, by rw [decide_eq_false (fun z => e (V.str.inj z))]; exact h⟩
def rCatS : R2 := fun x y H Q => ∃ i j, x = .str i ∧ y = .str j ∧ i.length + j.length ≤ sizeLine ∧ Q (.str (i ++ j)) H
theorem opCatS {X : Cx} : OpR X (binaryOp .Add) rCatS := op_add_str
theorem nil_app (j : Str) : (Str.ofString "") ++ j = j := by
  rw [show Str.ofString "" = (⟨#[]⟩ : Str) by decide +kernel]
  obtain ⟨l⟩ := j
  show (⟨#[] ++ l⟩ : Str) = ⟨l⟩
  rw [Array.empty_append]
theorem r_catNil {j : Str} (z : j.length ≤ 1000) (h : Q (.str j) H) : rCatS (.str "") (.str j) H Q := ⟨_, _, rfl, rfl, by
  have : (Str.ofString "").length = 0 := by decide +kernel
  rw [this]
  exact Nat.le_trans (by omega) (show 1000 ≤ sizeLine by decide), by rw [nil_app]; exact h⟩
instance {x y : V} : Grp (rCatS x y H Q) 11 := ⟨⟩
instance {x y : V} : Grp (rCatS x y H Q) 188 := ⟨⟩
instance {x y : V} : Grp (rEq x y H Q) 11 := ⟨⟩
instance {x y : V} : Grp (rEq x y H Q) 189 := ⟨⟩
instance {x y : V} : Grp (rNe x y H Q) 11 := ⟨⟩
instance {x y : V} : Grp (rNe x y H Q) 190 := ⟨⟩
instance {xs : List V} : Grp (rSum K xs H Q) 11 := ⟨⟩
instance {xs : List V} : Grp (rSum K xs H Q) 191 := ⟨⟩
instance {x : V} {xs : List V} : Grp (rIndex K x xs H Q) 11 := ⟨⟩
instance {x : V} {xs : List V} : Grp (rIndex K x xs H Q) 192 := ⟨⟩
end
end Fl
/-! Fl: a caught exception handed to a def. -/
namespace Fl
open PySem PySem.Spec PyProof.Rows L2
section
variable {X : Cx} {CX : CXT} {k : Nat} {f C : Addr} {fd : FuncData} {ps : List Str} {sp : Sp} {x m : Str} {p pos apos : Pos} {e o : Expr} {es : List Expr} {ta : L2.TE} {t : TA} {oe : Obj} {a : Addr}
/-! a def that is called while an exception is handled, and neither raises nor loops -/
structure FnQ (P : Program) (w : World) (K : PySem.W.Frag) (mg : Str → Option Value) (base : Heap) (CX : CXT) (k : Nat) (f : Addr) (fd : FuncData) (ps : List Str) (sp : Sp) : Prop where
  len : ∀ vs H Q E, sp vs H Q E → vs.length = ps.length
  run : ∀ (A : Around) (outer : List Env) (s : Shared) (H : Hp) (args : Args) (us : List Value) (vs : List V) (Q : VK) (E : XK), L2H.RoomH k A → Env0 P w K mg base A outer s H → BindsTo s fd args (ps.zip us) → Vals vs us → sp vs H Q E →
    codeAny (model P w) A (.call (.ref f) args) (CR CX outer P w H s Q E) s
def cxQ (CX : CXT) (P : Program) (w : World) (K : PySem.W.Frag) (mg : Str → Option Value) (base : Heap) (N : List Str) (qual : Str) (scope : Scope) (f : Addr) (cd : Value) (A : Around) (outer : List Env) (s : Shared) (H : Hp) (E : XK) : Cx :=
  { cxOf CX P w K mg base N qual scope f cd A outer s H E with calm := false }
theorem inv_startQ {CX : CXT} {P : Program} {w : World} {K : PySem.W.Frag} {mg : Str → Option Value} {base : Heap} {N ps : List Str} {qual : Str} {scope : Scope} {f : Addr} {cd : Value} {A : Around} {outer : List Env} {s s1 : Shared} {H : Hp} {E : XK} {us : List Value} {vs : List V}
    (S : FnScope N ps scope) (e0 : Env0 P w K mg base A outer s H) (hl : vs.length = ps.length) (r : Vals vs us)
    (x : InCallC s s.heap.objs.size (bindL (envOfC qual scope s.heap.objs.size f cd).kindOf (ps.zip us) fun _ => none) (cellsFrom (s.heap.objs.size + 1) scope.names []) (bindC (envOfC qual scope s.heap.objs.size f cd).kindOf (ps.zip us) fun _ => none) s1) :
    Inv (cxQ CX P w K mg base N qual scope f cd A outer s H E) [] (L2.start N vs) H s1 := by
  have hpl : ps.length ≤ N.length := by have := congrArg List.length S.pre; rw [List.length_take] at this; omega
  obtain ⟨h1, tk, rfl, hk⟩ := x.done
  have noA : ∀ b : Addr, b ∉ (cxQ CX P w K mg base N qual scope f cd A outer s H E).ex := fun b z => absurd (show b ∈ ([] : List Addr) from z) (by simp)
  refine ⟨⟨e0.mod, S.kind, rfl, rfl, Nat.le_refl _, fun y z c h1 h2 => ?_, fun y hy => ?_, fun y c _ h => ?_, (fun z => Bool.noConfusion (show false = true from z)), Around.frames_deeper e0.frames, .inr ⟨rfl, rfl⟩, fun b z => absurd z (noA b), e0.bs, e0.bsz, fun b _ _ => noA b, fun b z => absurd z (noA b), e0.funs, e0.frf⟩,
    rfl, e0.bare, Un.kept hk, ⟨_, x.toInCall.ns, fun i y v h1 h2 h3 => ?_⟩, fun y c h => ⟨_, x.cell y c h⟩, e0.hok.fresh (Nat.le_refl _), fun y c h => ?_, fun q hq => ?_, e0.hok.kept hk, ?_⟩
  · exact name_of_addr x.apart (PySem.mem_of_lookup h1) (PySem.mem_of_lookup h2)
  · have hy : scope.names.lookup y = some .cell ∨ scope.names.lookup y = some .free := hy
    rcases hy with hy | hy
    · exact cell_has hy
    · exact absurd rfl (S.nofree _ (PySem.mem_of_lookup hy))
  · exact Nat.le_of_lt (x.above y c (PySem.mem_of_lookup h))
  · have hi : i < vs.length := by
      unfold L2.start at h2
      by_cases hi : i < vs.length
      · exact hi
      · rw [List.getElem?_append_right (by simpa using hi)] at h2
        rw [List.getElem?_replicate] at h2
        split at h2 <;> cases h2
    have ha : vs[i]? = some v := by
      unfold L2.start at h2
      rw [List.getElem?_append_left (by simpa using hi), List.getElem?_map] at h2
      cases e : vs[i]? with
      | none => rw [e] at h2; cases h2
      | some a => rw [e] at h2; cases h2; rfl
    obtain ⟨u, hu, rv⟩ := r.get ha
    have hp : ps[i]? = some y := by
      rw [← S.pre, List.getElem?_take_of_lt (by omega)]; exact h1
    have ndP : ps.Nodup := by rw [← S.pre]; exact S.nd.sublist (List.take_sublist _ _)
    refine ⟨u, rv, ?_⟩
    rcases S.par y (List.mem_of_getElem? hp) with k | k
    · exact .inl ⟨k, bindL_get ndP hp hu k⟩
    · obtain ⟨c, e⟩ := cell_has (n := s.heap.objs.size + 1) k
      refine .inr ⟨.inl k, c, e, ?_⟩
      have q := x.cell y c e
      rw [bindC_get ndP hp hu (by show scope.names.lookup y ≠ _; rw [k]; decide)] at q
      exact q
  · exact e0.hok.fresh (Nat.le_of_lt (x.above y c (PySem.mem_of_lookup h)))
  · exact absurd (show q ∈ ([] : List (Addr × Obj)) from hq) (by simp)
  · unfold L2.start
    show _ = N.length
    rw [List.length_append, List.length_map, List.length_replicate]
    omega
theorem fn_ofQ {CX : CXT} {P : Program} {w : World} {K : PySem.W.Frag} {mg : Str → Option Value} {base : Heap} {k : Nat} {f : Addr} {name qual : Str} {params : Arguments} {body : List Stmt} {scope : Scope} {dV kV doc pm cdv ct oc : Value} {an od : Option Addr}
    {osl : Array (Option Value)} {N ps : List Str} {sp : Sp} (lk : K.lookup f = some ⟨oc, od, .func (PySem.W.fnOf name qual params body scope dV kV doc pm an cdv ct), osl⟩) (hcd : PySem.W.codeIn K cdv qual = true) (S : FnScope N ps scope)
    (len : ∀ vs H Q E, sp vs H Q E → vs.length = ps.length)
    (hbody : ∀ (A : Around) (outer : List Env) (s : Shared) (H : Hp) (vs : List V) (Q : VK) (E : XK), L2H.RoomH k (A.deeper (envOfC qual scope s.heap.objs.size f cdv)) → sp vs H Q E →
      ∃ t, PSs (cxQ CX P w K mg base N qual scope f cdv A outer s H E) body t ∧ t { nx := fun _ H' => Q .non H', rt := Q } (L2.start N vs) H) :
    FnQ P w K mg base CX (k + 1) f (PySem.W.fnOf name qual params body scope dV kV doc pm an cdv ct) ps sp := by
  refine ⟨len, fun A outer s H args us vs Q E hr e0 hb r hsp => ?_⟩
  have hl := len _ _ _ _ hsp
  have KX : K.In s.heap := e0.mod.kin.keeps fun b o e => (e0.bs b o e).1
  have lim : s.heap.NoLimit := e0.mod.nolimit.keeps fun b o e => (e0.bs b o e).1
  have hkind : ∀ y ∈ ps.zip us, scope.names.lookup y.1 = some .local ∨ (scope.names.lookup y.1 = some .cell ∧ ((cellsFrom (s.heap.objs.size + 1) scope.names []).lookup y.1).isSome = true) := fun ⟨n, v⟩ hy => by
    rcases S.par n (List.of_mem_zip hy).1 with q | q
    · exact .inl q
    · exact .inr ⟨q, PySem.W.cellsFrom_some _ _ _ (.inl q)⟩
  refine codeAny_call_function hr.depth (KX _ _ lk) rfl S.co S.gen rfl (PySem.W.codeRec_of KX hcd) (hb _ _ _ _ ?_)
  refine wpAny_newFunctionEnv_cells S.kind hkind fun env he s1 x => ?_
  subst he
  refine ⟨lim.keeps x.toInCall.keep, codeAny_func ?_⟩
  obtain ⟨t, ht, hq⟩ := hbody A outer s H vs Q E (hr.deeper _) hsp
  have I : Inv (cxQ CX P w K mg base N qual scope f cdv A outer s H E) [] (L2.start N vs) H s1 := inv_startQ S e0 hl r x
  refine wpAny_mono (ht.run [] s1 (L2.start N vs) H _ I hq) (fun fl s' hs => ?_) fun e s' hs => hs
  have fin : ∀ {σ' : L2.St} {H' : Hp} {v : V} {u : Value}, Inv (cxQ CX P w K mg base N qual scope f cdv A outer s H E) [] σ' H' s' → RelV v u → Q v H' → CE outer P w H s Q u s' :=
    fun {σ' H' v u} J rv q => ⟨v, H', J.os, J.bare, J.base, J.hok, rv, q⟩
  cases fl with
  | ret u =>
    obtain ⟨v, σ', H', J, rv, q⟩ := hs
    exact fin J rv q
  | next =>
    obtain ⟨σ', H', J, q⟩ := hs
    exact fin (v := V.non) (u := Value.none) J rfl q
  | brk =>
    obtain ⟨_, _, _, q⟩ := hs
    exact False.elim q
  | cont =>
    obtain ⟨_, _, _, q⟩ := hs
    exact False.elim q
theorem _root_.L2.Fun.okQ {P : Program} {w : World} {K : PySem.W.Frag} {mg : Str → Option Value} {base : Heap} {x qual : Str} {st : Stmt} {f : Addr} {fd : FuncData} {N ps : List Str} {k : Nat} {sp : Sp} (F : Fun K x qual st f fd) (S : FnScope N ps (defScope st)) (len : ∀ vs H Q E, sp vs H Q E → vs.length = ps.length)
    (hbody : ∀ (cdv : Value) (A : Around) (outer : List Env) (s : Shared) (H : Hp) (vs : List V) (Q : VK) (E : XK), L2H.RoomH k (A.deeper (envOfC qual (defScope st) s.heap.objs.size f cdv)) → sp vs H Q E →
      ∃ t, PSs (cxQ (L2.CX P w) P w K mg base N qual (defScope st) f cdv A outer s H E) (defBody st) t ∧ t { nx := fun _ H' => Q .non H', rt := Q } (L2.start N vs) H) : FnQ P w K mg base (L2.CX P w) (k + 1) f fd ps sp := by
  obtain ⟨oc, od, kV, doc, pm, an, cdv, ct, osl, rfl, lk, hcd⟩ := F.ex
  exact fn_ofQ lk hcd S len fun A outer s H vs Q E hr hsp => hbody cdv A outer s H vs Q E hr hsp
theorem run_fnQ {P : Program} {w : World} {pins : List (Addr × Obj)} {σ : L2.St} {H : Hp} {s : Shared} {Q : VK} {us : List Value} {vs : List V} (F : FnQ X.prog X.w X.K X.mg X.base (L2.CX P w) k f fd ps sp) (hr : L2H.RoomH k X.A) (hb : Binds X.K fd ps [])
    (I : Inv X pins σ H s) (r : Vals vs us) (h : sp vs H Q E0) : wpAny (model X.prog X.w) X.A (call (.ref f) us) (EP X pins σ Q) X.xe s := by
  have hl : us.length = ps.length := by rw [← r.length]; exact F.len _ _ _ _ h
  have b := hb s us I.kIn (by rw [List.append_nil]; exact hl)
  rw [List.append_nil] at b
  refine wpAny_call (codeAny_mono (F.run X.A X.stack s H ⟨us, []⟩ us vs Q E0 hr I.env0 b r h) fun r s' hq => ?_)
  cases r with
  | error e =>
    obtain ⟨_, _, _, _, _, _, _, _, _, _, _, _, z⟩ := hq
    exact z.elim
  | ok fl =>
    cases fl with
    | ret u => exact I.after hq
    | next => exact False.elim hq
    | brk => exact False.elim hq
    | cont => exact False.elim hq
theorem rmH {A : Around} (r : Room k A) (h : Option Value) : L2H.RoomH k (A.mark h) := ⟨r.dp, r.un⟩
/-- the object oe stands at a, for good -/
def fzO (oe : Obj) : HO := .frz oe (.own 0)
theorem run_fnE {P : Program} {w : World} {pins : List (Addr × Obj)} {σ : L2.St} {H : Hp} {s : Shared} {Q : VK} {us : List Value} {vs : List V} (F : FnQ X.prog X.w X.K X.mg X.base (L2.CX P w) k f fd ps sp) (hr : L2H.RoomH k X.A) (hb : Binds X.K fd ps [])
    (I : Inv X pins σ H s) (hp : (a, oe) ∈ X.pn) (r : Vals vs us) (h1 : X.base.get? a = none → H a = none → sp vs (upd H a (fzO oe)) (fun v H' => Q v (delH H' a)) E0) (h2 : X.base.get? a = some oe → sp vs H Q E0) :
    wpAny (model X.prog X.w) X.A (call (.ref f) us) (EP X pins σ Q) X.xe s := by
  obtain ⟨pg, pnn, pl, pf, pc⟩ := I.pin (a, oe) (List.mem_append.mpr (.inl hp))
  dsimp only at pg pnn pl pf pc
  cases hba : X.base.get? a with
  | some ob =>
    have : ob = oe := by
      have := I.bk a ob hba
      rw [pg] at this
      exact (Option.some.inj this).symm
    subst this
    exact run_fnQ F hr hb I r (h2 hba)
  | none =>
    have h := h1 hba pnn
    have hl : us.length = ps.length := by rw [← r.length]; exact F.len _ _ _ _ h
    have b := hb s us I.kIn (by rw [List.append_nil]; exact hl)
    rw [List.append_nil] at b
    have nfs : a ∉ frs X.stack := fun z => by
      rcases List.mem_cons.mp (I.stkSub a z) with z | z
      · exact pl z
      · exact pf z
    have hok : HOk X.prog X.w (upd H a (fzO oe)) s.heap := HOk.laidN I.hok (fun _ _ q => q) pnn ⟨pg, oe, pg⟩
    have e0 : Env0 X.prog X.w X.K X.mg X.base X.A X.stack s (upd H a (fzO oe)) :=
      ⟨I.ok.frames, I.ok.mod, fun c o q => ⟨(I.bs c o q).1, by rw [upd_ne (fun z => by rw [z, hba] at q; cases q)]; exact (I.bs c o q).2⟩, Nat.le_trans I.ok.bsz I.sz, I.stack, fun c hc => by rw [upd_ne (fun z => nfs (by rw [← z]; exact hc))]; exact I.stkFree c hc, hok, I.bare⟩
    refine wpAny_call (codeAny_mono (F.run X.A X.stack s _ ⟨us, []⟩ us vs _ E0 hr e0 b r h) fun r s' hq => ?_)
    cases r with
    | error e =>
      obtain ⟨_, _, _, _, _, _, _, _, _, _, _, _, z⟩ := hq
      exact z.elim
    | ok fl =>
      cases fl with
      | ret u =>
        obtain ⟨v, H', os, bare, un, hok', rv, q⟩ := hq
        have ea : H' a = some (fzO oe) := un.frzs a oe (.own 0) upd_same
        have ga : s'.heap.get? a = some oe := (hok' a _ ea).1
        refine I.after (Q := Q) ⟨v, delH H' a, os, bare, ?_, ?_, rv, q⟩
        · refine ⟨fun c o q1 q2 q3 q4 => ?_, fun c o q1 q2 q3 q4 => ?_, fun c o q1 q2 q3 => ?_, un.there, fun c xs q1 => ?_, fun c o u q1 => ?_, fun c ts q1 => ?_⟩
          · by_cases hc : c = a
            · subst hc
              rw [pg] at q1
              cases q1
              exact ga
            · exact un.keep c o q1 (by rw [upd_ne hc]; exact q2) q3 q4
          · have hc : c ≠ a := fun z => nfs (by rw [← z]; exact q3)
            exact un.slot c o q1 (by rw [upd_ne hc]; exact q2) q3 q4
          · by_cases hc : c = a
            · rw [hc, delH_same]
            · rw [delH_ne hc]
              exact un.free c o q1 (by rw [upd_ne hc]; exact q2) q3
          · have hc : c ≠ a := fun z => by rw [z, pnn] at q1; cases q1
            rw [delH_ne hc]
            exact un.tups c xs (by rw [upd_ne hc]; exact q1)
          · have hc : c ≠ a := fun z => by rw [z, pnn] at q1; cases q1
            rw [delH_ne hc]
            exact un.frzs c o u (by rw [upd_ne hc]; exact q1)
          · have hc : c ≠ a := fun z => by rw [z, pnn] at q1; cases q1
            rw [delH_ne hc]
            exact un.tbls c ts (by rw [upd_ne hc]; exact q1)
        · intro c u e1
          have hc : c ≠ a := fun z => by rw [z, delH_same] at e1; cases e1
          rw [delH_ne hc] at e1
          refine (hok' c u e1).stay (fun _ _ _ q => q) (fun d q => ?_) fun d xs q => ?_
          · rw [delH_ne (fun z => by rw [z, ea] at q; cases q)]; exact q
          · rw [delH_ne (fun z => by rw [z, ea] at q; cases q)]; exact q
      | next => exact False.elim hq
      | brk => exact False.elim hq
      | cont => exact False.elim hq
def kCallE (base : Heap) (a : Addr) (oe : Obj) (sp : Sp) (vs : List V) (H : Hp) (Q : VK) : Prop := (base.get? a = none → H a = none → sp vs (upd H a (fzO oe)) (fun v H' => Q v (delH H' a)) E0) ∧ (base.get? a = some oe → sp vs H Q E0)
def kWord (base : Heap) (a : Addr) (cls : Value) (d : Option Addr) (sp : Sp) (vs : List V) (H : Hp) (Q : VK) : Prop := ∀ oe, Zc cls d oe → (∃ ws, oe.data = .fields ws) → kCallE base a oe sp vs H Q
def tClE (base : Heap) (a : Addr) (cls : Value) (d : Option Addr) (sp : Sp) (t : TA) : L2.TE := fun σ H Q => t σ H fun vs H1 => kWord base a cls d sp vs H1 Q
theorem pe_clE {P : Program} {w : World} {base : Heap} {sp : Sp} {cls : Value} {d : Option Addr} (hB : X.base = base) (hp : (a, oe) ∈ X.pn) (hz : Zc cls d oe) (hf : ∃ vs, oe.data = .fields vs) (F : FnQ X.prog X.w X.K X.mg X.base (L2.CX P w) k f fd ps sp) (hr : L2H.RoomH k X.A) (hm : X.mg x = some (.ref f)) (hk : PySem.W.keepIn X.K (.ref f) = true) (hb : Binds X.K fd ps [])
    (ha : PA X (e :: es) t) (hg : Gl X x := by rfl) (hdb : (x == ("__debug__" : Str)) = false := by decide) (he : starEach (e :: es) X.env = (false, eval e X.env) :: starEach es X.env := by rfl) (hpl : (backTo pos (starEach es X.env)).any (·.1) = false := by rfl) :
    PE X (.Call (.Name x p) (e :: es) [] pos) (tClE base a cls d sp t) := by
  subst hB
  refine ⟨fun pins s σ H Q I h => ?_⟩
  refine wpAny_Call_Name_kw (ld_glob I hg hm ?_ hdb)
  refine PySem.W.callWith_K (h₀ := X.base) I.ok.mod.kin hk (thn (ha.run pos pins s σ H _ I h) fun us s1 ⟨vs, H1, I1, r, q⟩ => ⟨I1.kIn, ?_⟩) he hpl
  exact run_fnE F hr hb I1 hp r (q oe hz hf).1 (q oe hz hf).2
/-! ### in the def: what was handed in -/
def excA (base : Heap) (a : Addr) (oe : Obj) : Asrt := fun h => base.get? a = some oe ∨ h a = some (fzO oe)
theorem Star.del {a : Addr} {oe : Obj} {l : List Asrt} {H : Hp} (S : Star (pt a (fzO oe) :: l) H) : Star l (delH H a) := by
  obtain ⟨h1, h2, d, s1, s2, x, y⟩ := S
  have n2 : h2 a = none := by
    cases q : h2 a with
    | none => rfl
    | some v =>
      obtain ⟨_, ⟨xs, z⟩⟩ := d a (fzO oe) v x q
      cases z
  exact y.mono fun b o e => by rw [delH_ne (fun z => by rw [z, n2] at e; cases e)]; exact s2 b o e
theorem kCallE_star {base : Heap} {sp : Sp} {vs : List V} {H : Hp} {Q : VK} {L : List Asrt} (S : Star L H) (h : ∀ H2 Q2, Star (excA base a oe :: L) H2 → (∀ v H' L', Star (excA base a oe :: L') H' → (∀ H3, Star L' H3 → Q v H3) → Q2 v H') → sp vs H2 Q2 E0) : kCallE base a oe sp vs H Q := by
  refine ⟨fun hb hn => h _ _ ?_ ?_, fun hb => h _ _ ?_ ?_⟩
  · exact (S.new (o := fzO oe) hn).hd fun _ x => .inr x
  · intro v H' L' S' hq
    refine hq _ (Star.del (oe := oe) (S'.hd fun _ x => ?_))
    rcases x with x | x
    · rw [hb] at x; cases x
    · exact x
  · exact S.free (.inl hb)
  · intro v H' L' S' hq
    exact hq _ S'.tail
/-- isinstance of it -/
def rIsF (K : PySem.W.Frag) (base : Heap) : List V → Hp → VK → Prop := fun xs H Q => ∃ (a : Addr) (oe : Obj) (D : Addr) (c : V) (cv : Value) (b : Bool), xs = [.ref a, c] ∧ (base.get? a = some oe ∨ H a = some (fzO oe)) ∧ ExcC K D ∧ Zc (.ref D) none oe ∧ (∃ vs, oe.data = .fields vs) ∧ (∀ u, RelV c u → u = cv) ∧ PySem.W.kitOne K (.ref D) cv = some b ∧ Q (.bl b) H
theorem callIsF {K : PySem.W.Frag} {base : Heap} (eK : X.K = K) (eB : X.base = base) : CallR X (.builtin "isinstance") (rIsF K base) := by
  subst eK eB
  intro pins s σ H xs us Q I r h
  obtain ⟨a, oe, D, c, cv, b, rfl, hat, C, hz, hf, hcv, e, q⟩ := h
  cases r with
  | cons rx rr =>
    cases rr with
    | cons rt rr =>
      cases rr
      cases rx
      have ec := hcv _ rt
      subst ec
      have hget : s.heap.get? a = some oe := by
        rcases hat with z | z
        · exact I.bk a oe z
        · exact (I.hok a _ z).1
      obtain ⟨vs, hv⟩ := hf
      have J : PySem.W.InstAt s.heap a oe D none := by
        obtain ⟨oc, od, oda, osl⟩ := oe
        obtain ⟨h1, h2⟩ := hz
        dsimp only at h1 h2 hv
        subst h1 h2 hv
        exact ⟨hget, rfl, rfl, trivial⟩
      exact PySem.W.kia_one (PySem.W.handS_kitx_exc C.hg C.hk C.hs C.hd C.ha C.hn C.ht C.hm) I.kIn J e (fun z => nomatch z) fun tk => ⟨.bl b, H, I.kept (t' := tk) fun _ _ z => z, rfl, q⟩
/-- an exception of the class D -/
def excD (D : Addr) (oe : Obj) : Prop := Zc (.ref D) none oe ∧ ∃ vs, oe.data = .fields vs
theorem r_isF {K : PySem.W.Frag} {base : Heap} {D C : Addr} {b : Bool} {H : Hp} {Q : VK} {L l : List Asrt} [w : ExK K D] [kk : Ki K (.ref D) (.ref C) b] (hd : excD D oe) (S : Star L H) (P : Pull (excA base a oe) L l) (h : Q (.bl b) H) : rIsF K base [.ref a, .ref C] H Q := by
  obtain ⟨h1, s, x⟩ := (S.pull P).has (.head _)
  refine ⟨a, oe, D, .ref C, .ref C, b, rfl, ?_, w.e, hd.1, hd.2, fun u r => r, kk.e, h⟩
  rcases x with x | x
  · exact .inl x
  · exact .inr (s _ _ x)
instance {K : PySem.W.Frag} {base : Heap} {xs : List V} {H : Hp} {Q : VK} : Grp (rIsF K base xs H Q) 10 := ⟨⟩
instance {K : PySem.W.Frag} {base : Heap} {xs : List V} {H : Hp} {Q : VK} : Grp (rIsF K base xs H Q) 171 := ⟨⟩
instance i_r_clE {base : Heap} {sp : Sp} {t : TA} {σ : L2.St} {H : Hp} {Q : VK} {cls : Value} {d : Option Addr} : Stp (tClE base a cls d sp t σ H Q) (t σ H fun vs H1 => kWord base a cls d sp vs H1 Q) := ⟨id⟩
instance {base : Heap} {sp : Sp} {vs : List V} {H : Hp} {Q : VK} {cls : Value} {d : Option Addr} : Grp (kWord base a cls d sp vs H Q) 3 := ⟨⟩
instance {base : Heap} {sp : Sp} {vs : List V} {H : Hp} {Q : VK} {cls : Value} {d : Option Addr} : Grp (kWord base a cls d sp vs H Q) 172 := ⟨⟩
/-- a def that says what an exception is -/
def spWord {β : Type} (base : Heap) (W : Addr → β → Prop) (val : β → V) : Sp := fun vs H Q E => ∃ (a : Addr) (oe : Obj) (D : Addr) (s : β) (l : List Asrt), vs = [.ref a] ∧ Star (excA base a oe :: l) H ∧ (excD D oe ∧ W D s) ∧ ∀ H', Star (excA base a oe :: l) H' → Q (val s) H'
theorem c_word {β : Type} {base : Heap} {W : Addr → β → Prop} {val : β → V} {D : Addr} {s : β} {H : Hp} {Q : VK} {L : List Asrt} (S : Star L H) (hW : W D s) (q : ∀ H', Star L H' → Q (val s) H') : kWord base a (.ref D) none (spWord base W val) [.ref a] H Q :=
  fun oe hz hf => kCallE_star S fun H2 Q2 S2 h => ⟨a, oe, D, s, L, rfl, S2, ⟨⟨hz, hf⟩, hW⟩, fun H' S' => h _ _ _ S' fun H3 S3 => q H3 S3⟩
end
end Fl
/-! Fl: the house in plain Lean, and raising while a dict is walked. -/
namespace Fl
open PySem PySem.Spec PyProof.Rows L2
def wUnl (H0 : Hp) (W : WX) : WX := fun cls dd σ H => ∃ d od u, H d = some (.frz od u) ∧ (∀ o' u', H0 d ≠ some (.frz o' u')) ∧ W cls dd σ (upd H d u)
theorem takes_unl {X : Cx} {W : WX} (tk : Takes X W) : Takes X (wUnl X.H_0 W) := fun u s' ⟨a, B, sI, pins, σ, H, cls, dd, e, I, nb, up, sky, na, os, ag, w⟩ => by
  obtain ⟨d, od, v, hd, hn, w⟩ := w
  exact tk u s' ⟨a, B, sI, pins, σ, upd H d v, cls, dd, e, I.unlock hd hn, nb, up, sky, by rw [upd_ne (fun z => by rw [z, hd] at na; cases na)]; exact na, os, ag, w⟩
theorem r_wUnl {H0 H : Hp} {W : WX} {cls : Value} {dd : Option Addr} {σ : L2.St} {d : Addr} {od : Obj} {u : HO} {L l : List Asrt} (S : Star L H) (P : Pull (pt d (.frz od u)) L l) (hn : ∀ o' u', H0 d ≠ some (.frz o' u')) (h : ∀ H', Star (pt d u :: l) H' → W cls dd σ H') : wUnl H0 W cls dd σ H :=
  ⟨d, od, u, (S.pull P).get (.head _), hn, h _ ((S.pull P).upd fun ⟨_, q⟩ => nomatch q)⟩
/-- as tLock, and it is told that the thing was not locked at the def's entry -/
def tLockN (H0 : Hp) (t : TS) : TS := fun D σ H => ∃ d u, H d = some u ∧ Mut (some u) ∧ ((∀ o' u', H0 d ≠ some (.frz o' u')) → ∀ od, t ⟨fun σ' H' => H' d = some (.frz od u) ∧ D.nx σ' (upd H' d u), fun v H' => H' d = some (.frz od u) ∧ D.rt v (upd H' d u), fun σ' H' => H' d = some (.frz od u) ∧ D.bk σ' (upd H' d u), fun σ' H' => H' d = some (.frz od u) ∧ D.ct σ' (upd H' d u)⟩ σ (upd H d (.frz od u)))
theorem ps_lockN {X : Cx} {st : Stmt} {t : TS} (h : PS X st t) : PS X st (tLockN X.H_0 t) := by
  refine ⟨fun pins s σ H D I hw => ?_⟩
  obtain ⟨d, u, hd, mu, hw⟩ := hw
  exact (ps_lock h).run pins s σ H D I ⟨d, u, hd, mu, hw (I.nofrz hd mu)⟩
theorem r_lockN {ts : TS} {u : HO} {H0 H : Hp} {d : Addr} {L l : List Asrt} {nx bk ct : L2.St → Hp → Prop} {rt : VK} {σ : L2.St} (mu : Mut (some u)) (S : Star L H) (P : Pull (pt d u) L l)
    (h : (∀ o' u', H0 d ≠ some (.frz o' u')) → ∀ od H', Star (pt d (.frz od u) :: l) H' → ts ⟨fun σ' H' => kUnl d od u H' fun H2 => nx σ' H2, fun v H' => kUnl d od u H' fun H2 => rt v H2, fun σ' H' => kUnl d od u H' fun H2 => bk σ' H2, fun σ' H' => kUnl d od u H' fun H2 => ct σ' H2⟩ σ H') : tLockN H0 ts ⟨nx, rt, bk, ct⟩ σ H := by
  refine ⟨d, u, (S.pull P).get (.head _), mu, fun hn od => h hn od _ ((S.pull P).upd fun ⟨_, q⟩ => ?_)⟩
  subst q; exact mu
/-! the least number that is free -/
def isLeast (ks : List Int) (n : Int) : Prop := 0 ≤ n ∧ n ∉ ks ∧ ∀ m, 0 ≤ m → m < n → m ∈ ks
theorem least_uniq {ks : List Int} {n m : Int} (a : isLeast ks n) (b : isLeast ks m) : n = m := by
  rcases Int.lt_trichotomy n m with h | h | h
  · exact absurd (b.2.2 n a.1 h) a.2.1
  · exact h
  · exact absurd (a.2.2 m b.1 h) b.2.1
theorem pigeon : ∀ (n : Nat) (ks : List Int), (∀ i : Nat, i < n → (i : Int) ∈ ks) → n ≤ ks.length
  | 0, _, _ => Nat.zero_le _
  | n + 1, ks, h => by
    have := pigeon n (ks.filter fun k => decide (k ≠ (n : Int))) fun i hi => List.mem_filter.mpr ⟨h i (by omega), decide_eq_true (by omega)⟩
    have h2 : (ks.filter fun k => decide (k ≠ (n : Int))).length < ks.length := by
      rcases Nat.lt_or_ge (ks.filter fun k => decide (k ≠ (n : Int))).length ks.length with q | q
      · exact q
      · exfalso
        have e := List.filter_sublist.eq_of_length_le (l₁ := ks.filter fun k => decide (k ≠ (n : Int))) (l₂ := ks) q
        have := h n (by omega)
        rw [← e] at this
        have := of_decide_eq_true (List.mem_filter.mp this).2
        exact this rfl
    omega
theorem least_le {ks : List Int} {n : Int} (h0 : 0 ≤ n) (h : ∀ m, 0 ≤ m → m < n → m ∈ ks) : n ≤ ks.length := by
  have := pigeon n.toNat ks fun i hi => h i (by omega) (by omega)
  omega
/-! the house -/
def stOf (ms : List (Int × Spans)) (t : Int) : Spans := (lkI ms t).getD []
theorem stOf_some {ms : List (Int × Spans)} {t : Int} (h : ¬ lkI ms t = none) : lkI ms t = some (stOf ms t) := by
  unfold stOf
  cases e : lkI ms t with
  | none => exact absurd e h
  | some x => rfl
def anyTied (ms : List (Int × Spans)) (b : Int) : Bool := ms.any fun e => isTied e.2 b
end Fl
/-! Fl: dicts from whole numbers to truths; dicts by their keys alone. -/
namespace Fl
open PySem PySem.Spec PyProof.Rows L2
def dmB (es : List (Int × Bool)) : Dk := es.map fun e => (Sum.inl e.1, V.bl e.2)
class DmB (kvs : Dk) (es : outParam (List (Int × Bool))) : Prop where e : kvs = dmB es
instance dmB0 : DmB [] [] := ⟨rfl⟩
instance dmB1 {es : List (Int × Bool)} : DmB (dmB es) es := ⟨rfl⟩
section
variable {K : PySem.W.Frag} {L l m : List Asrt} {H : Hp} {Q : VK} {d : Addr} {kvs : Dk} {es : List (Int × Bool)} {n : Int} {x : Bool} {z : V} {w : Hp → Prop}
theorem r_inB [q : DmB kvs es] (S : Star L H) (P : Pull (pt d (.dK kvs)) L l) (h : Q (.bl (lkI es n).isSome) H) : kDIn (.int n) (.ref d) H Q := r_kDIn S P (by rw [q.e]; unfold dmB; rw [dm_val (f := V.bl)]; simpa using h)
theorem r_notDB [q : DmB kvs es] (S : Star L H) (P : Pull (pt d (.dK kvs)) L l) (h : Q (.bl (!(lkI es n).isSome)) H) : kDNot (.int n) (.ref d) H Q := r_kDNot S P (by rw [q.e]; unfold dmB; rw [dm_val (f := V.bl)]; simpa using h)
theorem r_getB [q : DmB kvs es] (S : Star L H) (P : Pull (pt d (.dK kvs)) L l) (e : lkI es n = some x) (h : Q (.bl x) H) : kDGet (.ref d) (.int n) H Q := r_kDGet S P (by rw [q.e]; unfold dmB; rw [dm_val (f := V.bl), e]; rfl) h
theorem r_putB [q : DmB kvs es] (S : Star L H) (P : Pull (pt d (.dK kvs)) L l) (z : kvs.length < 100000) (h : ∀ H', Star (pt d (.dK (dmB (putI es n x))) :: l) H' → w H') : kDPut (.ref d) (.int n) (.bl x) H w := by
  refine r_kDPut S P (Evl.sz_lt z) fun H' S' => h H' ?_
  have e := q.e
  subst e
  unfold dmB at S' ⊢
  rw [dm_put (f := V.bl)] at S'
  exact S'
theorem r_popB [q : DmB kvs es] (S : Star L H) (P : Pull (pt d (.dK kvs)) L l) (e : lkI es n = some x) (h : ∀ H', Star (pt d (.dK (dmB (dropI es n))) :: l) H' → Q (.bl x) H') : kDp1 d (.int n) H Q := by
  refine r_kDp1 (v := .bl x) S P (by rw [q.e]; unfold dmB; rw [dm_val (f := V.bl), e]; rfl) fun H' S' => h H' ?_
  have e := q.e
  subst e
  unfold dmB at S' ⊢
  rw [dm_drop (f := V.bl)] at S'
  exact S'
theorem dmB_keys : (dmB es).map (·.1) = (keysI es).map Sum.inl := by
  unfold dmB keysI
  rw [List.map_map, List.map_map]; rfl
theorem r_sortedDB [q : DmB kvs es] (S : Star L H) (P : Pull (pt d (.dK kvs)) L l) (z : kvs.length < 64) (h : ∀ (ms : List Int) q H', ms.Perm (keysI es) → ms.Pairwise (· ≤ ·) → Star (pt q (.lst (ms.map V.int)) :: L) H' → Q (.ref q) H') : cSortedD [.ref d] H Q := by
  refine r_sortedD S P (ks := keysI es) (by rw [q.e]; exact dmB_keys) ?_ h
  have e := q.e
  subst e
  unfold keysI
  unfold dmB at z
  rw [List.length_map] at z ⊢
  exact z
theorem dmB_len : (dmB es).length = es.length := by unfold dmB; rw [List.length_map]
theorem r_lenDB [q : DmB kvs es] (S : Star L H) (P : Pull (pt d (.dK kvs)) L l) (h : Q (.int (es.length : Int)) H) : cLenD [.ref d] H Q := r_lenD S P (by rw [q.e, dmB_len]; exact h)
end
/-! by the keys alone -/
section
variable {K : PySem.W.Frag} {L l : List Asrt} {H : Hp} {Q : VK} {d : Addr} {kvs : Dk} {ks : List Int} {n : Int}
def keyed (kvs : Dk) (ks : List Int) : Prop := kvs.map (·.1) = ks.map Sum.inl
theorem keyed_I {es : List (Int × Int)} : keyed (dmI es) (keysI es) := dmI_keys
theorem keyed_B {es : List (Int × Bool)} : keyed (dmB es) (keysI es) := dmB_keys
theorem keyed_val : ∀ {kvs : Dk} {ks : List Int}, keyed kvs ks → (valV kvs (Sum.inl n : Key)).isSome = decide (n ∈ ks)
  | [], [], _ => rfl
  | [], _ :: _, h => nomatch h
  | _ :: _, [], h => nomatch h
  | kv :: kvs, k :: ks, h => by
    unfold keyed at h
    rw [List.map_cons, List.map_cons] at h
    injection h with h1 h2
    have ih := keyed_val (kvs := kvs) (ks := ks) h2
    obtain ⟨kk, v⟩ := kv
    dsimp only at h1
    subst h1
    by_cases e : k = n
    · subst e
      rw [valV_pos rfl]; simp
    · rw [valV_neg (fun q => e (Sum.inl.inj q)), ih]
      have : decide (n ∈ k :: ks) = decide (n ∈ ks) := decide_eq_decide.mpr ⟨fun z => by
        rcases List.mem_cons.mp z with z | z
        · exact absurd z.symm e
        · exact z, fun z => .tail _ z⟩
      rw [this]
theorem r_inK (S : Star L H) (P : Pull (pt d (.dK kvs)) L l) (hk : keyed kvs ks) (h : Q (.bl (decide (n ∈ ks))) H) : kDIn (.int n) (.ref d) H Q := r_kDIn S P (by rw [keyed_val hk]; exact h)
theorem r_notK (S : Star L H) (P : Pull (pt d (.dK kvs)) L l) (hk : keyed kvs ks) (h : Q (.bl (!decide (n ∈ ks))) H) : kDNot (.int n) (.ref d) H Q := r_kDNot S P (by rw [keyed_val hk]; exact h)
theorem r_lenK (S : Star L H) (P : Pull (pt d (.dK kvs)) L l) (hk : keyed kvs ks) (h : Q (.int (ks.length : Int)) H) : cLenD [.ref d] H Q := r_lenD S P (by
  have : kvs.length = ks.length := by
    have := congrArg List.length (show kvs.map (·.1) = ks.map Sum.inl from hk)
    rwa [List.length_map, List.length_map] at this
  rw [this]; exact h)
theorem r_sortedK (S : Star L H) (P : Pull (pt d (.dK kvs)) L l) (hk : keyed kvs ks) (z : ks.length < 64) (h : ∀ q H', Star (pt q (.lst ((sortI ks).map V.int)) :: L) H' → Q (.ref q) H') : cSortedD [.ref d] H Q :=
  r_sortedD S P (ks := ks) hk z fun ms q H' hp hw S' => h q H' (by rw [← sortI_of hp hw]; exact S')
theorem r_clearL {xs : List V} (S : Star L H) (P : Pull (pt d (.lst xs)) L l) (h : ∀ H', Star (pt d (.lst []) :: l) H' → Q .non H') : rClear (.ref d) [] H Q := ⟨d, _, rfl, rfl, (S.pull P).get (.head _), h _ ((S.pull P).upd fun ⟨_, q⟩ => nomatch q)⟩
end
end Fl
/-! Fl: range with a step. -/
namespace Fl
open PySem PySem.Spec PyProof.Rows L2
section
variable {K : PySem.W.Frag} {L l : List Asrt} {H : Hp} {σ : L2.St} {R : It → Hp → Prop} {ta : TA} {lo c : Int} {n : Nat}
def rgC (lo c : Int) (n : Nat) : List V := (List.range n).map fun i => V.int (lo + (i : Nat) * c)
theorem use_rangeC : kUse (Itc lo c n) gAny yId (rgC lo c n) := ⟨n, _, walk_rangeC, by simp [rgC], fun i H v H' hi ⟨e, q⟩ => ⟨v, by subst q; simp [rgC, hi], rfl, e⟩⟩
def kIR3 (vs : List V) (H : Hp) (R : It → Hp → Prop) : Prop := ∃ (i j c : Int) (n : Nat), vs = [.int i, .int j, .int c] ∧ RgC i j c n ∧ R (Itc i c n) H
theorem r_iR3 (h : ta σ H fun x H1 => kIR3 x H1 R) : iRng3 ta σ H R := h
theorem r_kIR3 {i j c : Int} {n : Nat} (e : RgC i j c n) (h : R (Itc i c n) H) : kIR3 [.int i, .int j, .int c] H R := ⟨i, j, c, n, rfl, e, h⟩
theorem r_wC {g : TG} {tb : TS} {nx bk ct : L2.St → Hp → Prop} {rt : VK} (h : kFl gAny yId g tb nx rt (rgC lo c n) σ H) : kW (Itc lo c n) g tb nx rt bk ct σ H := r_w use_rangeC h
theorem twos {k : Nat} (h : k < 32) : RgC 0 (k : Nat) 2 ((k + 1) / 2) := by
  have : ∀ k < 32, RgC 0 ((k : Nat) : Int) 2 ((k + 1) / 2) := by unfold RgC; decide +kernel
  exact this k h
end
end Fl
/-! Fl: a def with two specs. -/
namespace Fl
open PySem PySem.Spec PyProof.Rows L2
def orS (sp1 sp2 : Sp) : Sp := fun vs H Q E => sp1 vs H Q E ∨ sp2 vs H Q E
theorem fn_or {P : Program} {w : World} {K : PySem.W.Frag} {mg : Str → Option Value} {base : Heap} {CX : CXT} {k : Nat} {f : Addr} {fd : FuncData} {ps : List Str} {sp1 sp2 : Sp} (F : FnOk P w K mg base CX k f fd ps sp1) (G : FnOk P w K mg base CX k f fd ps sp2) : FnOk P w K mg base CX k f fd ps (orS sp1 sp2) :=
  ⟨fun vs H Q E q => q.elim (F.len vs H Q E) (G.len vs H Q E), fun A outer s H args us vs Q E hr he hb hv hs => hs.elim (F.run A outer s H args us vs Q E hr he hb hv) (G.run A outer s H args us vs Q E hr he hb hv)⟩
theorem c_orL {sp1 sp2 : Sp} {vs : List V} {H : Hp} {Q : VK} {E : XK} (h : kCall sp1 vs H Q E) : kCall (orS sp1 sp2) vs H Q E := Or.inl h
theorem c_orR {sp1 sp2 : Sp} {vs : List V} {H : Hp} {Q : VK} {E : XK} (h : kCall sp2 vs H Q E) : kCall (orS sp1 sp2) vs H Q E := Or.inr h
end Fl
/-! Fl: association lists over any key. -/
namespace Fl
open PySem PySem.Spec PyProof.Rows L2
section
variable {κ β : Type} [DecidableEq κ]
def lkG (es : List (κ × β)) (n : κ) : Option β := (es.find? fun e => decide (e.1 = n)).map (·.2)
def putG (es : List (κ × β)) (n : κ) (x : β) : List (κ × β) := if (es.any fun e => decide (e.1 = n)) = true then es.map (fun e => if e.1 = n then (e.1, x) else e) else es ++ [(n, x)]
def dropG (es : List (κ × β)) (n : κ) : List (κ × β) := es.filter fun e => decide (e.1 ≠ n)
def keysG (es : List (κ × β)) : List κ := es.map (·.1)
theorem lkG_nil {n : κ} : lkG ([] : List (κ × β)) n = none := rfl
theorem lkG_cons {e : κ × β} {es : List (κ × β)} {n : κ} : lkG (e :: es) n = if e.1 = n then some e.2 else lkG es n := by
  unfold lkG
  rw [List.find?_cons]
  by_cases h : e.1 = n <;> simp [h]
theorem lkG_any {es : List (κ × β)} {n : κ} : (es.any fun e => decide (e.1 = n)) = (lkG es n).isSome := by
  induction es with
  | nil => rfl
  | cons e es ih =>
    rw [List.any_cons, ih, lkG_cons]
    by_cases h : e.1 = n <;> simp [h]
theorem lkG_mem {es : List (κ × β)} {n : κ} {x : β} (h : lkG es n = some x) : (n, x) ∈ es := by
  induction es with
  | nil => cases h
  | cons e es ih =>
    rw [lkG_cons] at h
    split at h
    · next q => cases h; subst q; exact .head _
    · exact .tail _ (ih h)
theorem lkG_none {es : List (κ × β)} {n : κ} : lkG es n = none ↔ n ∉ keysG es := by
  induction es with
  | nil => simp [lkG, keysG]
  | cons e es ih =>
    rw [lkG_cons]
    unfold keysG at ih ⊢
    rw [List.map_cons, List.mem_cons]
    split
    · next q => simp [q]
    · next q => rw [ih]; simp [Ne.symm q]
theorem lkG_some {es : List (κ × β)} {n : κ} (h : n ∈ keysG es) : ∃ x, lkG es n = some x := by
  cases e : lkG es n with
  | some x => exact ⟨x, rfl⟩
  | none => exact absurd h (lkG_none.mp e)
theorem gmem_lk {es : List (κ × β)} {n : κ} {x : β} (nd : (keysG es).Nodup) (h : (n, x) ∈ es) : lkG es n = some x := by
  induction es with
  | nil => cases h
  | cons e es ih =>
    unfold keysG at nd
    rw [List.map_cons, List.nodup_cons] at nd
    rw [lkG_cons]
    cases h with
    | head => simp
    | tail _ h =>
      have : e.1 ≠ n := fun q => nd.1 (q ▸ List.mem_map.mpr ⟨_, h, rfl⟩)
      rw [if_neg this]
      exact ih nd.2 h
theorem lkG_snoc {es : List (κ × β)} {n m : κ} {x : β} : lkG (es ++ [(n, x)]) m = (lkG es m).or (if n = m then some x else none) := by
  induction es with
  | nil => simp [lkG_cons, lkG_nil]
  | cons e es ih =>
    rw [List.cons_append, lkG_cons, lkG_cons, ih]
    split <;> simp
theorem lkG_map {es : List (κ × β)} {n m : κ} {x : β} : lkG (es.map fun e => if e.1 = n then (e.1, x) else e) m = if m = n then (lkG es m).map fun _ => x else lkG es m := by
  induction es with
  | nil => simp [lkG]
  | cons e es ih =>
    rw [List.map_cons, lkG_cons, lkG_cons, ih]
    by_cases h : e.1 = n
    · rw [if_pos h]
      by_cases h2 : e.1 = m
      · subst h2; simp [h]
      · rw [if_neg h2, if_neg h2]
    · rw [if_neg h]
      by_cases h2 : e.1 = m
      · subst h2; simp [h]
      · rw [if_neg h2, if_neg h2]
theorem lkG_put {es : List (κ × β)} {n m : κ} {x : β} : lkG (putG es n x) m = if m = n then some x else lkG es m := by
  unfold putG
  rw [lkG_any]
  split
  · next h =>
    rw [lkG_map]
    split
    · next q =>
      subst q
      cases e : lkG es m with
      | none => rw [e] at h; cases h
      | some y => rfl
    · rfl
  · next h =>
    rw [lkG_snoc]
    split
    · next q =>
      rw [if_pos q.symm, ← q]
      cases e : lkG es n with
      | none => simp
      | some y => rw [e] at h; exact absurd rfl h
    · next q => rw [if_neg (Ne.symm q)]; simp
theorem lkG_drop {es : List (κ × β)} {n m : κ} : lkG (dropG es n) m = if m = n then none else lkG es m := by
  induction es with
  | nil => unfold dropG lkG; simp
  | cons e es ih =>
    unfold dropG at ih ⊢
    by_cases h : e.1 = n
    · rw [List.filter_cons_of_neg (by simp [h]), ih, lkG_cons]
      by_cases h2 : m = n
      · rw [if_pos h2, if_pos h2]
      · rw [if_neg h2, if_neg h2, if_neg (fun q => h2 (q.symm.trans h))]
    · rw [List.filter_cons_of_pos (by simp [h]), lkG_cons, ih, lkG_cons]
      by_cases h2 : e.1 = m
      · rw [if_pos h2, if_pos h2, if_neg (fun q => h (h2.trans q))]
      · rw [if_neg h2, if_neg h2]
theorem gkeys_put {es : List (κ × β)} {n : κ} {x : β} : keysG (putG es n x) = if n ∈ keysG es then keysG es else keysG es ++ [n] := by
  unfold putG
  rw [lkG_any]
  by_cases h : n ∈ keysG es
  · obtain ⟨y, e⟩ := lkG_some h
    rw [if_pos (by rw [e]; rfl), if_pos h]
    unfold keysG
    rw [List.map_map]
    exact List.map_congr_left fun e _ => by
      show (if e.1 = n then (e.1, x) else e).1 = e.1
      split <;> rfl
  · rw [if_neg (by rw [lkG_none.mpr h]; exact Bool.false_ne_true), if_neg h]
    unfold keysG
    rw [List.map_append]; rfl
theorem gnodup_put {es : List (κ × β)} {n : κ} {x : β} (h : (keysG es).Nodup) : (keysG (putG es n x)).Nodup := by
  rw [gkeys_put]
  split
  · exact h
  · next q => exact List.nodup_append.mpr ⟨h, by simp, fun a ha b hb e => by rw [List.mem_singleton] at hb; subst hb; subst e; exact q ha⟩
theorem gkeys_drop {es : List (κ × β)} {n : κ} : keysG (dropG es n) = (keysG es).filter fun k => decide (k ≠ n) := by
  unfold keysG dropG
  rw [List.filter_map]; rfl
theorem gnodup_drop {es : List (κ × β)} {n : κ} (h : (keysG es).Nodup) : (keysG (dropG es n)).Nodup := by
  rw [gkeys_drop]; exact h.filter _
theorem glen_put {es : List (κ × β)} {n : κ} {x : β} : (putG es n x).length ≤ es.length + 1 := by
  unfold putG; split <;> simp
theorem glen_drop {es : List (κ × β)} {n : κ} : (dropG es n).length ≤ es.length := List.length_filter_le _ _
theorem gmem_keys_put {es : List (κ × β)} {n m : κ} {x : β} : m ∈ keysG (putG es n x) ↔ m = n ∨ m ∈ keysG es := by
  rw [gkeys_put]
  split
  · next h => exact ⟨fun q => .inr q, fun q => q.elim (fun e => e ▸ h) id⟩
  · rw [List.mem_append, List.mem_singleton]; exact Or.comm
theorem gmem_keys_drop {es : List (κ × β)} {n m : κ} : m ∈ keysG (dropG es n) ↔ m ≠ n ∧ m ∈ keysG es := by
  rw [gkeys_drop, List.mem_filter, decide_eq_true_eq]; exact And.comm
end
theorem putG_putG {κ β : Type} [DecidableEq κ] {es : List (κ × β)} {n : κ} {x y : β} : putG (putG es n x) n y = putG es n y := by
  have e : ((putG es n x).any fun e => decide (e.1 = n)) = true := by rw [lkG_any, lkG_put, if_pos rfl]; rfl
  have e1 : putG (putG es n x) n y = (putG es n x).map fun e => if e.1 = n then (e.1, y) else e := if_pos e
  rw [e1]
  unfold putG
  split
  · rw [List.map_map]
    refine List.map_congr_left fun e _ => ?_
    show (if (if e.1 = n then (e.1, x) else e).1 = n then _ else _) = _
    by_cases h : e.1 = n
    · rw [if_pos h, if_pos h]; simp [h]
    · rw [if_neg h, if_neg h]; simp [h]
  · next h =>
    rw [List.map_append]
    have h2 : lkG es n = none := by rw [lkG_any] at h; simpa using h
    congr 1
    · refine (List.map_congr_left fun e he => ?_).trans (List.map_id _)
      have : e.1 ≠ n := fun q => lkG_none.mp h2 (q ▸ List.mem_map.mpr ⟨e, he, rfl⟩)
      rw [if_neg this]; rfl
    · simp
theorem dropG_putG {κ β : Type} [DecidableEq κ] {es : List (κ × β)} {n : κ} {x : β} : dropG (putG es n x) n = dropG es n := by
  unfold putG
  split
  · unfold dropG
    rw [List.filter_map]
    have : (es.filter ((fun c : κ × β => decide (c.1 ≠ n)) ∘ fun c => if c.1 = n then (c.1, x) else c)) = es.filter fun c => decide (c.1 ≠ n) := by
      refine List.filter_congr fun c _ => ?_
      show decide ((if c.1 = n then (c.1, x) else c).1 ≠ n) = decide (c.1 ≠ n)
      split <;> rfl
    rw [this]
    refine (List.map_congr_left fun c hc => ?_).trans (List.map_id _)
    have := (List.mem_filter.mp hc).2
    rw [decide_eq_true_eq] at this
    rw [if_neg this]; rfl
  · unfold dropG
    rw [List.filter_append]
    simp
theorem putG_same {κ β : Type} [DecidableEq κ] {es : List (κ × β)} {n : κ} {x : β} (nd : (keysG es).Nodup) (e : lkG es n = some x) : putG es n x = es := by
  unfold putG
  rw [lkG_any, e, if_pos (show (some x).isSome = true from rfl)]
  refine (List.map_congr_left fun c hc => ?_).trans (List.map_id _)
  by_cases h : c.1 = n
  · have := gmem_lk nd (n := c.1) (x := c.2) hc
    rw [h, e] at this
    rw [if_pos h, Option.some.inj this]; rfl
  · rw [if_neg h]; rfl
theorem dropG_none {κ β : Type} [DecidableEq κ] {es : List (κ × β)} {n : κ} (e : lkG es n = none) : dropG es n = es :=
  List.filter_eq_self.mpr fun c hc => decide_eq_true (p := c.1 ≠ n) fun h => lkG_none.mp e (h ▸ List.mem_map.mpr ⟨c, hc, rfl⟩)
end Fl
/-! Fl: dicts with tuple keys. -/
namespace Fl
open PySem PySem.Spec PyProof.Rows L2 L2.DX
abbrev TK := List Key
class TupK (xs : List V) (k : outParam TK) : Prop where e : xs = k.map kV
instance tupK0 : TupK [] [] := ⟨rfl⟩
instance tupKi {i : Int} {xs : List V} {k : TK} [q : TupK xs k] : TupK (.int i :: xs) (Sum.inl i :: k) := ⟨by rw [q.e]; rfl⟩
instance tupKs {s : Str} {xs : List V} {k : TK} [q : TupK xs k] : TupK (.str s :: xs) (Sum.inr s :: k) := ⟨by rw [q.e]; rfl⟩
instance tupKm {k : TK} : TupK (k.map kV) k := ⟨rfl⟩
/-- what a dict's object holds: values told by f -/
def dmG {β : Type} (f : β → V) (es : List (TK × β)) : List (List Key × V) := es.map fun e => (e.1, f e.2)
class FV {β : Type} (f : β → V) (v : V) (x : outParam β) : Prop where e : v = f x
instance fvI {i : Int} : FV V.int (.int i) i := ⟨rfl⟩
instance fvB {b : Bool} : FV V.bl (.bl b) b := ⟨rfl⟩
def trueV : Unit → V := fun _ => .bl true
instance fvT : FV trueV (.bl true) () := ⟨rfl⟩
section
variable {β : Type} {f : β → V} {es : List (TK × β)} {n : TK} {x : β}
theorem dmG_val : valV (dmG f es) n = (lkG es n).map f := by
  unfold dmG
  induction es with
  | nil => rfl
  | cons e es ih =>
    rw [List.map_cons, lkG_cons]
    by_cases h : e.1 = n
    · rw [valV_pos (by exact h), if_pos h]; rfl
    · rw [valV_neg (by exact h), if_neg h, ih]
theorem dmG_any : ((dmG f es).any fun kv => decide (kv.1 = n)) = es.any fun e => decide (e.1 = n) := by
  unfold dmG
  rw [List.any_map]; rfl
theorem dmG_put : putK (dmG f es) n (f x) = dmG f (putG es n x) := by
  unfold putK putG
  rw [dmG_any]
  unfold dmG
  split
  · rw [List.map_map, List.map_map]
    refine List.map_congr_left fun e _ => ?_
    show (if e.1 = n then _ else _) = _
    by_cases h : e.1 = n
    · simp [h]
    · rw [if_neg h]; simp [h]
  · rw [List.map_append]; rfl
theorem dmG_drop : dropK (dmG f es) n = dmG f (dropG es n) := by
  unfold dropK dropG dmG
  rw [List.filter_map]; rfl
theorem dmG_len : (dmG f es).length = es.length := List.length_map _
theorem dmG_keys : (dmG f es).map Prod.fst = keysG es := by
  unfold dmG keysG
  rw [List.map_map]; rfl
end
def rPopT1 : V → List V → Hp → VK → Prop := fun x xs H Q => ∃ (a : Addr) (kvs : List (List L2.Key × V)) (k : List L2.Key) (b : Addr) (v : V), x = .ref a ∧ xs = [.ref b] ∧ H a = some (.dT kvs) ∧ H b = some (.tup (k.map kV)) ∧ valV kvs k = some v ∧ Q v (upd H a (.dT (dropK kvs k)))
theorem drop_wo {κ : Type} [DecidableEq κ] {xs : List (κ × Addr × Value)} {k : κ} : withoutH xs k = DT.dropH xs k := rfl
theorem mt_popT1 {X : Cx} (hu : X.A.units + 1 < cLine) : MtR X "dict.pop" rPopT1 := by
  intro pins s σ H x xs v us Q I rx rxs h
  obtain ⟨a, kvs, k, b, v0, rfl, rfl, ha, hb, ev, q⟩ := h
  cases rx
  obtain ⟨u1, rfl, r1⟩ := vals1 rxs
  cases r1
  obtain ⟨z, hd, xs', rel, dd⟩ := dt_of I.hok ha
  have hz : xs'.length ≤ sizeLine := by rw [← Paired.length rel]; exact z
  have r := rel.val k
  rw [ev] at r
  obtain ⟨p, hp, rv⟩ : ∃ p, atKey xs' k = some p ∧ RelV v0 p.2 := by
    cases e : atKey xs' k with
    | none => rw [e] at r; exact (show False from r).elim
    | some p => rw [e] at r; exact ⟨p, rfl, r⟩
  refine call_pop_heap (knd := tupleKind (mixKind X.prog X.w)) (k := k) (more := []) (.inl rfl) (PySem.F.args_dict_pop_2 _ _) (tupleKind_room_in1 hu) (key_of I.hok hb) hd dd hp (fun h' dd' hs => ?_) hz
  obtain ⟨o, es, ep, hq, h2, h3, h4, _, h5⟩ := dd'
  have I2 : Inv X pins σ (upd H a (.dT (dropK kvs k))) { s with heap := h', toks := s.toks + (tupleKind (mixKind X.prog X.w)).draws k } :=
    d_write I (by rw [ha]; exact True.intro) hs ⟨o, hq⟩ ⟨Nat.le_trans (dropK_le kvs k) z, hd, _, (KT_drop k rel).keeps (fun c ys ec => (by rw [upd_ne (ne_of ec ha (fun z => nomatch z))]; exact ec)), o, es, ep, hq, h2, h3, h4, h5⟩
  exact ⟨v0, _, I2, rv, q⟩
def rSetdT : V → List V → Hp → VK → Prop := fun x xs H Q => ∃ (a : Addr) (kvs : List (List L2.Key × V)) (k : List L2.Key) (b : Addr) (d : V), x = .ref a ∧ xs = [.ref b, d] ∧ H a = some (.dT kvs) ∧ H b = some (.tup (k.map kV)) ∧ kvs.length < sizeLine ∧
  (∀ v, valV kvs k = some v → Q v H) ∧ (valV kvs k = none → Q d (upd H a (.dT (putK kvs k d))))
theorem mt_setdT {X : Cx} (hu : X.A.units + 1 < cLine) : MtR X "dict.setdefault" rSetdT := by
  intro pins s σ H x xs v us Q I rx rxs h
  obtain ⟨a, kvs, k, b, d, rfl, rfl, ha, hb, hl, q1, q2⟩ := h
  cases rx
  obtain ⟨u1, u2, rfl, r1, r2⟩ := vals2 rxs
  cases r1
  obtain ⟨z, hd, xs', rel, dd⟩ := dt_of I.hok ha
  have hz : xs'.length ≤ sizeLine := by rw [← Paired.length rel]; exact z
  refine call_setdefault_heap (knd := tupleKind (mixKind X.prog X.w)) (k := k) (tupleKind_room_in1 hu) (key_of I.hok hb) hd dd (fun p hp => ?_) (fun hn h' dd' hs => ?_) hz
  · have r := rel.val k
    rw [hp] at r
    obtain ⟨v0, ev, rv⟩ : ∃ v0, valV kvs k = some v0 ∧ RelV v0 p.2 := by
      cases ev : valV kvs k with
      | none => rw [ev] at r; exact (show False from r).elim
      | some v0 => rw [ev] at r; exact ⟨v0, rfl, r⟩
    exact ⟨v0, H, I.tok _, rv, q1 v0 ev⟩
  · have r := rel.val k
    rw [hn] at r
    have ev : valV kvs k = none := by
      cases ev : valV kvs k with
      | none => rfl
      | some v0 => rw [ev] at r; exact (show False from r).elim
    obtain ⟨o, es, ep, hq, h2, h3, h4, _, h5⟩ := dd'
    have I2 : Inv X pins σ (upd H a (.dT (putK kvs k d))) { s with heap := h', toks := s.toks + (tupleKind (mixKind X.prog X.w)).draws k } :=
      d_write I (by rw [ha]; exact True.intro) hs ⟨o, hq⟩ ⟨(by have := length_putK kvs k d; omega), hd, _, (KT.put rel k hb r2).keeps (fun c ys ec => (by rw [upd_ne (ne_of ec ha (fun z => nomatch z))]; exact ec)), o, es, ep, hq, h2, h3, h4, h5⟩
    exact ⟨d, _, I2, r2, q2 ev⟩
section
variable {K : PySem.W.Frag} {L l m : List Asrt} {H : Hp} {Q : VK} {d p : Addr} {β : Type} {f : β → V} {es : List (TK × β)} {k : TK} {xs : List V} {v z : V} {x : β} {w : Hp → Prop}
theorem two_get {o u : HO} (S : Star L H) (P : Pull (pt d o) L l) (P2 : Pull (pt p u) l m) : H d = some o ∧ H p = some u :=
  ⟨(S.pull P).get (.head _), ((S.pull P).under fun _ S => S.pull P2).get (.tail _ (.head _))⟩
theorem r_inT [q : TupK xs k] (S : Star L H) (P : Pull (pt d (.dT (dmG f es))) L l) (P2 : Pull (pt p (.tup xs)) l m) (h : Q (.bl (lkG es k).isSome) H) : kDIn (.ref p) (.ref d) H Q := by
  have e := q.e; subst e
  obtain ⟨g1, g2⟩ := two_get S P P2
  exact ⟨d, _, rfl, DGet.t g1 g2, by rw [dmG_val]; simpa using h⟩
theorem r_notT [q : TupK xs k] (S : Star L H) (P : Pull (pt d (.dT (dmG f es))) L l) (P2 : Pull (pt p (.tup xs)) l m) (h : Q (.bl (!(lkG es k).isSome)) H) : kDNot (.ref p) (.ref d) H Q := by
  have e := q.e; subst e
  obtain ⟨g1, g2⟩ := two_get S P P2
  exact ⟨d, _, rfl, DGet.t g1 g2, by rw [dmG_val]; simpa using h⟩
theorem r_getT [q : TupK xs k] (S : Star L H) (P : Pull (pt d (.dT (dmG f es))) L l) (P2 : Pull (pt p (.tup xs)) l m) (e : lkG es k = some x) (h : Q (f x) H) : kDGet (.ref d) (.ref p) H Q := by
  have e1 := q.e; subst e1
  obtain ⟨g1, g2⟩ := two_get S P P2
  exact ⟨d, f x, rfl, by have := DGet.t g1 g2; rw [dmG_val, e] at this; exact this, h⟩
theorem r_dgT [q : TupK xs k] (S : Star L H) (P : Pull (pt d (.dT (dmG f es))) L l) (P2 : Pull (pt p (.tup xs)) l m) (h : Q (((lkG es k).map f).getD z) H) : kDg d (.ref p) z H Q := by
  have e := q.e; subst e
  obtain ⟨g1, g2⟩ := two_get S P P2
  exact ⟨_, DGet.t g1 g2, by rw [dmG_val]; exact h⟩
theorem r_putT [q : TupK xs k] [w1 : FV f v x] (S : Star L H) (P : Pull (pt d (.dT (dmG f es))) L l) (P2 : Pull (pt p (.tup xs)) l m) (z : es.length < 100000) (h : ∀ H', Star (pt d (.dT (dmG f (putG es k x))) :: l) H' → w H') : kDPut (.ref d) (.ref p) v H w := by
  have e := q.e; subst e
  have e := w1.e; subst e
  obtain ⟨g1, g2⟩ := two_get S P P2
  refine ⟨d, _, rfl, DPut.t g1 g2 (Evl.sz_lt (by rw [dmG_len]; exact z)), h _ ?_⟩
  rw [dmG_put]
  exact (S.pull P).upd fun ⟨_, q⟩ => nomatch q
theorem r_isDT2 {R : Addr → Prop} (S : Star L H) (P : Pull (pt d (.dT (dmG f es))) L l) (h : R d) : kIsD (.ref d) H R := r_kIsDT S P h
theorem r_kBMT {R : Prop} {kvs : List (List Key × V)} (S : Star L H) (P : Pull (pt d (.dT kvs)) L l) (h : R) : kBM K "dict" (.ref d) H R := ⟨.inr (.inr (.inl ⟨rfl, .inr ⟨kvs, (S.pull P).get (.head _)⟩⟩)), h⟩
theorem r_popT1 [q : TupK xs k] (S : Star L H) (P : Pull (pt d (.dT (dmG f es))) L l) (P2 : Pull (pt p (.tup xs)) l m) (e : lkG es k = some x) (h : ∀ H', Star (pt d (.dT (dmG f (dropG es k))) :: l) H' → Q (f x) H') : rPopT1 (.ref d) [.ref p] H Q := by
  have e1 := q.e; subst e1
  obtain ⟨g1, g2⟩ := two_get S P P2
  refine ⟨d, _, k, p, f x, rfl, rfl, g1, g2, by rw [dmG_val, e]; rfl, h _ ?_⟩
  rw [dmG_drop]
  exact (S.pull P).upd fun ⟨_, q⟩ => nomatch q
theorem r_popT2 [q : TupK xs k] (S : Star L H) (P : Pull (pt d (.dT (dmG f es))) L l) (P2 : Pull (pt p (.tup xs)) l m) (h : ∀ H', Star (pt d (.dT (dmG f (dropG es k))) :: l) H' → Q (((lkG es k).map f).getD v) H') : rPopT (.ref d) [.ref p, v] H Q := by
  have e1 := q.e; subst e1
  obtain ⟨g1, g2⟩ := two_get S P P2
  refine ⟨d, _, k, p, v, rfl, rfl, g1, g2, fun u hu => ?_, fun hn => ?_⟩
  · rw [dmG_val] at hu
    have h2 := h (upd H d (.dT (dropK (dmG f es) k))) (by rw [dmG_drop]; exact (S.pull P).upd fun ⟨_, q⟩ => nomatch q)
    rw [hu] at h2
    exact h2
  · rw [dmG_val] at hn
    have e : lkG es k = none := by cases h3 : lkG es k with
      | none => rfl
      | some y => rw [h3] at hn; cases hn
    have h2 := h H (by rw [dropG_none e]; exact S.pull P)
    rw [e] at h2
    exact h2
theorem r_setdT [q : TupK xs k] [w1 : FV f v x] (S : Star L H) (P : Pull (pt d (.dT (dmG f es))) L l) (P2 : Pull (pt p (.tup xs)) l m) (z : es.length < 100000) (h1 : ∀ y, lkG es k = some y → Q (f y) H) (h2 : lkG es k = none → ∀ H', Star (pt d (.dT (dmG f (putG es k x))) :: l) H' → Q v H') : rSetdT (.ref d) [.ref p, v] H Q := by
  have e := q.e; subst e
  have e := w1.e; subst e
  obtain ⟨g1, g2⟩ := two_get S P P2
  refine ⟨d, _, k, p, f x, rfl, rfl, g1, g2, Evl.sz_lt (by rw [dmG_len]; exact z), fun u hu => ?_, fun hn => ?_⟩
  · rw [dmG_val] at hu
    cases h3 : lkG es k with
    | none => rw [h3] at hu; cases hu
    | some y => rw [h3] at hu; cases hu; exact h1 y h3
  · rw [dmG_val] at hn
    have e : lkG es k = none := by cases h3 : lkG es k with
      | none => rfl
      | some y => rw [h3] at hn; cases hn
    refine h2 e _ ?_
    rw [dmG_put]
    exact (S.pull P).upd fun ⟨_, q⟩ => nomatch q
theorem r_lenT2 (S : Star L H) (P : Pull (pt d (.dT (dmG f es))) L l) (h : Q (.int (es.length : Int)) H) : rLenT [.ref d] H Q := ⟨d, _, rfl, (S.pull P).get (.head _), by rw [dmG_len]; exact h⟩
end
instance {x : V} {xs : List V} {H : Hp} {Q : VK} : Grp (rPopT1 x xs H Q) 5 := ⟨⟩
instance {x : V} {xs : List V} {H : Hp} {Q : VK} : Grp (rPopT1 x xs H Q) 178 := ⟨⟩
instance {x : V} {xs : List V} {H : Hp} {Q : VK} : Grp (rPopT x xs H Q) 5 := ⟨⟩
instance {x : V} {xs : List V} {H : Hp} {Q : VK} : Grp (rPopT x xs H Q) 179 := ⟨⟩
instance {x : V} {xs : List V} {H : Hp} {Q : VK} : Grp (rSetdT x xs H Q) 5 := ⟨⟩
instance {x : V} {xs : List V} {H : Hp} {Q : VK} : Grp (rSetdT x xs H Q) 180 := ⟨⟩
end Fl
/-! Fl: a method called with keywords. -/
namespace Fl
open PySem PySem.Spec PyProof.Rows L2
/-- all parameters are written, the last ones by their names in any order -/
theorem kbinds1 {K : PySem.W.Frag} {x qual : Str} {params : Arguments} {body : List Stmt} {scope : Scope} {dvs : List V} {f : Addr} {fd : FuncData} {ps : List Str} (F : FunD K x qual params body scope dvs [] f fd) (n : Nat) (ks : List Str) (g : {α : Type} → List α → List α → List α) (hd : dvs ≠ [])
    (hrel : ∀ {vs zs : List V} {us ws : List Value}, Vals vs us → Vals zs ws → Vals (g vs zs) (g us ws))
    (h : ∀ (T : Addr) (kV doc pm : Value) (an : Option Addr) (cdv ct : Value) (us its ws : List Value), us.length = n → its.length = dvs.length → ws.length = ks.length →
      ∃ k, bindArgs (PySem.W.fnOf x qual params body scope (.ref T) kV doc pm an cdv ct) ⟨us, ks.zip ws⟩ = seqItems? (.ref T) >>= k ∧ k (some its.toArray) = pure (ps.zip (g us ws))) : KBn K fd ps n ks (fun us ws => g us ws) (fun vs zs => g vs zs) := by
  obtain ⟨oc, od, dV, kV, doc, pm, an, cdv, ct, osl, rfl, lk, hcd, hD, hK⟩ := F.ex
  rcases hD with ⟨e, _⟩ | ⟨_, T, o, its, m, rfl, lT, oT, rT⟩
  · exact absurd e hd
  · refine ⟨fun s us ws X l1 l2 => ?_, fun r1 r2 => hrel r1 r2⟩
    obtain ⟨k, e1, e2⟩ := h T kV doc pm an cdv ct us its ws l1 rT.length.symm l2
    refine BindsTo.of_looks fun M => ?_
    rw [e1]
    exact looks_items X lT oT (.of_pure e2)
theorem valsRev : ∀ {zs : List V} {ws : List Value}, Vals zs ws → Vals zs.reverse ws.reverse
  | _, _, .nil => .nil
  | _, _, .cons r t => by
    rw [List.reverse_cons, List.reverse_cons]
    exact (valsRev t).append (.cons r .nil)
def kKw (n m : Nat) (vs zs : List V) (R : Prop) : Prop := vs.length = n ∧ zs.length = m ∧ R
def tMtK (C : Addr) (mm : Str) (n m : Nat) (sp : Sp) (gV : List V → List V → List V) (E : L2.St → XK) (ta : L2.TE) (t tk : TA) : L2.TE := fun σ H Q => ta σ H fun x H1 => kMt C mm x H1 (t σ H1 fun vs H2 => tk σ H2 fun zs H3 => kKw n m (x :: vs) zs (kCall sp (gV (x :: vs) zs) H3 Q (E σ)))
section
variable {X : Cx} {CX : CXT} {k n : Nat} {f C : Addr} {fd : FuncData} {ps ks : List Str} {sp : Sp} {E : L2.St → XK} {m : Str} {apos pos : Pos} {o e : Expr} {es : List Expr} {kws : List Keyword} {ta : L2.TE} {t tk : TA} {g : List Value → List Value → List Value} {gV : List V → List V → List V}
theorem run_fnKD {pins : List (Addr × Obj)} {σ : L2.St} {H : Hp} {s : Shared} {Q : VK} {us ws : List Value} {vs zs : List V} (F : FnOk X.prog X.w X.K X.mg X.base CX k f fd ps sp) (hr : Room k X.A) (hb : KBn X.K fd ps n ks g gV) (hx : PassesAt CX X σ (E σ))
    (I : Inv X pins σ H s) (r : Vals vs us) (rz : Vals zs ws) (l1 : vs.length = n) (l2 : zs.length = ks.length) (h : sp (gV vs zs) H Q (E σ)) : wpAny (model X.prog X.w) X.A (call (.ref f) us (ks.zip ws)) (EP X pins σ Q) X.xe s := by
  have r2 := hb.rel r rz
  refine wpAny_call (codeAny_mono (F.run X.A X.stack s H ⟨us, ks.zip ws⟩ (g us ws) (gV vs zs) Q (E σ) hr I.env0 (hb.to s us ws I.kIn (r.length.symm.trans l1) (rz.length.symm.trans l2)) r2 h) fun r s' hq => ?_)
  cases r with
  | error e => exact hx pins H s e s' I hq
  | ok fl =>
    cases fl with
    | ret u => exact I.after hq
    | next => exact False.elim hq
    | brk => exact False.elim hq
    | cont => exact False.elim hq
theorem pe_mtK {pl : Sem Bool} (he : PE X o ta) (c : Cls X.K C) (hm : Meth X.K C m f) (F : FnOk X.prog X.w X.K X.mg X.base CX k f fd ps sp) (hr : Room k X.A) (hb : KBn X.K fd ps n ks g gV) (hx : ∀ σ, PassesAt CX X σ (E σ)) (ha : PA X (e :: es) t) (hkw : PK X kws tk)
    (hall : (backToKw pos (keywordEach kws X.env)).all (·.1.isSome) = true := by rfl) (hks : (backToKw pos (keywordEach kws X.env)).filterMap (·.1) = ks := by rfl)
    (hst : starEach (e :: es) X.env = (false, eval e X.env) :: starEach es X.env := by rfl)
    (hpl : ((backTo pos (starEach (e :: es) X.env)).any (·.1) || (backToKw pos (keywordEach kws X.env)).any (·.1.isNone)) = false := by rfl)
    (ht : eval (.Call (.Attribute o m apos) (e :: es) kws pos) X.env = (do
      let ov ← eval o X.env
      standAt apos.atName
      let (f, first) ← holding [ov] (getMethod ov m pl)
      callWith pos f first (backTo pos (starEach (e :: es) X.env)) (backToKw pos (keywordEach kws X.env))) := by rfl) :
    PE X (.Call (.Attribute o m apos) (e :: es) kws pos) (tMtK C m n ks.length sp gV E ta t tk) := by
  refine ⟨fun pins s σ H Q I h => ?_⟩
  refine PySem.W.methodCall_KW (pl := pl) (thn (he.run pins s σ H _ I h) fun u s1 ⟨x, H1, I1, rx, a, dx, fs, ex, ea, l, q⟩ => ?_) ht
  subst ex
  obtain rfl : u = Value.ref a := rx
  refine getmeth_ok I1 ea c hm l ?_
  refine PySem.W.callWith_KW (first := [.ref a]) (h₀ := X.base) I.ok.mod.kin hm.kp hall (thn (ha.run pos pins s1 σ H1 _ I1 q) fun us s2 ⟨vs, H2, I2, r, q2⟩ => ?_) hpl hst
  refine thn (hkw.run pos pins s2 σ H2 _ I2 q2) fun ws s3 ⟨zs, H3, I3, rz, l1, l2, q3⟩ => ⟨I3.kIn, ?_⟩
  rw [hks]
  exact run_fnKD (us := .ref a :: us) (vs := .ref a :: vs) F hr hb (hx σ) I3 (.cons rfl r) rz l1 l2 q3
end
instance i_r_mtK {C : Addr} {mm : Str} {n m : Nat} {sp : Sp} {gV : List V → List V → List V} {E : L2.St → XK} {ta : L2.TE} {t tk : TA} {σ : L2.St} {H : Hp} {Q : VK} : Stp (tMtK C mm n m sp gV E ta t tk σ H Q) (ta σ H fun x H1 => kMt C mm x H1 (t σ H1 fun vs H2 => tk σ H2 fun zs H3 => kKw n m (x :: vs) zs (kCall sp (gV (x :: vs) zs) H3 Q (E σ)))) := ⟨id⟩
end Fl
/-! Fl: sorted over tuples of whole numbers and texts; the keys of a dict as a value. -/
namespace Fl
open PySem PySem.Spec PyProof.Rows L2 L2.DX Srt SrtO
def kI : Key → Int ⊕ List Nat
  | .inl i => .inl i
  | .inr s => .inr s.cps.toList
def tkI (k : TK) : List (Int ⊕ List Nat) := k.map kI
def shK (sh : Nat → Bool) : Nat → TK → Prop
  | _, [] => True
  | i, .inl _ :: r => sh i = false ∧ shK sh (i + 1) r
  | i, .inr _ :: r => sh i = true ∧ shK sh (i + 1) r
def ltK (a b : TK) : Bool := PyProof.Rows.lexLt itemOrd (tkI a) (tkI b)
theorem kI_inj : ∀ {a b : Key}, kI a = kI b → a = b
  | .inl a, .inl b, h => by simp only [kI, Sum.inl.injEq] at h; rw [h]
  | .inr a, .inr b, h => by
    simp only [kI, Sum.inr.injEq] at h
    have hc : a.cps = b.cps := Array.toList_inj.mp h
    cases a; cases b
    simp only at hc
    rw [hc]
  | .inl _, .inr _, h => by simp [kI] at h
  | .inr _, .inl _, h => by simp [kI] at h
theorem tkI_inj {a b : TK} (h : tkI a = tkI b) : a = b := (List.map_inj_right fun _ _ => kI_inj).mp h
theorem ltK_irr (a : TK) : ltK a a = false := (listOrd itemOrd).irrefl _
theorem ltK_asym {a b : TK} (h : ltK a b = true) : ltK b a = false := by
  cases h2 : ltK b a with
  | false => rfl
  | true =>
    have := (listOrd itemOrd).trans _ _ _ h h2
    rw [show (listOrd itemOrd).blt (tkI a) (tkI a) = false from (listOrd itemOrd).irrefl _] at this
    cases this
theorem ltK_neg {a b c : TK} (h1 : ltK b a = false) (h2 : ltK c b = false) : ltK c a = false := by
  cases h : ltK c a with
  | false => rfl
  | true =>
    rcases (listOrd itemOrd).negTrans _ (tkI b) _ h with h3 | h3
    · exact absurd (h2.symm.trans h3) Bool.false_ne_true
    · exact absurd (h1.symm.trans h3) Bool.false_ne_true
theorem ltK_tot {a b : TK} (h1 : ltK a b = false) (h2 : ltK b a = false) : a = b := tkI_inj ((listOrd itemOrd).total _ _ h1 h2)
theorem swo_ltK {α : Type} (k : α → TK) : Swo fun x y : α => ltK (k x) (k y) := ⟨fun _ _ h => ltK_asym h, fun _ _ _ h1 h2 => ltK_neg h1 h2⟩
/-- in their order -/
def sortT (ks : List TK) : List TK := ks.mergeSort fun a b => !ltK b a
theorem sortT_perm {ks : List TK} : (sortT ks).Perm ks := List.mergeSort_perm _ _
theorem sortT_of {ks ms : List TK} (h1 : ms.Perm ks) (h2 : ms.Pairwise fun a b => ltK b a = false) : ms = sortT ks := by
  have h3 : (sortT ks).Pairwise (fun a b => (!ltK b a) = true) := List.pairwise_mergeSort (fun a b c p q => by
    simp only [Bool.not_eq_true'] at p q ⊢
    exact ltK_neg p q) (fun a b => by
    cases h : ltK b a with
    | false => rfl
    | true => rw [ltK_asym h]; rfl) ks
  refine (h1.trans sortT_perm.symm).eq_of_pairwise (le := fun a b => ltK b a = false) (fun a b _ _ p q => ltK_tot q p) h2 (h3.imp fun p => by simpa using p)
def KTup (h : Heap) (k : TK) (v : Value) : Prop := ∃ a o us n, v = .ref a ∧ h.get? a = some o ∧ o.cls = .type "tuple" ∧ o.data = .seq us n ∧ Vals (k.map kV) us.toList
theorem items_tk {sh : Nat → Bool} : ∀ {k : TK} {us : List Value} {i : Nat}, Vals (k.map kV) us → shK sh i k → tupItems sh i us = some (tkI k)
  | [], _, _, .nil, _ => rfl
  | .inl n :: r, _, i, .cons hx t, hs => by
    obtain ⟨tk, rfl⟩ := hx
    have := items_tk t hs.2
    show (if sh i = true then none else (tupItems sh (i + 1) _).map (Sum.inl n :: ·)) = _
    rw [hs.1, if_neg Bool.false_ne_true, this]; rfl
  | .inr n :: r, _, i, .cons hx t, hs => by
    obtain ⟨tk, rfl⟩ := hx
    have := items_tk t hs.2
    show (if sh i = true then (tupItems sh (i + 1) _).map (Sum.inr n.cps.toList :: ·) else none) = _
    rw [hs.1, if_pos rfl, this]; rfl
theorem KTup.key {h : Heap} {k : TK} {v : Value} {sh : Nat → Bool} (x : KTup h k v) (hs : shK sh 0 k) : tupKey h sh v = some (tkI k) := by
  obtain ⟨a, o, us, n, rfl, ho, hc, hd, hv⟩ := x
  unfold tupKey
  simp only [ho, hd]
  exact items_tk hv hs
theorem KTup.keeps {h h' : Heap} {k : TK} {v : Value} (x : KTup h k v) (kp : ∀ b o, h.get? b = some o → o.cls = .type "tuple" → h'.get? b = some o) : KTup h' k v := by
  obtain ⟨a, o, us, n, e, ho, hc, r⟩ := x
  exact ⟨a, o, us, n, e, kp _ _ ho hc, hc, r⟩
theorem KTup.tup {h : Heap} {k : TK} {v : Value} {sh : Nat → Bool} (x : KTup h k v) (hs : shK sh 0 k) (hk : k ≠ []) : ∃ f, TupOf h sh v f := by
  obtain ⟨a, o, us, n, rfl, ho, hc, hd, hv⟩ := x
  cases k with
  | nil => exact absurd rfl hk
  | cons x r =>
    obtain ⟨l⟩ := us
    cases hv with
    | @cons _ f _ fs hf ht =>
      refine ⟨f, a, o, _, n, rfl, ho, hc, hd, rfl, fun e => ?_, fun e => ?_⟩
      · cases x with
        | inl i => obtain ⟨t, rfl⟩ := hf; exact ⟨i, t, rfl⟩
        | inr s => rw [hs.1] at e; cases e
      · cases x with
        | inl i => rw [hs.1] at e; cases e
        | inr s => obtain ⟨t, rfl⟩ := hf; exact ⟨s, t, rfl⟩
theorem tupsOf {h : Heap} {sh : Nat → Bool} {key : Value → TK} : ∀ {vs : List Value}, (∀ v ∈ vs, KTup h (key v) v ∧ shK sh 0 (key v) ∧ key v ≠ []) → ∃ fs, TupsOf h sh vs fs ∧ fs.length = vs.length
  | [], _ => ⟨[], .nil, rfl⟩
  | v :: vs, hp => by
    obtain ⟨fs, h1, h2⟩ := tupsOf (vs := vs) fun u hu => hp u (List.mem_cons_of_mem _ hu)
    obtain ⟨a, b, c⟩ := hp v List.mem_cons_self
    obtain ⟨f, hf⟩ := a.tup b c
    exact ⟨f :: fs, .cons hf h1, by rw [List.length_cons, List.length_cons, h2]⟩
theorem keys_sortableO {prog : Program} {w : World} {A : Around} {s : Shared} {a : Addr} {vs : List Value} {key : Value → TK} (sh : Nat → Bool) (h0 : 0 < vs.length) (hp : ∀ v ∈ vs, KTup s.heap (key v) v ∧ shK sh 0 (key v) ∧ key v ≠ []) (ha : ∀ o, s.heap.get? a = some o → o.cls ≠ .type "tuple") : SortableO prog w A s a vs fun v u => ltK (key v) (key u) := by
  intro h' keep
  have hp' : ∀ v ∈ vs, KTup h' (key v) v ∧ shK sh 0 (key v) ∧ key v ≠ [] := fun v hm => ⟨(hp v hm).1.keeps fun b o e c => keep b o (fun z => by subst z; exact ha o e c) e, (hp v hm).2⟩
  obtain ⟨fs, h1, h2⟩ := tupsOf hp'
  refine ⟨tuples' true, fun Q E hq => tup_kind (s := { s with heap := h' }) (by rw [h2]; exact h0) h1 hq, fun p q hm hm' => ?_⟩
  exact tup_ltAt (s := { s with heap := h' }) (shape := sh) true A _ p.1 q.1 (tkI (key p.1)) (tkI (key q.1)) ((hp' _ hm).1.key (hp' _ hm).2.1) ((hp' _ hm').1.key (hp' _ hm').2.1) ⟨rfl, rfl⟩
/-! ### by what is tracked -/
def unV : V → Option Key
  | .int i => some (.inl i)
  | .str s => some (.inr s)
  | _ => none
def keyH (H : Hp) (b : Addr) : TK := match H b with
  | some (.tup xs) => xs.filterMap unV
  | _ => []
def keyV (H : Hp) : V → TK
  | .ref b => keyH H b
  | _ => []
theorem unV_map : ∀ k : TK, (k.map kV).filterMap unV = k
  | [] => rfl
  | .inl i :: r => by
    show (V.int i :: r.map kV).filterMap unV = _
    rw [List.filterMap_cons_some (f := unV) (b := Sum.inl i) rfl, unV_map r]
  | .inr i :: r => by
    show (V.str i :: r.map kV).filterMap unV = _
    rw [List.filterMap_cons_some (f := unV) (b := Sum.inr i) rfl, unV_map r]
theorem keyH_of {H : Hp} {b : Addr} {k : TK} (e : H b = some (.tup (k.map kV))) : keyH H b = k := by
  unfold keyH
  rw [e]
  exact unV_map k
theorem ktup_of {P : Program} {w : World} {H : Hp} {h : Heap} {b : Addr} {k : TK} (ok : HOk P w H h) (e : H b = some (.tup (k.map kV))) : KTup h k (.ref b) := by
  obtain ⟨_, its, r, o, h1, h2, n, h3⟩ := (show ObjOk P w H h b (.tup (k.map kV)) from ok b _ e)
  exact ⟨b, o, its.toArray, n, rfl, h1, h2, h3, by simpa using r⟩
/-- sorted(xs), xs a list of such tuples -/
def rSortTL (K : PySem.W.Frag) : List V → Hp → VK → Prop := fun vs H Q => ∃ (a : Addr) (xs : List V) (sh : Nat → Bool), vs = [V.ref a] ∧ SqL K H a xs ∧ (∀ x ∈ xs, ∃ t k, x = V.ref t ∧ H t = some (.tup (List.map kV k)) ∧ shK sh 0 k ∧ k ≠ []) ∧
  ∀ ys p, ys.Perm xs → ys.Pairwise (fun x y => ltK (keyV H y) (keyV H x) = false) → H p = none → Q (.ref p) (upd H p (.lst ys))
theorem callSortTL {X : Cx} {K : PySem.W.Frag} (eK : X.K = K) : CallR X (.builtin "sorted") (rSortTL K) := by
  subst eK
  intro pins s σ H vs us Q I r h
  obtain ⟨a, xs, sh, rfl, hs, hx, q⟩ := h
  obtain ⟨its, rv, hl, hz⟩ := I.list hs
  obtain ⟨u, rfl, ru⟩ := vals1 r
  obtain rfl : u = Value.ref a := ru
  obtain ⟨e1, e2⟩ := refs_back rv fun x m => by
    obtain ⟨t, k, e, _⟩ := hx x m
    exact ⟨t, e⟩
  have hk : ∀ v ∈ its, KTup s.heap (keyV H (backV v)) v ∧ shK sh 0 (keyV H (backV v)) ∧ keyV H (backV v) ≠ [] := fun v hv => by
    obtain ⟨t, rfl⟩ := e2 v hv
    have hm : V.ref t ∈ xs := by rw [e1]; exact List.mem_map.mpr ⟨_, hv, rfl⟩
    obtain ⟨t', k, e, ht, h1, h2⟩ := hx _ hm
    cases e
    have e3 : keyV H (backV (.ref t)) = k := keyH_of ht
    rw [e3]
    exact ⟨ktup_of I.hok ht, h1, h2⟩
  refine sorted_ord (swo_ltK fun v => keyV H (backV v)) hl.isList (by rw [← rv.length]; exact hz) (fun h2 h₁ b hb keep => keys_sortableO sh (by omega) (fun v hv => ⟨(hk v hv).1.keeps fun c o e _ => (keep c o e).2, (hk v hv).2⟩) fun o e => ?_) fun out h1 h2 => ?_
  · rw [hb] at e
    cases e
    exact fun z => by injection z with z; exact absurd z (by decide)
  · have h3 : ∀ u ∈ out, ∃ a, u = Value.ref a := fun u hu => e2 u (h2.perm.mem_iff.mp hu)
    have hf : H (s.heap.objs.size + 1) = none := I.hok.fresh (Nat.le_succ _)
    have hp : (out.map backV).Perm xs := by rw [e1]; exact h2.perm.map _
    have kp : ∀ b o, s.heap.get? b = some o → (sortedAll s.heap its out.toArray).get? b = some o := fun b o e => sortedAll_old e
    obtain ⟨n, hn⟩ := sortedAll_at s.heap its out.toArray
    refine ⟨.ref (s.heap.objs.size + 1), upd H (s.heap.objs.size + 1) (.lst (out.map backV)), I.laid (t' := s.toks) kp (Nat.le_succ _) ⟨?_, out, n, vals_back h3, hn⟩, rfl, q _ _ hp (List.pairwise_map.mpr (h1.imp fun z => z)) hf⟩
    rw [hp.length_eq]
    exact hz
/-! ### the keys of a dict as a value, sorted -/
def keysO (p d : Addr) : HO := .ext fun h => PySem.W.KdlKeysView h p d
theorem keysO_ok {P : Program} {w : World} {H : Hp} {h : Heap} {p d : Addr} (e : h.get? p = some { cls := .type "dict_keys", data := .fields #[.ref d] }) : ObjOk P w H h p (keysO p d) :=
  ⟨⟨_, e, rfl, rfl⟩, ⟨_, e⟩, fun h1 h2 x k => let ⟨o, ho, r⟩ := x; ⟨o, k o ho, r⟩⟩
def rKeysT : V → List V → Hp → VK → Prop := fun x xs H Q => ∃ (a : Addr) (kvs : List (List L2.Key × V)), x = .ref a ∧ xs = [] ∧ H a = some (.dT kvs) ∧ ∀ p, H p = none → Q (.ref p) (upd H p (keysO p a))
theorem mt_keysT {X : Cx} : MtR X "dict.keys" rKeysT := by
  intro pins s σ H x xs v us Q I rx rxs h
  obtain ⟨a, kvs, rfl, rfl, ha, q⟩ := h
  cases rx
  cases rxs
  obtain ⟨z, hd, xs', rel, o, es, ep, ho, hx, hdat, _⟩ := dt_of I.hok ha
  refine call_meetsIn PySem.F.slot_dict_keys ⟨o, ho, hx.1⟩ PySem.F.entry_dict_keys (PySem.F.args_dict_keys_1 _) (PySem.meets_dict_keys_raw a hd) ⟨⟨es, ep, o, ho, hx, hdat⟩, ?_⟩
  have hf : H s.heap.objs.size = none := I.hok.fresh (Nat.le_refl _)
  exact ⟨.ref s.heap.objs.size, upd H s.heap.objs.size (keysO s.heap.objs.size a), I.laid (t' := s.toks) (fun b u e => Heap.get?_push_of_some _ e) (Nat.le_refl _) (keysO_ok (Heap.get?_push_size _ rfl)), rfl, q _ hf⟩
def rSortTK : List V → Hp → VK → Prop := fun vs H Q => ∃ (p a : Addr) (kvs : List (List L2.Key × V)) (sh : Nat → Bool), vs = [V.ref p] ∧ H p = some (keysO p a) ∧ H a = some (.dT kvs) ∧ (∀ e ∈ kvs, shK sh 0 e.1 ∧ e.1 ≠ []) ∧
  ∀ (ys : List V) (q : Addr), (∀ y ∈ ys, ∃ t k, y = V.ref t ∧ H t = some (.tup (List.map kV k))) → (ys.map (keyV H)).Perm (kvs.map Prod.fst) → ys.Pairwise (fun x y => ltK (keyV H y) (keyV H x) = false) → H q = none → Q (.ref q) (upd H q (.lst ys))
theorem keys_map {H : Hp} : ∀ {kvs : List (List L2.Key × V)} {bs : List Addr}, IsKeys H kvs bs → bs.map (keyH H) = kvs.map Prod.fst
  | _, _, .nil => rfl
  | _, _, .cons h t => by rw [List.map_cons, List.map_cons, keys_map t, keyH_of h]
theorem vals_r : ∀ bs : List Addr, Vals (bs.map V.ref) (bs.map Value.ref)
  | [] => .nil
  | _ :: r => .cons rfl (vals_r r)
theorem callSortTK {X : Cx} (calm : X.calm = true) : CallR X (.builtin "sorted") rSortTK := by
  intro pins s σ H vs us Q I r h
  obtain ⟨p, a, kvs, sh, rfl, hp, ha, hsh, q⟩ := h
  obtain ⟨u, rfl, ru⟩ := vals1 r
  obtain rfl : u = Value.ref p := ru
  obtain ⟨z, hd, ks, pr, o, es, ep, ho, hx, hdt, he, hn⟩ := (show ObjOk X.prog X.w H s.heap a (.dT kvs) from I.hok a _ ha)
  have hv : PySem.W.KdlKeysView s.heap p a := (I.hok p _ hp).1
  have l1 : es.size = ks.length := size_of_entries he
  have l2 : kvs.length = ks.length := Paired.length pr
  refine Calls.call_function_entry kind_sorted plain_sorted entry_sorted (args_sorted1 _) ?_
  unfold Builtin.«sorted»
  refine wpAny_bind (m := checkCount "sorted" 1 1 _) (wpAny_pure ?_)
  refine wpAny_bind (PySem.W.kdu_collect (A := X.A.in1) (PySem.KdlSrc.rawKeys (es := es) (ep := ep)) (I.ok.hd calm) ⟨hv, o, ho, hx, hdt⟩ (by omega) fun h' tk acc hk it => ?_)
  have ea : acc.toList = (ks.map fun x => x.2.1).map Value.ref := by
    rw [List.map_map]
    have hl : acc.toList.length = ks.length := by rw [Array.length_toList, it.1]; exact l1
    apply List.ext_getElem?
    intro j
    rw [List.getElem?_map]
    cases hj : acc.toList[j]? with
    | none =>
      have h1 := List.getElem?_eq_none_iff.mp hj
      rw [List.getElem?_eq_none (by omega)]
      all_goals rfl
    | some v =>
      obtain ⟨hi, hve⟩ := it.2 j v (by rw [← Array.getElem?_toList]; exact hj)
      have qe := entry_at he j
      rw [Array.getElem?_eq_getElem hi] at qe
      cases hb : ks[j]? with
      | none => rw [hb] at qe; exact nomatch (show some _ = none from qe)
      | some b =>
        rw [hb] at qe
        have e2 : es[j] = entryOfKey (tupleKind (mixKind X.prog X.w)) b := Option.some.inj qe
        rw [hve, e2]
        all_goals rfl
  have alen : acc.toList.length = kvs.length := by rw [Array.length_toList, it.1, l1, l2]
  have I1 : Inv X pins σ H { s with heap := h', toks := tk } := I.kept hk
  have isk := isKeys_of pr
  have hkey : ∀ b ∈ ks.map fun x => x.2.1, ∃ k, H b = some (.tup (List.map kV k)) ∧ shK sh 0 k ∧ k ≠ [] := fun b hb => by
    obtain ⟨j, hj⟩ := List.mem_iff_getElem?.mp hb
    obtain ⟨e, h1, h2⟩ := DX.pget isk hj
    exact ⟨e.1, h2, hsh e (List.mem_of_getElem? h1)⟩
  have hperm0 : (ks.map fun x => x.2.1).map (keyH H) = kvs.map Prod.fst := keys_map isk
  refine wpAny_bind (wpAny_newList ?_ (by rw [alen]; exact z))
  have hoL : (h'.push (seqObj "list" acc.toList.toArray 0)).get? h'.objs.size = some (seqObj "list" acc.toList.toArray 0) := Heap.get?_push_size _ rfl
  show wpAny _ _ _ _ _ { s with heap := h'.push (seqObj "list" acc.toList.toArray 0), toks := tk }
  have hkv : ∀ v ∈ acc.toList, KTup (h'.push (seqObj "list" acc.toList.toArray 0)) (keyV H (backV v)) v ∧ shK sh 0 (keyV H (backV v)) ∧ keyV H (backV v) ≠ [] := fun v hm => by
    rw [ea] at hm
    obtain ⟨b, hb, rfl⟩ := List.mem_map.mp hm
    obtain ⟨k, h1, h2, h3⟩ := hkey b hb
    have e3 : keyV H (backV (.ref b)) = k := keyH_of h1
    rw [e3]
    exact ⟨(ktup_of I1.hok h1).keeps fun c o e _ => Heap.get?_push_of_some _ e, h2, h3⟩
  refine wpAny_bind (wpAny_holding (wpAny_call_entry slot_list_sort ⟨_, hoL, rfl⟩ entry_list_sort (list_sort_ord (swo_ltK fun v => keyV H (backV v)) hoL (by rw [alen]; exact z) (fun h2 => keys_sortableO sh (by omega) hkv fun o e => ?_) fun out g1 g2 => ⟨_, rfl, ?_⟩) (args_list_sort _)))
  · rw [hoL] at e
    cases e
    exact fun z => by injection z with z; exact absurd z (by decide)
  · obtain ⟨e', he'⟩ := sortedHeap_at (vs := acc.toList) (out := out.toArray) hoL
    have hrefs : ∀ u ∈ out, ∃ b, u = Value.ref b ∧ b ∈ ks.map fun x => x.2.1 := fun u hu => by
      have := g2.perm.mem_iff.mp hu
      rw [ea] at this
      obtain ⟨b, hb, rfl⟩ := List.mem_map.mp this
      exact ⟨b, rfl, hb⟩
    have h3 : ∀ u ∈ out, ∃ a, u = Value.ref a := fun u hu => let ⟨b, e, _⟩ := hrefs u hu; ⟨b, e⟩
    have hpm : ((out.map backV).map (keyV H)).Perm (kvs.map Prod.fst) := by
      rw [← hperm0, List.map_map, show (ks.map fun x => x.2.1).map (keyH H) = (acc.toList.map backV).map (keyV H) by rw [ea, List.map_map, List.map_map, List.map_map, List.map_map]; rfl, List.map_map]
      exact g2.perm.map _
    have hlen : (out.map backV).length ≤ sizeLine := by rw [List.length_map, g2.perm.length_eq, alen]; exact z
    refine wpAny_pure ⟨_, rfl, .ref h'.objs.size, upd H h'.objs.size (.lst (out.map backV)), I1.laid (t' := tk) (fun b u e => ?_) (Nat.le_refl _) ⟨hlen, out, e', vals_back h3, by simpa using he'⟩, rfl, q _ _ (fun y hy => ?_) hpm (List.pairwise_map.mpr (g1.imp fun z => z)) (I1.hok.fresh (Nat.le_refl _))⟩
    · have hb : b < h'.objs.size := Heap.lt_size e
      rw [sortedHeap_old (Nat.ne_of_lt hb) (by rw [size_push']; exact Nat.lt_succ_of_lt hb)]
      exact Heap.get?_push_of_some _ e
    · obtain ⟨u, hu, rfl⟩ := List.mem_map.mp hy
      obtain ⟨b, rfl, hb⟩ := hrefs u hu
      obtain ⟨k, h1, _⟩ := hkey b hb
      exact ⟨b, k, rfl, h1⟩
/-! ### over assertions -/
theorem Star.tin {t : Addr} {xs : List V} {L : List Asrt} {H : Hp} (e : H t = some (.tup xs)) (S : Star L H) : Star (pt t (.tup xs) :: L) H :=
  ⟨single t (.tup xs), H, (fun b o u e1 e2 => by
    unfold single at e1
    split at e1
    · next q => subst q; cases e1; rw [e] at e2; cases e2; exact ⟨rfl, _, rfl⟩
    · cases e1), single_sub e, Sub.refl _, single_self, S⟩
abbrev tkV (k : TK) : List V := k.map kV
abbrev tkA : TK → V → Asrt := tupA tkV
theorem own_tups {H : Hp} {L : List Asrt} : ∀ {ys : List V}, (∀ y ∈ ys, ∃ t k, y = V.ref t ∧ H t = some (.tup (List.map kV k))) → Star L H → Star (ownL tkA (ys.map fun y => (keyV H y, y)) :: L) H
  | [], _, S => sepL_nil S
  | y :: ys, h, S => by
    obtain ⟨t, k, rfl, e⟩ := h y List.mem_cons_self
    have S1 := own_tups (ys := ys) (fun z hz => h z (List.mem_cons_of_mem _ hz)) S
    have S2 := Star.tin e S1
    refine sepL_cons (B := fun c : TK × V => tkA c.1 c.2) (S2.hd fun h2 x => ⟨t, rfl, ?_⟩)
    show h2 t = some (.tup (tkV (keyH H t)))
    rw [keyH_of e]; exact x
theorem own_facts {H : Hp} {L : List Asrt} : ∀ {cs : List (TK × V)}, Star (ownL tkA cs :: L) H → ∀ c ∈ cs, ∃ t, c.2 = V.ref t ∧ H t = some (.tup (tkV c.1))
  | [], _, c, hc => nomatch hc
  | c :: cs, S, c', hc => by
    have S1 : Star (tkA c.1 c.2 :: ownL tkA cs :: L) H := sepL_unc S
    rcases List.mem_cons.mp hc with rfl | hc
    · obtain ⟨h2, s2, t, e, q⟩ := S1.has (.head _)
      exact ⟨t, e, s2 _ _ q⟩
    · exact own_facts S1.tail c' hc
section
variable {K : PySem.W.Frag} {L l m : List Asrt} {H : Hp} {Q : VK} {d p : Addr} {β : Type} {f : β → V} {es : List (TK × β)} {ks : List TK}
theorem r_keysT {kvs : List (List Key × V)} (S : Star L H) (P : Pull (pt d (.dT kvs)) L l) (h : ∀ p H', Star (pt p (keysO p d) :: L) H' → Q (.ref p) H') : rKeysT (.ref d) [] H Q :=
  ⟨d, kvs, rfl, rfl, (S.pull P).get (.head _), fun p n => h p _ (S.new n)⟩
theorem r_sortTK (sh : Nat → Bool) (S : Star L H) (P : Pull (pt p (keysO p d)) L l) (P2 : Pull (pt d (.dT (dmG f es))) l m) (hsh : ∀ k ∈ keysG es, shK sh 0 k ∧ k ≠ []) (h : ∀ q H', Star (listA tkA (sortT (keysG es)) q :: l) H' → Q (.ref q) H') : rSortTK [.ref p] H Q := by
  have g1 : H p = some (keysO p d) := (S.pull P).get (.head _)
  have g2 : H d = some (.dT (dmG f es)) := ((S.pull P).under fun _ S => S.pull P2).get (.tail _ (.head _))
  refine ⟨p, d, _, sh, rfl, g1, g2, fun e he => hsh e.1 (by rw [← dmG_keys (f := f)]; exact List.mem_map.mpr ⟨e, he, rfl⟩), fun ys q ht hp hw hn => h q _ ?_⟩
  rw [dmG_keys] at hp
  have e : sortT (keysG es) = ys.map (keyV H) := (sortT_of hp (List.pairwise_map.mpr hw)).symm
  refine listA_close (cs := ys.map fun y => (keyV H y, y)) (by rw [e, List.map_map]; rfl) ?_
  rw [show (ys.map fun y => (keyV H y, y)).map Prod.snd = ys by rw [List.map_map]; exact List.map_id _]
  exact (own_tups ht (S.pull P).tail).new hn
theorem r_sortTL (sh : Nat → Bool) (S : Star L H) (P : Pull (listA tkA ks p) L l) (hsh : ∀ k ∈ ks, shK sh 0 k ∧ k ≠ []) (h : ∀ q H', Star (listA tkA (sortT ks) q :: L) H' → Q (.ref q) H') : rSortTL K [.ref p] H Q := by
  obtain ⟨cs, rfl, S1⟩ := listA_open (S.pull P)
  have g1 : H p = some (.lst (cs.map Prod.snd)) := S1.get (.head _)
  have fs := own_facts S1.tail
  have ht : ∀ x ∈ cs.map Prod.snd, ∃ t k, x = V.ref t ∧ H t = some (.tup (List.map kV k)) ∧ shK sh 0 k ∧ k ≠ [] := fun x hx => by
    obtain ⟨c, hc, rfl⟩ := List.mem_map.mp hx
    obtain ⟨t, e1, e2⟩ := fs c hc
    exact ⟨t, c.1, e1, e2, hsh _ (List.mem_map.mpr ⟨c, hc, rfl⟩)⟩
  have hk : (cs.map Prod.snd).map (keyV H) = cs.map Prod.fst := by
    rw [List.map_map]
    refine List.map_congr_left fun c hc => ?_
    obtain ⟨t, e1, e2⟩ := fs c hc
    show keyV H c.2 = c.1
    rw [e1]
    exact keyH_of e2
  refine ⟨p, _, sh, rfl, SqL.of g1, ht, fun ys q hp hw hn => h q _ ?_⟩
  have hp2 : (ys.map (keyV H)).Perm (cs.map Prod.fst) := by rw [← hk]; exact hp.map _
  have e : sortT (cs.map Prod.fst) = ys.map (keyV H) := (sortT_of hp2 (List.pairwise_map.mpr hw)).symm
  refine listA_close (cs := ys.map fun y => (keyV H y, y)) (by rw [e, List.map_map]; rfl) ?_
  rw [show (ys.map fun y => (keyV H y, y)).map Prod.snd = ys by rw [List.map_map]; exact List.map_id _]
  exact (own_tups (fun y hy => let ⟨t, k, a, b, _⟩ := ht y (hp.mem_iff.mp hy); ⟨t, k, a, b⟩) S).new hn
end
instance {x : V} {xs : List V} {H : Hp} {Q : VK} : Grp (rKeysT x xs H Q) 5 := ⟨⟩
instance {x : V} {xs : List V} {H : Hp} {Q : VK} : Grp (rKeysT x xs H Q) 173 := ⟨⟩
instance {xs : List V} {H : Hp} {Q : VK} : Grp (rSortTK xs H Q) 5 := ⟨⟩
instance {xs : List V} {H : Hp} {Q : VK} : Grp (rSortTK xs H Q) 174 := ⟨⟩
instance {K : PySem.W.Frag} {xs : List V} {H : Hp} {Q : VK} : Grp (rSortTL K xs H Q) 5 := ⟨⟩
instance {K : PySem.W.Frag} {xs : List V} {H : Hp} {Q : VK} : Grp (rSortTL K xs H Q) 175 := ⟨⟩
/-! ### {k: v} with a tuple as its one key -/
def kDisp1T (p : Addr) (x y : V) (H : Hp) (Q : VK) : Prop := ∃ b k, x = .ref b ∧ H b = some (.tup (List.map kV k)) ∧ H p = some (.dT []) ∧ Q (.ref p) (L2.upd H p (.dT [(k, y)]))
def tDisp1T (tk tv : L2.TE) : L2.TE := fun σ H Q => ∀ p, H p = none → tk σ (L2.upd H p (.dT [])) fun x H1 => tv σ H1 fun y H2 => kDisp1T p x y H2 Q
theorem pe_disp1T {X : Cx} {pos : Pos} {k v : Expr} {tk tv : L2.TE} (hu : X.A.units + 1 < cLine) (hk : PE X k tk) (hv : PE X v tv) : PE X (.Dict [some k] [v] pos) (tDisp1T tk tv) := by
  refine ⟨fun pins s σ H Q I q => ?_⟩
  have hn := I.hok.fresh (Nat.le_refl s.heap.objs.size)
  have I1 := I.laid (a := s.heap.objs.size) (o := .dT []) (h' := s.heap.push { cls := .type "dict", data := .dict #[] }) (t' := s.toks) (fun _ _ q => Heap.get?_push_of_some _ q) (Nat.le_refl _) (dt_empty s.heap I.big)
  refine wpAny_Dict_any rfl rfl (by simp) (by simp) (pairTrees_cons_walk (thn (hk.run pins _ σ _ _ I1 (q _ hn)) fun u1 s1 ⟨x, H1, I2, r1, q1⟩ => thn (hv.run pins s1 σ H1 _ I2 q1) fun u2 s2 ⟨y, H2, I3, r2, b, kk, ex, eb, ep, q2⟩ => pairTrees_nil_walk ?_))
  subst ex
  cases r1
  unfold storeAll
  rw [List.forIn_cons]
  refine wpAny_bind (wpAny_bind ?_)
  obtain ⟨z, hd, xs, rel, dd⟩ := dt_of I3.hok ep
  cases rel
  refine wpAny_dictSet_heap (knd := tupleKind (mixKind X.prog X.w)) (k := kk) (hsz := Nat.zero_le _) (show X.A.units < cLine by omega) (key_of I3.hok eb) dd fun h' dd' hs => ?_
  obtain ⟨o, es, ep', hq, h2, h3, h4, _, h5⟩ := dd'
  have I4 : Inv X pins σ (L2.upd H2 s.heap.objs.size (.dT [(kk, y)])) { s2 with heap := h', toks := s2.toks + (tupleKind (mixKind X.prog X.w)).draws kk } :=
    d_write I3 (by rw [ep]; exact True.intro) hs ⟨o, hq⟩ ⟨(by rw [sizeLine_eq]; simp), hd, _, (KT.put (kvs := []) (xs := []) .nil kk eb r2).keeps (fun c ys ec => (by rw [upd_ne (ne_of ec ep (fun z => nomatch z))]; exact ec)), o, es, ep', hq, h2, h3, h4, h5⟩
  refine wpAny_pure ?_
  show wpAny _ _ (forIn [] _ _) _ _ _
  rw [List.forIn_nil]
  exact wpAny_pure ⟨.ref s.heap.objs.size, _, I4, rfl, q2⟩
section
variable {L l m : List Asrt} {H : Hp} {Q : VK} {d p : Addr} {k : TK} {xs : List V} {v : V}
theorem r_disp1T {tk tv : L2.TE} {σ : L2.St} (S : Star L H) (h : ∀ p H', Star (pt p (.dT []) :: L) H' → tk σ H' fun x H1 => tv σ H1 fun y H2 => kDisp1T p x y H2 Q) : tDisp1T tk tv σ H Q := fun p n => h p _ (S.new n)
theorem r_kDisp1T {β : Type} {f : β → V} {x : β} [q : TupK xs k] [w1 : FV f v x] (S : Star L H) (P : Pull (pt d (.dT [])) L l) (P2 : Pull (pt p (.tup xs)) l m) (h : ∀ H', Star (pt d (.dT (dmG f [(k, x)])) :: l) H' → Q (.ref d) H') : kDisp1T d (.ref p) v H Q := by
  have e := q.e; subst e
  have e := w1.e; subst e
  obtain ⟨g1, g2⟩ := two_get S P P2
  exact ⟨p, k, rfl, g2, g1, h _ ((S.pull P).upd fun ⟨_, q⟩ => nomatch q)⟩
end
instance {tk tv : L2.TE} {σ : L2.St} {H : Hp} {Q : VK} : Grp (tDisp1T tk tv σ H Q) 5 := ⟨⟩
instance {tk tv : L2.TE} {σ : L2.St} {H : Hp} {Q : VK} : Grp (tDisp1T tk tv σ H Q) 176 := ⟨⟩
instance {p : Addr} {x y : V} {H : Hp} {Q : VK} : Grp (kDisp1T p x y H Q) 5 := ⟨⟩
instance {p : Addr} {x y : V} {H : Hp} {Q : VK} : Grp (kDisp1T p x y H Q) 177 := ⟨⟩
end Fl
/-! Fl: the hand, the rows of a book in plain Lean. -/
namespace Fl
open PySem PySem.Spec PyProof.Rows L2
/-- the place k steps behind the hand -/
def swAt (h n : Nat) (k : Nat) : Nat := (h + k) % n
def swRow (h n k : Nat) : List Int := (List.range k).map fun i => ((swAt h n i : Nat) : Int)
theorem swRow_succ {h n k : Nat} : swRow h n (k + 1) = swRow h n k ++ [((swAt h n k : Nat) : Int)] := by simp [swRow, List.range_succ]
theorem swRow_len {h n k : Nat} : (swRow h n k).length = k := by simp [swRow]
theorem swAt_lt {h n k : Nat} (hn : 0 < n) : swAt h n k < n := Nat.mod_lt _ hn
theorem swAt_succ {h n k : Nat} (hn : 0 < n) : (if swAt h n k + 1 = n then 0 else swAt h n k + 1) = swAt h n (k + 1) := by
  unfold swAt
  have h1 : (h + (k + 1)) % n = ((h + k) % n + 1) % n := by rw [Nat.mod_add_mod, Nat.add_assoc]
  rw [h1]
  have h2 := Nat.mod_lt (h + k) hn
  split
  · next e => rw [e, Nat.mod_self]
  · next e => exact (Nat.mod_eq_of_lt (by omega)).symm
theorem bl_at {bs : List Bool} {k : Nat} (h : k < bs.length) : atI (bs.map V.bl) (k : Int) = some (.bl (bs.getD k false)) := by
  unfold atI ixN
  rw [List.length_map, if_pos (by omega), if_pos (by omega)]
  simp [h, List.getD]
theorem r_ixBl {K : PySem.W.Frag} {p : Addr} {bs : List Bool} {k : Nat} {L l : List Asrt} {H : Hp} {Q : VK} (S : Star L H) (P : Pull (pt p (.lst (bs.map V.bl))) L l) (h : k < bs.length) (q : Q (.bl (bs.getD k false)) H) : rIxL K (.ref p) (.int (k : Int)) H Q := r_ixL S P (bl_at h) q
structure BR where
  t : Int
  p : Int
  e : Int
  u : Bool
deriving DecidableEq
abbrev Rows := List (Option BR)
def isOf (t p : Int) : Option BR → Bool
  | none => false
  | some b => decide (b.t = t) && decide (b.p = p)
def rowAt : Rows → Int → Int → Option Nat
  | [], _, _ => none
  | r :: rs, t, p => if isOf t p r = true then some 0 else (rowAt rs t p).map (· + 1)
theorem rowAt_mid {t p : Int} {r : Rows} {x : Option BR} (hx : isOf t p x = true) : ∀ {done : Rows}, (∀ y ∈ done, isOf t p y = false) → rowAt (done ++ x :: r) t p = some done.length
  | [], _ => by show rowAt (x :: r) t p = _; unfold rowAt; rw [if_pos hx]; rfl
  | y :: done, h => by
    show rowAt (y :: (done ++ x :: r)) t p = _
    unfold rowAt
    rw [if_neg (by rw [h y (.head _)]; exact Bool.false_ne_true), rowAt_mid hx fun z hz => h z (.tail _ hz)]; rfl
theorem rowAt_none {t p : Int} : ∀ {rs : Rows}, (∀ y ∈ rs, isOf t p y = false) → rowAt rs t p = none
  | [], _ => rfl
  | y :: rs, h => by
    unfold rowAt
    rw [if_neg (by rw [h y (.head _)]; exact Bool.false_ne_true), rowAt_none fun z hz => h z (.tail _ hz)]; rfl
theorem rowAt_some {t p : Int} {i : Nat} : ∀ {rs : Rows}, rowAt rs t p = some i → ∃ b, rs[i]? = some (some b) ∧ b.t = t ∧ b.p = p := by
  intro rs
  induction rs generalizing i with
  | nil => intro h; cases h
  | cons y rs ih =>
    intro h
    unfold rowAt at h
    split at h
    · next q =>
      cases h
      cases y with
      | none => cases q
      | some b =>
        unfold isOf at q
        rw [Bool.and_eq_true, decide_eq_true_eq, decide_eq_true_eq] at q
        exact ⟨b, rfl, q⟩
    · obtain ⟨j, h1, h2⟩ := Option.map_eq_some_iff.mp h
      obtain ⟨b, h3⟩ := ih h1
      exact ⟨b, by rw [← h2, List.getElem?_cons_succ]; exact h3.1, h3.2⟩
def updB (rs : Rows) (t p : Int) (f : BR → BR) : Rows := match rowAt rs t p with
  | none => rs
  | some i => match rs[i]? with
    | some (some b) => rs.set i (some (f b))
    | _ => rs
def lookB (rs : Rows) (t p : Int) : Option Int := match rowAt rs t p with
  | none => none
  | some i => match rs[i]? with
    | some (some b) => some b.e
    | _ => none
theorem updB_none {rs : Rows} {t p : Int} {f : BR → BR} (h : rowAt rs t p = none) : updB rs t p f = rs := by unfold updB; rw [h]
theorem updB_some {rs : Rows} {t p : Int} {f : BR → BR} {i : Nat} {b : BR} (h : rowAt rs t p = some i) (e : rs[i]? = some (some b)) : updB rs t p f = rs.set i (some (f b)) := by unfold updB; rw [h]; dsimp only; rw [e]
theorem lookB_none {rs : Rows} {t p : Int} (h : rowAt rs t p = none) : lookB rs t p = none := by unfold lookB; rw [h]
theorem lookB_some {rs : Rows} {t p : Int} {i : Nat} {b : BR} (h : rowAt rs t p = some i) (e : rs[i]? = some (some b)) : lookB rs t p = some b.e := by unfold lookB; rw [h]; dsimp only; rw [e]
theorem updB_len {rs : Rows} {t p : Int} {f : BR → BR} : (updB rs t p f).length = rs.length := by
  unfold updB
  split
  · rfl
  · split
    · rw [List.length_set]
    · rfl
/-- told: a tuple, or None -/
def shwA : Option BR → V → Asrt
  | none => fun v => pu (v = .non)
  | some b => fun v h => ∃ a, v = .ref a ∧ h a = some (.tup [.int b.t, .int b.p, .int b.e, .bl b.u])
instance : Pst shwA := ⟨fun e v => by
  cases e with
  | none => exact Sup.pu
  | some b => exact Sup.ex fun p => Sup.and fun _ => Sup.tup⟩
theorem shw_open {b : BR} {v : V} {L l : List Asrt} {H : Hp} (S : Star L H) (P : Pull (shwA (some b) v) L l) : ∃ a, v = .ref a ∧ Star (pt a (.tup [.int b.t, .int b.p, .int b.e, .bl b.u]) :: l) H := by
  obtain ⟨h1, h2, dj, s1, s2, ⟨a, e, S1⟩, S2⟩ := S.pull P
  exact ⟨a, e, h1, h2, dj, s1, s2, S1, S2⟩
theorem shw_close {a : Addr} {t p e : Int} {u : Bool} {L l : List Asrt} {H : Hp} (S : Star L H) (P : Pull (pt a (.tup [.int t, .int p, .int e, .bl u])) L l) : Star (shwA (some ⟨t, p, e, u⟩) (.ref a) :: l) H :=
  (S.pull P).hd fun _ y => ⟨a, rfl, y⟩
theorem none_shw {L : List Asrt} {H : Hp} (S : Star L H) : Star (shwA none .non :: L) H := Star.put (p := V.non = .non) rfl S
instance mk_shw {t p e : Int} {u : Bool} : MkA shwA (.tup [.int t, .int p, .int e, .bl u]) (some ⟨t, p, e, u⟩) := ⟨fun {T h} e => ⟨T, rfl, e⟩⟩
theorem own_nones {α : Type} {A : Option α → V → Asrt} (hA : ∀ h, A none .non h) {l : List Asrt} {H : Hp} (S : Star l H) : ∀ n, Star (ownL A (List.replicate n ((none : Option α), V.non)) :: l) H
  | 0 => sepL_nil S
  | n + 1 => sepL_cons (Star.free (hA _) (own_nones hA S n))
theorem nones_A {α : Type} {A : Option α → V → Asrt} (hA : ∀ h, A none .non h) {p : Addr} {n : Nat} {L l : List Asrt} {H : Hp} (S : Star L H) (P : Pull (pt p (.lst ((List.range n).map fun _ => V.non))) L l) : Star (listA A (List.replicate n none) p :: l) H := by
  refine listA_close (cs := List.replicate n (none, V.non)) (by simp) ?_
  have e : (List.replicate n ((none : Option α), V.non)).map Prod.snd = (List.range n).map fun _ => V.non := by
    rw [List.map_replicate]
    exact (List.ext_getElem? fun k => by simp [List.getElem?_replicate, List.getElem?_range]; split <;> simp_all).symm
  rw [e]
  exact (S.pull P).under fun h S => own_nones hA S n
theorem not_snoc {t p : Int} {done : Rows} {x : Option BR} (hd : ∀ y ∈ done, isOf t p y = false) (hx : isOf t p x = false) : ∀ y ∈ done ++ [x], isOf t p y = false := fun y hy => by
  rcases List.mem_append.mp hy with hy | hy
  · exact hd y hy
  · rw [List.mem_singleton] at hy; subst hy; exact hx
/-! the hand over the rows -/
def markB : Option BR → Bool
  | some b => b.u
  | none => false
def markAt (rs : Rows) (i : Nat) : Bool := (rs.map markB).getD i false
def clr (rs : Rows) (i : Nat) : Rows := match rs[i]? with
  | some (some b) => rs.set i (some { b with u := false })
  | _ => rs
def clearB (rs : Rows) (s : Nat) : Nat → Rows
  | 0 => rs
  | k + 1 => clr (clearB rs s k) (swAt s rs.length k)
def swK (rs : Rows) (s : Nat) : Nat := ((List.range rs.length).find? fun k => !markAt rs (swAt s rs.length k)).getD rs.length
def noneAt : Rows → Option Nat
  | [] => none
  | none :: _ => some 0
  | some _ :: rs => (noneAt rs).map (· + 1)
def allS (rs : Rows) : Prop := ∀ x ∈ rs, ∃ b, x = some b
theorem noneAt_mid {r : Rows} : ∀ {done : Rows}, allS done → noneAt (done ++ none :: r) = some done.length
  | [], _ => rfl
  | y :: done, h => by
    obtain ⟨b, rfl⟩ := h y (.head _)
    show (noneAt (done ++ none :: r)).map (· + 1) = _
    rw [noneAt_mid fun z hz => h z (.tail _ hz)]; rfl
theorem noneAt_all : ∀ {rs : Rows}, allS rs → noneAt rs = none
  | [], _ => rfl
  | y :: rs, h => by
    obtain ⟨b, rfl⟩ := h y (.head _)
    show (noneAt rs).map (· + 1) = _
    rw [noneAt_all fun z hz => h z (.tail _ hz)]; rfl
theorem noneAt_some {i : Nat} : ∀ {rs : Rows}, noneAt rs = some i → rs[i]? = some none := by
  intro rs
  induction rs generalizing i with
  | nil => intro h; cases h
  | cons y rs ih =>
    intro h
    cases y with
    | none => cases h; rfl
    | some b =>
      obtain ⟨j, h1, h2⟩ := Option.map_eq_some_iff.mp (show (noneAt rs).map (· + 1) = some i from h)
      rw [← h2, List.getElem?_cons_succ]
      exact ih h1
theorem clr_len {rs : Rows} {i : Nat} : (clr rs i).length = rs.length := by
  unfold clr
  split
  · rw [List.length_set]
  · rfl
theorem clearB_len {rs : Rows} {s : Nat} : ∀ k, (clearB rs s k).length = rs.length
  | 0 => rfl
  | k + 1 => by show (clr _ _).length = _; rw [clr_len, clearB_len k]
theorem clr_some {rs : Rows} {i : Nat} {b : BR} (e : rs[i]? = some (some b)) : clr rs i = rs.set i (some { b with u := false }) := by unfold clr; rw [e]
theorem allS_set {rs : Rows} {i : Nat} {b : BR} (h : allS rs) : allS (rs.set i (some b)) := fun x hx => by
  rcases List.mem_or_eq_of_mem_set hx with hx | rfl
  · exact h x hx
  · exact ⟨b, rfl⟩
theorem clr_allS {rs : Rows} {i : Nat} (h : allS rs) : allS (clr rs i) := by
  unfold clr
  split
  · exact allS_set h
  · exact h
theorem clearB_allS {rs : Rows} {s : Nat} (h : allS rs) : ∀ k, allS (clearB rs s k)
  | 0 => h
  | k + 1 => clr_allS (clearB_allS h k)
theorem allS_at {rs : Rows} {i : Nat} (h : allS rs) (hi : i < rs.length) : ∃ b, rs[i]? = some (some b) := by
  obtain ⟨b, e⟩ := h rs[i] (List.getElem_mem hi)
  exact ⟨b, by rw [List.getElem?_eq_getElem hi, e]⟩
theorem sw_uniq {rs : Rows} {s k : Nat} (h1 : k ≤ rs.length) (h2 : ∀ i < k, markAt rs (swAt s rs.length i) = true) (h3 : k = rs.length ∨ markAt rs (swAt s rs.length k) = false) : k = swK rs s := by
  unfold swK
  cases e : (List.range rs.length).find? fun k => !markAt rs (swAt s rs.length k) with
  | none =>
    rw [List.find?_eq_none] at e
    rcases h3 with h3 | h3
    · exact h3
    · rcases Nat.lt_or_ge k rs.length with h | h
      · exact absurd (by rw [h3]; rfl) (e k (List.mem_range.mpr h))
      · show k = rs.length; omega
  | some j =>
    rw [List.find?_range_eq_some] at e
    obtain ⟨e1, e2, e3⟩ := e
    rw [List.mem_range] at e2
    show k = j
    rcases Nat.lt_trichotomy k j with h | h | h
    · have := e3 k h
      rcases h3 with h3 | h3
      · omega
      · rw [h3] at this; simp at this
    · exact h
    · rw [h2 j h] at e1; simp at e1
def placeB (rs : Rows) (s : Nat) : Nat × Rows × Nat := match noneAt rs with
  | some k => (k, rs, s)
  | none => (swAt s rs.length (swK rs s), clearB rs s (swK rs s), (swAt s rs.length (swK rs s) + 1) % rs.length)
def keepB (rs : Rows) (s : Nat) (t p e : Int) : Rows × Nat := if rs.length = 0 then (rs, s) else match rowAt rs t p with
  | some _ => (updB rs t p fun b => { b with e := e }, s)
  | none => ((placeB rs s).2.1.set (placeB rs s).1 (some ⟨t, p, e, false⟩), (placeB rs s).2.2)
theorem placeB_len {rs : Rows} {s : Nat} : (placeB rs s).2.1.length = rs.length := by
  unfold placeB
  split
  · rfl
  · exact clearB_len _
theorem placeB_lt {rs : Rows} {s : Nat} (h : 0 < rs.length) : (placeB rs s).1 < rs.length := by
  unfold placeB
  split
  · next k e => exact (List.getElem?_eq_some_iff.mp (noneAt_some e)).1
  · exact swAt_lt h
theorem placeB_st {rs : Rows} {s : Nat} (h : s < rs.length) : (placeB rs s).2.2 < rs.length := by
  unfold placeB
  split
  · exact h
  · exact Nat.mod_lt _ (by omega)
theorem keepB_len {rs : Rows} {s : Nat} {t p e : Int} : (keepB rs s t p e).1.length = rs.length := by
  unfold keepB
  split
  · rfl
  · split
    · exact updB_len
    · rw [List.length_set, placeB_len]
theorem keepB_st {rs : Rows} {s : Nat} {t p e : Int} (h : rs.length ≠ 0 → s < rs.length) : rs.length ≠ 0 → (keepB rs s t p e).2 < rs.length := fun z => by
  unfold keepB
  rw [if_neg z]
  split
  · exact h z
  · exact placeB_st (h z)
def stk (f : Option BR → Bool) (r : Option BR) : Option BR := if f r = true then none else r
def strikeB (f : Option BR → Bool) (rs : Rows) (k : Nat) : Rows := (rs.take k).map (stk f) ++ rs.drop k
theorem strikeB_zero {f : Option BR → Bool} {rs : Rows} : strikeB f rs 0 = rs := by unfold strikeB; simp
theorem strikeB_len {f : Option BR → Bool} {rs : Rows} {k : Nat} : (strikeB f rs k).length = rs.length := by unfold strikeB; simp; omega
theorem strikeB_end {f : Option BR → Bool} {rs : Rows} : strikeB f rs rs.length = rs.map (stk f) := by unfold strikeB; simp
theorem strikeB_get {f : Option BR → Bool} {rs : Rows} {k j : Nat} : (strikeB f rs k)[j]? = if j < k then (rs[j]?).map (stk f) else rs[j]? := by
  unfold strikeB
  by_cases h : j < k
  · rw [if_pos h]
    by_cases h2 : j < rs.length
    · rw [List.getElem?_append_left (by rw [List.length_map, List.length_take]; omega), List.getElem?_map, List.getElem?_take_of_lt h]
    · rw [List.getElem?_eq_none (by simp; omega), List.getElem?_eq_none (by omega)]; rfl
  · rw [if_neg h]
    by_cases h2 : k ≤ rs.length
    · rw [List.getElem?_append_right (by rw [List.length_map, List.length_take]; omega), List.length_map, List.length_take, List.getElem?_drop]
      congr 1; omega
    · rw [List.getElem?_eq_none (by simp; omega), List.getElem?_eq_none (by omega)]
theorem strikeB_next {f : Option BR → Bool} {rs : Rows} {k : Nat} {x : Option BR} (e : rs[k]? = some x) : (strikeB f rs k).set k (stk f x) = strikeB f rs (k + 1) := by
  have hk := (List.getElem?_eq_some_iff.mp e).1
  refine List.ext_getElem? fun j => ?_
  rw [List.getElem?_set, strikeB_get, strikeB_get, strikeB_len]
  by_cases h : k = j
  · subst h; rw [if_pos rfl, if_pos hk, if_pos (by omega), e]; rfl
  · rw [if_neg h]
    by_cases h2 : j < k
    · rw [if_pos h2, if_pos (by omega)]
    · rw [if_neg h2, if_neg (by omega)]
theorem strikeB_at {f : Option BR → Bool} {rs : Rows} {k : Nat} : (strikeB f rs k)[k]? = rs[k]? := by rw [strikeB_get, if_neg (by omega)]
theorem strikeB_same {f : Option BR → Bool} {rs : Rows} {k : Nat} {x : Option BR} (e : rs[k]? = some x) (h : f x = false) : strikeB f rs (k + 1) = strikeB f rs k := by
  rw [← strikeB_next e, show stk f x = x from if_neg (by rw [h]; exact Bool.false_ne_true)]
  exact set_same (by rw [strikeB_at, e])
theorem strikeB_put {f : Option BR → Bool} {rs : Rows} {k : Nat} {x : Option BR} (e : rs[k]? = some x) (h : f x = true) : strikeB f rs (k + 1) = (strikeB f rs k).set k none := by
  rw [← strikeB_next e, show stk f x = none from if_pos h]
def isTk (t : Int) : Option BR → Bool
  | none => false
  | some b => decide (b.t = t)
/-! ### no pair twice -/
def uniq (rs : Rows) : Prop := ∀ (i j : Nat) (b c : BR), rs[i]? = some (some b) → rs[j]? = some (some c) → b.t = c.t → b.p = c.p → i = j
theorem rowAt_no {t p : Int} : ∀ {rs : Rows}, rowAt rs t p = none → ∀ y ∈ rs, isOf t p y = false
  | [], _, y, hy => by cases hy
  | x :: rs, h, y, hy => by
    unfold rowAt at h
    split at h
    · cases h
    · next q =>
      rcases List.mem_cons.mp hy with rfl | hy
      · simpa using q
      · exact rowAt_no (by simpa using h) y hy
theorem isOf_self {b : BR} : isOf b.t b.p (some b) = true := by unfold isOf; simp
theorem rowAt_at {rs : Rows} {i : Nat} {b : BR} (u : uniq rs) (e : rs[i]? = some (some b)) : rowAt rs b.t b.p = some i := by
  cases h : rowAt rs b.t b.p with
  | none =>
    have := rowAt_no h _ (List.mem_of_getElem? e)
    rw [isOf_self] at this; cases this
  | some j =>
    obtain ⟨c, e2, ht, hp⟩ := rowAt_some h
    rw [u j i c b e2 e ht hp]
theorem uniq_put {rs : Rows} {i : Nat} {b' : BR} (u : uniq rs) (hn : ∀ j c, rs[j]? = some (some c) → c.t = b'.t → c.p = b'.p → j = i) : uniq (rs.set i (some b')) := fun x y b c e1 e2 ht hp => by
  rw [List.getElem?_set] at e1 e2
  split at e1
  · next h1 =>
    split at e1
    · obtain rfl := Option.some.inj (Option.some.inj e1)
      split at e2
      · next h2 => omega
      · exact (h1.symm.trans (hn y c e2 ht.symm hp.symm).symm)
    · cases e1
  · split at e2
    · next h2 =>
      split at e2
      · obtain rfl := Option.some.inj (Option.some.inj e2)
        exact (hn x b e1 ht hp).trans h2
      · cases e2
    · exact u x y b c e1 e2 ht hp
theorem uniq_upd {rs : Rows} {i : Nat} {b b' : BR} (u : uniq rs) (e : rs[i]? = some (some b)) (ht : b'.t = b.t) (hp : b'.p = b.p) : uniq (rs.set i (some b')) :=
  uniq_put u fun j c e2 h1 h2 => u j i c b e2 e (h1.trans ht) (h2.trans hp)
theorem uniq_new {rs : Rows} {i : Nat} {b' : BR} (u : uniq rs) (h : rowAt rs b'.t b'.p = none) : uniq (rs.set i (some b')) :=
  uniq_put u fun j c e2 h1 h2 => by
    have := rowAt_no h _ (List.mem_of_getElem? e2)
    rw [← h1, ← h2, isOf_self] at this; cases this
theorem uniq_none {rs : Rows} {i : Nat} (u : uniq rs) : uniq (rs.set i none) := fun x y b c e1 e2 ht hp => by
  rw [List.getElem?_set] at e1 e2
  split at e1
  · split at e1 <;> cases e1
  · split at e2
    · split at e2 <;> cases e2
    · exact u x y b c e1 e2 ht hp
theorem uniq_nones {n : Nat} : uniq (List.replicate n none) := fun i j b c e1 _ _ _ => by
  rw [List.getElem?_replicate] at e1
  split at e1 <;> cases e1
theorem clr_get {rs : Rows} {i j : Nat} {b : BR} (e : (clr rs i)[j]? = some (some b)) : ∃ c, rs[j]? = some (some c) ∧ b.t = c.t ∧ b.p = c.p ∧ b.e = c.e := by
  unfold clr at e
  split at e
  · next d hd =>
    rw [List.getElem?_set] at e
    split at e
    · next h =>
      subst h
      split at e
      · obtain rfl := Option.some.inj (Option.some.inj e)
        exact ⟨d, hd, rfl, rfl, rfl⟩
      · cases e
    · exact ⟨b, e, rfl, rfl, rfl⟩
  · exact ⟨b, e, rfl, rfl, rfl⟩
theorem clearB_get {rs : Rows} {s : Nat} : ∀ {k j : Nat} {b : BR}, (clearB rs s k)[j]? = some (some b) → ∃ c, rs[j]? = some (some c) ∧ b.t = c.t ∧ b.p = c.p ∧ b.e = c.e
  | 0, j, b, e => ⟨b, e, rfl, rfl, rfl⟩
  | k + 1, j, b, e => by
    obtain ⟨c, e1, h1, h2, h3⟩ := clr_get e
    obtain ⟨d, e2, h4, h5, h6⟩ := clearB_get e1
    exact ⟨d, e2, h1.trans h4, h2.trans h5, h3.trans h6⟩
theorem uniq_clearB {rs : Rows} {s k : Nat} (u : uniq rs) : uniq (clearB rs s k) := fun i j b c e1 e2 ht hp => by
  obtain ⟨b', f1, h1, h2, _⟩ := clearB_get e1
  obtain ⟨c', f2, h3, h4, _⟩ := clearB_get e2
  exact u i j b' c' f1 f2 (by omega) (by omega)
theorem rowAt_noB {rs : Rows} {s k : Nat} {t p : Int} (h : rowAt rs t p = none) : rowAt (clearB rs s k) t p = none := by
  refine rowAt_none fun y hy => ?_
  cases y with
  | none => rfl
  | some b =>
    obtain ⟨j, hj, e⟩ := List.getElem_of_mem hy
    obtain ⟨c, e1, h1, h2, _⟩ := clearB_get (show (clearB rs s k)[j]? = some (some b) by rw [List.getElem?_eq_getElem hj, e])
    have := rowAt_no h _ (List.mem_of_getElem? e1)
    have this : (decide (c.t = t) && decide (c.p = p)) = false := this
    show (decide (b.t = t) && decide (b.p = p)) = false
    rw [h1, h2]; exact this
theorem swAt_inj {s n i j : Nat} (hj : j < n) (hij : i < j) : swAt s n i ≠ swAt s n j := fun e => by
  unfold swAt at e
  have h := Nat.sub_mod_eq_zero_of_mod_eq e.symm
  rw [show s + j - (s + i) = j - i by omega, Nat.mod_eq_of_lt (by omega)] at h
  omega
theorem clr_far {rs : Rows} {i j : Nat} (h : i ≠ j) : (clr rs i)[j]? = rs[j]? := by
  unfold clr
  split
  · rw [List.getElem?_set, if_neg h]
  · rfl
theorem clearB_far {rs : Rows} {s : Nat} : ∀ {k j}, k ≤ j → j < rs.length → (clearB rs s k)[swAt s rs.length j]? = rs[swAt s rs.length j]?
  | 0, _, _, _ => rfl
  | k + 1, j, h, hj => by
    show (clr (clearB rs s k) (swAt s rs.length k))[_]? = _
    rw [clr_far (swAt_inj hj (by omega)), clearB_far (by omega) hj]
theorem markAt_some {rs : Rows} {i : Nat} {b : BR} (e : rs[i]? = some (some b)) : markAt rs i = b.u := by
  unfold markAt
  rw [List.getD_eq_getElem?_getD, List.getElem?_map, e]; rfl
/-- a new row in a full book -/
theorem keepB_full {rs : Rows} {s : Nat} {t p e : Int} (h0 : rs.length ≠ 0) (ha : allS rs) (h : rowAt rs t p = none) :
    keepB rs s t p e = ((clearB rs s (swK rs s)).set (swAt s rs.length (swK rs s)) (some ⟨t, p, e, false⟩), (swAt s rs.length (swK rs s) + 1) % rs.length) := by
  unfold keepB
  rw [if_neg h0, h]
  unfold placeB
  rw [noneAt_all ha]
/-- an entry told anew -/
theorem keepB_old {rs : Rows} {s i : Nat} {b : BR} {e : Int} (u : uniq rs) (h : rs[i]? = some (some b)) : keepB rs s b.t b.p e = (rs.set i (some { b with e := e }), s) := by
  have hl := (List.getElem?_eq_some_iff.mp h).1
  unfold keepB
  rw [if_neg (by omega), rowAt_at u h]
  dsimp only
  rw [updB_some (rowAt_at u h) h]
theorem updB_at {rs : Rows} {i : Nat} {b : BR} {f : BR → BR} (u : uniq rs) (h : rs[i]? = some (some b)) : updB rs b.t b.p f = rs.set i (some (f b)) := updB_some (rowAt_at u h) h
theorem lookB_at {rs : Rows} {i : Nat} {b : BR} (u : uniq rs) (h : rs[i]? = some (some b)) : lookB rs b.t b.p = some b.e := lookB_some (rowAt_at u h) h
/-- one more in a book with room -/
theorem keepB_grow {rs : Rows} {m : Nat} {t p e : Int} (ha : allS rs) (h : ∀ y ∈ rs, isOf t p y = false) : keepB (rs ++ List.replicate (m + 1) none) 0 t p e = ((rs ++ [some ⟨t, p, e, false⟩]) ++ List.replicate m none, 0) := by
  unfold keepB
  rw [if_neg (by simp), rowAt_none (fun y hy => (List.mem_append.mp hy).elim (h y) fun hy => by rw [(List.mem_replicate.mp hy).2]; rfl)]
  dsimp only
  have e : List.replicate (m + 1) (none : Option BR) = none :: List.replicate m none := rfl
  unfold placeB
  rw [e, noneAt_mid ha]
  dsimp only
  rw [List.set_append_right _ _ (Nat.le_refl _), Nat.sub_self, List.set_cons_zero, List.append_assoc]; rfl
theorem allS_snoc {rs : Rows} {b : BR} (h : allS rs) : allS (rs ++ [some b]) := fun x hx => by
  rcases List.mem_append.mp hx with hx | hx
  · exact h x hx
  · rw [List.mem_singleton] at hx; exact ⟨b, hx⟩
theorem uniq_snoc {rs : Rows} {b : BR} (u : uniq rs) (h : ∀ y ∈ rs, isOf b.t b.p y = false) : uniq (rs ++ [some b]) := fun i j c d e1 e2 ht hp => by
  rw [List.getElem?_append] at e1 e2
  split at e1
  · split at e2
    · exact u i j c d e1 e2 ht hp
    · have h1 := h _ (List.mem_of_getElem? e1)
      have hd := (List.getElem?_eq_some_iff.mp e2).1
      rw [List.length_singleton] at hd
      rw [show j - rs.length = 0 by omega] at e2
      obtain rfl := Option.some.inj (Option.some.inj e2)
      rw [← ht, ← hp, isOf_self] at h1; cases h1
  · have hd := (List.getElem?_eq_some_iff.mp e1).1
    rw [List.length_singleton] at hd
    rw [show i - rs.length = 0 by omega] at e1
    obtain rfl := Option.some.inj (Option.some.inj e1)
    split at e2
    · have h1 := h _ (List.mem_of_getElem? e2)
      rw [ht, hp, isOf_self] at h1; cases h1
    · have hd2 := (List.getElem?_eq_some_iff.mp e2).1
      rw [List.length_singleton] at hd2
      omega
theorem uniq_app {rs : Rows} {m : Nat} (u : uniq rs) : uniq (rs ++ List.replicate m none) := fun i j b c e1 e2 ht hp => by
  rw [List.getElem?_append] at e1 e2
  split at e1
  · split at e2
    · exact u i j b c e1 e2 ht hp
    · rw [List.getElem?_replicate] at e2
      split at e2 <;> cases e2
  · rw [List.getElem?_replicate] at e1
    split at e1 <;> cases e1
theorem set_mid {rs r : Rows} {x y : Option BR} {k : Nat} (h : rs.length = k) : (rs ++ [x] ++ r).set k y = rs ++ [y] ++ r := by subst h; simp
theorem keep_new {rs : Rows} {s : Nat} {t p e : Int} (h0 : rs.length ≠ 0) (ha : allS rs) (u : uniq rs) (h : rowAt rs t p = none) : allS (keepB rs s t p e).1 ∧ uniq (keepB rs s t p e).1 ∧ ∀ b, some b ∈ (keepB rs s t p e).1 → (b.t = t ∧ b.p = p) ∨ ∃ c, some c ∈ rs ∧ b.t = c.t ∧ b.p = c.p := by
  rw [keepB_full h0 ha h]
  refine ⟨allS_set (clearB_allS ha _), uniq_new (uniq_clearB u) (rowAt_noB h), fun b hb => ?_⟩
  rcases List.mem_or_eq_of_mem_set hb with hb | hb
  · obtain ⟨j, hj, e1⟩ := List.getElem_of_mem hb
    obtain ⟨c, e2, h1, h2, _⟩ := clearB_get (show (clearB rs s (swK rs s))[j]? = some (some b) by rw [List.getElem?_eq_getElem hj, e1])
    exact .inr ⟨c, List.mem_of_getElem? e2, h1, h2⟩
  · obtain rfl := Option.some.inj hb
    exact .inl ⟨rfl, rfl⟩
theorem mem_set_pair {rs : Rows} {i : Nat} {b b' : BR} (e : rs[i]? = some (some b)) (ht : b'.t = b.t) (hp : b'.p = b.p) : ∀ c, some c ∈ rs.set i (some b') → ∃ d, some d ∈ rs ∧ c.t = d.t ∧ c.p = d.p := fun c hc => by
  rcases List.mem_or_eq_of_mem_set hc with hc | hc
  · exact ⟨c, hc, rfl, rfl⟩
  · obtain rfl := Option.some.inj hc
    exact ⟨b, List.mem_of_getElem? e, ht, hp⟩
theorem keepB_none {rs : Rows} {s k : Nat} {t p e : Int} (h : noneAt rs = some k) (hr : rowAt rs t p = none) : keepB rs s t p e = (rs.set k (some ⟨t, p, e, false⟩), s) := by
  unfold keepB placeB
  rw [if_neg (fun z => by have := (List.getElem?_eq_some_iff.mp (noneAt_some h)).1; omega), hr, h]
theorem uniq_front {rs done r : Rows} {b : BR} (u : uniq rs) (e : rs = done ++ some b :: r) : ∀ y ∈ done, isOf b.t b.p y = false := fun y hy => by
  cases y with
  | none => rfl
  | some c =>
    obtain ⟨i, hi, f⟩ := List.getElem_of_mem hy
    cases h : isOf b.t b.p (some c) with
    | false => rfl
    | true =>
      have h : (decide (c.t = b.t) && decide (c.p = b.p)) = true := h
      rw [Bool.and_eq_true, decide_eq_true_eq, decide_eq_true_eq] at h
      have := u i done.length c b (by rw [e, List.getElem?_append_left hi, List.getElem?_eq_getElem hi, f]) (by rw [e]; simp) h.1 h.2
      omega
theorem allS_front {ls done r : Rows} {j : Nat} {b : BR} (h : allS ls) (e : ls ++ List.replicate j none = done ++ some b :: r) : allS done := fun y hy => by
  obtain ⟨i, hi, f⟩ := List.getElem_of_mem hy
  have hd : done.length < ls.length := by
    rcases Nat.lt_or_ge done.length ls.length with h | h
    · exact h
    · have f2 : (ls ++ List.replicate j none)[done.length]? = some (some b) := by rw [e]; simp
      rw [List.getElem?_append_right h, List.getElem?_replicate] at f2
      split at f2 <;> cases f2
  have f2 : (ls ++ List.replicate j none)[i]? = some y := by rw [e, List.getElem?_append_left hi, List.getElem?_eq_getElem hi, f]
  rw [List.getElem?_append_left (by omega)] at f2
  exact h y (List.mem_of_getElem? f2)
theorem front_app {rs done r : Rows} {x : Option BR} (e : rs = done ++ x :: r) : ∃ m, rs.length - done.length = m + 1 ∧ rs.length - (done ++ [x]).length = m := ⟨r.length, by rw [e]; simp, by rw [e]; simp; omega⟩
theorem front_none {done : Rows} {m : Nat} : done ++ List.replicate (m + 1) none = done ++ [none] ++ List.replicate m none := by
  rw [List.append_assoc]; rfl
/-- struck by a task and a page, or by a task -/
def fS (c t p : Int) : Option BR → Bool := if c % 2 = 0 then isOf t p else isTk t
theorem fS_some {c t p : Int} {b : BR} : fS c t p (some b) = (decide (b.t = t) && (decide (c % 2 = 1) || decide (b.p = p))) := by
  unfold fS
  split
  · next h => rw [decide_eq_false (show ¬ c % 2 = 1 by omega), Bool.false_or]; rfl
  · next h => rw [decide_eq_true (show c % 2 = 1 by omega), Bool.true_or, Bool.and_true]; rfl
theorem struck_gone {rs : Rows} {c t p p' : Int} (h : c % 2 = 0 → p' = p) : rowAt (rs.map (stk (fS c t p))) t p' = none := rowAt_none fun y hy => by
  obtain ⟨x, hx, rfl⟩ := List.mem_map.mp hy
  unfold stk
  split
  · rfl
  · next q =>
    cases x with
    | none => rfl
    | some b =>
      rw [fS_some] at q
      show (decide (b.t = t) && decide (b.p = p')) = false
      by_cases e : b.t = t
      · rw [decide_eq_true e, Bool.true_and] at q ⊢
        by_cases hc : c % 2 = 0
        · rw [h hc]
          cases f : decide (b.p = p) with
          | false => rfl
          | true => rw [f, Bool.or_true] at q; exact absurd rfl q
        · rw [decide_eq_true (show c % 2 = 1 by omega)] at q; exact absurd rfl q
      · rw [decide_eq_false e]; rfl
theorem struck_none {rs : Rows} {f : Option BR → Bool} {t p : Int} (h : ∀ b, some b ∈ rs → b.p ≠ p) : rowAt (rs.map (stk f)) t p = none := rowAt_none fun y hy => by
  obtain ⟨x, hx, rfl⟩ := List.mem_map.mp hy
  unfold stk
  split
  · rfl
  · cases x with
    | none => rfl
    | some b =>
      show (decide (b.t = t) && decide (b.p = p)) = false
      rw [decide_eq_false (h b hx), Bool.and_false]
theorem rowAt_app {t p : Int} {m : Nat} : ∀ {rs : Rows}, rowAt (rs ++ List.replicate m none) t p = rowAt rs t p
  | [] => by
    rw [List.nil_append, rowAt_none fun y hy => by rw [(List.mem_replicate.mp hy).2]; rfl]; rfl
  | x :: rs => by
    rw [List.cons_append]
    unfold rowAt
    rw [rowAt_app]
theorem lookB_app {rs : Rows} {t p : Int} {m : Nat} : lookB (rs ++ List.replicate m none) t p = lookB rs t p := by
  unfold lookB
  rw [rowAt_app]
  cases h : rowAt rs t p with
  | none => rfl
  | some i =>
    obtain ⟨b, e, _⟩ := rowAt_some h
    dsimp only
    rw [List.getElem?_append_left (List.getElem?_eq_some_iff.mp e).1]
def placeI (rs : Rows) (t p : Int) : Int := match rowAt rs t p with
  | some i => (i : Int)
  | none => -1
theorem isOf_iff {t p : Int} {b : BR} : isOf t p (some b) = true ↔ b.t = t ∧ b.p = p := by
  show (decide (b.t = t) && decide (b.p = p)) = true ↔ _
  rw [Bool.and_eq_true, decide_eq_true_eq, decide_eq_true_eq]
theorem nd_len {α : Type} [DecidableEq α] : ∀ {xs ys : List α}, xs.Nodup → (∀ x ∈ xs, x ∈ ys) → xs.length ≤ ys.length
  | [], _, _, _ => Nat.zero_le _
  | x :: xs, ys, nd, h => by
    rw [List.nodup_cons] at nd
    have hx := h x (List.mem_cons_self ..)
    have := nd_len (xs := xs) (ys := ys.erase x) nd.2 fun z hz => (List.mem_erase_of_ne (fun e => by subst e; exact nd.1 hz)).mpr (h z (List.mem_cons_of_mem _ hz))
    rw [List.length_erase_of_mem hx] at this
    have := List.length_pos_of_mem hx
    rw [List.length_cons]; omega
def pairB : Option BR → List Int
  | some b => [b.t, b.p]
  | none => []
theorem prs_nd {rs : Rows} (ha : allS rs) (u : uniq rs) : (rs.map pairB).Nodup := by
  unfold List.Nodup
  rw [List.pairwise_map, List.pairwise_iff_getElem]
  intro i j hi hj hij e
  obtain ⟨b, hb⟩ := allS_at ha hi
  obtain ⟨c, hc⟩ := allS_at ha hj
  rw [Option.some.inj ((List.getElem?_eq_getElem hi).symm.trans hb), Option.some.inj ((List.getElem?_eq_getElem hj).symm.trans hc)] at e
  have e : [b.t, b.p] = [c.t, c.p] := e
  have := u i j b c hb hc (by injection e) (by injection e with _ e; injection e)
  omega
theorem room_left {rs : Rows} {hs : List (List Int)} {t p : Int} (ha : allS rs) (u : uniq rs) (hm : ∀ b, some b ∈ rs → [b.t, b.p] ∈ hs) (h : rowAt rs t p = none) (hx : [t, p] ∈ hs) : rs.length < hs.length := by
  have := nd_len (xs := [t, p] :: rs.map pairB) (ys := hs) (by
    rw [List.nodup_cons]
    refine ⟨fun hq => ?_, prs_nd ha u⟩
    obtain ⟨o, ho, e⟩ := List.mem_map.mp hq
    obtain ⟨b, rfl⟩ := ha o ho
    have e : [b.t, b.p] = [t, p] := e
    have := rowAt_no h _ ho
    rw [isOf_iff.mpr ⟨by injection e, by injection e with _ e; injection e⟩] at this
    cases this) (fun z hz => by
    rcases List.mem_cons.mp hz with rfl | hz
    · exact hx
    · obtain ⟨o, ho, rfl⟩ := List.mem_map.mp hz
      obtain ⟨b, rfl⟩ := ha o ho
      exact hm b ho)
  rw [List.length_cons, List.length_map] at this
  omega
theorem eqv4 {t p e : Int} {u : Bool} : PyData.eqvAll [PyData.int t, PyData.int p, PyData.int e, PyData.bool u] [PyData.int t, PyData.int p, PyData.int e, PyData.bool u] = true := by simp [PyData.eqvAll, PyData.eqv]
theorem stk_none {f : Option BR → Bool} : stk f none = none := by unfold stk; split <;> rfl
theorem uniq_stk {rs : Rows} {f : Option BR → Bool} (u : uniq rs) : uniq (rs.map (stk f)) := by
  have key : ∀ {i : Nat} {b : BR}, (rs.map (stk f))[i]? = some (some b) → rs[i]? = some (some b) := fun {i b} e => by
    rw [List.getElem?_map] at e
    cases h : rs[i]? with
    | none => rw [h] at e; cases e
    | some x =>
      rw [h] at e
      have e : stk f x = some b := Option.some.inj e
      unfold stk at e
      split at e
      · cases e
      · rw [e]
  exact fun i j b c e1 e2 => u i j b c (key e1) (key e2)
theorem stk_set {rs : Rows} {i : Nat} {b : BR} (u : uniq rs) (h : rs[i]? = some (some b)) : rs.map (stk (isOf b.t b.p)) = rs.set i none := List.ext_getElem? fun j => by
  rw [List.getElem?_map, List.getElem?_set]
  have hl := (List.getElem?_eq_some_iff.mp h).1
  by_cases e : i = j
  · subst e
    rw [if_pos rfl, if_pos hl, h]
    show some (stk _ _) = _
    unfold stk
    rw [if_pos isOf_self]
  · rw [if_neg e]
    cases hj : rs[j]? with
    | none => rfl
    | some x =>
      show some (stk _ x) = some x
      cases x with
      | none => rw [stk_none]
      | some c =>
        unfold stk
        rw [if_neg]
        intro hc
        obtain ⟨h1, h2⟩ := isOf_iff.mp hc
        exact e (u i j b c h hj h1.symm h2.symm)
theorem stk_no {rs : Rows} {f : Option BR → Bool} (h : ∀ y ∈ rs, f y = false) : rs.map (stk f) = rs := by
  conv => rhs; rw [← List.map_id rs]
  refine List.map_congr_left fun y hy => ?_
  unfold stk
  rw [if_neg (by rw [h y hy]; exact Bool.false_ne_true)]; rfl
theorem placeI_some {rs : Rows} {i : Nat} {b : BR} (u : uniq rs) (h : rs[i]? = some (some b)) : placeI rs b.t b.p = (i : Int) := by unfold placeI; rw [rowAt_at u h]
theorem placeI_none {rs : Rows} {t p : Int} (h : rowAt rs t p = none) : placeI rs t p = -1 := by unfold placeI; rw [h]
theorem uniq_place {rs : Rows} {s : Nat} (u : uniq rs) : uniq (placeB rs s).2.1 := by
  unfold placeB
  split
  · exact u
  · exact uniq_clearB u
theorem placeB_no {rs : Rows} {s : Nat} {t p : Int} (h : rowAt rs t p = none) : rowAt (placeB rs s).2.1 t p = none := by
  unfold placeB
  split
  · exact h
  · exact rowAt_noB h
theorem keepB_new {rs : Rows} {s : Nat} {t p e : Int} (h0 : rs.length ≠ 0) (h : rowAt rs t p = none) : keepB rs s t p e = ((placeB rs s).2.1.set (placeB rs s).1 (some ⟨t, p, e, false⟩), (placeB rs s).2.2) := by
  unfold keepB
  rw [if_neg h0, h]
theorem keepB_nil {rs : Rows} {s : Nat} {t p e : Int} (h0 : rs.length = 0) : keepB rs s t p e = (rs, s) := by
  unfold keepB
  rw [if_pos h0]
end Fl
/-! Fl: holders, what lies in a spot. -/
namespace Fl
open PySem PySem.Spec PyProof.Rows L2
/-- a holder: a text and two whole numbers -/
structure Hd where
  s : Str
  ok : PyData.strOk s = true
  a : Int
  b : Int
deriving DecidableEq
def hk (h : Hd) : TK := [.inr h.s, .inl h.a, .inl h.b]
def hV (h : Hd) : List V := [.str h.s, .int h.a, .int h.b]
theorem hk_V (h : Hd) : (hk h).map kV = hV h := rfl
theorem hk_inj {x y : Hd} (h : hk x = hk y) : x = y := by
  obtain ⟨s, o, a, b⟩ := x
  obtain ⟨s', o', a', b'⟩ := y
  simp only [hk, List.cons.injEq, Sum.inr.injEq, Sum.inl.injEq, and_true] at h
  obtain ⟨rfl, rfl, rfl⟩ := h
  rfl
abbrev hdA : Hd → V → Asrt := tupA hV
def hdD (h : Hd) : PyData := .tuple [.str h.s, .int h.a, .int h.b]
instance dqHd : Dqa hdA hdD 1 := ⟨fun {H h x v} e s => by
  obtain ⟨p, rfl, q⟩ := e
  exact .tup (s _ _ q) (.cons (.str _ x.ok) (.cons (.int _) (.cons (.int _) .nil))), fun x => by simp [hdD, PyData.depth, PyData.depthAll], fun x => by simp [hdD, Small, SmallAll]⟩
instance hdHd {L : List Asrt} {t : Hd} {v : V} : HdD L (hdA t v) v (hdD t) 1 True := ⟨fun S s x => dqHd.dq x s, dqHd.dep t, fun _ => dqHd.sm t⟩
instance {s : Str} {a b : Int} : TupK [.str s, .int a, .int b] [.inr s, .inl a, .inl b] := inferInstance
instance tupKh {h : Hd} : TupK (hV h) (hk h) := ⟨rfl⟩
/-- a dict's object of holders -/
def hdU (hs : List Hd) : List (TK × Unit) := hs.map fun h => (hk h, ())
abbrev hT (hs : List Hd) : HO := .dT (dmG trueV (hdU hs))
theorem hdU_keys {hs : List Hd} : keysG (hdU hs) = hs.map hk := by unfold keysG hdU; rw [List.map_map]; rfl
theorem hT_one {h : Hd} {d : Addr} {L l : List Asrt} {H : Hp} (S : Star L H) (P : Pull (pt d (.dT (dmG trueV [(hk h, ())]))) L l) : Star (pt d (hT [h]) :: l) H := S.pull P
def insH (hs : List Hd) (h : Hd) : List Hd := if h ∈ hs then hs else hs ++ [h]
def delH2 (hs : List Hd) (h : Hd) : List Hd := hs.filter fun x => decide (x ≠ h)
theorem hdU_lk {hs : List Hd} {h : Hd} : lkG (hdU hs) (hk h) = if h ∈ hs then some () else none := by
  induction hs with
  | nil => rfl
  | cons x hs ih =>
    unfold hdU at ih ⊢
    rw [List.map_cons, lkG_cons, ih]
    by_cases e : x = h
    · rw [if_pos (by rw [e]), if_pos (by rw [e]; exact .head _)]
    · rw [if_neg (fun z => e (hk_inj z))]
      by_cases e2 : h ∈ hs
      · rw [if_pos e2, if_pos (.tail _ e2)]
      · rw [if_neg e2, if_neg (fun z => by rcases List.mem_cons.mp z with z | z; exact e z.symm; exact e2 z)]
theorem hdU_put {hs : List Hd} {h : Hd} : putG (hdU hs) (hk h) () = hdU (insH hs h) := by
  unfold putG insH
  rw [lkG_any, hdU_lk]
  by_cases e : h ∈ hs
  · rw [if_pos e, if_pos e, if_pos (show (some ()).isSome = true from rfl)]
    refine (List.map_congr_left fun c _ => ?_).trans (List.map_id _)
    split <;> rfl
  · rw [if_neg e, if_neg e, if_neg (by simp)]
    unfold hdU
    rw [List.map_append]; rfl
theorem hdU_drop {hs : List Hd} {h : Hd} : dropG (hdU hs) (hk h) = hdU (delH2 hs h) := by
  unfold dropG hdU delH2
  rw [List.filter_map]
  congr 1
  refine List.filter_congr fun x _ => ?_
  show decide (hk x ≠ hk h) = decide (x ≠ h)
  exact decide_eq_decide.mpr ⟨fun z e => z (by rw [e]), fun z e => z (hk_inj e)⟩
def sh3 (i : Nat) : Bool := i == 0
theorem hk_sh (h : Hd) : shK sh3 0 (hk h) ∧ hk h ≠ [] := ⟨⟨rfl, rfl, rfl, trivial⟩, fun z => nomatch z⟩
/-- holders in their order -/
def sortH (hs : List Hd) : List Hd := hs.mergeSort fun a b => !ltK (hk b) (hk a)
theorem sortH_perm {hs : List Hd} : (sortH hs).Perm hs := List.mergeSort_perm _ _
theorem sortH_pw {hs : List Hd} : (sortH hs).Pairwise fun a b => ltK (hk b) (hk a) = false := by
  have h3 : (sortH hs).Pairwise (fun a b => (!ltK (hk b) (hk a)) = true) := List.pairwise_mergeSort (fun a b c p q => by
    simp only [Bool.not_eq_true'] at p q ⊢
    exact ltK_neg p q) (fun a b => by
    cases h : ltK (hk b) (hk a) with
    | false => rfl
    | true => rw [ltK_asym h]; rfl) hs
  exact h3.imp fun p => by simpa using p
theorem sortH_T {hs : List Hd} : sortT (hs.map hk) = (sortH hs).map hk := (sortT_of (sortH_perm.map hk) (List.pairwise_map.mpr sortH_pw)).symm
theorem sortH_of {hs ms : List Hd} (h1 : ms.Perm hs) (h2 : ms.Pairwise fun a b => ltK (hk b) (hk a) = false) : ms = sortH hs :=
  (h1.trans sortH_perm.symm).eq_of_pairwise (le := fun a b => ltK (hk b) (hk a) = false) (fun a b _ _ p q => hk_inj (ltK_tot q p)) h2 sortH_pw
theorem sortH_congr {hs ms : List Hd} (h : hs.Perm ms) : sortH hs = sortH ms := sortH_of (sortH_perm.trans h) sortH_pw
/-- a list of holders, by keys and by holders -/
theorem tkA_hd {hs : List Hd} {q : Addr} {h : Hp} (x : listA tkA (hs.map hk) q h) : listA hdA hs q h := by
  obtain ⟨cs, e, S⟩ := x
  have key : ∀ {cs : List (TK × V)} {hs : List Hd} {l : List Asrt} {H : Hp}, cs.map Prod.fst = hs.map hk → Star (ownL tkA cs :: l) H → ∃ ds : List (Hd × V), ds.map Prod.fst = hs ∧ ds.map Prod.snd = cs.map Prod.snd ∧ Star (ownL hdA ds :: l) H := by
    intro cs
    induction cs with
    | nil =>
      intro hs l H e S
      cases hs with
      | nil => exact ⟨[], rfl, rfl, S⟩
      | cons _ _ => cases e
    | cons c cs ih =>
      intro hs l H e S
      cases hs with
      | nil => cases e
      | cons h hs =>
        rw [List.map_cons, List.map_cons, List.cons.injEq] at e
        have S1 : Star (tkA c.1 c.2 :: ownL tkA cs :: l) H := sepL_unc S
        obtain ⟨ds, e1, e2, S2⟩ := ih e.2 S1.swap
        refine ⟨(h, c.2) :: ds, by rw [List.map_cons, e1], by rw [List.map_cons, List.map_cons, e2], ?_⟩
        refine sepL_cons (B := fun c : Hd × V => hdA c.1 c.2) (S2.swap.hd fun h' x => ?_)
        obtain ⟨p, e3, q⟩ := x
        exact ⟨p, e3, by rw [e.1] at q; exact q⟩
  obtain ⟨ds, e1, e2, S2⟩ := key (l := [pt q (.lst (cs.map Prod.snd))]) e S.swap
  exact ⟨ds, e1, by rw [e2]; exact S2.swap⟩
theorem hd_tkA {hs : List Hd} {q : Addr} {h : Hp} (x : listA hdA hs q h) : listA tkA (hs.map hk) q h := by
  obtain ⟨cs, e, S⟩ := x
  have key : ∀ {cs : List (Hd × V)} {l : List Asrt} {H : Hp}, Star (ownL hdA cs :: l) H → Star (ownL tkA (cs.map fun c => (hk c.1, c.2)) :: l) H := by
    intro cs
    induction cs with
    | nil => intro l H S; exact S
    | cons c cs ih =>
      intro l H S
      have S1 : Star (hdA c.1 c.2 :: ownL hdA cs :: l) H := sepL_unc S
      have S2 := ih S1.swap
      refine sepL_cons (B := fun c : TK × V => tkA c.1 c.2) (x := (hk c.1, c.2)) (S2.swap.hd fun h' x => ?_)
      obtain ⟨p, e3, q⟩ := x
      exact ⟨p, e3, q⟩
  refine ⟨cs.map fun c => (hk c.1, c.2), by rw [List.map_map, ← e, List.map_map]; rfl, ?_⟩
  rw [List.map_map]
  exact (key (l := [pt q (.lst (cs.map Prod.snd))]) S.swap).swap
/-- the rule: the sorted holders of a dict -/
theorem r_sortHd {L l m : List Asrt} {H : Hp} {Q : VK} {d p : Addr} {hs : List Hd} (S : Star L H) (P : Pull (pt p (keysO p d)) L l) (P2 : Pull (pt d (hT hs)) l m) (h : ∀ q H', Star (listA hdA (sortH hs) q :: l) H' → Q (.ref q) H') : rSortTK [.ref p] H Q :=
  r_sortTK sh3 S P P2 (fun k hk2 => by rw [hdU_keys] at hk2; obtain ⟨x, _, rfl⟩ := List.mem_map.mp hk2; exact hk_sh x) fun q H' S' => h q H' (by
    rw [hdU_keys, sortH_T] at S'
    exact S'.hd fun _ x => tkA_hd x)
/-- what lies in a spot -/
structure Ly where
  bx : List Int
  hd : List Hd
  bd : Option Nat
abbrev Spots := List (Option Ly)
def isSh (slot : Bool) (x : Ly) : Bool := !slot || x.bd.isNone
def lookY (slot : Bool) (o : Option Ly) : Option Ly := o.bind fun x => if isSh slot x = true then some x else none
def firstE {α : Type} (xs : List (Option α)) : Option Nat := xs.findIdx? Option.isNone
abbrev optN : Option Nat → V
  | none => .non
  | some n => .int (n : Int)
def optND : Option Nat → PyData
  | none => .none
  | some n => .int (n : Int)
instance frOptN {L0 L : List Asrt} {o : Option Nat} : FindR L0 L (optN o) (optND o) 0 True := ⟨fun _ _ => by cases o <;> constructor, by cases o <;> exact Nat.le_refl _, fun _ => by cases o; exact smN; exact smI⟩
def liveY (slot : Bool) (xs : Spots) : Nat := (xs.filter fun o => (lookY slot o).isSome).length
theorem look_slot {x : Ly} (h : x.bd.isNone = true) : lookY true (some x) = some x := by
  show (if (!true || x.bd.isNone) = true then some x else none) = _
  rw [h]; rfl
theorem look_twin {x : Ly} (h : x.bd.isNone = false) : lookY true (some x) = none := by
  show (if (!true || x.bd.isNone) = true then some x else none) = _
  rw [h]; rfl
theorem look_frame {x : Ly} : lookY false (some x) = some x := rfl
theorem live_none {s : Bool} {xs : Spots} : liveY s (xs ++ [none]) = liveY s xs := by unfold liveY; rw [List.filter_append]; simp [lookY]
theorem live_frame {xs : Spots} {x : Ly} : liveY false (xs ++ [some x]) = liveY false xs + 1 := by unfold liveY; rw [List.filter_append]; simp [lookY, isSh]
theorem live_slot {xs : Spots} {x : Ly} (h : x.bd.isNone = true) : liveY true (xs ++ [some x]) = liveY true xs + 1 := by
  unfold liveY
  rw [List.filter_append, List.length_append, List.filter_cons, look_slot h]; rfl
theorem live_twin {xs : Spots} {x : Ly} (h : x.bd.isNone = false) : liveY true (xs ++ [some x]) = liveY true xs := by
  unfold liveY
  rw [List.filter_append, List.length_append, List.filter_cons, look_twin h]; rfl
theorem first_mid {done r : Spots} (h : firstE done = none) : firstE (done ++ none :: r) = some done.length := by
  unfold firstE at *
  rw [List.findIdx?_append, h]
  simp [List.findIdx?_cons]
theorem first_some {done : Spots} {x : Ly} (h : firstE done = none) : firstE (done ++ [some x]) = none := by
  unfold firstE at *
  rw [List.findIdx?_append, h]
  simp [List.findIdx?_cons]
theorem first_all {xs : Spots} (h : firstE xs = none) : ∀ o ∈ xs, ∃ x, o = some x := fun o ho => by
  unfold firstE at h
  rw [List.findIdx?_eq_none_iff] at h
  cases o with
  | none => exact absurd (h _ ho) (by simp)
  | some x => exact ⟨x, rfl⟩
theorem first_at {xs : Spots} {i : Nat} (h : firstE xs = some i) : xs[i]? = some none := by
  unfold firstE at h
  obtain ⟨h1, h2, h3⟩ := List.findIdx?_eq_some_iff_getElem.mp h
  rw [List.getElem?_eq_getElem h1]
  cases e : xs[i] with
  | none => rfl
  | some x => rw [e] at h2; cases h2
def bdAt (fr : Spots) (i : Nat) : Option Nat := ((fr[i]?).join).bind Ly.bd
def firstB : Spots → Nat → Option (Nat × Nat)
  | [], _ => none
  | o :: r, k => match o.bind Ly.bd with
    | some j => some (j, k)
    | none => firstB r (k + 1)
theorem firstB_mid : ∀ {done r : Spots} {x : Ly} {j k : Nat}, (∀ o ∈ done, o.bind Ly.bd = none) → x.bd = some j → firstB (done ++ some x :: r) k = some (j, k + done.length)
  | [], r, x, j, k, _, h => by
    show (match (some x).bind Ly.bd with | some j => some (j, k) | none => firstB r (k + 1)) = _
    rw [show (some x).bind Ly.bd = some j from h]; rfl
  | o :: done, r, x, j, k, hd, h => by
    show (match o.bind Ly.bd with | some j => some (j, k) | none => firstB (done ++ some x :: r) (k + 1)) = _
    rw [hd o (.head _), firstB_mid (fun z hz => hd z (.tail _ hz)) h, List.length_cons]
    show some (j, k + 1 + done.length) = _
    rw [show k + 1 + done.length = k + (done.length + 1) by omega]
theorem firstB_none : ∀ {xs : Spots} {k : Nat}, (∀ o ∈ xs, o.bind Ly.bd = none) → firstB xs k = none
  | [], _, _ => rfl
  | o :: r, k, hd => by
    show (match o.bind Ly.bd with | some j => some (j, k) | none => firstB r (k + 1)) = _
    rw [hd o (.head _)]
    exact firstB_none fun z hz => hd z (.tail _ hz)
def goalS (fr sl : Spots) (i : Nat) (slot : Option Nat) : Option Nat × Option Nat :=
  match bdAt fr i with
  | some j => (some j, none)
  | none => match firstE sl with
    | some e => (some e, none)
    | none => match firstB fr 0 with
      | some x => (some x.1, some x.2)
      | none => (slot, none)
theorem firstB_some : ∀ {xs : Spots} {k0 j k : Nat}, firstB xs k0 = some (j, k) → ∃ x, k0 ≤ k ∧ xs[k - k0]? = some (some x) ∧ x.bd = some j
  | [], _, _, _, h => nomatch h
  | o :: r, k0, j, k, h => by
    have h2 : (match o.bind Ly.bd with | some j => some (j, k0) | none => firstB r (k0 + 1)) = some (j, k) := h
    cases e : o.bind Ly.bd with
    | some j2 =>
      rw [e] at h2
      cases h2
      obtain ⟨x, rfl, hx⟩ := Option.bind_eq_some_iff.mp e
      exact ⟨x, Nat.le_refl _, by rw [Nat.sub_self]; rfl, hx⟩
    | none =>
      rw [e] at h2
      obtain ⟨x, h3, h4, h5⟩ := firstB_some h2
      refine ⟨x, by omega, ?_, h5⟩
      obtain ⟨t, rfl⟩ : ∃ t, k = k0 + 1 + t := ⟨k - (k0 + 1), by omega⟩
      rw [show k0 + 1 + t - (k0 + 1) = t by omega] at h4
      rw [show k0 + 1 + t - k0 = t + 1 by omega, List.getElem?_cons_succ]; exact h4
theorem goalS_two {fr sl : Spots} {f g k : Nat} {slot : Option Nat} (hb : bdAt fr f = none) (h : goalS fr sl f slot = (some g, some k)) : ∃ y, fr[k]? = some (some y) ∧ y.bd = some g ∧ k ≠ f := by
  unfold goalS at h
  rw [hb] at h
  dsimp only at h
  cases e : firstE sl with
  | some j => rw [e] at h; cases (Prod.mk.inj h).2
  | none =>
    rw [e] at h
    dsimp only at h
    cases e2 : firstB fr 0 with
    | none => rw [e2] at h; cases (Prod.mk.inj h).2
    | some x =>
      rw [e2] at h
      obtain ⟨j, k2⟩ := x
      have h3 : (some j, some k2) = (some g, some k) := h
      cases h3
      obtain ⟨y, _, h4, h5⟩ := firstB_some e2
      rw [Nat.sub_zero] at h4
      refine ⟨y, h4, h5, fun z => ?_⟩
      subst z
      unfold bdAt at hb
      rw [h4] at hb
      rw [show ((some (some y) : Option (Option Ly)).join).bind Ly.bd = y.bd from rfl, h5] at hb
      cases hb
def unB (fr : Spots) : Option Nat → Spots
  | none => fr
  | some k => fr.set k ((fr[k]?).join.map fun x => { x with bd := none })
theorem unB_some {fr : Spots} {k : Nat} {y : Ly} (e : fr[k]? = some (some y)) : unB fr (some k) = fr.set k (some ⟨y.bx, y.hd, none⟩) := by
  show fr.set k ((fr[k]?).join.map fun x => { x with bd := none }) = _
  rw [e]; rfl
def unS (sl : Spots) : Option Nat → Spots
  | none => sl
  | some j => sl.set j none
/-- how many marked ones the hand passes -/
def swB (bs : List Bool) (h : Nat) : Nat := (List.range bs.length).findIdx fun k => !bs.getD (swAt h bs.length k) false
theorem swB_of {bs : List Bool} {h k : Nat} (h1 : k ≤ bs.length) (h2 : ∀ i < k, bs.getD (swAt h bs.length i) false = true) (h3 : k = bs.length ∨ bs.getD (swAt h bs.length k) false = false) : k = swB bs h := by
  unfold swB
  rcases Nat.lt_or_ge k bs.length with hk | hk
  · have h4 := h3.resolve_left (by omega)
    refine Eq.symm ((List.findIdx_eq (by rw [List.length_range]; exact hk)).mpr ⟨by rw [List.getElem_range, h4]; rfl, fun j hj => ?_⟩)
    rw [List.getElem_range, h2 j hj]; rfl
  · have e : k = bs.length := by omega
    subst e
    refine Eq.symm ?_
    have := List.findIdx_eq_length (p := fun k => !bs.getD (swAt h bs.length k) false) (xs := List.range bs.length)
    rw [List.length_range] at this
    refine this.mpr fun i hi => ?_
    rw [h2 i (List.mem_range.mp hi)]; rfl
structure ShS where
  fr : Spots
  sl : Spots
  hand : Nat
  go : Nat
  ge : Nat
  cb : Nat
/-- a frame is emptied -/
structure Got where
  f : Nat
  ps : List Int
  out : Option (Nat × List Hd)
def emptS (c : ShS) (bs : List Bool) (slot : Option Nat) : ShS × Got :=
  match firstE c.fr with
  | some e => (c, ⟨e, [], none⟩)
  | none =>
    let n := c.fr.length
    let k := swB bs c.hand
    let f := swAt c.hand n k
    let gl := goalS c.fr c.sl f slot
    match (c.fr[f]?).join with
    | none => (c, ⟨f, [], none⟩)
    | some x => (⟨(unB c.fr gl.2).set f none, c.sl.set (gl.1.getD 0) (some ⟨x.bx, x.hd, none⟩), (f + 1) % n, c.go + 1, c.ge + (if x.bd.isNone = true then 1 else 0), c.cb⟩, ⟨f, swRow c.hand n k, some (gl.1.getD 0, sortH x.hd)⟩)
/-- set a place of a list of owned things to a value not owned yet -/
theorem r_setLF {α : Type} {A : α → V → Asrt} {L l : List Asrt} {H : Hp} {p : Addr} {xs : List α} {i : Nat} {v : V} {w : Hp → Prop} (x : α) (S : Star L H) (P : Pull (listA A xs p) L l) (hi : i < xs.length) (h : ∀ H', Star (listF A (xs.set i x) i v p :: l) H' → w H') : rSetL (.ref p) (.int (i : Int)) v H w := by
  obtain ⟨cs, rfl, S⟩ := listA_open (S.pull P)
  rw [List.length_map] at hi
  obtain ⟨c, hc⟩ : ∃ c, cs[i]? = some c := ⟨cs[i], List.getElem?_eq_getElem hi⟩
  refine ⟨p, _, (i : Int), i, rfl, rfl, S.get (.head _), by rw [List.length_map]; exact ixN_set (by omega) (by omega), h _ ?_⟩
  have S2 := upd_LA (ws := (cs.map Prod.snd).set i v) S
  refine listF_close (cs := cs.set i (x, v)) (by rw [List.map_set]) (by rw [List.getElem?_set_self hi]; rfl) ?_
  rw [List.map_set, eraseIdx_set]
  exact S2.under fun _ S => (own_take hc S).tail
/-- another element is taken out as well, for a while -/
theorem r_takeLF {α : Type} {A : α → V → Asrt} {K : PySem.W.Frag} {L l : List Asrt} {H : Hp} {p : Addr} {xs : List α} {i k : Nat} {v : V} {y : α} {Q : VK} (S : Star L H) (P : Pull (listF A xs i v p) L l) (ne : k ≠ i) (e : xs[k]? = some y)
    (h : ∀ u R, Star (A y u :: R :: l) H → (∀ y' l' H', Star (A y' u :: R :: l') H' → Star (listF A (xs.set k y') i v p :: l') H') → Q u H) : rIxL K (.ref p) (.int (k : Int)) H Q := by
  obtain ⟨cs, rfl, e2, S⟩ := listF_open (S.pull P)
  obtain ⟨c, e3, e4⟩ := Option.map_eq_some_iff.mp e2
  have hi : i < cs.length := (List.getElem?_eq_some_iff.mp e3).1
  obtain ⟨d, hd, hd2⟩ : ∃ d, cs[k]? = some d ∧ d.1 = y := by
    rw [List.getElem?_map] at e
    obtain ⟨d, a, b⟩ := Option.map_eq_some_iff.mp e
    exact ⟨d, a, b⟩
  subst hd2
  have hkl : k < cs.length := (List.getElem?_eq_some_iff.mp hd).1
  have hout : ∃ j, ∀ ds : List (α × V), ds.length = cs.length → (ds.eraseIdx i)[j]? = ds[k]? ∧ ∀ z, (ds.set k z).eraseIdx i = (ds.eraseIdx i).set j z := by
    rcases Nat.lt_or_gt_of_ne ne with hlt | hgt
    · exact ⟨k, fun ds hl => ⟨by rw [List.getElem?_eraseIdx, if_pos hlt], fun z => by rw [List.eraseIdx_set_gt hlt]⟩⟩
    · obtain ⟨j, rfl⟩ : ∃ j, k = j + 1 := ⟨k - 1, by omega⟩
      refine ⟨j, fun ds hl => ⟨by rw [List.getElem?_eraseIdx, if_neg (by omega)], fun z => ?_⟩⟩
      apply List.ext_getElem?
      intro t
      simp only [List.getElem?_eraseIdx, List.getElem?_set, List.length_eraseIdx]
      (repeat' split) <;> first | rfl | (exfalso; omega)
  obtain ⟨j, hj⟩ := hout
  have hj1 := (hj cs rfl).1
  rw [hd] at hj1
  have hjl : j < (cs.eraseIdx i).length := (List.getElem?_eq_some_iff.mp hj1).1
  have S2 : Star (ownL A (cs.eraseIdx i) :: pt p (.lst (cs.map Prod.snd)) :: l) H := S.swap
  have S3 : Star (A d.1 d.2 :: ownL A ((cs.eraseIdx i).eraseIdx j) :: pt p (.lst (cs.map Prod.snd)) :: l) H := own_take hj1 S2
  refine ⟨p, _, _, d.2, rfl, rfl, SqL.of (S.get (.head _)), ?_, h d.2 (Star [pt p (.lst (cs.map Prod.snd)), ownL A ((cs.eraseIdx i).eraseIdx j)]) (S3.under fun _ S => Star.glue' (l := [_, _]) S.swap) fun y' l' H' S' => ?_⟩
  · have := atI_nat (xs := cs.map Prod.snd) (j := k) (v := d.2) (by rw [List.getElem?_map, hd]; rfl)
    exact this
  · have S4 : Star (A y' d.2 :: pt p (.lst (cs.map Prod.snd)) :: ownL A ((cs.eraseIdx i).eraseIdx j) :: l') H' := S'.under fun _ S => Star.glue (l := [_, _]) S
    have S5 : Star (pt p (.lst (cs.map Prod.snd)) :: A y' d.2 :: ownL A ((cs.eraseIdx i).eraseIdx j) :: l') H' := S4.swap
    refine listF_close (cs := cs.set k (y', d.2)) (by rw [List.map_set]) ?_ ?_
    · rw [List.getElem?_set, if_neg ne]; exact e2
    · have e5 : (cs.set k (y', d.2)).map Prod.snd = cs.map Prod.snd := by
        rw [List.map_set]
        exact set_same (by rw [List.getElem?_map, hd]; rfl)
      rw [e5, (hj cs rfl).2]
      exact S5.under fun _ S => sepL_in (B := fun c : α × V => A c.1 c.2) (y := (y', d.2)) hjl S
def shwY (x : Ly) (v : V) : Asrt := fun h => ∃ a p q, v = .ref a ∧ Star [pt a (.tup [.ref p, .ref q, optN x.bd]), pt p (.lst (x.bx.map V.int)), listA hdA (sortH x.hd) q] h
theorem shwY_close {b : Option Nat} {bx : List Int} {hs : List Hd} {a p q : Addr} {L l m k : List Asrt} {H : Hp} (S : Star L H) (P : Pull (pt a (.tup [.ref p, .ref q, optN b])) L l) (P2 : Pull (pt p (.lst (bx.map V.int))) l m) (P3 : Pull (listA hdA (sortH hs) q) m k) : Star (shwY ⟨bx, hs, b⟩ (.ref a) :: k) H :=
  Star.cl (k := [_, _, _]) ((S.pull P).under fun _ S => (S.pull P2).under fun _ S => S.pull P3) fun h S => ⟨a, p, q, rfl, S⟩
def shwO : Option Ly → V → Asrt
  | none => fun v => pu (v = .non)
  | some x => shwY x
theorem none_shwO {L : List Asrt} {H : Hp} (S : Star L H) : Star (shwO none .non :: L) H := Star.put (p := V.non = .non) rfl S
theorem shwO_some {x : Ly} {v : V} {L l : List Asrt} {H : Hp} (S : Star L H) (P : Pull (shwY x v) L l) : Star (shwO (some x) v :: l) H := S.pull P
def shwD : Option Ly → PyData
  | none => .none
  | some x => .tuple [.list (x.bx.map PyData.int), .list ((sortH x.hd).map hdD), optND x.bd]
theorem dq_shw {H h : Hp} {x : Option Ly} {v : V} (e : shwO x v h) (s : Sub h H) : Dq H v (shwD x) := by
  cases x with
  | none =>
    obtain rfl : v = .non := e
    exact .non
  | some x =>
    obtain ⟨a, p, q, rfl, S⟩ := e
    obtain ⟨h1, s1, e1⟩ := S.has (.head _)
    obtain ⟨h2, s2, e2⟩ := S.has (.tail _ (.head _))
    obtain ⟨h3, s3, e3⟩ := S.has (.tail _ (.tail _ (.head _)))
    refine .tup (s _ _ (s1 _ _ e1)) (.cons (.lst (s _ _ (s2 _ _ e2)) dq_ints) (.cons (dq_list e3 (s3.trans s)) (.cons ?_ .nil)))
    cases x.bd with
    | none => exact .non
    | some j => exact .int _
theorem depth_ints : ∀ {is : List Int}, PyData.depthAll (is.map PyData.int) = 0 := dep_int
theorem dep_shw (x : Option Ly) : (shwD x).depth ≤ 3 := by
  cases x with
  | none => exact Nat.zero_le _
  | some x =>
    have h1 : PyData.depthAll (x.bx.map PyData.int) = 0 := dep_int
    have h2 : PyData.depthAll ((sortH x.hd).map hdD) ≤ 1 := depth_map fun _ => dqHd.dep _
    have h3 : (optND x.bd).depth ≤ 0 := by cases x.bd <;> exact Nat.le_refl _
    simp only [shwD, PyData.depth, PyData.depthAll]
    omega
def okY : Option Ly → Prop
  | none => True
  | some x => x.bx.length ≤ 1000 ∧ x.hd.length ≤ 1000
theorem sm_shw {x : Option Ly} (h : okY x) : Small (shwD x) := by
  cases x with
  | none => exact smN
  | some x =>
    obtain ⟨h1, h2⟩ := h
    have h4 : (sortH x.hd).length = x.hd.length := List.length_mergeSort _
    have h3 : Small (optND x.bd) := by cases x.bd; exact smN; exact smI
    simp only [shwD, Small, SmallAll]
    refine ⟨by show 3 ≤ 100000; decide, ⟨by rw [List.length_map]; omega, small_map fun _ => smI⟩, ⟨by rw [List.length_map]; omega, small_map fun _ => dqHd.sm _⟩, h3, trivial⟩
theorem dq_shwL {H : Hp} : ∀ {cs : List (Option Ly × V)} {l : List Asrt} {h : Hp}, Star (ownL shwO cs :: l) h → Sub h H → DqAll H (cs.map Prod.snd) ((cs.map Prod.fst).map shwD)
  | [], _, _, _, _ => .nil
  | c :: cs, l, h, S, s => by
    have S1 : Star (shwO c.1 c.2 :: ownL shwO cs :: l) h := sepL_unc S
    obtain ⟨h2, s2, e⟩ := S1.has (.head _)
    exact .cons (dq_shw e (s2.trans s)) (dq_shwL S1.tail s)
instance hdShwL {L : List Asrt} {xs : Spots} {p : Addr} : HdD L (listA shwO xs p) (.ref p) (.list (xs.map shwD)) 4 (xs.length ≤ 100000 ∧ ∀ o ∈ xs, okY o) := ⟨fun S s x => by
  obtain ⟨cs, rfl, S2⟩ := x
  exact .lst (s _ _ (S2.get (.head _))) (dq_shwL S2.swap s), by
    simp only [PyData.depth]
    have : PyData.depthAll (xs.map shwD) ≤ 3 := depth_map dep_shw
    omega, fun h => by
    simp only [Small]
    refine ⟨by rw [List.length_map]; exact h.1, ?_⟩
    have key : ∀ ys : Spots, (∀ o ∈ ys, okY o) → SmallAll (ys.map shwD) := by
      intro ys
      induction ys with
      | nil => intro _; simp [SmallAll]
      | cons y ys ih =>
        intro hy
        simp only [List.map_cons, SmallAll]
        exact ⟨sm_shw (hy y (.head _)), ih fun o ho => hy o (.tail _ ho)⟩
    exact key xs h.2⟩
theorem hu65 {A : Around} {k : Nat} (hr : Room k A) : A.units + 65 < cLine := by have := hr.un; omega
theorem mtIndexD {X : Cx} {K : PySem.W.Frag} (h : X.K = K) (hu : X.A.units + 65 < cLine) : MtR X "list.index" (rIndexD K) := by subst h; exact mt_indexD hu
/-- xs.index(None) -/
theorem r_idxN {K : PySem.W.Frag} {L l : List Asrt} {H : Hp} {Q : VK} {p : Addr} {xs : Spots} {j : Nat} (S : Star L H) (P : Pull (listA shwO xs p) L l) (e : firstE xs = some j) (h : Q (.int (j : Nat)) H) : rIndexD K (.ref p) [.non] H Q := by
  obtain ⟨cs, rfl, S2⟩ := listA_open (S.pull P)
  have d : Dq H (.ref p) (.list ((cs.map Prod.fst).map shwD)) := .lst (S2.get (.head _)) (dq_shwL S2.swap (Sub.refl _))
  have hd : PyData.depthAll ((cs.map Prod.fst).map shwD) ≤ 3 := depth_map dep_shw
  have hl := d.lay
  have e1 := first_at e
  refine ⟨p, .non, .none, _, j, .none, rfl, rfl, d.dp, .non, ?_, by decide, by rw [List.getElem?_map, e1]; rfl, by decide, fun m z hm hz => ?_, h⟩
  · unfold SeqAt.shaped
    rw [hl, Bool.true_and]
    exact decide_eq_true (by simp only [PyData.depth]; omega)
  · rw [List.getElem?_map] at hz
    obtain ⟨o, ho, rfl⟩ := Option.map_eq_some_iff.mp hz
    unfold firstE at e
    obtain ⟨h1, h2, h3⟩ := List.findIdx?_eq_some_iff_getElem.mp e
    have := h3 m hm
    obtain ⟨hml, hme⟩ := List.getElem?_eq_some_iff.mp ho
    rw [hme] at this
    cases o with
    | none => exact absurd rfl this
    | some x => simp [shwD, PyData.eqv]
instance {K : PySem.W.Frag} {x : V} {xs : List V} {H : Hp} {Q : VK} : Grp (rIndexD K x xs H Q) 11 := ⟨⟩
instance {K : PySem.W.Frag} {x : V} {xs : List V} {H : Hp} {Q : VK} : Grp (rIndexD K x xs H Q) 186 := ⟨⟩
theorem live_lt {s : Bool} {xs : Spots} {i : Nat} (e : xs[i]? = some none) : liveY s xs < xs.length := by
  unfold liveY
  have hi : i < xs.length := (List.getElem?_eq_some_iff.mp e).1
  rcases Nat.lt_or_ge (xs.filter fun o => (lookY s o).isSome).length xs.length with h | h
  · exact h
  · exfalso
    have h2 := List.length_filter_eq_length_iff.mp (Nat.le_antisymm (List.length_filter_le _ _) h)
    have := h2 none (List.mem_of_getElem? e)
    cases this
theorem live_le {s : Bool} {xs : Spots} : liveY s xs ≤ xs.length := List.length_filter_le _ _
theorem live_rep {s : Bool} {n : Nat} : liveY s (List.replicate n none) = 0 := by
  unfold liveY
  rw [List.length_eq_zero_iff, List.filter_eq_nil_iff]
  intro o ho
  rw [List.eq_of_mem_replicate ho]
  exact fun z => nomatch z
theorem empt_free {c : ShS} {bs : List Bool} {slot : Option Nat} {e : Nat} (h : firstE c.fr = some e) : emptS c bs slot = (c, ⟨e, [], none⟩) := by unfold emptS; rw [h]
theorem hd_one {h : Hd} {p q : Addr} {L l m : List Asrt} {H : Hp} (S : Star L H) (P : Pull (pt p (.tup (hV h))) L l) (P2 : Pull (pt q (.lst [.ref p])) l m) : Star (listA hdA [h] q :: m) H := by
  refine listA_close (cs := [(h, .ref p)]) rfl ?_
  have S1 := ((S.pull P).under fun _ S => S.pull P2).swap
  exact S1.under fun _ S => sepL_cons (B := fun c : Hd × V => hdA c.1 c.2) ((S.hd fun h2 x => ⟨p, rfl, x⟩).under fun _ S => sepL_nil S)
theorem sort_one (h : Hd) : sortH [h] = [h] := by unfold sortH; simp
theorem hd_oneS {h : Hd} {p q : Addr} {L l m : List Asrt} {H : Hp} (S : Star L H) (P : Pull (pt p (.tup (hV h))) L l) (P2 : Pull (pt q (.lst [.ref p])) l m) : Star (listA hdA (sortH [h]) q :: m) H := by
  rw [sort_one]; exact hd_one S P P2
theorem sortH_sortH {hs : List Hd} : sortH (sortH hs) = sortH hs := (sortH_of (hs := sortH hs) (List.Perm.refl _) sortH_pw).symm
/-- sorted(a list of holders) -/
theorem r_sortHL {K : PySem.W.Frag} {L l : List Asrt} {H : Hp} {Q : VK} {p : Addr} {hs : List Hd} (S : Star L H) (P : Pull (listA hdA hs p) L l) (h : ∀ q H', Star (listA hdA (sortH hs) q :: listA hdA hs p :: l) H' → Q (.ref q) H') : rSortTL K [.ref p] H Q :=
  r_sortTL sh3 ((S.pull P).hd fun _ x => hd_tkA x) .here (fun k hk2 => by obtain ⟨x, _, rfl⟩ := List.mem_map.mp hk2; exact hk_sh x) fun q H' S' => h q H' (by
    rw [sortH_T] at S'
    exact (S'.hd fun _ x => tkA_hd x).under fun _ S => S.hd fun _ x => tkA_hd x)
/-- the place that is out gets another value, whose thing comes later -/
theorem r_setFF {α : Type} {A : α → V → Asrt} {L l : List Asrt} {H : Hp} {p : Addr} {xs : List α} {i : Nat} {u v : V} {w : Hp → Prop} (S : Star L H) (P : Pull (listF A xs i v p) L l) (h : ∀ H', Star (listF A xs i u p :: l) H' → w H') : rSetL (.ref p) (.int (i : Int)) u H w := by
  obtain ⟨cs, rfl, e2, S⟩ := listF_open (S.pull P)
  obtain ⟨c, e3, e4⟩ := Option.map_eq_some_iff.mp e2
  have hi : i < cs.length := (List.getElem?_eq_some_iff.mp e3).1
  refine ⟨p, _, (i : Int), i, rfl, rfl, S.get (.head _), by rw [List.length_map]; exact ixN_set (by omega) (by omega), h _ ?_⟩
  have S2 := upd_LA (ws := (cs.map Prod.snd).set i u) S
  refine listF_close (cs := cs.set i (c.1, u)) ?_ (by rw [List.getElem?_set_self hi]; rfl) ?_
  · rw [List.map_set]
    refine List.ext_getElem? fun j => ?_
    rw [List.getElem?_set]
    split
    · rename_i h; subst h; rw [if_pos (by rw [List.length_map]; exact hi), List.getElem?_map, e3]; rfl
    · rfl
  · rw [List.map_set, eraseIdx_set]
    exact S2
theorem r_lenLF {α : Type} {A : α → V → Asrt} {K : PySem.W.Frag} {L l : List Asrt} {H : Hp} {p : Addr} {xs : List α} {i : Nat} {v : V} {Q : VK} (S : Star L H) (P : Pull (listF A xs i v p) L l) (h : Q (.int (xs.length : Int)) H) : cLenS K [.ref p] H Q := by
  obtain ⟨cs, rfl, _, S⟩ := listF_open (S.pull P)
  rw [List.length_map] at h
  exact ⟨p, _, rfl, .inl (SqL.of (S.get (.head _))), by rw [List.length_map]; exact h⟩
end Fl
/-! Fl: deep == and in, of whatever answer. -/
namespace Fl
open PySem PySem.Spec PyProof.Rows L2
theorem opInD {X : Cx} {K : PySem.W.Frag} (h : X.K = K) (hu : X.A.units + 65 < cLine) : OpR X (compareOp .In) (rInD K) := by subst h; exact op_inD hu
theorem dq_shaped {H : Hp} {v : V} {D : PyData} (q : Dq H v D) (h : D.depth ≤ 60) : SeqAt.shaped D = true := by
  show (_ && decide _) = true
  rw [q.lay, decide_eq_true (by omega)]; rfl
section
variable {K : PySem.W.Frag} {L l : List Asrt} {H : Hp} {Q : VK} {u v : V} {D E : PyData} {Es : List PyData} {k j : Nat} {c c' : Prop}
theorem r_eqG [w : FindD L u D k c] [w2 : FindD L v E j c'] (S : Star L H) (hk : k ≤ 60) (hj : j ≤ 60) (h : Q (.bl (PyData.eqv D E)) H) : rEqD K u v H Q :=
  ⟨_, _, (w.dq S).dp, (w2.dq S).dp, dq_shaped (w.dq S) (by have := w.dep; omega), dq_shaped (w2.dq S) (by have := w2.dep; omega), h⟩
theorem r_neG [w : FindD L u D k c] [w2 : FindD L v E j c'] (S : Star L H) (hk : k ≤ 60) (hj : j ≤ 60) (h : Q (.bl (!PyData.eqv D E)) H) : rNeD K u v H Q :=
  ⟨_, _, (w.dq S).dp, (w2.dq S).dp, dq_shaped (w.dq S) (by have := w.dep; omega), dq_shaped (w2.dq S) (by have := w2.dep; omega), h⟩
theorem r_inG [w : FindD L u D k c] [w2 : FindD L v (.list Es) j c'] (S : Star L H) (hk : k ≤ 60) (hj : j ≤ 60) (h : Q (.bl (Es.any fun z => PyData.eqv z D)) H) : rInD K u v H Q :=
  ⟨_, _, (w.dq S).dp, (w2.dq S).dp, dq_shaped (w.dq S) (by have := w.dep; omega), dq_shaped (w2.dq S) (by have := w2.dep; omega), h⟩
theorem any_none : ∀ {xs : Spots}, ((xs.map shwD).any fun z => PyData.eqv z .none) = (firstE xs).isSome
  | [] => rfl
  | none :: xs => by
    have : firstE (none :: xs) = some 0 := by unfold firstE; rw [List.findIdx?_cons]; rfl
    rw [this, List.map_cons, List.any_cons]
    simp [shwD, PyData.eqv]
  | some x :: xs => by
    have : firstE (some x :: xs) = (firstE xs).map (· + 1) := by unfold firstE; rw [List.findIdx?_cons]; rfl
    rw [this, List.map_cons, List.any_cons, any_none (xs := xs), Option.isSome_map]
    simp [shwD, PyData.eqv]
/-- None in a list of spots told -/
theorem r_noneIn {p : Addr} {xs : Spots} (S : Star L H) (P : Pull (listA shwO xs p) L l) (h : Q (.bl (firstE xs).isSome) H) : rInD K .non (.ref p) H Q := by
  refine r_inG (S.pull P) (D := .none) (k := 0) (c := True) (Es := xs.map shwD) (j := 4) (c' := xs.length ≤ 100000 ∧ ∀ o ∈ xs, okY o) (by decide) (by decide) ?_
  rw [any_none]; exact h
instance : Grp (rInD K u v H Q) 9 := ⟨⟩
instance : Grp (rInD K u v H Q) 164 := ⟨⟩
end
end Fl
/-! Fl: lists that are never changed, told by their places; plain spots over them. -/
namespace Fl
open PySem PySem.Spec PyProof.Rows L2
abbrev Pool := List (Addr × List Int)
def poolA (ps : Pool) : Asrt := fun h => ∀ e ∈ ps, h e.1 = some (.lst (e.2.map V.int))
section
variable {K : PySem.W.Frag} {L l m : List Asrt} {H : Hp} {ps qs : Pool} {p : Addr} {is : List Int}
theorem pool_nil (S : Star l H) : Star (poolA [] :: l) H := Star.free (A := poolA []) (fun e h => nomatch h) S
theorem pool_add (S : Star L H) (P : Pull (pt p (.lst (is.map V.int))) L l) (P2 : Pull (poolA ps) l m) : Star (poolA ((p, is) :: ps) :: m) H := by
  have S2 : Star (pt p (.lst (is.map V.int)) :: poolA ps :: m) H := (S.pull P).under fun _ S => S.pull P2
  exact Star.cl (k := [_, _]) S2 fun h S e he => by
    rcases List.mem_cons.mp he with rfl | he
    · exact S.get (.head _)
    · obtain ⟨h2, s, x⟩ := S.has (.tail _ (.head _))
      exact s _ _ (x e he)
theorem pool_get (S : Star L H) (P : Pull (poolA ps) L l) (m : (p, is) ∈ ps) : H p = some (.lst (is.map V.int)) := by
  obtain ⟨h, s, x⟩ := (S.pull P).has (.head _)
  exact s _ _ (x _ m)
end
/-- a spot of the plain lists: a list of values, holders, bound -/
def slP (ps : Pool) : Option Ly → V → Asrt
  | none => fun v => pu (v = .non)
  | some x => fun v h => ∃ a p q, v = .ref a ∧ (p, x.bx) ∈ ps ∧ Star [pt a (.lst [.ref p, .ref q, optN x.bd]), listA hdA x.hd q] h
section
variable {K : PySem.W.Frag} {L l m k : List Asrt} {H : Hp} {ps qs : Pool} {x : Ly} {v : V}
theorem slP_open (S : Star L H) (P : Pull (slP ps (some x) v) L l) : ∃ a p q, v = .ref a ∧ (p, x.bx) ∈ ps ∧ Star (pt a (.lst [.ref p, .ref q, optN x.bd]) :: listA hdA x.hd q :: l) H := by
  obtain ⟨h1, h2, dj, s1, s2, ⟨a, p, q, e, m, S1⟩, S2⟩ := S.pull P
  exact ⟨a, p, q, e, m, Star.glue (l := [_, _]) ⟨h1, h2, dj, s1, s2, S1, S2⟩⟩
theorem slP_close {a p q : Addr} {bx : List Int} {hs : List Hd} {b : Option Nat} (hm : (p, bx) ∈ ps) (S : Star L H) (P : Pull (pt a (.lst [.ref p, .ref q, optN b])) L l) (P2 : Pull (listA hdA hs q) l m) : Star (slP ps (some ⟨bx, hs, b⟩) (.ref a) :: m) H :=
  Star.cl (k := [_, _]) ((S.pull P).under fun _ S => S.pull P2) fun h S => ⟨a, p, q, rfl, hm, S⟩
theorem slP_none (S : Star L H) (P : Pull (slP ps none v) L l) : v = .non := (S.pull P).fact
theorem none_slP (S : Star l H) : Star (slP ps none .non :: l) H := Star.put (p := V.non = .non) rfl S
theorem slP_mono (h : ∀ e ∈ ps, e ∈ qs) {o : Option Ly} {v : V} {H : Hp} (x : slP ps o v H) : slP qs o v H := by
  cases o with
  | none => exact x
  | some y =>
    obtain ⟨a, p, q, e, m, S⟩ := x
    exact ⟨a, p, q, e, h _ m, S⟩
theorem list_mono (h : ∀ e ∈ ps, e ∈ qs) {xs : Spots} {p : Addr} (S : Star L H) (P : Pull (listA (slP ps) xs p) L l) : Star (listA (slP qs) xs p :: l) H := by
  obtain ⟨cs, rfl, S⟩ := listA_open (S.pull P)
  refine listA_close rfl ?_
  have key : ∀ {cs : List (Option Ly × V)} {l : List Asrt} {H : Hp}, Star (ownL (slP ps) cs :: l) H → Star (ownL (slP qs) cs :: l) H := by
    intro cs
    induction cs with
    | nil => intro l H S; exact S
    | cons c cs ih =>
      intro l H S
      have S1 : Star (slP ps c.1 c.2 :: ownL (slP ps) cs :: l) H := sepL_unc S
      have S2 := ih S1.swap
      exact sepL_cons (B := fun c : Option Ly × V => slP qs c.1 c.2) (S2.swap.hd fun h' x => slP_mono h x)
  exact (key S.swap).swap
theorem list_more {e : Addr × List Int} {xs : Spots} {p : Addr} (S : Star L H) (P : Pull (listA (slP ps) xs p) L l) : Star (listA (slP (e :: ps)) xs p :: l) H := list_mono (fun _ h => .tail _ h) S P
end
theorem first_take {xs : Spots} {k : Nat} {o : Option Ly} (h : xs[k]? = some o) : firstE (xs.take (k + 1)) = (firstE (xs.take k)).or (if o = none then some k else none) := by
  have e : xs.take (k + 1) = xs.take k ++ [o] := by
    rw [List.take_succ, h]; rfl
  have hk : (xs.take k).length = k := by have := (List.getElem?_eq_some_iff.mp h).1; rw [List.length_take]; omega
  unfold firstE
  rw [e, List.findIdx?_append]
  cases o with
  | none => simp [List.findIdx?_cons, hk]
  | some x => simp [List.findIdx?_cons]
theorem firstB_app : ∀ {xs ys : Spots} {k : Nat}, firstB (xs ++ ys) k = (firstB xs k).or (firstB ys (k + xs.length))
  | [], ys, k => by simp [firstB]
  | o :: xs, ys, k => by
    show (match o.bind Ly.bd with | some j => some (j, k) | none => firstB (xs ++ ys) (k + 1)) = (match o.bind Ly.bd with | some j => some (j, k) | none => firstB xs (k + 1)).or (firstB ys (k + (xs.length + 1)))
    cases o.bind Ly.bd with
    | some j => rfl
    | none => rw [firstB_app (xs := xs)]; dsimp only; rw [show k + 1 + xs.length = k + (xs.length + 1) by omega]
theorem firstB_take {xs : Spots} {k : Nat} {x : Ly} (h : xs[k]? = some (some x)) : firstB (xs.take (k + 1)) 0 = (firstB (xs.take k) 0).or (x.bd.map fun j => (j, k)) := by
  have e : xs.take (k + 1) = xs.take k ++ [some x] := by
    rw [List.take_succ, h]; rfl
  have hk : (xs.take k).length = k := by have := (List.getElem?_eq_some_iff.mp h).1; rw [List.length_take]; omega
  rw [e, firstB_app, hk, Nat.zero_add]
  congr 1
  show (match x.bd with | some j => some (j, k) | none => none) = _
  cases x.bd <;> rfl
def isRef (v : V) : Prop := ∃ a, v = .ref a
/-- what a row of spots may be made of -/
class SpA (A : Option Ly → V → Asrt) : Prop where
  non : ∀ {v h}, A none v h → v = .non
  nn : ∀ {h}, A none .non h
  ref : ∀ {x v h}, A (some x) v h → isRef v
instance {ps : Pool} : SpA (slP ps) := ⟨fun h => h, rfl, fun h => by obtain ⟨a, _, _, e, _⟩ := h; exact ⟨a, e⟩⟩
/-- a spot, or (tagged) one whose value is known and that is not owned here -/
def tgG (A : Option Ly → V → Asrt) (pv : V) : Option Ly × Bool → V → Asrt
  | (o, false) => A o
  | (none, true) => fun v => pu (v = .non)
  | (some _, true) => fun v => pu (v = pv)
abbrev tgs (sl : Spots) : List (Option Ly × Bool) := sl.map fun o => (o, false)
theorem tgs_fst {sl : Spots} : (tgs sl).map Prod.fst = sl := by unfold tgs; rw [List.map_map]; exact List.map_id _
section
variable {A : Option Ly → V → Asrt} {L l : List Asrt} {H : Hp} {pv v : V} {o : Option Ly} {b : Bool} {x : Ly} {p : Addr}
theorem tg_none [SpA A] (S : Star L H) (P : Pull (tgG A pv (none, b) v) L l) : v = .non := by
  cases b
  · obtain ⟨h1, _, _, _, _, x, _⟩ := S.pull P
    exact SpA.non x
  · exact (S.pull P).fact
theorem tg_non [SpA A] (S : Star L H) : Star (tgG A pv (none, b) .non :: L) H := by
  cases b
  · exact Star.free (A := A none .non) SpA.nn S
  · exact Star.put (p := V.non = .non) rfl S
theorem tg_ref [SpA A] (h : isRef pv) (S : Star L H) (P : Pull (tgG A pv (some x, b) v) L l) : isRef v := by
  cases b
  · obtain ⟨h1, _, _, _, _, x, _⟩ := S.pull P
    exact SpA.ref x
  · have e : v = pv := (S.pull P).fact
    rw [e]; exact h
theorem a_tg (S : Star L H) (P : Pull (A o v) L l) : Star (tgG A pv (o, false) v :: l) H := S.pull P
theorem own_f {α β : Type} {A : α → V → Asrt} {B : β → V → Asrt} {f : α → β} (h : ∀ x v H, A x v H → B (f x) v H) : ∀ {cs : List (α × V)} {l : List Asrt} {H : Hp}, Star (ownL A cs :: l) H → Star (ownL B (cs.map fun c => (f c.1, c.2)) :: l) H
  | [], l, H, S => S
  | c :: cs, l, H, S => by
    have S1 : Star (A c.1 c.2 :: ownL A cs :: l) H := sepL_unc S
    have S2 := own_f h (cs := cs) S1.swap
    exact sepL_cons (B := fun c : β × V => B c.1 c.2) (x := (f c.1, c.2)) (S2.swap.hd fun h' x => h _ _ _ x)
theorem listA_f {α β : Type} {A : α → V → Asrt} {B : β → V → Asrt} {f : α → β} (h : ∀ x v H, A x v H → B (f x) v H) {xs : List α} {p : Addr} {L l : List Asrt} {H : Hp} (S : Star L H) (P : Pull (listA A xs p) L l) : Star (listA B (xs.map f) p :: l) H := by
  obtain ⟨cs, rfl, S⟩ := listA_open (S.pull P)
  refine listA_close (cs := cs.map fun c => (f c.1, c.2)) (by rw [List.map_map, List.map_map]; rfl) ?_
  rw [List.map_map]
  exact (own_f h S.swap).swap
theorem erase_map {α β : Type} {f : α → β} : ∀ {xs : List α} {i : Nat}, (xs.map f).eraseIdx i = (xs.eraseIdx i).map f
  | [], _ => rfl
  | x :: xs, 0 => rfl
  | x :: xs, i + 1 => by simp only [List.map_cons, List.eraseIdx_cons_succ]; rw [erase_map]
theorem listF_f {α β : Type} {A : α → V → Asrt} {B : β → V → Asrt} {f : α → β} (h : ∀ x v H, A x v H → B (f x) v H) {xs : List α} {i : Nat} {v : V} {p : Addr} {L l : List Asrt} {H : Hp} (S : Star L H) (P : Pull (listF A xs i v p) L l) : Star (listF B (xs.map f) i v p :: l) H := by
  obtain ⟨cs, rfl, e2, S⟩ := listF_open (S.pull P)
  refine listF_close (cs := cs.map fun c => (f c.1, c.2)) (by rw [List.map_map, List.map_map]; rfl) (by rw [List.getElem?_map, Option.map_map]; exact e2) ?_
  rw [List.map_map, show (cs.map fun c => (f c.1, c.2)).eraseIdx i = (cs.eraseIdx i).map fun c => (f c.1, c.2) from erase_map]
  exact (own_f h S.swap).swap
theorem to_tg {sl : Spots} (pv : V) (S : Star L H) (P : Pull (listA A sl p) L l) : Star (listA (tgG A pv) (tgs sl) p :: l) H := listA_f (f := fun o => (o, false)) (fun _ _ _ h => h) S P
theorem of_tg {sl : Spots} (S : Star L H) (P : Pull (listA (tgG A pv) (tgs sl) p) L l) : Star (listA A sl p :: l) H := by
  obtain ⟨cs, e, S⟩ := listA_open (S.pull P)
  have key : ∀ {cs : List ((Option Ly × Bool) × V)} {sl : Spots} {l : List Asrt} {H : Hp}, cs.map Prod.fst = tgs sl → Star (ownL (tgG A pv) cs :: l) H → ∃ ds : List (Option Ly × V), ds.map Prod.fst = sl ∧ ds.map Prod.snd = cs.map Prod.snd ∧ Star (ownL A ds :: l) H := by
    intro cs
    induction cs with
    | nil =>
      intro sl l H e S
      cases sl with
      | nil => exact ⟨[], rfl, rfl, S⟩
      | cons _ _ => cases e
    | cons c cs ih =>
      intro sl l H e S
      cases sl with
      | nil => cases e
      | cons o sl =>
        have e1 : c.1 = (o, false) := (List.cons.inj e).1
        have S1 : Star (tgG A pv c.1 c.2 :: ownL (tgG A pv) cs :: l) H := sepL_unc S
        obtain ⟨ds, e3, e4, S2⟩ := ih (List.cons.inj e).2 S1.swap
        refine ⟨(o, c.2) :: ds, by rw [List.map_cons, e3], by rw [List.map_cons, List.map_cons, e4], ?_⟩
        refine sepL_cons (B := fun c : Option Ly × V => A c.1 c.2) (S2.swap.hd fun h' x => ?_)
        rw [e1] at x
        exact x
  obtain ⟨ds, e1, e2, S2⟩ := key e S.swap
  exact listA_close (cs := ds) e1 (by rw [e2]; exact S2.swap)
end
def tgS (r : ShS × Got) (ts : List (Option Ly × Bool)) : List (Option Ly × Bool) := match r.2.out with
  | none => ts
  | some o => ts.set o.1 ((r.1.sl[o.1]?).join, false)
theorem tgS_tgs {c : ShS} {bs : List Bool} {slot : Option Nat} : tgS (emptS c bs slot) (tgs c.sl) = tgs (emptS c bs slot).1.sl := by
  unfold emptS
  cases he : firstE c.fr with
  | some e => rfl
  | none =>
    dsimp only
    cases hx : (c.fr[swAt c.hand c.fr.length (swB bs c.hand)]?).join with
    | none => rfl
    | some x =>
      unfold tgS tgs
      dsimp only
      generalize ((goalS c.fr c.sl (swAt c.hand c.fr.length (swB bs c.hand)) slot).1.getD 0) = g
      rw [List.map_set]
      by_cases hg : g < c.sl.length
      · rw [List.getElem?_set_self hg]; rfl
      · rw [List.set_eq_of_length_le (by rw [List.length_map]; omega), List.set_eq_of_length_le (by rw [List.length_map]; omega)]
theorem empt_sl {c : ShS} {bs : List Bool} {slot : Option Nat} : ((emptS c bs slot).2.out = none ∧ (emptS c bs slot).1.sl = c.sl) ∨ ∃ o y, (emptS c bs slot).2.out = some o ∧ (emptS c bs slot).1.sl = c.sl.set o.1 (some y) := by
  unfold emptS
  cases he : firstE c.fr with
  | some e => exact .inl ⟨rfl, rfl⟩
  | none =>
    dsimp only
    cases hx : (c.fr[swAt c.hand c.fr.length (swB bs c.hand)]?).join with
    | none => exact .inl ⟨rfl, rfl⟩
    | some x => exact .inr ⟨_, _, rfl, rfl⟩
theorem empt_lt {c : ShS} {bs : List Bool} {slot : Option Nat} (h : 0 < c.fr.length) : (emptS c bs slot).2.f < (emptS c bs slot).1.fr.length := by
  have hu : ∀ (fr : Spots) (o : Option Nat), (unB fr o).length = fr.length := fun fr o => by
    cases o with
    | none => rfl
    | some k => exact List.length_set
  unfold emptS
  cases he : firstE c.fr with
  | some e =>
    dsimp only
    exact (List.getElem?_eq_some_iff.mp (first_at he)).1
  | none =>
    dsimp only
    cases hx : (c.fr[swAt c.hand c.fr.length (swB bs c.hand)]?).join with
    | none => exact swAt_lt h
    | some x =>
      dsimp only
      rw [List.length_set, hu]
      exact swAt_lt h
theorem tgs_back1 {sl : Spots} {slot : Nat} {o : Option Ly × Bool} {y : Option Ly} : ((tgs sl).set slot o).set slot (y, false) = tgs (sl.set slot y) := by
  unfold tgs; rw [List.set_set, List.map_set]
theorem tgs_set {sl : Spots} {g : Nat} {y : Option Ly} {ts : List (Option Ly × Bool)} (hl : ts.length = sl.length) : ts.set g ((((sl.set g y)[g]?).join), false) = ts.set g (y, false) := by
  by_cases h : g < sl.length
  · rw [List.getElem?_set_self h]; rfl
  · rw [List.set_eq_of_length_le (by omega), List.set_eq_of_length_le (by omega)]
theorem tgs_back2 {sl : Spots} {slot : Nat} {o : Option Ly × Bool} {y : Option Ly} (h : slot < sl.length) : ((tgs sl).set slot o).set slot ((((sl.set slot y)[slot]?).join), false) = tgs (sl.set slot y) := by
  rw [tgs_set (by rw [List.length_set, List.length_map]), tgs_back1]
theorem tgs_back3 {sl : Spots} {slot g : Nat} {o : Option Ly × Bool} {y : Option Ly} : ((tgs sl).set slot o).set g ((((sl.set g y)[g]?).join), false) = ((tgs sl).set slot o).set g (y, false) := tgs_set (by rw [List.length_set, List.length_map])
theorem tgs_back4 {sl : Spots} {slot g : Nat} {o : Option Ly × Bool} {y z : Option Ly} (h : g ≠ slot) : (((tgs sl).set slot o).set g (y, false)).set slot (z, false) = tgs ((sl.set g y).set slot z) := by
  unfold tgs
  rw [List.set_comm _ _ h, List.set_set, List.map_set, List.map_set, List.set_comm _ _ (Ne.symm h)]
def twinB (e : Got) (slot : Nat) : Option Nat := if e.out.map Prod.fst = some slot then none else some slot
/-- a sheet is brought back -/
def backS (c : ShS) (slot : Nat) (x : Ly) (bs : List Bool) : ShS × Got :=
  let e := emptS c bs (some slot)
  (⟨e.1.fr.set e.2.f (some ⟨x.bx, x.hd, twinB e.2 slot⟩), (match twinB e.2 slot with | none => e.1.sl | some j => e.1.sl.set j (some ⟨x.bx, [], some e.2.f⟩)), e.1.hand, e.1.go, e.1.ge, e.1.cb + 1⟩, e.2)
/-- the twins' numbers are those of slots -/
def bdOk (fr sl : Spots) : Prop := ∀ x, some x ∈ fr → ∀ j, x.bd = some j → j < sl.length
theorem goal_ok {fr sl : Spots} {f slot : Nat} (h : bdOk fr sl) (hs : slot < sl.length) : ∃ g, (goalS fr sl f (some slot)).1 = some g ∧ g < sl.length := by
  unfold goalS
  cases hb : bdAt fr f with
  | some j =>
    refine ⟨j, rfl, ?_⟩
    unfold bdAt at hb
    obtain ⟨x, h1, h2⟩ := Option.bind_eq_some_iff.mp hb
    rw [Option.join_eq_some_iff] at h1
    exact h x (List.mem_of_getElem? h1) j h2
  | none =>
    dsimp only
    cases he : firstE sl with
    | some e => exact ⟨e, rfl, (List.getElem?_eq_some_iff.mp (first_at he)).1⟩
    | none =>
      dsimp only
      cases h2 : firstB fr 0 with
      | none => exact ⟨slot, rfl, hs⟩
      | some x =>
        obtain ⟨j, k⟩ := x
        obtain ⟨y, _, h3, h4⟩ := firstB_some h2
        exact ⟨j, rfl, h y (List.mem_of_getElem? h3) j h4⟩
theorem empt_ltc {c : ShS} {bs : List Bool} {slot : Option Nat} (h : 0 < c.fr.length) : (emptS c bs slot).2.f < c.fr.length := by
  unfold emptS
  cases he : firstE c.fr with
  | some e => exact (List.getElem?_eq_some_iff.mp (first_at he)).1
  | none =>
    dsimp only
    cases hx : (c.fr[swAt c.hand c.fr.length (swB bs c.hand)]?).join with
    | none => exact swAt_lt h
    | some x => exact swAt_lt h
theorem swB_le {bs : List Bool} {h : Nat} : swB bs h ≤ bs.length := by
  unfold swB
  have := List.findIdx_le_length (p := fun k => !bs.getD (swAt h bs.length k) false) (xs := List.range bs.length)
  rwa [List.length_range] at this
def okG (g : Got) : Prop := g.ps.length ≤ 100000 ∧ ∀ o, g.out = some o → o.2.length ≤ 100000
theorem empt_ok {c : ShS} {bs : List Bool} {slot : Option Nat} (h : ∀ y, some y ∈ c.fr → y.hd.length ≤ 1000) (hb : bs.length ≤ 1000) : okG (emptS c bs slot).2 := by
  unfold emptS okG
  cases he : firstE c.fr with
  | some e => exact ⟨by simp, fun o z => nomatch z⟩
  | none =>
    dsimp only
    cases hx : (c.fr[swAt c.hand c.fr.length (swB bs c.hand)]?).join with
    | none => exact ⟨by simp, fun o z => nomatch z⟩
    | some x =>
      refine ⟨by rw [swRow_len]; have := swB_le (bs := bs) (h := c.hand); omega, fun o z => ?_⟩
      cases z
      have := h x (List.mem_of_getElem? (Option.join_eq_some_iff.mp hx))
      dsimp only
      rw [sortH_perm.length_eq]; omega
def outA : Option (Nat × List Hd) → V → Asrt
  | none => fun v => pu (v = .non)
  | some x => fun v h => ∃ t q, v = .ref t ∧ Star [pt t (.tup [.int (x.1 : Int), .ref q]), listA hdA x.2 q] h
def gotA (g : Got) (v : V) : Asrt := fun h => ∃ t ps w, v = .ref t ∧ Star [pt t (.tup [.int (g.f : Int), .ref ps, w]), pt ps (.lst (g.ps.map V.int)), outA g.out w] h
theorem got_close {g : Got} {t ps : Addr} {w : V} {L l m k : List Asrt} {H : Hp} (S : Star L H) (P : Pull (pt t (.tup [.int (g.f : Int), .ref ps, w])) L l) (P2 : Pull (pt ps (.lst (g.ps.map V.int))) l m) (P3 : Pull (outA g.out w) m k) : Star (gotA g (.ref t) :: k) H :=
  Star.cl (k := [_, _, _]) ((S.pull P).under fun _ S => (S.pull P2).under fun _ S => S.pull P3) fun h S => ⟨t, ps, w, rfl, S⟩
theorem got_open {g : Got} {v : V} {L l : List Asrt} {H : Hp} (S : Star L H) (P : Pull (gotA g v) L l) : ∃ t ps w, v = .ref t ∧ Star (pt t (.tup [.int (g.f : Int), .ref ps, w]) :: pt ps (.lst (g.ps.map V.int)) :: outA g.out w :: l) H := by
  obtain ⟨h1, h2, dj, s1, s2, ⟨t, ps, w, e, S1⟩, S2⟩ := S.pull P
  exact ⟨t, ps, w, e, Star.glue (l := [_, _, _]) ⟨h1, h2, dj, s1, s2, S1, S2⟩⟩
theorem none_out {L : List Asrt} {H : Hp} (S : Star L H) : Star (outA none .non :: L) H := Star.put (p := V.non = .non) rfl S
theorem out_close {x : Nat × List Hd} {t q : Addr} {L l m : List Asrt} {H : Hp} (S : Star L H) (P : Pull (pt t (.tup [.int (x.1 : Int), .ref q])) L l) (P2 : Pull (listA hdA x.2 q) l m) : Star (outA (some x) (.ref t) :: m) H :=
  Star.cl (k := [_, _]) ((S.pull P).under fun _ S => S.pull P2) fun h S => ⟨t, q, rfl, S⟩
theorem out_open {x : Nat × List Hd} {v : V} {L l : List Asrt} {H : Hp} (S : Star L H) (P : Pull (outA (some x) v) L l) : ∃ t q, v = .ref t ∧ Star (pt t (.tup [.int (x.1 : Int), .ref q]) :: listA hdA x.2 q :: l) H := by
  obtain ⟨h1, h2, dj, s1, s2, ⟨t, q, e, S1⟩, S2⟩ := S.pull P
  exact ⟨t, q, e, Star.glue (l := [_, _]) ⟨h1, h2, dj, s1, s2, S1, S2⟩⟩
def outD : Option (Nat × List Hd) → PyData
  | none => .none
  | some x => .tuple [.int (x.1 : Int), .list (x.2.map hdD)]
def gotD (g : Got) : PyData := .tuple [.int (g.f : Int), .list (g.ps.map PyData.int), outD g.out]
theorem dq_out {H h : Hp} {o : Option (Nat × List Hd)} {v : V} (e : outA o v h) (s : Sub h H) : Dq H v (outD o) := by
  cases o with
  | none =>
    obtain rfl : v = .non := e
    exact .non
  | some x =>
    obtain ⟨t, q, rfl, S⟩ := e
    obtain ⟨h1, s1, e1⟩ := S.has (.head _)
    obtain ⟨h2, s2, e2⟩ := S.has (.tail _ (.head _))
    exact .tup (s _ _ (s1 _ _ e1)) (.cons (.int _) (.cons (dq_list e2 (s2.trans s)) .nil))
instance hdGot {L : List Asrt} {g : Got} {v : V} : HdD L (gotA g v) v (gotD g) 4 (okG g) := ⟨fun S s x => by
  obtain ⟨t, ps, w, rfl, S1⟩ := x
  obtain ⟨h1, s1, e1⟩ := S1.has (.head _)
  obtain ⟨h2, s2, e2⟩ := S1.has (.tail _ (.head _))
  obtain ⟨h3, s3, e3⟩ := S1.has (.tail _ (.tail _ (.head _)))
  exact .tup (s _ _ (s1 _ _ e1)) (.cons (.int _) (.cons (.lst (s _ _ (s2 _ _ e2)) dq_ints) (.cons (dq_out e3 (s3.trans s)) .nil))), by
  have h1 : PyData.depthAll (g.ps.map PyData.int) = 0 := dep_int
  have h2 : (outD g.out).depth ≤ 3 := by
    cases g.out with
    | none => exact Nat.zero_le _
    | some x =>
      have h1 : PyData.depthAll (x.2.map hdD) ≤ 1 := depth_map fun _ => dqHd.dep _
      simp only [outD, PyData.depth, PyData.depthAll]
      omega
  simp only [gotD, PyData.depth, PyData.depthAll]
  omega, fun h => by
  have h2 : Small (outD g.out) := by
    cases e : g.out with
    | none => exact smN
    | some x =>
      have := h.2 x e
      simp only [outD, Small, SmallAll]
      exact ⟨by show 2 ≤ 100000; decide, trivial, ⟨by rw [List.length_map]; exact this, small_map fun _ => dqHd.sm _⟩, trivial⟩
  simp only [gotD, Small, SmallAll]
  exact ⟨by show 3 ≤ 100000; decide, trivial, ⟨by rw [List.length_map]; exact h.1, small_map fun _ => smI⟩, h2, trivial⟩⟩
/-- a spot due: a tuple of values, sorted holders, bound -/
def duP (ps : Pool) : Option Ly → V → Asrt
  | none => fun v => pu (v = .non)
  | some x => fun v h => ∃ a p q, v = .ref a ∧ (p, x.bx) ∈ ps ∧ Star [pt a (.tup [.ref p, .ref q, optN x.bd]), listA hdA (sortH x.hd) q] h
theorem none_duP {ps : Pool} {l : List Asrt} {H : Hp} (S : Star l H) : Star (duP ps none .non :: l) H := Star.put (p := V.non = .non) rfl S
theorem duP_close {ps : Pool} {L l m : List Asrt} {H : Hp} {a p q : Addr} {bx : List Int} {hs : List Hd} {b : Option Nat} (hm : (p, bx) ∈ ps) (S : Star L H) (P : Pull (pt a (.tup [.ref p, .ref q, optN b])) L l) (P2 : Pull (listA hdA (sortH hs) q) l m) : Star (duP ps (some ⟨bx, hs, b⟩) (.ref a) :: m) H :=
  Star.cl (k := [_, _]) ((S.pull P).under fun _ S => S.pull P2) fun h S => ⟨a, p, q, rfl, hm, S⟩
theorem dq_duP {ps : Pool} {H h : Hp} {x : Option Ly} {v : V} (hp : ∀ e ∈ ps, H e.1 = some (.lst (e.2.map V.int))) (e : duP ps x v h) (s : Sub h H) : Dq H v (shwD x) := by
  cases x with
  | none =>
    obtain rfl : v = .non := e
    exact .non
  | some x =>
    obtain ⟨a, p, q, rfl, hm, S⟩ := e
    obtain ⟨h1, s1, e1⟩ := S.has (.head _)
    obtain ⟨h3, s3, e3⟩ := S.has (.tail _ (.head _))
    refine .tup (s _ _ (s1 _ _ e1)) (.cons (.lst (hp _ hm) dq_ints) (.cons (dq_list e3 (s3.trans s)) (.cons ?_ .nil)))
    cases x.bd with
    | none => exact .non
    | some j => exact .int _
theorem dq_duL {ps : Pool} {H : Hp} (hp : ∀ e ∈ ps, H e.1 = some (.lst (e.2.map V.int))) : ∀ {cs : List (Option Ly × V)} {l : List Asrt} {h : Hp}, Star (ownL (duP ps) cs :: l) h → Sub h H → DqAll H (cs.map Prod.snd) ((cs.map Prod.fst).map shwD)
  | [], _, _, _, _ => .nil
  | c :: cs, l, h, S, s => by
    have S1 : Star (duP ps c.1 c.2 :: ownL (duP ps) cs :: l) h := sepL_unc S
    obtain ⟨h2, s2, e⟩ := S1.has (.head _)
    exact .cons (dq_duP hp e (s2.trans s)) (dq_duL hp S1.tail s)
/-- told and due are alike -/
theorem c_likeP {n : Nat} {Q : VK} {E : XK} {ps : Pool} {xs : Spots} {p q : Addr} {L l m k : List Asrt} {H : Hp} (S : Star L H) (P : Pull (listA shwO xs p) L l) (P2 : Pull (listA (duP ps) xs q) l m) (P3 : Pull (poolA ps) m k) (hn : 4 < n) (hc : xs.length ≤ 100000 ∧ ∀ o ∈ xs, okY o) (h : ∀ H', Star L H' → Q (.bl true) H') : kCall (spLike n) [.ref p, .ref q] H Q E := by
  have S2 := (S.pull P).under fun _ S => (S.pull P2).under fun _ S => S.pull P3
  obtain ⟨h1, s1, x1⟩ := S2.has (.head _)
  obtain ⟨h2, s2, ⟨cs, e2, S3⟩⟩ := S2.has (.tail _ (.head _))
  obtain ⟨h3, s3, x3⟩ := S2.has (.tail _ (.tail _ (.head _)))
  have w : HdD L (listA shwO xs p) (.ref p) (.list (xs.map shwD)) 4 (xs.length ≤ 100000 ∧ ∀ o ∈ xs, okY o) := inferInstance
  have d1 := w.dq S s1 x1
  refine ⟨_, _, .list (xs.map shwD), rfl, d1, ?_, Nat.lt_of_le_of_lt w.dep hn, w.sm hc, fun H' s => h H' (S.mono s)⟩
  subst e2
  exact .lst (s2 _ _ (S3.get (.head _))) (dq_duL (fun e he => s3 _ _ (x3 e he)) S3.swap s2)
theorem r_ixAt {K : PySem.W.Frag} {H : Hp} {Q : VK} {p : Addr} {xs : List V} {i : Int} {v : V} (e : H p = some (.lst xs)) (e2 : atI xs i = some v) (h : Q v H) : rIxL K (.ref p) (.int i) H Q := ⟨p, _, i, v, rfl, rfl, SqL.of e, e2, h⟩
theorem list_moreF {ps : Pool} {L l : List Asrt} {H : Hp} {e : Addr × List Int} {xs : Spots} {i : Nat} {v : V} {p : Addr} (S : Star L H) (P : Pull (listF (slP ps) xs i v p) L l) : Star (listF (slP (e :: ps)) xs i v p :: l) H := by
  have := listF_f (A := slP ps) (B := slP (e :: ps)) (f := fun o => o) (fun _ _ _ h => slP_mono (fun _ h => .tail _ h) h) S P
  rwa [show xs.map (fun o => o) = xs from List.map_id _] at this
/-! tuple(a list) -/
def rTupOf (K : PySem.W.Frag) : List V → Hp → VK → Prop := fun xs H Q => ∃ p ys, xs = [.ref p] ∧ ((SqL K H p ys ∧ ∀ l, H l = none → Q (.ref l) (upd H l (.tup ys))) ∨ (SqT K H p ys ∧ Q (.ref p) H))
theorem callTupOf {X : Cx} {K : PySem.W.Frag} (h : X.K = K) : CallR X (.type "tuple") (rTupOf K) := by subst h; exact call_tuple_of
theorem r_tupOf {K : PySem.W.Frag} {L l : List Asrt} {H : Hp} {Q : VK} {p : Addr} {ys : List V} (S : Star L H) (P : Pull (pt p (.lst ys)) L l) (h : ∀ t H', Star (pt t (.tup ys) :: L) H' → Q (.ref t) H') : rTupOf K [.ref p] H Q :=
  ⟨p, ys, rfl, .inl ⟨SqL.of ((S.pull P).get (.head _)), fun t n => h t _ (S.new n)⟩⟩
instance {K : PySem.W.Frag} {xs : List V} {H : Hp} {Q : VK} : Grp (rTupOf K xs H Q) 11 := ⟨⟩
instance {K : PySem.W.Frag} {xs : List V} {H : Hp} {Q : VK} : Grp (rTupOf K xs H Q) 181 := ⟨⟩
end Fl
/-! Fl: the book's rows beside the dicts of tasks' entries. -/
namespace Fl
open PySem PySem.Spec PyProof.Rows L2 L2.DX
abbrev Tbs := List (Int × List (Int × Int))
def hasB (rs : Rows) (t p e : Int) : Prop := ∃ b, some b ∈ rs ∧ b.t = t ∧ b.p = p ∧ b.e = e
section
variable {rs : Rows} {t p e t' p' e' : Int} {s k : Nat}
theorem lookB_has (u : uniq rs) (h : hasB rs t p e) : lookB rs t p = some e := by
  obtain ⟨b, hb, rfl, rfl, rfl⟩ := h
  obtain ⟨i, hi, e⟩ := List.getElem_of_mem hb
  exact lookB_at u (by rw [List.getElem?_eq_getElem hi, e])
theorem rowAt_free (h : ∀ e, ¬ hasB rs t p e) : rowAt rs t p = none := by
  cases q : rowAt rs t p with
  | none => rfl
  | some i =>
    obtain ⟨b, hb, ht, hp⟩ := rowAt_some q
    exact absurd ⟨b, List.mem_of_getElem? hb, ht, hp, rfl⟩ (h b.e)
theorem free_rowAt (h : rowAt rs t p = none) (e : Int) : ¬ hasB rs t p e := fun ⟨b, hb, ht, hp, _⟩ => by
  have := rowAt_no h _ hb
  rw [isOf_iff.mpr ⟨ht, hp⟩] at this
  cases this
theorem lookB_free (h : ∀ e, ¬ hasB rs t p e) : lookB rs t p = none := lookB_none (rowAt_free h)
theorem mem_stk {f : Option BR → Bool} {b : BR} : some b ∈ rs.map (stk f) ↔ some b ∈ rs ∧ f (some b) = false := by
  constructor
  · intro h
    obtain ⟨o, ho, e⟩ := List.mem_map.mp h
    unfold stk at e
    split at e
    · cases e
    · next q => subst e; exact ⟨ho, by simpa using q⟩
  · rintro ⟨h, hf⟩
    exact List.mem_map.mpr ⟨some b, h, by unfold stk; rw [hf]; rfl⟩
theorem has_stk : hasB (rs.map (stk (isOf t p))) t' p' e ↔ hasB rs t' p' e ∧ ¬ (t' = t ∧ p' = p) := by
  constructor
  · rintro ⟨b, hb, rfl, rfl, rfl⟩
    obtain ⟨h1, h2⟩ := mem_stk.mp hb
    exact ⟨⟨b, h1, rfl, rfl, rfl⟩, fun z => by rw [isOf_iff.mpr z] at h2; cases h2⟩
  · rintro ⟨⟨b, hb, rfl, rfl, rfl⟩, hn⟩
    exact ⟨b, mem_stk.mpr ⟨hb, by
      cases q : isOf t p (some b) with
      | false => rfl
      | true => exact absurd (isOf_iff.mp q) hn⟩, rfl, rfl, rfl⟩
theorem has_stkT : hasB (rs.map (stk (isTk t))) t' p' e ↔ hasB rs t' p' e ∧ t' ≠ t := by
  constructor
  · rintro ⟨b, hb, rfl, rfl, rfl⟩
    obtain ⟨h1, h2⟩ := mem_stk.mp hb
    exact ⟨⟨b, h1, rfl, rfl, rfl⟩, fun z => by rw [show isTk t (some b) = true from decide_eq_true z] at h2; cases h2⟩
  · rintro ⟨⟨b, hb, rfl, rfl, rfl⟩, hn⟩
    exact ⟨b, mem_stk.mpr ⟨hb, decide_eq_false hn⟩, rfl, rfl, rfl⟩
theorem has_new {b : BR} (h : noneAt rs = some k) : hasB (rs.set k (some b)) t' p' e' ↔ hasB rs t' p' e' ∨ (t' = b.t ∧ p' = b.p ∧ e' = b.e) := by
  have hk := noneAt_some h
  have hkl : k < rs.length := (List.getElem?_eq_some_iff.mp hk).1
  constructor
  · rintro ⟨c, hc, rfl, rfl, rfl⟩
    rcases List.mem_or_eq_of_mem_set hc with hc | hc
    · exact .inl ⟨c, hc, rfl, rfl, rfl⟩
    · cases hc; exact .inr ⟨rfl, rfl, rfl⟩
  · rintro (⟨c, hc, h1⟩ | ⟨rfl, rfl, rfl⟩)
    · obtain ⟨i, hi, e⟩ := List.getElem_of_mem hc
      have hik : k ≠ i := fun z => by
        subst z
        rw [List.getElem?_eq_getElem hi, e] at hk; cases hk
      exact ⟨c, List.mem_of_getElem? (i := i) (by rw [List.getElem?_set_ne hik, List.getElem?_eq_getElem hi, e]), h1⟩
    · exact ⟨b, List.mem_set hkl _, rfl, rfl, rfl⟩
theorem has_nones {n : Nat} : ¬ hasB (List.replicate n none) t p e := fun ⟨b, hb, _⟩ => by cases List.eq_of_mem_replicate hb
theorem allS_of : ∀ {rs : Rows}, noneAt rs = none → allS rs
  | [], _ => fun x hx => nomatch hx
  | none :: rs, h => nomatch h
  | some b :: rs, h => fun x hx => by
    have h2 : noneAt rs = none := by simpa using (show (noneAt rs).map (· + 1) = none from h)
    rcases List.mem_cons.mp hx with rfl | hx
    · exact ⟨b, rfl⟩
    · exact allS_of h2 x hx
theorem len_put_old {β : Type} {ms : List (Int × β)} {t : Int} {x y : β} (h : lkI ms t = some x) : (putI ms t y).length = ms.length := by
  unfold putI
  rw [if_pos (List.any_eq_true.mpr ⟨_, lkI_mem h, by simp⟩), List.length_map]
/-- the pairs of tasks and pages that have an entry -/
def prsT (ms : Tbs) : List (List Int) := ms.flatMap fun e => (keysI e.2).map fun p => [e.1, p]
theorem prsT_len {ms : Tbs} {c : Nat} (h : ∀ e ∈ ms, e.2.length ≤ c) : (prsT ms).length ≤ ms.length * c := by
  unfold prsT
  induction ms with
  | nil => simp
  | cons e ms ih =>
    rw [List.flatMap_cons, List.length_append, List.length_cons, List.length_map, Nat.succ_mul]
    have h1 : (keysI e.2).length ≤ c := by unfold keysI; rw [List.length_map]; exact h e (.head _)
    have := ih fun x hx => h x (.tail _ hx)
    omega
/-- the book's rows are the entries -/
structure RB (m : Nat) (ms : Tbs) (rs : Rows) : Prop where
  u : uniq rs
  len : rs.length = m
  iff : ∀ t p e, hasB rs t p e ↔ ∃ es, lkI ms t = some es ∧ lkI es p = some e
theorem RB.look {m : Nat} {ms : Tbs} {es : List (Int × Int)} {x : Int} (R : RB m ms rs) (h : lkI ms t = some es) (hx : lkI es p = some x) : lookB rs t p = some x := lookB_has R.u ((R.iff t p x).mpr ⟨es, h, hx⟩)
theorem RB.free {m : Nat} {ms : Tbs} {es : List (Int × Int)} (R : RB m ms rs) (h : lkI ms t = some es) (hx : lkI es p = none) : lookB rs t p = none := lookB_free fun e z => by
  obtain ⟨es', h1, h2⟩ := (R.iff t p e).mp z
  rw [h] at h1; cases h1
  rw [hx] at h2; cases h2
theorem RB.room {m c : Nat} {ms : Tbs} (R : RB m ms rs) (h : ∀ e ∈ ms, e.2.length ≤ c) (hm : ms.length * c < m) : ∃ k, noneAt rs = some k := by
  cases q : noneAt rs with
  | some k => exact ⟨k, rfl⟩
  | none =>
    exfalso
    have ha := allS_of q
    have := nd_len (xs := rs.map pairB) (ys := prsT ms) (prs_nd ha R.u) fun z hz => by
      obtain ⟨o, ho, rfl⟩ := List.mem_map.mp hz
      obtain ⟨b, rfl⟩ := ha o ho
      obtain ⟨es, h1, h2⟩ := (R.iff b.t b.p b.e).mp ⟨b, ho, rfl, rfl, rfl⟩
      exact List.mem_flatMap.mpr ⟨(b.t, es), lkI_mem h1, List.mem_map.mpr ⟨b.p, List.mem_map.mpr ⟨_, lkI_mem h2, rfl⟩, rfl⟩⟩
    rw [List.length_map, R.len] at this
    have := prsT_len h
    omega
theorem RB.strike {m : Nat} {ms : Tbs} {es : List (Int × Int)} (R : RB m ms rs) (h : lkI ms t = some es) : RB m (putI ms t (dropI es p)) (rs.map (stk (isOf t p))) :=
  ⟨uniq_stk R.u, by rw [List.length_map]; exact R.len, fun t' p' e => by
    rw [has_stk, R.iff]
    constructor
    · rintro ⟨⟨es', h1, h2⟩, hn⟩
      by_cases ht : t' = t
      · subst ht
        rw [h] at h1; cases h1
        refine ⟨dropI es p, by rw [lkI_put, if_pos rfl], ?_⟩
        rw [lkI_drop, if_neg (fun z => hn ⟨rfl, z⟩)]; exact h2
      · exact ⟨es', by rw [lkI_put, if_neg ht]; exact h1, h2⟩
    · rintro ⟨es', h1, h2⟩
      rw [lkI_put] at h1
      split at h1
      · next ht =>
        cases h1
        rw [lkI_drop] at h2
        split at h2
        · cases h2
        · next hp => exact ⟨⟨es, by rw [ht]; exact h, h2⟩, fun z => hp z.2⟩
      · next ht => exact ⟨⟨es', h1, h2⟩, fun z => ht z.1⟩⟩
/-- the book's rows behind a put -/
def putR (rs : Rows) (es : List (Int × Int)) (t p x : Int) : Rows := if lkI es p = some x then rs else rs.map (stk (isOf t p))
theorem putR_len {es : List (Int × Int)} {x : Int} : (putR rs es t p x).length = rs.length := by
  unfold putR
  split
  · rfl
  · rw [List.length_map]
/-- an entry put and remembered, where there is room -/
theorem RB.keep {m c : Nat} {ms : Tbs} {es : List (Int × Int)} {x : Int} (R : RB m ms rs) (h : lkI ms t = some es) (hc : ∀ e ∈ ms, e.2.length ≤ c) (hm : ms.length * c < m) :
    RB m (putI ms t (putI es p x)) (keepB (if lkI es p = some x then rs else rs.map (stk (isOf t p))) s t p x).1 ∧ (keepB (if lkI es p = some x then rs else rs.map (stk (isOf t p))) s t p x).2 = s := by
  by_cases hx : lkI es p = some x
  · rw [if_pos hx]
    obtain ⟨b, hb, rfl, rfl, rfl⟩ := (R.iff t p x).mpr ⟨es, h, hx⟩
    obtain ⟨i, hi, e⟩ := List.getElem_of_mem hb
    have e2 : rs[i]? = some (some b) := by rw [List.getElem?_eq_getElem hi, e]
    rw [keepB_old R.u e2]
    have e3 : rs.set i (some { b with e := b.e }) = rs := by
      rw [show ({ b with e := b.e } : BR) = b from rfl]
      exact List.ext_getElem? fun j => by
        rw [List.getElem?_set]
        split
        · next q => subst q; exact e2.symm
        · rfl
    refine ⟨?_, rfl⟩
    show RB m _ (rs.set i (some { b with e := b.e }))
    rw [e3]
    refine ⟨R.u, R.len, fun t' p' e => ?_⟩
    rw [R.iff]
    constructor
    · rintro ⟨es', h1, h2⟩
      by_cases ht : t' = b.t
      · subst ht
        rw [h] at h1; cases h1
        refine ⟨putI es b.p b.e, by rw [lkI_put, if_pos rfl], ?_⟩
        rw [lkI_put]
        split
        · next q => rw [q, hx] at h2; exact h2
        · exact h2
      · exact ⟨es', by rw [lkI_put, if_neg ht]; exact h1, h2⟩
    · rintro ⟨es', h1, h2⟩
      rw [lkI_put] at h1
      split at h1
      · next ht =>
        cases h1
        refine ⟨es, by rw [ht]; exact h, ?_⟩
        rw [lkI_put] at h2
        split at h2
        · next q => rw [q, hx]; exact h2
        · exact h2
      · exact ⟨es', h1, h2⟩
  · rw [if_neg hx]
    have R1 : RB m (putI ms t (dropI es p)) (rs.map (stk (isOf t p))) := R.strike h
    have hf : rowAt (rs.map (stk (isOf t p))) t p = none := rowAt_free fun e z => (has_stk.mp z).2 ⟨rfl, rfl⟩
    obtain ⟨k, hk⟩ := R1.room (c := c) (fun e he => by
      obtain he | he := mem_put he
      · subst he
        exact Nat.le_trans len_drop (hc _ (lkI_mem h))
      · exact hc e he) (by
      have : (putI ms t (dropI es p)).length = ms.length := len_put_old h
      rw [this]; exact hm)
    rw [keepB_none hk hf]
    refine ⟨⟨uniq_new R1.u hf, by rw [List.length_set]; exact R1.len, fun t' p' e => ?_⟩, rfl⟩
    rw [has_new hk, R1.iff]
    constructor
    · rintro (⟨es', h1, h2⟩ | ⟨rfl, rfl, rfl⟩)
      · rw [lkI_put] at h1
        split at h1
        · next ht =>
          cases h1
          rw [lkI_drop] at h2
          split at h2
          · cases h2
          · next hp => exact ⟨_, by rw [lkI_put, if_pos ht], by rw [lkI_put, if_neg hp]; exact h2⟩
        · next ht => exact ⟨es', by rw [lkI_put, if_neg ht]; exact h1, h2⟩
      · exact ⟨_, by rw [lkI_put, if_pos rfl], by rw [lkI_put, if_pos rfl]⟩
    · rintro ⟨es', h1, h2⟩
      rw [lkI_put] at h1
      split at h1
      · next ht =>
        cases h1
        rw [lkI_put] at h2
        split at h2
        · next hp => cases h2; exact .inr ⟨ht, hp, rfl⟩
        · next hp => exact .inl ⟨dropI es p, by rw [lkI_put, if_pos ht], by rw [lkI_drop, if_neg hp]; exact h2⟩
      · next ht => exact .inl ⟨es', by rw [lkI_put, if_neg ht]; exact h1, h2⟩
/-- a task closed and opened again -/
theorem RB.close {m : Nat} {ms : Tbs} (R : RB m ms rs) : RB m (putI (dropI ms t) t []) (rs.map (stk (isTk t))) :=
  ⟨uniq_stk R.u, by rw [List.length_map]; exact R.len, fun t' p' e => by
    rw [has_stkT, R.iff]
    constructor
    · rintro ⟨⟨es', h1, h2⟩, hn⟩
      exact ⟨es', by rw [lkI_put, if_neg hn, lkI_drop, if_neg hn]; exact h1, h2⟩
    · rintro ⟨es', h1, h2⟩
      rw [lkI_put] at h1
      split at h1
      · cases h1; cases h2
      · next ht => rw [lkI_drop, if_neg ht] at h1; exact ⟨⟨es', h1, h2⟩, ht⟩⟩
end
theorem r_listD {L l : List Asrt} {H : Hp} {Q : VK} {d : Addr} {kvs : Dk} (S : Star L H) (P : Pull (pt d (.dK kvs)) L l) (h : ∀ q H', Star (pt q (.lst (kvs.map fun kv => kV kv.1)) :: L) H' → Q (.ref q) H') : rListD [.ref d] H Q := ⟨d, kvs, rfl, (S.pull P).get (.head _), fun q n => h q _ (S.new n)⟩
/-- read while it is walked: tuples as keys -/
theorem r_kDGetFT {L l m : List Asrt} {H : Hp} {Q : VK} {d p : Addr} {kvs : List (List Key × V)} {k : List Key} {v : V} {o : Obj} (S : Star L H) (P : Pull (pt d (.frz o (.dT kvs))) L l) (P2 : Pull (pt p (.tup (k.map kV))) l m) (e : valV kvs k = some v) (h : Q v H) : kDGet (.ref d) (.ref p) H Q :=
  ⟨d, v, rfl, by rw [← e]; exact .inr ⟨kvs, k, p, .inr ⟨o, (S.pull P).get (.head _)⟩, rfl, ((S.pull P).under fun _ S => S.pull P2).get (.tail _ (.head _)), rfl⟩, h⟩
def brD : Option BR → PyData
  | none => .none
  | some b => .tuple [.int b.t, .int b.p, .int b.e, .bool b.u]
instance dqBR : Dqa shwA brD 1 := ⟨fun {H h x v} e s => by
  cases x with
  | none => cases (show v = .non from e); exact .non
  | some x =>
    obtain ⟨p, e, q⟩ := e
    subst e
    exact .tup (s _ _ q) (.cons (.int _) (.cons (.int _) (.cons (.int _) (.cons (.bl _) .nil)))), fun x => by cases x <;> simp [brD, PyData.depth, PyData.depthAll], fun x => by cases x <;> simp [brD, Small, SmallAll]⟩
end Fl
/-! Fl: entries kept by holders, beside tables and rows. -/
namespace Fl
open PySem PySem.Spec PyProof.Rows L2 L2.DX
@[elab_as_elim] theorem list_snoc_ind {α : Type} {P : List α → Prop} (nil : P []) (snoc : ∀ (l : List α) (a : α), P l → P (l ++ [a])) (l : List α) : P l := by
  have h : ∀ l : List α, P l.reverse := fun l => by
    induction l with
    | nil => exact nil
    | cons a l ih => rw [List.reverse_cons]; exact snoc _ _ ih
  have := h l.reverse
  rwa [List.reverse_reverse] at this
theorem pe_dead {X : Cx} {e : Expr} : PE X e (fun _ _ _ => False) := ⟨fun _ _ _ _ _ _ h => h.elim⟩
def tkH (t p : Int) : Hd := ⟨Str.ofString "task", by decide +kernel, t, p⟩
def bkH (b k : Int) : Hd := ⟨Str.ofString "bank", by decide +kernel, b, k⟩
theorem tk_bk {t p b k : Int} : tkH t p ≠ bkH b k := fun h => by
  have := congrArg Hd.s h
  exact absurd this (show Str.ofString "task" ≠ Str.ofString "bank" by decide +kernel)
theorem tk_inj {t p t' p' : Int} : tkH t p = tkH t' p' ↔ t = t' ∧ p = p' := by
  unfold tkH
  simp
theorem bk_inj {t p t' p' : Int} : bkH t p = bkH t' p' ↔ t = t' ∧ p = p' := by
  unfold bkH
  simp
abbrev Kpt := List (Hd × Int)
/-- the object of the dict by holders -/
def kpE (ks : Kpt) : List (TK × Int) := ks.map fun e => (hk e.1, e.2)
abbrev kpO (ks : Kpt) : HO := .dT (dmG V.int (kpE ks))
theorem kpE_lk {ks : Kpt} {h : Hd} : lkG (kpE ks) (hk h) = lkG ks h := by
  induction ks with
  | nil => rfl
  | cons e ks ih =>
    unfold kpE at ih ⊢
    rw [List.map_cons, lkG_cons, lkG_cons, ih]
    by_cases q : e.1 = h
    · rw [if_pos (by rw [q]), if_pos q]
    · rw [if_neg (fun z => q (hk_inj z)), if_neg q]
theorem kpE_put {ks : Kpt} {h : Hd} {x : Int} : putG (kpE ks) (hk h) x = kpE (putG ks h x) := by
  unfold putG
  rw [lkG_any, lkG_any, kpE_lk]
  unfold kpE
  split
  · rw [List.map_map, List.map_map]
    refine List.map_congr_left fun e _ => ?_
    show (if hk e.1 = hk h then (hk e.1, x) else (hk e.1, e.2)) = _
    by_cases q : e.1 = h
    · rw [if_pos (by rw [q])]; simp [q]
    · rw [if_neg (fun z => q (hk_inj z))]; simp [q]
  · rw [List.map_append]; rfl
theorem kpE_drop {ks : Kpt} {h : Hd} : dropG (kpE ks) (hk h) = kpE (dropG ks h) := by
  unfold dropG kpE
  rw [List.filter_map]
  congr 1
  refine List.filter_congr fun x _ => ?_
  exact decide_eq_decide.mpr ⟨fun z e => z (by show hk x.1 = hk h; rw [e]), fun z e => z (hk_inj e)⟩
theorem kpE_len {ks : Kpt} : (kpE ks).length = ks.length := List.length_map _
theorem kp_keys {ks : Kpt} : (dmG V.int (kpE ks)).map Prod.fst = (ks.map Prod.fst).map hk := by
  unfold dmG kpE
  rw [List.map_map, List.map_map, List.map_map]; rfl
/-- a task's part of what is kept -/
def mineE (ks : Kpt) (t : Int) : List (Int × Int) :=
  ks.foldl (fun m e => if e.1.s = Str.ofString "task" ∧ e.1.a = t then putI m e.1.b e.2 else m) []
theorem mineE_snoc {ks : Kpt} {e : Hd × Int} {t : Int} : mineE (ks ++ [e]) t = if e.1.s = Str.ofString "task" ∧ e.1.a = t then putI (mineE ks t) e.1.b e.2 else mineE ks t := by
  unfold mineE
  rw [List.foldl_append]; rfl
theorem mineE_nd {ks : Kpt} {t : Int} : (keysI (mineE ks t)).Nodup := by
  induction ks using list_snoc_ind with
  | nil => exact List.nodup_nil
  | snoc ks e ih =>
    rw [mineE_snoc]
    split
    · exact nodup_put ih
    · exact ih
theorem mineE_len {ks : Kpt} {t : Int} : (mineE ks t).length ≤ ks.length := by
  induction ks using list_snoc_ind with
  | nil => exact Nat.le_refl _
  | snoc ks e ih =>
    rw [mineE_snoc, List.length_append]
    split
    · have := len_put (es := mineE ks t) (n := e.1.b) (x := e.2)
      simp only [List.length_cons, List.length_nil]; omega
    · simp only [List.length_cons, List.length_nil]; omega
theorem mineE_lk {ks : Kpt} {t p : Int} (nd : (keysG ks).Nodup) : lkI (mineE ks t) p = lkG ks (tkH t p) := by
  induction ks using list_snoc_ind with
  | nil => rfl
  | snoc ks e ih =>
    have nd2 := nd
    unfold keysG at nd2
    rw [List.map_append, List.nodup_append] at nd2
    have ih := ih nd2.1
    have hn : lkG ks e.1 = none := lkG_none.mpr fun h => nd2.2.2 _ h e.1 (.head _) rfl
    rw [mineE_snoc, show ks ++ [e] = ks ++ [(e.1, e.2)] from rfl, lkG_snoc]
    by_cases h : e.1.s = Str.ofString "task" ∧ e.1.a = t
    · have he : e.1 = tkH t e.1.b := by
        obtain ⟨⟨s, o, a, b⟩, x⟩ := e
        obtain ⟨h1, h2⟩ := h
        dsimp only at h1 h2
        subst h1 h2
        rfl
      rw [if_pos h, lkI_put, ih]
      by_cases hp : p = e.1.b
      · rw [if_pos hp, hp, ← he, hn]; simp
      · rw [if_neg hp, if_neg (fun z => hp (tk_inj.mp (z.symm.trans he)).2)]
        cases lkG ks (tkH t p) <;> rfl
    · rw [if_neg h, ih, if_neg (fun z => h (by rw [z]; exact ⟨rfl, rfl⟩))]
      cases lkG ks (tkH t p) <;> rfl
theorem keysI_ext {a b : List (Int × Int)} (h : ∀ p, lkI a p = lkI b p) (p : Int) : p ∈ keysI a ↔ p ∈ keysI b := by
  have h1 : lkI a p = none ↔ p ∉ keysI a := lkI_none
  have h2 : lkI b p = none ↔ p ∉ keysI b := lkI_none
  rw [h] at h1
  constructor
  · intro z; exact Classical.byContradiction fun y => h1.mp (h2.mpr y) z
  · intro z; exact Classical.byContradiction fun y => h2.mp (h1.mpr y) z
theorem sortI_ext {a b : List (Int × Int)} (na : (keysI a).Nodup) (nb : (keysI b).Nodup) (h : ∀ p, lkI a p = lkI b p) : sortI (keysI a) = sortI (keysI b) :=
  sortI_of (((sortI_perm _).trans ((List.perm_ext_iff_of_nodup na nb).mpr (keysI_ext h)))) (sortI_pw _)
/-- what a keeper of entries tells, by holders -/
structure J71 (s0 s1 : Int) (ms : Tbs) (bs : List (Int × List (Option Int))) (ks : Kpt) : Prop where
  tk : ∀ t : Int, 0 ≤ t → t < 3 → ∃ es, lkI ms t = some es ∧ ∀ p, lkI es p = lkG ks (tkH t p)
  bk0 : ∃ xs, lkI bs 0 = some xs ∧ (xs.length : Int) = s0 ∧ ∀ k : Nat, (k : Int) < s0 → xs.getD k none = lkG ks (bkH 0 k)
  bk1 : ∃ xs, lkI bs 1 = some xs ∧ (xs.length : Int) = s1 ∧ ∀ k : Nat, (k : Int) < s1 → xs.getD k none = lkG ks (bkH 1 k)
  ml : ms.length ≤ 3
  nd : (keysG ks).Nodup
section
variable {s0 s1 : Int} {ms : Tbs} {bs : List (Int × List (Option Int))} {ks : Kpt} {t p x : Int} {es : List (Int × Int)}
theorem J71.putT (J : J71 s0 s1 ms bs ks) (he : lkI ms t = some es) (hl : ∀ p, lkI es p = lkG ks (tkH t p)) : J71 s0 s1 (putI ms t (putI es p x)) bs (putG ks (tkH t p) x) :=
  ⟨fun t' h0 h1 => by
    by_cases e : t' = t
    · subst e
      exact ⟨_, by rw [lkI_put, if_pos rfl], fun p' => by
        rw [lkI_put, lkG_put]
        by_cases e : p' = p
        · rw [if_pos e, if_pos (by rw [e])]
        · rw [if_neg e, if_neg (fun z => e (tk_inj.mp z).2), hl]⟩
    · obtain ⟨es', h2, h3⟩ := J.tk t' h0 h1
      exact ⟨es', by rw [lkI_put, if_neg e]; exact h2, fun p' => by rw [lkG_put, if_neg (fun z => e (tk_inj.mp z).1)]; exact h3 p'⟩,
  (by
    obtain ⟨xs, h1, h2, h3⟩ := J.bk0
    exact ⟨xs, h1, h2, fun k hk => by rw [lkG_put, if_neg (fun z => tk_bk z.symm)]; exact h3 k hk⟩),
  (by
    obtain ⟨xs, h1, h2, h3⟩ := J.bk1
    exact ⟨xs, h1, h2, fun k hk => by rw [lkG_put, if_neg (fun z => tk_bk z.symm)]; exact h3 k hk⟩),
  (by rw [len_put_old he]; exact J.ml), gnodup_put J.nd⟩
theorem J71.dropT (J : J71 s0 s1 ms bs ks) (he : lkI ms t = some es) (hl : ∀ p, lkI es p = lkG ks (tkH t p)) : J71 s0 s1 (putI ms t (dropI es p)) bs (dropG ks (tkH t p)) :=
  ⟨fun t' h0 h1 => by
    by_cases e : t' = t
    · subst e
      exact ⟨_, by rw [lkI_put, if_pos rfl], fun p' => by
        rw [lkI_drop, lkG_drop]
        by_cases e : p' = p
        · rw [if_pos e, if_pos (by rw [e])]
        · rw [if_neg e, if_neg (fun z => e (tk_inj.mp z).2), hl]⟩
    · obtain ⟨es', h2, h3⟩ := J.tk t' h0 h1
      exact ⟨es', by rw [lkI_put, if_neg e]; exact h2, fun p' => by rw [lkG_drop, if_neg (fun z => e (tk_inj.mp z).1)]; exact h3 p'⟩,
  (by
    obtain ⟨xs, h1, h2, h3⟩ := J.bk0
    exact ⟨xs, h1, h2, fun k hk => by rw [lkG_drop, if_neg (fun z => tk_bk z.symm)]; exact h3 k hk⟩),
  (by
    obtain ⟨xs, h1, h2, h3⟩ := J.bk1
    exact ⟨xs, h1, h2, fun k hk => by rw [lkG_drop, if_neg (fun z => tk_bk z.symm)]; exact h3 k hk⟩),
  (by rw [len_put_old he]; exact J.ml), gnodup_drop J.nd⟩
theorem getD_set {xs : List (Option Int)} {i k : Nat} {y : Option Int} (hi : i < xs.length) : (xs.set i y).getD k none = if k = i then y else xs.getD k none := by
  rw [List.getD_eq_getElem?_getD, List.getD_eq_getElem?_getD, List.getElem?_set]
  by_cases e : i = k
  · subst e; simp [hi]
  · rw [if_neg e, if_neg (Ne.symm e)]
/-- a row of a bank, changed in one place, beside what is kept -/
theorem row_put {b s k : Int} {xs : List (Option Int)} {o : Option Int} {ks' : Kpt} (h : ∀ k : Nat, (k : Int) < s → xs.getD k none = lkG ks (bkH b k)) (hs : (xs.length : Int) = s) (k0 : 0 ≤ k) (k1 : k < s)
    (hk : ∀ g, lkG ks' g = if g = bkH b k then o else lkG ks g) : ∀ k' : Nat, (k' : Int) < s → (xs.set k.toNat o).getD k' none = lkG ks' (bkH b k') := fun k' hk' => by
  rw [getD_set (by omega), hk]
  by_cases e : k' = k.toNat
  · rw [if_pos e, if_pos (by rw [show ((k' : Nat) : Int) = k by omega])]
  · rw [if_neg e, if_neg (fun z => e (by have := (bk_inj.mp z).2; omega)), h k' hk']
theorem J71.setB {b k : Int} {xs : List (Option Int)} {o : Option Int} {ks' : Kpt} {s : Int} (J : J71 s0 s1 ms bs ks) (hb : (b = 0 ∧ s = s0) ∨ (b = 1 ∧ s = s1)) (hx : lkI bs b = some xs) (k0 : 0 ≤ k) (k1 : k < s)
    (hk : ∀ g, lkG ks' g = if g = bkH b k then o else lkG ks g) (nd : (keysG ks').Nodup) : J71 s0 s1 ms (putI bs b (xs.set k.toNat o)) ks' := by
  refine ⟨fun t h0 h1 => ?_, ?_, ?_, J.ml, nd⟩
  · obtain ⟨es, h2, h3⟩ := J.tk t h0 h1
    exact ⟨es, h2, fun p => by rw [hk, if_neg tk_bk]; exact h3 p⟩
  · obtain ⟨ys, h1, h2, h3⟩ := J.bk0
    rcases hb with ⟨rfl, rfl⟩ | ⟨rfl, rfl⟩
    · rw [h1] at hx; cases hx
      exact ⟨_, by rw [lkI_put, if_pos rfl], by rw [List.length_set]; exact h2, row_put h3 h2 k0 k1 hk⟩
    · exact ⟨ys, by rw [lkI_put, if_neg (by decide)]; exact h1, h2, fun k' hk' => by rw [hk, if_neg (fun z => by have := (bk_inj.mp z).1; omega)]; exact h3 k' hk'⟩
  · obtain ⟨ys, h1, h2, h3⟩ := J.bk1
    rcases hb with ⟨rfl, rfl⟩ | ⟨rfl, rfl⟩
    · exact ⟨ys, by rw [lkI_put, if_neg (by decide)]; exact h1, h2, fun k' hk' => by rw [hk, if_neg (fun z => by have := (bk_inj.mp z).1; omega)]; exact h3 k' hk'⟩
    · rw [h1] at hx; cases hx
      exact ⟨_, by rw [lkI_put, if_pos rfl], by rw [List.length_set]; exact h2, row_put h3 h2 k0 k1 hk⟩
theorem row_list {b : Int} {xs : List (Option Int)} {n : Nat} (h : ∀ k : Nat, k < n → xs.getD k none = lkG ks (bkH b k)) (hn : xs.length = n) : xs = (List.range n).map fun k : Nat => lkG ks (bkH b k) := by
  refine List.ext_getElem? fun i => ?_
  rw [List.getElem?_map]
  by_cases hi : i < n
  · rw [List.getElem?_range hi, Option.map_some, ← h i hi, List.getD_eq_getElem?_getD, List.getElem?_eq_getElem (by omega)]; rfl
  · rw [List.getElem?_eq_none (by omega), List.getElem?_eq_none (by simp; omega)]; rfl
end
/-! ### the book's rows beside what is kept by task and page -/
section
variable {rs : Rows} {t p e t' p' e' : Int} {s : Nat}
theorem has_at {j : Nat} {b : BR} (h : rs[j]? = some (some b)) : hasB rs b.t b.p b.e := ⟨b, List.mem_of_getElem? h, rfl, rfl, rfl⟩
theorem at_has (h : hasB rs t p e) : ∃ (j : Nat) (b : BR), rs[j]? = some (some b) ∧ b.t = t ∧ b.p = p ∧ b.e = e := by
  obtain ⟨b, hb, h1⟩ := h
  obtain ⟨j, hj, e⟩ := List.getElem_of_mem hb
  exact ⟨j, b, by rw [List.getElem?_eq_getElem hj, e], h1⟩
theorem set_at {i j : Nat} {x : Option BR} {c : BR} (h : (rs.set i x)[j]? = some (some c)) : (j = i ∧ x = some c) ∨ (j ≠ i ∧ rs[j]? = some (some c)) := by
  rw [List.getElem?_set] at h
  split at h
  · next q =>
    split at h
    · exact .inl ⟨q.symm, by simpa using h⟩
    · cases h
  · next q => exact .inr ⟨Ne.symm q, h⟩
theorem has_upd {f : BR → BR} (ft : ∀ b, (f b).t = b.t) (fp : ∀ b, (f b).p = b.p) (fe : ∀ b, (f b).e = b.e) (h : hasB (updB rs t p f) t' p' e') : hasB rs t' p' e' := by
  cases hr : rowAt rs t p with
  | none => rw [updB_none hr] at h; exact h
  | some i =>
    obtain ⟨b, hb, _, _⟩ := rowAt_some hr
    rw [updB_some hr hb] at h
    obtain ⟨j, c, hc, rfl, rfl, rfl⟩ := at_has h
    rcases set_at hc with ⟨rfl, hx⟩ | ⟨_, hc⟩
    · cases hx
      rw [ft, fp, fe]
      exact has_at hb
    · exact has_at hc
theorem uniq_updB {f : BR → BR} (ft : ∀ b, (f b).t = b.t) (fp : ∀ b, (f b).p = b.p) (u : uniq rs) : uniq (updB rs t p f) := by
  cases hr : rowAt rs t p with
  | none => rw [updB_none hr]; exact u
  | some i =>
    obtain ⟨b, hb, _, _⟩ := rowAt_some hr
    rw [updB_some hr hb]
    exact uniq_upd u hb (ft b) (fp b)
theorem place_get {j : Nat} {b : BR} (h : (placeB rs s).2.1[j]? = some (some b)) : ∃ c, rs[j]? = some (some c) ∧ b.t = c.t ∧ b.p = c.p ∧ b.e = c.e := by
  unfold placeB at h
  split at h
  · exact ⟨b, h, rfl, rfl, rfl⟩
  · exact clearB_get h
theorem has_keep (u : uniq rs) (h : hasB (keepB rs s t p e).1 t' p' e') : (t' = t ∧ p' = p ∧ e' = e) ∨ (hasB rs t' p' e' ∧ ¬ (t' = t ∧ p' = p)) := by
  by_cases h0 : rs.length = 0
  · rw [keepB_nil h0] at h
    obtain ⟨j, b, hb, _⟩ := at_has h
    rw [List.eq_nil_of_length_eq_zero h0] at hb
    cases hb
  cases hr : rowAt rs t p with
  | some i =>
    obtain ⟨b, hb, rfl, rfl⟩ := rowAt_some hr
    rw [keepB_old u hb] at h
    obtain ⟨j, c, hc, rfl, rfl, rfl⟩ := at_has h
    rcases set_at hc with ⟨rfl, hx⟩ | ⟨hj, hc⟩
    · cases hx; exact .inl ⟨rfl, rfl, rfl⟩
    · exact .inr ⟨has_at hc, fun z => hj (u j i c b hc hb z.1 z.2)⟩
  | none =>
    rw [keepB_new h0 hr] at h
    obtain ⟨j, c, hc, rfl, rfl, rfl⟩ := at_has h
    rcases set_at hc with ⟨rfl, hx⟩ | ⟨hj, hc⟩
    · cases hx; exact .inl ⟨rfl, rfl, rfl⟩
    · obtain ⟨d, hd, e1, e2, e3⟩ := place_get hc
      rw [e1, e2, e3]
      exact .inr ⟨has_at hd, fun z => by
        have := rowAt_no hr _ (List.mem_of_getElem? hd)
        rw [isOf_iff.mpr z] at this
        cases this⟩
theorem uniq_keep (u : uniq rs) : uniq (keepB rs s t p e).1 := by
  by_cases h0 : rs.length = 0
  · rw [keepB_nil h0]; exact u
  cases hr : rowAt rs t p with
  | some i =>
    obtain ⟨b, hb, rfl, rfl⟩ := rowAt_some hr
    rw [keepB_old u hb]
    exact uniq_upd u hb rfl rfl
  | none =>
    rw [keepB_new h0 hr]
    exact uniq_new (uniq_place u) (placeB_no hr)
end
abbrev pk (t p : Int) : TK := [Sum.inl t, Sum.inl p]
theorem pk_inj {t p t' p' : Int} : pk t p = pk t' p' ↔ t = t' ∧ p = p' := by simp [pk]
theorem lkI_key {β : Type} {es : List (Int × β)} {n : Int} {x : β} (h : lkI es n = some x) : n ∈ keysI es := List.mem_map.mpr ⟨_, lkI_mem h, rfl⟩
/-- entries and a book that is true of them, by tasks and pages -/
structure J72 (m : Nat) (ms : Tbs) (bs : List (Int × List (Option Int))) (rs : Rows) (s : Nat) (es : List (TK × Int)) : Prop where
  tk : ∀ t : Int, 0 ≤ t → t < 3 → ∃ xs, lkI ms t = some xs ∧ ∀ p, lkI xs p = lkG es (pk t p)
  bk : ∀ b : Int, 0 ≤ b → b < 3 → ∃ xs, lkI bs b = some xs ∧ xs.length = 64
  mn : (keysI ms).Nodup
  mq : ∀ k ∈ keysI ms, 0 ≤ k ∧ k < 3
  nd : (keysG es).Nodup
  kf : ∀ k ∈ keysG es, ∃ t p, k = pk t p
  u : uniq rs
  tr : ∀ t p e, hasB rs t p e → lkG es (pk t p) = some e
  len : rs.length = m
  st : rs.length ≠ 0 → s < rs.length
section
variable {m s : Nat} {ms : Tbs} {bs : List (Int × List (Option Int))} {rs : Rows} {es : List (TK × Int)} {t p x : Int} {xs : List (Int × Int)}
theorem J72.putT (J : J72 m ms bs rs s es) (h : lkI ms t = some xs) (hl : ∀ p, lkI xs p = lkG es (pk t p)) : J72 m (putI ms t (putI xs p x)) bs (putR rs xs t p x) s (putG es (pk t p) x) :=
  ⟨fun t' h0 h1 => by
    by_cases e : t' = t
    · subst e
      exact ⟨_, by rw [lkI_put, if_pos rfl], fun p' => by
        rw [lkI_put, lkG_put]
        by_cases e : p' = p
        · rw [if_pos e, if_pos (by rw [e])]
        · rw [if_neg e, if_neg (fun z => e (pk_inj.mp z).2), hl]⟩
    · obtain ⟨es', h2, h3⟩ := J.tk t' h0 h1
      exact ⟨es', by rw [lkI_put, if_neg e]; exact h2, fun p' => by rw [lkG_put, if_neg (fun z => e (pk_inj.mp z).1)]; exact h3 p'⟩,
  J.bk, nodup_put J.mn, (fun k hk => (mem_keys_put.mp hk).elim (fun e => e ▸ J.mq t (lkI_key h)) (J.mq k)), gnodup_put J.nd,
  (fun k hk => by
    rcases gmem_keys_put.mp hk with rfl | hk
    · exact ⟨_, _, rfl⟩
    · exact J.kf k hk),
  (by unfold putR; split; exact J.u; exact uniq_stk J.u),
  (fun t' p' e' hb => by
    rw [lkG_put]
    by_cases hx : lkI xs p = some x
    · rw [show putR rs xs t p x = rs from if_pos hx] at hb
      by_cases z : pk t' p' = pk t p
      · have := J.tr _ _ _ hb
        rw [z, ← hl, hx] at this
        rw [if_pos z]; exact this
      · rw [if_neg z]; exact J.tr _ _ _ hb
    · rw [show putR rs xs t p x = rs.map (stk (isOf t p)) from if_neg hx] at hb
      obtain ⟨h1, h2⟩ := has_stk.mp hb
      rw [if_neg (fun z => h2 (pk_inj.mp z))]
      exact J.tr _ _ _ h1),
  putR_len.trans J.len, (by rw [putR_len]; exact J.st)⟩
theorem J72.takeT (J : J72 m ms bs rs s es) (h : lkI ms t = some xs) (hl : ∀ p, lkI xs p = lkG es (pk t p)) : J72 m (putI ms t (dropI xs p)) bs (rs.map (stk (isOf t p))) s (dropG es (pk t p)) :=
  ⟨fun t' h0 h1 => by
    by_cases e : t' = t
    · subst e
      exact ⟨_, by rw [lkI_put, if_pos rfl], fun p' => by
        rw [lkI_drop, lkG_drop]
        by_cases e : p' = p
        · rw [if_pos e, if_pos (by rw [e])]
        · rw [if_neg e, if_neg (fun z => e (pk_inj.mp z).2), hl]⟩
    · obtain ⟨es', h2, h3⟩ := J.tk t' h0 h1
      exact ⟨es', by rw [lkI_put, if_neg e]; exact h2, fun p' => by rw [lkG_drop, if_neg (fun z => e (pk_inj.mp z).1)]; exact h3 p'⟩,
  J.bk, nodup_put J.mn, (fun k hk => (mem_keys_put.mp hk).elim (fun e => e ▸ J.mq t (lkI_key h)) (J.mq k)), gnodup_drop J.nd,
  (fun k hk => J.kf k (gmem_keys_drop.mp hk).2),
  uniq_stk J.u,
  (fun t' p' e' hb => by
    obtain ⟨h1, h2⟩ := has_stk.mp hb
    rw [lkG_drop, if_neg (fun z => h2 (pk_inj.mp z))]
    exact J.tr _ _ _ h1),
  (by rw [List.length_map]; exact J.len), (by rw [List.length_map]; exact J.st)⟩
theorem J72.close {es' : List (TK × Int)} (J : J72 m ms bs rs s es) (t0 : 0 ≤ t) (t3 : t < 3) (nd : (keysG es').Nodup) (hk : ∀ k ∈ keysG es', k ∈ keysG es)
    (hl : ∀ t' p, lkG es' (pk t' p) = if t' = t then none else lkG es (pk t' p)) : J72 m (putI (dropI ms t) t []) bs (rs.map (stk (isTk t))) s es' :=
  ⟨fun t' h0 h1 => by
    by_cases e : t' = t
    · subst e
      exact ⟨[], by rw [lkI_put, if_pos rfl], fun p' => by rw [hl, if_pos rfl]; rfl⟩
    · obtain ⟨es', h2, h3⟩ := J.tk t' h0 h1
      exact ⟨es', by rw [lkI_put, if_neg e, lkI_drop, if_neg e]; exact h2, fun p' => by rw [hl, if_neg e]; exact h3 p'⟩,
  J.bk, nodup_put (nodup_drop J.mn), (fun k hk => (mem_keys_put.mp hk).elim (fun e => e ▸ ⟨t0, t3⟩) (fun h => J.mq k (mem_keys_drop.mp h).2)), nd, (fun k h => J.kf k (hk k h)), uniq_stk J.u,
  (fun t' p' e' hb => by
    obtain ⟨h1, h2⟩ := has_stkT.mp hb
    rw [hl, if_neg h2]
    exact J.tr _ _ _ h1),
  (by rw [List.length_map]; exact J.len), (by rw [List.length_map]; exact J.st)⟩
theorem J72.bank {b : Int} {ys zs : List (Option Int)} (J : J72 m ms bs rs s es) (h : lkI bs b = some ys) (hz : zs.length = 64) : J72 m ms (putI bs b zs) rs s es :=
  { J with
    bk := fun b' h0 h1 => by
      by_cases e : b' = b
      · exact ⟨zs, by rw [lkI_put, if_pos e], hz⟩
      · obtain ⟨xs, h2, h3⟩ := J.bk b' h0 h1
        exact ⟨xs, by rw [lkI_put, if_neg e]; exact h2, h3⟩ }
theorem J72.ml (J : J72 m ms bs rs s es) : ms.length ≤ 3 := by
  have := nd_len (xs := keysI ms) (ys := [0, 1, 2]) J.mn fun k hk => by
    obtain ⟨h0, h1⟩ := J.mq k hk
    obtain rfl | rfl | rfl : k = 0 ∨ k = 1 ∨ k = 2 := by omega
    all_goals simp
  unfold keysI at this
  rw [List.length_map] at this
  exact this
theorem J72.use (J : J72 m ms bs rs s es) : J72 m ms bs (updB rs t p fun b => { b with u := true }) s es :=
  { J with
    u := uniq_updB (fun _ => rfl) (fun _ => rfl) J.u
    tr := fun t' p' e' hb => J.tr _ _ _ (has_upd (f := fun b => { b with u := true }) (fun _ => rfl) (fun _ => rfl) (fun _ => rfl) hb)
    len := updB_len.trans J.len
    st := by rw [updB_len]; exact J.st }
theorem J72.keep (J : J72 m ms bs rs s es) (h : lkG es (pk t p) = some x) : J72 m ms bs (keepB rs s t p x).1 (keepB rs s t p x).2 es :=
  { J with
    u := uniq_keep J.u
    tr := fun t' p' e' hb => by
      rcases has_keep J.u hb with ⟨rfl, rfl, rfl⟩ | ⟨hb, _⟩
      · exact h
      · exact J.tr _ _ _ hb
    len := keepB_len.trans J.len
    st := by rw [keepB_len]; exact keepB_st J.st }
theorem J72.seen (J : J72 m ms bs rs s es) (h : lookB rs t p = some x) : lkG es (pk t p) = some x := by
  cases hr : rowAt rs t p with
  | none => rw [lookB_none hr] at h; cases h
  | some i =>
    obtain ⟨b, hb, rfl, rfl⟩ := rowAt_some hr
    rw [lookB_some hr hb] at h
    cases h
    exact J.tr _ _ _ (has_at hb)
end
/-! ### list(d) of a dict with tuple keys -/
def keyA (k : TK) : V → Asrt := fun v h => ∃ b, v = .ref b ∧ h b = some (.tup (k.map kV))
instance : Pst keyA := ⟨fun k v => Sup.ex fun b => Sup.and fun _ => Sup.tup⟩
theorem key_open {k : TK} {v : V} {L l : List Asrt} {H : Hp} (S : Star L H) (P : Pull (keyA k v) L l) : ∃ b, v = .ref b ∧ Star (pt b (.tup (k.map kV)) :: l) H := by
  obtain ⟨h1, h2, dj, s1, s2, ⟨b, e, S1⟩, S2⟩ := S.pull P
  exact ⟨b, e, h1, h2, dj, s1, s2, S1, S2⟩
theorem key_close {k : TK} {b : Addr} {L l : List Asrt} {H : Hp} (S : Star L H) (P : Pull (pt b (.tup (k.map kV))) L l) : Star (keyA k (.ref b) :: l) H := (S.pull P).hd fun _ x => ⟨b, rfl, x⟩
theorem optV_getD {o : Option Int} : (o.map V.int).getD .non = optV o := by cases o <;> rfl
def rListT : List V → Hp → VK → Prop := fun xs H Q => ∃ d kvs, xs = [V.ref d] ∧ Rd H d (.dT kvs) ∧ ∀ (p : Addr) (bs : List Addr), H p = none → IsKeys H kvs bs → Q (.ref p) (upd H p (.lst (bs.map V.ref)))
theorem callListT {X : Cx} (hc : X.calm = true) : CallR X (.type "list") rListT := call_list_dT hc
theorem paired_imp {α β : Type} {F G : α → β → Prop} (h : ∀ a b, F a b → G a b) : ∀ {xs : List α} {ys : List β}, PySem.Paired F xs ys → PySem.Paired G xs ys
  | _, _, .nil => .nil
  | _, _, .cons x t => .cons (h _ _ x) (paired_imp h t)
theorem own_keys {l : List Asrt} {H : Hp} : ∀ {kvs : List (List Key × V)} {bs : List Addr}, IsKeys H kvs bs → Star l H → ∃ cs : List (TK × V), cs.map Prod.fst = kvs.map Prod.fst ∧ cs.map Prod.snd = bs.map V.ref ∧ Star (ownL keyA cs :: l) H
  | _, _, .nil, S => ⟨[], rfl, rfl, sepL_nil S⟩
  | kv :: _, b :: _, .cons h t, S => by
    obtain ⟨cs, e1, e2, S2⟩ := own_keys t S
    refine ⟨(kv.1, .ref b) :: cs, by rw [List.map_cons, List.map_cons, e1], by rw [List.map_cons, List.map_cons, e2], ?_⟩
    exact sepL_cons (B := fun c : TK × V => keyA c.1 c.2) ((S2.intup h).hd fun _ x => ⟨b, rfl, x⟩)
theorem r_listT {β : Type} {f : β → V} {es : List (TK × β)} {d : Addr} {L l : List Asrt} {H : Hp} {Q : VK} (S : Star L H) (P : Pull (pt d (.dT (dmG f es))) L l) (h : ∀ q H', Star (listA keyA (keysG es) q :: L) H' → Q (.ref q) H') : rListT [.ref d] H Q :=
  ⟨d, _, rfl, .inl ((S.pull P).get (.head _)), fun q bs n ik => h q _ (by
    have S2 := S.new (o := .lst (bs.map V.ref)) n
    have ik2 : IsKeys (upd H q (.lst (bs.map V.ref))) (dmG f es) bs := by
      have hne : ∀ (b : Addr) (u : HO), H b = some u → (upd H q (.lst (bs.map V.ref))) b = some u := fun b u e => by
        rw [upd_ne (fun z => by rw [z, n] at e; cases e)]; exact e
      unfold IsKeys at ik ⊢
      exact paired_imp (fun p b e => hne b _ e) ik
    obtain ⟨cs, e1, e2, S3⟩ := own_keys ik2 S2
    refine listA_close (cs := cs) (by rw [e1, dmG_keys]) ?_
    rw [e2]
    exact S3.swap)⟩
instance {xs : List V} {H : Hp} {Q : VK} : Grp (rListT xs H Q) 5 := ⟨⟩
end Fl
/-! Fl: plain rooms: sheets by numbers, and which page has which sheet. -/
namespace Fl
open PySem PySem.Spec PyProof.Rows L2 L2.DX
abbrev rk (s : Str) (x y : Int) : TK := [Sum.inr s, Sum.inl x, Sum.inl y]
abbrev rkO (s : Str) (x y : Int) : HO := .tup [.str s, .int x, .int y]
abbrev tkK (t p : Int) : TK := rk (Str.ofString "task") t p
abbrev bkK (b p : Int) : TK := rk (Str.ofString "bank") b p
structure RmS where
  vals : List (Int × List Int)
  us : List (Int × Int)
  sh : List (TK × Int)
  nx : Int
def rm0 : RmS := ⟨[], [], [], 0⟩
def RmS.give (r : RmS) (k : TK) (n : Int) : RmS := { r with sh := putG r.sh k n, us := putI r.us n ((lkI r.us n).getD 0 + 1) }
def RmS.fresh (r : RmS) (k : TK) (xs : List Int) : RmS := { RmS.give { r with vals := putI r.vals r.nx xs } k r.nx with nx := r.nx + 1 }
def RmS.drop (r : RmS) (k : TK) (n : Int) : RmS :=
  if (lkI r.us n).getD 0 - 1 = 0 then { r with sh := dropG r.sh k, us := dropI (putI r.us n ((lkI r.us n).getD 0 - 1)) n, vals := dropI r.vals n }
  else { r with sh := dropG r.sh k, us := putI r.us n ((lkI r.us n).getD 0 - 1) }
def RmS.release (r : RmS) (k : TK) : RmS := match lkG r.sh k with
  | none => r
  | some n => r.drop k n
/-- the key of a page -/
def keyR (tie : Tie) (t g : Int) : TK := match tie with
  | none => tkK t g
  | some (b, k) => bkK b k
/-- whether a sheet more is needed -/
def RmS.need (r : RmS) (k : TK) (own : Bool) : Bool := match lkG r.sh k with
  | none => true
  | some n => own && decide ((lkI r.us n).getD 0 > 1)
def RmS.access (r : RmS) (sz : Nat) (k : TK) (own : Bool) : RmS := match lkG r.sh k with
  | none => r.fresh k (List.replicate sz 0)
  | some n => if (own && decide ((lkI r.us n).getD 0 > 1)) = true then (r.release k).fresh k ((lkI r.vals n).getD []) else r
def RmS.put (r : RmS) (n : Int) (xs : List Int) : RmS := { r with vals := putI r.vals n xs }
/-- each page's number has users and values of the size -/
def RmS.fine (r : RmS) (sz : Nat) : Prop := ∀ k n, lkG r.sh k = some n → (∃ u, lkI r.us n = some u) ∧ ∃ xs, lkI r.vals n = some xs ∧ xs.length = sz
def bxA (xs : List Int) (v : V) : Asrt := fun h => ∃ p, v = .ref p ∧ pt p (.lst (xs.map V.int)) h
theorem bx_open {xs : List Int} {v : V} {L l : List Asrt} {H : Hp} (S : Star L H) (P : Pull (bxA xs v) L l) : ∃ p, v = .ref p ∧ Star (pt p (.lst (xs.map V.int)) :: l) H := by
  obtain ⟨h1, h2, dj, s1, s2, ⟨p, e, S1⟩, S2⟩ := S.pull P
  exact ⟨p, e, h1, h2, dj, s1, s2, S1, S2⟩
theorem bx_close {xs : List Int} {p : Addr} {L l : List Asrt} {H : Hp} (S : Star L H) (P : Pull (pt p (.lst (xs.map V.int))) L l) : Star (bxA xs (.ref p) :: l) H := (S.pull P).hd fun h x => ⟨p, rfl, x⟩
theorem rep_zero (k : Nat) : (List.replicate k [V.int 0]).flatten = (List.replicate k (0 : Int)).map V.int := by
  induction k with
  | zero => rfl
  | succ k ih => rw [List.replicate_succ, List.replicate_succ, List.flatten_cons, ih]; rfl
theorem optI_getD {o : Option Int} {d : Int} : (o.map V.int).getD (V.int d) = V.int (o.getD d) := by cases o <;> rfl
section
variable {σ : L2.St} {H : Hp} {td ty tv : L2.TE} {rd : V → V → Hp → VK → Prop} {nx bk ct : L2.St → Hp → Prop} {rt : VK}
theorem kDPut_ref {a : Addr} {y z : V} {H : Hp} {w : Hp → Prop} : kDPut (.ref a) y z H w ↔ ∃ H5, DPut H a y z H5 ∧ w H5 :=
  ⟨fun ⟨a', H4, e, h, q⟩ => by cases e; exact ⟨H4, h, q⟩, fun ⟨H4, h, q⟩ => ⟨a, H4, rfl, h, q⟩⟩
theorem r_daug (h : td σ H fun x H1 => ty σ H1 fun y H2 => kDGet x y H2 fun v H2 => tv σ H2 fun y2 H3 => rd v y2 H3 fun z H4 => kDPut x y z H4 fun H5 => nx σ H5) : sDAug td ty tv rd ⟨nx, rt, bk, ct⟩ σ H := by
  unfold sDAug
  have e : (fun (x : V) (H1 : Hp) => ty σ H1 fun y H2 => kDGet x y H2 fun v H2 => tv σ H2 fun y2 H3 => rd v y2 H3 fun z H4 => kDPut x y z H4 fun H5 => nx σ H5) = fun x H1 => ty σ H1 fun y H2 => ∃ a v, x = V.ref a ∧ DGet H2 a y (some v) ∧ tv σ H2 fun y2 H3 => rd v y2 H3 fun z H4 => ∃ H5, DPut H4 a y z H5 ∧ nx σ H5 := by
    funext x H1
    congr 1
    funext y H2
    refine propext ⟨fun ⟨a, v, e, g, q⟩ => ⟨a, v, e, g, ?_⟩, fun ⟨a, v, e, g, q⟩ => ⟨a, v, e, g, ?_⟩⟩
    · subst e
      simp only [kDPut_ref] at q
      exact q
    · subst e
      simp only [kDPut_ref]
      exact q
  rw [e] at h
  exact h
instance i_r_daug : Stp (sDAug td ty tv rd ⟨nx, rt, bk, ct⟩ σ H) (td σ H fun x H1 => ty σ H1 fun y H2 => kDGet x y H2 fun v H2 => tv σ H2 fun y2 H3 => rd v y2 H3 fun z H4 => kDPut x y z H4 fun H5 => nx σ H5) := ⟨r_daug⟩
end
theorem fresh_sh {r : RmS} {k : TK} {xs : List Int} : lkG (r.fresh k xs).sh k = some r.nx := by
  show lkG (putG _ k r.nx) k = _
  rw [lkG_put, if_pos rfl]
theorem fresh_vals {r : RmS} {k : TK} {xs : List Int} : lkI (r.fresh k xs).vals r.nx = some xs := by
  show lkI (putI _ r.nx xs) r.nx = _
  rw [lkI_put, if_pos rfl]
theorem drop_len {r : RmS} {k : TK} {n : Int} : (r.drop k n).sh.length ≤ r.sh.length ∧ (r.drop k n).us.length ≤ r.us.length + 1 ∧ (r.drop k n).vals.length ≤ r.vals.length := by
  unfold RmS.drop
  split
  · exact ⟨glen_drop, Nat.le_trans len_drop len_put, len_drop⟩
  · exact ⟨glen_drop, len_put, Nat.le_refl _⟩
theorem release_len {r : RmS} {k : TK} : (r.release k).sh.length ≤ r.sh.length ∧ (r.release k).us.length ≤ r.us.length + 1 ∧ (r.release k).vals.length ≤ r.vals.length := by
  unfold RmS.release
  split
  · exact ⟨Nat.le_refl _, Nat.le_succ _, Nat.le_refl _⟩
  · exact drop_len
/-- a page's values, as they lie -/
def RmS.valsAt (r : RmS) (k : TK) : List Int := match lkG r.sh k with
  | none => []
  | some n => (lkI r.vals n).getD []
/-- a page's values, as they are seen -/
def RmS.seenAt (r : RmS) (sz : Nat) (k : TK) : List Int := match lkG r.sh k with
  | none => List.replicate sz 0
  | some n => (lkI r.vals n).getD []
def RmS.write (r : RmS) (k : TK) (i : Nat) (x : Int) : RmS := match lkG r.sh k with
  | none => r
  | some n => r.put n (((lkI r.vals n).getD []).set i x)
section
variable {r : RmS} {k : TK} {n x : Int} {xs : List Int} {i : Nat}
theorem valsAt_of (e : lkG r.sh k = some n) (e2 : lkI r.vals n = some xs) : r.valsAt k = xs := by unfold RmS.valsAt; rw [e]; dsimp only; rw [e2]; rfl
theorem write_of (e : lkG r.sh k = some n) (e2 : lkI r.vals n = some xs) : r.write k i x = r.put n (xs.set i x) := by unfold RmS.write; rw [e]; dsimp only; rw [e2]; rfl
theorem seenAt_of {sz : Nat} (e : lkG r.sh k = some n) (e2 : lkI r.vals n = some xs) : r.seenAt sz k = xs := by unfold RmS.seenAt; rw [e]; dsimp only; rw [e2]; rfl
theorem seenAt_no {sz : Nat} (e : lkG r.sh k = none) : r.seenAt sz k = List.replicate sz 0 := by unfold RmS.seenAt; rw [e]
end
/-- xs[i] of a list of whole numbers, the index known to be amid -/
theorem r_ixIn {K : PySem.W.Frag} {L l : List Asrt} {H : Hp} {p : Addr} {xs : List Int} {i : Int} {Q : VK} (S : Star L H) (P : Pull (pt p (.lst (xs.map V.int))) L l) (h0 : 0 ≤ i) (h1 : i < xs.length) (h : Q (.int (xs.getD i.toNat 0)) H) : rIxL K (.ref p) (.int i) H Q := by
  refine r_ixL S P (v := .int (xs.getD i.toNat 0)) ?_ h
  have hk : i.toNat < xs.length := by omega
  unfold atI ixN
  rw [List.length_map, if_pos h0, if_pos h1]
  simp [hk, List.getD]
/-! ### pages seen -/
abbrev SeP := Int × Int × List Int
def sbA (e : SeP) (v : V) : Asrt := fun h => ∃ a p, v = .ref a ∧ Star [pt a (.tup [.int e.1, .int e.2.1, .ref p]), pt p (.lst (e.2.2.map V.int))] h
theorem sb_open {e : SeP} {v : V} {L l : List Asrt} {H : Hp} (S : Star L H) (P : Pull (sbA e v) L l) : ∃ a p, v = .ref a ∧ Star (pt a (.tup [.int e.1, .int e.2.1, .ref p]) :: pt p (.lst (e.2.2.map V.int)) :: l) H := by
  obtain ⟨h1, h2, dj, s1, s2, ⟨a, p, e, S1⟩, S2⟩ := S.pull P
  exact ⟨a, p, e, Star.glue (l := [_, _]) ⟨h1, h2, dj, s1, s2, S1, S2⟩⟩
theorem sb_close {g r : Int} {xs : List Int} {a p : Addr} {L l m : List Asrt} {H : Hp} (S : Star L H) (P : Pull (pt a (.tup [.int g, .int r, .ref p])) L l) (P2 : Pull (pt p (.lst (xs.map V.int))) l m) : Star (sbA (g, r, xs) (.ref a) :: m) H :=
  Star.cl (k := [_, _]) ((S.pull P).under fun _ S => S.pull P2) fun h S => ⟨a, p, rfl, S⟩
def seenG (r : RmS) (sz : Nat) (t : Int) (s : Sp1) (k : Nat) : SeP := (s.f + (k : Int), s.r, r.seenAt sz (keyR (tieOn s.t (k : Int)) t (s.f + (k : Int))))
def seenSp (r : RmS) (sz : Nat) (t : Int) (s : Sp1) : List SeP := (List.range s.m.toNat).map (seenG r sz t s)
theorem range_snoc {α : Type} {f : Nat → α} {k : Nat} : (List.range (k + 1)).map f = (List.range k).map f ++ [f k] := by rw [List.range_succ, List.map_append]; rfl
end Fl
/-! Fl: plain rooms with private pages alone, beside a dict of boxes. -/
namespace Fl
open PySem PySem.Spec PyProof.Rows L2 L2.DX
theorem len_put_new {β : Type} {es : List (Int × β)} {n : Int} {x : β} (h : lkI es n = none) : (putI es n x).length = es.length + 1 := by
  unfold putI
  rw [if_neg (fun z => by
    obtain ⟨e, he, h2⟩ := List.any_eq_true.mp z
    exact lkI_none.mp h (List.mem_map.mpr ⟨e, he, of_decide_eq_true h2⟩)), List.length_append]
  rfl
theorem glen_put_new {κ β : Type} [DecidableEq κ] {es : List (κ × β)} {n : κ} {x : β} (h : lkG es n = none) : (putG es n x).length = es.length + 1 := by
  unfold putG
  rw [if_neg (fun z => by
    obtain ⟨e, he, h2⟩ := List.any_eq_true.mp z
    exact lkG_none.mp h (List.mem_map.mpr ⟨e, he, of_decide_eq_true h2⟩)), List.length_append]
  rfl
theorem len_put_has {β : Type} {es : List (Int × β)} {n : Int} {x : β} (h : lkI es n ≠ none) : (putI es n x).length = es.length := by
  cases q : lkI es n with
  | none => exact absurd q h
  | some y => exact len_put_old q
theorem tkK_inj {t g t' g' : Int} (h : tkK t g = tkK t' g') : t = t' ∧ g = g' := by
  have h1 := List.cons.inj (List.cons.inj h).2
  exact ⟨Sum.inl.inj h1.1, Sum.inl.inj (List.cons.inj h1.2).1⟩
theorem same_page {g g' : Int} {sz j j' : Nat} (hj : j < sz) (hj' : j' < sz) (e : g * sz + (j : Int) = g' * sz + (j' : Int)) : g = g' ∧ j = j' := by
  have hs : (sz : Int) ≠ 0 := by omega
  have h1 : (g * sz + (j : Int)) / sz = g := by rw [Int.add_comm, Int.add_mul_ediv_right _ _ hs, Int.ediv_eq_zero_of_lt (by omega) (by omega), Int.zero_add]
  have h2 : (g' * sz + (j' : Int)) / sz = g' := by rw [Int.add_comm, Int.add_mul_ediv_right _ _ hs, Int.ediv_eq_zero_of_lt (by omega) (by omega), Int.zero_add]
  have hg : g = g' := by rw [← h1, e, h2]
  subst hg
  exact ⟨rfl, by omega⟩
/-- what holds of rooms with one task and private pages: es the boxes, ts the pages touched -/
structure R51 (r : RmS) (sz : Nat) (es : List (Int × Int)) (ts : List (Int × Bool)) : Prop where
  keys : ∀ k n, lkG r.sh k = some n → ∃ g, k = tkK 0 g ∧ lkI ts g ≠ none ∧ n < r.nx ∧ lkI r.us n = some 1 ∧ ∃ xs, lkI r.vals n = some xs ∧ xs.length = sz ∧ ∀ j < sz, xs.getD j 0 = (lkI es (g * sz + (j : Int))).getD 0
  there : ∀ g, lkI ts g ≠ none → ∃ n, lkG r.sh (tkK 0 g) = some n
  un : ∀ g, lkI ts g = none → ∀ j < sz, lkI es (g * sz + (j : Int)) = none
  inj : ∀ k k' n, lkG r.sh k = some n → lkG r.sh k' = some n → k = k'
  usb : ∀ n, lkI r.us n ≠ none → n < r.nx
  vlb : ∀ n, lkI r.vals n ≠ none → n < r.nx
  l1 : r.vals.length = ts.length
  l2 : r.sh.length = ts.length
  l3 : r.us.length = ts.length
section
variable {r : RmS} {sz : Nat} {es : List (Int × Int)} {ts : List (Int × Bool)} {g n : Int} {b : Bool}
theorem R51.fine (I : R51 r sz es ts) : r.fine sz := fun k n h => by
  obtain ⟨g, _, _, _, hu, xs, hx, hl, _⟩ := I.keys k n h
  exact ⟨⟨_, hu⟩, xs, hx, hl⟩
theorem R51.nil : R51 rm0 sz [] [] where
  keys := fun _ _ h => nomatch h
  there := fun _ h => absurd rfl h
  un := fun _ _ _ _ => rfl
  inj := fun _ _ _ h => nomatch h
  usb := fun _ h => absurd rfl h
  vlb := fun _ h => absurd rfl h
  l1 := rfl
  l2 := rfl
  l3 := rfl
theorem R51.own (I : R51 r sz es ts) (h : lkG r.sh (tkK 0 g) = some n) : r.need (tkK 0 g) b = false ∧ r.access sz (tkK 0 g) b = r := by
  obtain ⟨_, _, _, _, hu, _⟩ := I.keys _ n h
  constructor
  · unfold RmS.need; rw [h]; dsimp only; rw [hu]; cases b <;> rfl
  · unfold RmS.access; rw [h]; dsimp only; rw [hu]; cases b <;> rfl
theorem R51.no (I : R51 r sz es ts) (h : lkI ts g = none) : lkG r.sh (tkK 0 g) = none := by
  cases q : lkG r.sh (tkK 0 g) with
  | none => rfl
  | some n =>
    obtain ⟨g', hk, ht, _⟩ := I.keys _ n q
    rw [← (tkK_inj hk).2] at ht
    exact absurd h ht
/-- a page touched for the first time -/
theorem R51.get (I : R51 r sz es ts) (h : lkI ts g = none) : R51 (r.fresh (tkK 0 g) (List.replicate sz 0)) sz es (putI ts g true) := by
  have hun : lkI r.us r.nx = none := by
    cases q : lkI r.us r.nx with
    | none => rfl
    | some x => have := I.usb r.nx (by rw [q]; exact nofun); omega
  have hvn : lkI r.vals r.nx = none := by
    cases q : lkI r.vals r.nx with
    | none => rfl
    | some x => have := I.vlb r.nx (by rw [q]; exact nofun); omega
  have hsn := I.no h
  have hsh : (r.fresh (tkK 0 g) (List.replicate sz 0)).sh = putG r.sh (tkK 0 g) r.nx := rfl
  have hus : (r.fresh (tkK 0 g) (List.replicate sz 0)).us = putI r.us r.nx 1 := by
    show putI r.us r.nx ((lkI r.us r.nx).getD 0 + 1) = _
    rw [hun]; rfl
  have hvs : (r.fresh (tkK 0 g) (List.replicate sz 0)).vals = putI r.vals r.nx (List.replicate sz 0) := rfl
  have hnx : (r.fresh (tkK 0 g) (List.replicate sz 0)).nx = r.nx + 1 := rfl
  constructor
  · intro k n hk
    rw [hsh, lkG_put] at hk
    rw [hus, hvs, hnx]
    by_cases e : k = tkK 0 g
    · rw [if_pos e] at hk
      obtain rfl := Option.some.inj hk
      refine ⟨g, e, by rw [lkI_put, if_pos rfl]; exact nofun, by omega, by rw [lkI_put, if_pos rfl], _, by rw [lkI_put, if_pos rfl], List.length_replicate, fun j hj => ?_⟩
      rw [I.un g h j hj]
      simp [List.getD, hj]
    · rw [if_neg e] at hk
      obtain ⟨g', e1, e2, e3, e4, xs, e5, e6, e7⟩ := I.keys k n hk
      exact ⟨g', e1, by rw [lkI_put]; split <;> simp_all, by omega, by rw [lkI_put, if_neg (by omega)]; exact e4, xs, by rw [lkI_put, if_neg (by omega)]; exact e5, e6, e7⟩
  · intro g' hg
    rw [hsh, lkG_put]
    by_cases e : tkK 0 g' = tkK 0 g
    · exact ⟨_, if_pos e⟩
    · rw [if_neg e]
      refine I.there g' fun z => hg ?_
      rw [lkI_put, if_neg (fun q => e (by rw [q]))]
      exact z
  · intro g' hg
    rw [lkI_put] at hg
    split at hg
    · cases hg
    · exact I.un g' hg
  · intro k k' n h1 h2
    rw [hsh, lkG_put] at h1 h2
    by_cases e1 : k = tkK 0 g
    · by_cases e2 : k' = tkK 0 g
      · rw [e1, e2]
      · rw [if_pos e1] at h1
        rw [if_neg e2] at h2
        obtain ⟨_, _, _, e3, _⟩ := I.keys k' n h2
        have := Option.some.inj h1
        omega
    · rw [if_neg e1] at h1
      by_cases e2 : k' = tkK 0 g
      · rw [if_pos e2] at h2
        obtain ⟨_, _, _, e3, _⟩ := I.keys k n h1
        have := Option.some.inj h2
        omega
      · rw [if_neg e2] at h2
        exact I.inj k k' n h1 h2
  · intro n hn
    rw [hus, lkI_put] at hn
    rw [hnx]
    split at hn
    · omega
    · have := I.usb n hn; omega
  · intro n hn
    rw [hvs, lkI_put] at hn
    rw [hnx]
    split at hn
    · omega
    · have := I.vlb n hn; omega
  · rw [hvs, len_put_new hvn, len_put_new h, I.l1]
  · rw [hsh, glen_put_new hsn, len_put_new h, I.l2]
  · rw [hus, len_put_new hun, len_put_new h, I.l3]
/-- a page touched again -/
theorem R51.again (I : R51 r sz es ts) (h : lkI ts g ≠ none) : R51 r sz es (putI ts g true) where
  keys := fun k n hk => by
    obtain ⟨g', e1, e2, e3⟩ := I.keys k n hk
    exact ⟨g', e1, by rw [lkI_put]; split <;> simp_all, e3⟩
  there := fun g' hg => by
    rw [lkI_put] at hg
    split at hg
    · next e => rw [e]; exact I.there g h
    · exact I.there g' hg
  un := fun g' hg => by
    rw [lkI_put] at hg
    split at hg
    · cases hg
    · exact I.un g' hg
  inj := I.inj
  usb := I.usb
  vlb := I.vlb
  l1 := by rw [len_put_has h]; exact I.l1
  l2 := by rw [len_put_has h]; exact I.l2
  l3 := by rw [len_put_has h]; exact I.l3
/-- an access -/
theorem R51.acc (I : R51 r sz es ts) : R51 (r.access sz (tkK 0 g) b) sz es (putI ts g true) := by
  cases q : lkI ts g with
  | none =>
    have e : r.access sz (tkK 0 g) b = r.fresh (tkK 0 g) (List.replicate sz 0) := by unfold RmS.access; rw [I.no q]
    rw [e]
    exact I.get q
  | some x =>
    have hq : lkI ts g ≠ none := by rw [q]; exact nofun
    obtain ⟨n, hn⟩ := I.there g hq
    rw [(I.own hn).2]
    exact I.again hq
theorem R51.vals (I : R51 r sz es ts) (h : lkI ts g ≠ none) : (r.valsAt (tkK 0 g)).length = sz ∧ ∀ j < sz, (r.valsAt (tkK 0 g)).getD j 0 = (lkI es (g * sz + (j : Int))).getD 0 := by
  obtain ⟨n, hn⟩ := I.there g h
  obtain ⟨g', e1, _, _, _, xs, e2, e3, e4⟩ := I.keys _ n hn
  rw [valsAt_of hn e2, (tkK_inj e1).2]
  exact ⟨e3, e4⟩
theorem R51.seen (I : R51 r sz es ts) : (r.seenAt sz (tkK 0 g)).length = sz ∧ ∀ j < sz, (r.seenAt sz (tkK 0 g)).getD j 0 = (lkI es (g * sz + (j : Int))).getD 0 := by
  cases q : lkG r.sh (tkK 0 g) with
  | none =>
    rw [seenAt_no q]
    refine ⟨List.length_replicate, fun j hj => ?_⟩
    have ht : lkI ts g = none := by
      cases q2 : lkI ts g with
      | none => rfl
      | some x =>
        obtain ⟨n, hn⟩ := I.there g (by rw [q2]; exact nofun)
        rw [q] at hn; cases hn
    rw [I.un g ht j hj]
    simp [List.getD, hj]
  | some n =>
    obtain ⟨g', e1, _, _, _, xs, e2, e3, e4⟩ := I.keys _ n q
    rw [seenAt_of q e2, (tkK_inj e1).2]
    exact ⟨e3, e4⟩
/-- a box written -/
theorem R51.put (I : R51 r sz es ts) {j : Nat} {v : Int} (hj : j < sz) (h : lkI ts g ≠ none) : R51 (r.write (tkK 0 g) j v) sz (putI es (g * sz + (j : Int)) v) ts := by
  obtain ⟨n, hn⟩ := I.there g h
  obtain ⟨g0, e1, _, hnx, hu, xs, e2, e3, e4⟩ := I.keys _ n hn
  obtain rfl := (tkK_inj e1).2
  have hw : r.write (tkK 0 g) j v = r.put n (xs.set j v) := write_of hn e2
  rw [hw]
  constructor
  · intro k m hk
    have hk : lkG r.sh k = some m := hk
    obtain ⟨g', f1, f2, f3, f4, ys, f5, f6, f7⟩ := I.keys k m hk
    by_cases e : m = n
    · subst e
      have hkk := I.inj k _ m hk hn
      rw [hkk] at f1
      obtain rfl := (tkK_inj f1).2
      refine ⟨g, hkk, f2, f3, f4, xs.set j v, by show lkI (putI r.vals m _) m = _; rw [lkI_put, if_pos rfl], by rw [List.length_set]; exact e3, fun i hi => ?_⟩
      rw [lkI_put]
      by_cases hij : i = j
      · subst hij
        rw [if_pos rfl]
        simp [List.getD, e3, hi]
      · rw [if_neg (fun z => hij (same_page hi hj z).2), ← e4 i hi]
        simp only [List.getD]
        rw [List.getElem?_set_ne (fun z => hij z.symm)]
    · refine ⟨g', f1, f2, f3, f4, ys, by show lkI (putI r.vals n _) m = _; rw [lkI_put, if_neg e]; exact f5, f6, fun i hi => ?_⟩
      rw [lkI_put, if_neg (fun z => e ?_)]
      · exact f7 i hi
      · have hgg := (same_page hi hj z).1
        rw [f1, hgg, hn] at hk
        exact (Option.some.inj hk).symm
  · exact I.there
  · intro g' hg' j' hj'
    rw [lkI_put, if_neg (fun z => h (by rw [← (same_page hj' hj z).1]; exact hg'))]
    exact I.un g' hg' j' hj'
  · exact I.inj
  · exact I.usb
  · intro m hm
    have hm : lkI (putI r.vals n (xs.set j v)) m ≠ none := hm
    rw [lkI_put] at hm
    split at hm
    · next e => rw [e]; exact hnx
    · exact I.vlb m hm
  · show (putI r.vals n _).length = _
    rw [len_put_old e2]; exact I.l1
  · exact I.l2
  · exact I.l3
/-- few pages are touched -/
theorem R51.few {first : Int} {many : Nat} (nd : (keysI ts).Nodup) (hk : ∀ x ∈ keysI ts, first ≤ x ∧ x < first + (many : Int)) (h1 : first ≤ g) (h2 : g < first + (many : Int)) (h : lkI ts g = none) : ts.length < many := by
  have h3 := nd_len (xs := g :: keysI ts) (ys := (List.range many).map fun k : Nat => first + (k : Int)) (List.nodup_cons.mpr ⟨lkI_none.mp h, nd⟩) fun x hx => by
    have hb : first ≤ x ∧ x < first + (many : Int) := by
      rcases List.mem_cons.mp hx with rfl | hx
      · exact ⟨h1, h2⟩
      · exact hk x hx
    exact List.mem_map.mpr ⟨(x - first).toNat, List.mem_range.mpr (by omega), by omega⟩
  rw [List.length_cons, List.length_map, List.length_range] at h3
  unfold keysI at h3
  rw [List.length_map] at h3
  omega
end
/-- one page behind another read, of two tasks -/
abbrev wdK (i : Nat) : TK := tkK ((i : Int) / 64) ((i : Int) % 64)
structure RW (r : RmS) (sz k : Nat) : Prop where
  keys : ∀ q n, lkG r.sh q = some n → (∃ i < k, q = wdK i) ∧ (∃ u, lkI r.us n = some u) ∧ ∃ xs, lkI r.vals n = some xs ∧ xs.length = sz
  vlb : ∀ n, lkI r.vals n ≠ none → n < r.nx
  usb : ∀ n, lkI r.us n ≠ none → n < r.nx
  l1 : r.vals.length = k
  l2 : r.sh.length ≤ k
  l3 : r.us.length ≤ k
theorem RW.nil {sz : Nat} : RW rm0 sz 0 where
  keys := fun _ _ h => nomatch h
  vlb := fun _ h => absurd rfl h
  usb := fun _ h => absurd rfl h
  l1 := rfl
  l2 := Nat.le_refl _
  l3 := Nat.le_refl _
theorem RW.fine {r : RmS} {sz k : Nat} (I : RW r sz k) : r.fine sz := fun q n h => by
  obtain ⟨_, hu, hx⟩ := I.keys q n h
  exact ⟨hu, hx⟩
theorem RW.no {r : RmS} {sz k : Nat} (I : RW r sz k) : lkG r.sh (wdK k) = none := by
  cases q : lkG r.sh (wdK k) with
  | none => rfl
  | some n =>
    obtain ⟨⟨i, hi, e⟩, _⟩ := I.keys _ n q
    have := tkK_inj e
    omega
theorem RW.acc {r : RmS} {sz k : Nat} (I : RW r sz k) {b : Bool} : r.access sz (wdK k) b = r.fresh (wdK k) (List.replicate sz 0) := by unfold RmS.access; rw [I.no]
theorem RW.next {r : RmS} {sz k : Nat} (I : RW r sz k) {b : Bool} : RW (r.access sz (wdK k) b) sz (k + 1) ∧ ((r.access sz (wdK k) b).valsAt (wdK k)) = List.replicate sz 0 := by
  rw [I.acc]
  refine ⟨?_, valsAt_of fresh_sh fresh_vals⟩
  have hvn : lkI r.vals r.nx = none := by
    cases q : lkI r.vals r.nx with
    | none => rfl
    | some x => have := I.vlb r.nx (by rw [q]; exact nofun); omega
  have hun : lkI r.us r.nx = none := by
    cases q : lkI r.us r.nx with
    | none => rfl
    | some x => have := I.usb r.nx (by rw [q]; exact nofun); omega
  have hsh : (r.fresh (wdK k) (List.replicate sz 0)).sh = putG r.sh (wdK k) r.nx := rfl
  have hus : (r.fresh (wdK k) (List.replicate sz 0)).us = putI r.us r.nx 1 := by
    show putI r.us r.nx ((lkI r.us r.nx).getD 0 + 1) = _
    rw [hun]; rfl
  have hvs : (r.fresh (wdK k) (List.replicate sz 0)).vals = putI r.vals r.nx (List.replicate sz 0) := rfl
  have hnx : (r.fresh (wdK k) (List.replicate sz 0)).nx = r.nx + 1 := rfl
  constructor
  · intro q n hq
    rw [hsh, lkG_put] at hq
    rw [hus, hvs]
    by_cases e : q = wdK k
    · rw [if_pos e] at hq
      obtain rfl := Option.some.inj hq
      exact ⟨⟨k, by omega, e⟩, ⟨1, by rw [lkI_put, if_pos rfl]⟩, _, by rw [lkI_put, if_pos rfl], List.length_replicate⟩
    · rw [if_neg e] at hq
      obtain ⟨⟨i, hi, e1⟩, ⟨u, hu⟩, xs, hx, hl⟩ := I.keys q n hq
      have := I.vlb n (by rw [hx]; exact nofun)
      exact ⟨⟨i, by omega, e1⟩, ⟨u, by rw [lkI_put, if_neg (by omega)]; exact hu⟩, xs, by rw [lkI_put, if_neg (by omega)]; exact hx, hl⟩
  · intro n hn
    rw [hvs, lkI_put] at hn
    rw [hnx]
    split at hn
    · omega
    · have := I.vlb n hn; omega
  · intro n hn
    rw [hus, lkI_put] at hn
    rw [hnx]
    split at hn
    · omega
    · have := I.usb n hn; omega
  · rw [hvs, len_put_new hvn, I.l1]
  · rw [hsh]
    exact Nat.le_trans glen_put (by have := I.l2; omega)
  · rw [hus]
    exact Nat.le_trans len_put (by have := I.l3; omega)
end Fl
/-! Fl: rooms whose pages share sheets: how many have one. -/
namespace Fl
open PySem PySem.Spec PyProof.Rows L2 L2.DX
def cn (sh : List (TK × Int)) (n : Int) : Nat := (sh.filter fun e => decide (e.2 = n)).length
section
variable {sh : List (TK × Int)} {k : TK} {n m : Int}
theorem cn_nil : cn [] n = 0 := rfl
theorem cn_cons {e : TK × Int} : cn (e :: sh) n = cn sh n + if e.2 = n then 1 else 0 := by
  unfold cn
  rw [List.filter_cons]
  by_cases h : e.2 = n
  · rw [if_pos (by simpa using h), if_pos h]; rfl
  · rw [if_neg (by simpa using h), if_neg h]; rfl
theorem cn_app {a b : List (TK × Int)} : cn (a ++ b) n = cn a n + cn b n := by unfold cn; rw [List.filter_append, List.length_append]
theorem putG_new {β : Type} {es : List (TK × β)} {x : β} (h : lkG es k = none) : putG es k x = es ++ [(k, x)] := by
  unfold putG
  rw [if_neg (fun z => by
    obtain ⟨e, he, h2⟩ := List.any_eq_true.mp z
    exact lkG_none.mp h (List.mem_map.mpr ⟨e, he, of_decide_eq_true h2⟩))]
theorem cn_put (h : lkG sh k = none) : cn (putG sh k n) m = cn sh m + if n = m then 1 else 0 := by
  rw [putG_new h, cn_app, cn_cons, cn_nil, Nat.zero_add]
theorem drop_none {β : Type} : ∀ {es : List (TK × β)}, k ∉ keysG es → dropG es k = es
  | [], _ => rfl
  | e :: es, h => by
    have h1 : ¬ e.1 = k := fun z => h (by rw [← z]; exact List.mem_cons_self ..)
    have h2 := drop_none (es := es) fun z => h (List.mem_cons_of_mem _ z)
    unfold dropG at h2 ⊢
    rw [List.filter_cons, if_pos (by simpa using h1), h2]
theorem cn_drop : ∀ {sh : List (TK × Int)}, (keysG sh).Nodup → lkG sh k = some n → cn sh m = cn (dropG sh k) m + if n = m then 1 else 0
  | [], _, h => nomatch h
  | e :: sh, nd, h => by
    have nd2 := List.nodup_cons.mp nd
    rw [lkG_cons] at h
    by_cases he : e.1 = k
    · rw [if_pos he] at h
      have hn := Option.some.inj h
      have hd : dropG (e :: sh) k = sh := by
        have := drop_none (k := k) (es := sh) (by rw [← he]; exact nd2.1)
        unfold dropG at this ⊢
        rw [List.filter_cons, if_neg (by simpa using he), this]
      rw [hd, cn_cons, hn]
    · rw [if_neg he] at h
      have hd : dropG (e :: sh) k = e :: dropG sh k := by
        unfold dropG
        rw [List.filter_cons, if_pos (by simpa using he)]
      rw [hd, cn_cons, cn_cons, cn_drop nd2.2 h]
      omega
theorem lkG_of_mem {β : Type} : ∀ {es : List (TK × β)} {e : TK × β}, (keysG es).Nodup → e ∈ es → lkG es e.1 = some e.2
  | [], _, _, h => nomatch h
  | a :: es, e, nd, h => by
    have nd2 := List.nodup_cons.mp nd
    rw [lkG_cons]
    rcases List.mem_cons.mp h with rfl | h
    · rw [if_pos rfl]
    · rw [if_neg (fun z => nd2.1 (by show a.1 ∈ _; rw [z]; exact List.mem_map.mpr ⟨e, h, rfl⟩))]
      exact lkG_of_mem nd2.2 h
theorem cn_pos (nd : (keysG sh).Nodup) : cn sh n ≠ 0 ↔ ∃ k, lkG sh k = some n := by
  unfold cn
  constructor
  · intro h
    obtain ⟨e, he⟩ := List.exists_mem_of_length_pos (Nat.pos_of_ne_zero h)
    obtain ⟨h1, h2⟩ := List.mem_filter.mp he
    exact ⟨e.1, by rw [lkG_of_mem nd h1, of_decide_eq_true h2]⟩
  · rintro ⟨k, hk⟩ h
    have := lkG_mem hk
    rw [List.length_eq_zero_iff] at h
    have h2 : (k, n) ∈ sh.filter fun e => decide (e.2 = n) := List.mem_filter.mpr ⟨this, by simp⟩
    rw [h] at h2
    cases h2
theorem gnodup_put' {β : Type} {es : List (TK × β)} {x : β} (h : (keysG es).Nodup) : (keysG (putG es k x)).Nodup := by
  cases q : lkG es k with
  | none =>
    rw [putG_new q]
    unfold keysG at h ⊢
    rw [List.map_append]
    refine List.nodup_append.mpr ⟨h, by simp, fun a ha b hb => ?_⟩
    rw [List.map_cons, List.map_nil, List.mem_singleton] at hb
    rw [hb]
    intro z
    exact lkG_none.mp q (by have z' : a = k := z; rw [← z']; exact ha)
  | some y =>
    have e : keysG (putG es k x) = keysG es := by
      unfold putG
      rw [if_pos (List.any_eq_true.mpr ⟨_, lkG_mem q, by simp⟩)]
      unfold keysG
      rw [List.map_map]
      refine List.map_congr_left fun e _ => ?_
      show (if e.1 = k then (e.1, x) else e).1 = e.1
      split <;> rfl
    rw [e]; exact h
end
/-- users are counted, values are there for those -/
structure RI (r : RmS) (sz : Nat) : Prop where
  nd : (keysG r.sh).Nodup
  ndv : (keysI r.vals).Nodup
  ndu : (keysI r.us).Nodup
  us : ∀ n, lkI r.us n = if cn r.sh n = 0 then none else some (cn r.sh n : Int)
  vs : ∀ n, cn r.sh n ≠ 0 ↔ lkI r.vals n ≠ none
  len : ∀ n xs, lkI r.vals n = some xs → xs.length = sz
  nx : ∀ n, lkI r.vals n ≠ none → n < r.nx
section
variable {r : RmS} {sz : Nat} {k : TK} {n : Int} {xs : List Int}
theorem RI.nil : RI rm0 sz where
  nd := List.nodup_nil
  ndv := List.nodup_nil
  ndu := List.nodup_nil
  us := fun _ => rfl
  vs := fun _ => ⟨fun h => absurd rfl h, fun h => absurd rfl h⟩
  len := fun _ _ h => nomatch h
  nx := fun _ h => absurd rfl h
theorem RI.has (I : RI r sz) (h : lkG r.sh k = some n) : ∃ xs, lkI r.vals n = some xs ∧ xs.length = sz ∧ lkI r.us n = some (cn r.sh n : Int) ∧ cn r.sh n ≠ 0 := by
  have h1 := (cn_pos I.nd).mpr ⟨k, h⟩
  cases q : lkI r.vals n with
  | none => exact absurd q ((I.vs n).mp h1)
  | some xs => exact ⟨xs, rfl, I.len n xs q, by rw [I.us, if_neg h1], h1⟩
theorem RI.fine (I : RI r sz) : r.fine sz := fun k n h => by
  obtain ⟨xs, h1, h2, h3, _⟩ := I.has h
  exact ⟨⟨_, h3⟩, xs, h1, h2⟩
theorem RI.give (I : RI r sz) (h : lkG r.sh k = none) (hn : cn r.sh n ≠ 0) : RI (r.give k n) sz where
  nd := gnodup_put' I.nd
  ndv := I.ndv
  ndu := nodup_put I.ndu
  us := fun m => by
    show lkI (putI r.us n _) m = if cn (putG r.sh k n) m = 0 then none else some ((cn (putG r.sh k n) m : Nat) : Int)
    rw [lkI_put, cn_put h]
    by_cases e : m = n
    · subst e
      rw [if_pos rfl, if_pos rfl, if_neg (by omega), I.us, if_neg hn]
      rfl
    · rw [if_neg e, if_neg (show ¬ n = m from fun z => e z.symm), Nat.add_zero]; exact I.us m
  vs := fun m => by
    show cn (putG r.sh k n) m ≠ 0 ↔ lkI r.vals m ≠ none
    rw [cn_put h, ← I.vs]
    by_cases e : n = m
    · subst e
      rw [if_pos rfl]
      exact ⟨fun _ => hn, fun _ => by omega⟩
    · rw [if_neg e]; rfl
  len := I.len
  nx := I.nx
theorem RI.fresh (I : RI r sz) (h : lkG r.sh k = none) (hx : xs.length = sz) : RI (r.fresh k xs) sz := by
  have hvn : lkI r.vals r.nx = none := by
    cases q : lkI r.vals r.nx with
    | none => rfl
    | some x => have := I.nx r.nx (by rw [q]; exact nofun); omega
  have hcn : cn r.sh r.nx = 0 := Decidable.byContradiction fun z => (I.vs r.nx).mp z hvn
  have hun : lkI r.us r.nx = none := by rw [I.us, if_pos hcn]
  have hsh : (r.fresh k xs).sh = putG r.sh k r.nx := rfl
  have hus : (r.fresh k xs).us = putI r.us r.nx 1 := by
    show putI r.us r.nx ((lkI r.us r.nx).getD 0 + 1) = _
    rw [hun]; rfl
  have hvs : (r.fresh k xs).vals = putI r.vals r.nx xs := rfl
  have hnx : (r.fresh k xs).nx = r.nx + 1 := rfl
  constructor
  · rw [hsh]; exact gnodup_put' I.nd
  · rw [hvs]; exact nodup_put I.ndv
  · rw [hus]; exact nodup_put I.ndu
  · intro m
    rw [hus, hsh, lkI_put, cn_put h]
    by_cases e : m = r.nx
    · subst e
      rw [if_pos rfl, if_pos rfl, hcn]; rfl
    · rw [if_neg e, if_neg (show ¬ r.nx = m from fun z => e z.symm), Nat.add_zero]; exact I.us m
  · intro m
    rw [hsh, hvs, cn_put h, lkI_put]
    by_cases e : m = r.nx
    · subst e
      rw [if_pos rfl, if_pos rfl]
      exact ⟨fun _ => nofun, fun _ => by omega⟩
    · rw [if_neg (show ¬ r.nx = m from fun z => e z.symm), if_neg e, Nat.add_zero]; exact I.vs m
  · intro m ys hm
    rw [hvs, lkI_put] at hm
    split at hm
    · obtain rfl := Option.some.inj hm; exact hx
    · exact I.len m ys hm
  · intro m hm
    rw [hvs, lkI_put] at hm
    rw [hnx]
    split at hm
    · omega
    · have := I.nx m hm; omega
theorem RI.drop (I : RI r sz) (h : lkG r.sh k = some n) : RI (r.drop k n) sz := by
  obtain ⟨ys, hv, hl, hu, hc⟩ := I.has h
  have hcd := fun m => cn_drop (m := m) I.nd h
  have hug : (lkI r.us n).getD 0 = (cn r.sh n : Int) := by rw [hu]; rfl
  unfold RmS.drop
  rw [hug]
  by_cases h1 : (cn r.sh n : Int) - 1 = 0
  · rw [if_pos h1]
    have hz : cn (dropG r.sh k) n = 0 := by have := hcd n; rw [if_pos rfl] at this; omega
    constructor
    · exact gnodup_drop I.nd
    · exact nodup_drop I.ndv
    · exact nodup_drop (nodup_put I.ndu)
    · intro m
      show lkI (dropI (putI r.us n _) n) m = if cn (dropG r.sh k) m = 0 then none else some ((cn (dropG r.sh k) m : Nat) : Int)
      rw [lkI_drop, lkI_put]
      by_cases e : m = n
      · subst e; rw [if_pos rfl, hz]; rfl
      · have := hcd m
        rw [if_neg (fun z => e z.symm), Nat.add_zero] at this
        rw [if_neg e, if_neg e, I.us, this]
    · intro m
      show cn (dropG r.sh k) m ≠ 0 ↔ lkI (dropI r.vals n) m ≠ none
      rw [lkI_drop]
      by_cases e : m = n
      · subst e; rw [if_pos rfl, hz]; exact ⟨fun z => absurd rfl z, fun z => absurd rfl z⟩
      · have := hcd m
        rw [if_neg (fun z => e z.symm), Nat.add_zero] at this
        rw [if_neg e, ← this]; exact I.vs m
    · intro m zs hm
      have hm : lkI (dropI r.vals n) m = some zs := hm
      rw [lkI_drop] at hm
      split at hm
      · cases hm
      · exact I.len m zs hm
    · intro m hm
      have hm : lkI (dropI r.vals n) m ≠ none := hm
      rw [lkI_drop] at hm
      split at hm
      · exact absurd rfl hm
      · exact I.nx m hm
  · rw [if_neg h1]
    have hz : cn (dropG r.sh k) n + 1 = cn r.sh n := by have := hcd n; rw [if_pos rfl] at this; omega
    constructor
    · exact gnodup_drop I.nd
    · exact I.ndv
    · exact nodup_put I.ndu
    · intro m
      show lkI (putI r.us n _) m = if cn (dropG r.sh k) m = 0 then none else some ((cn (dropG r.sh k) m : Nat) : Int)
      rw [lkI_put]
      by_cases e : m = n
      · subst e
        rw [if_pos rfl, if_neg (by omega)]
        congr 1
        omega
      · have := hcd m
        rw [if_neg (fun z => e z.symm), Nat.add_zero] at this
        rw [if_neg e, I.us, this]
    · intro m
      show cn (dropG r.sh k) m ≠ 0 ↔ lkI r.vals m ≠ none
      rw [← I.vs]
      by_cases e : m = n
      · subst e; exact ⟨fun _ => hc, fun _ => by omega⟩
      · have := hcd m
        rw [if_neg (fun z => e z.symm), Nat.add_zero] at this
        rw [this]
    · exact I.len
    · exact I.nx
theorem RI.release (I : RI r sz) : RI (r.release k) sz := by
  unfold RmS.release
  cases h : lkG r.sh k with
  | none => exact I
  | some n => exact I.drop h
theorem drop_sh : (r.drop k n).sh = dropG r.sh k := by unfold RmS.drop; split <;> rfl
theorem release_sh : (r.release k).sh = dropG r.sh k := by
  unfold RmS.release
  cases h : lkG r.sh k with
  | none => exact (drop_none (lkG_none.mp h)).symm
  | some n => exact drop_sh
theorem RI.putv (I : RI r sz) (h : lkI r.vals n ≠ none) (hx : xs.length = sz) : RI (r.put n xs) sz where
  nd := I.nd
  ndv := nodup_put I.ndv
  ndu := I.ndu
  us := I.us
  vs := fun m => by
    show cn r.sh m ≠ 0 ↔ lkI (putI r.vals n xs) m ≠ none
    rw [I.vs, lkI_put]
    by_cases e : m = n
    · subst e; rw [if_pos rfl]; exact ⟨fun _ => nofun, fun _ => h⟩
    · rw [if_neg e]
  len := fun m ys hm => by
    have hm : lkI (putI r.vals n xs) m = some ys := hm
    rw [lkI_put] at hm
    split at hm
    · obtain rfl := Option.some.inj hm; exact hx
    · exact I.len m ys hm
  nx := fun m hm => by
    have hm : lkI (putI r.vals n xs) m ≠ none := hm
    rw [lkI_put] at hm
    split at hm
    · next e => rw [e]; exact I.nx n h
    · exact I.nx m hm
end
theorem RI.lens {r : RmS} {sz : Nat} (I : RI r sz) : r.us.length ≤ r.sh.length ∧ r.vals.length ≤ r.sh.length := by
  have key : ∀ n, cn r.sh n ≠ 0 → n ∈ r.sh.map Prod.snd := fun n h => by
    obtain ⟨k, hk⟩ := (cn_pos I.nd).mp h
    exact List.mem_map.mpr ⟨_, lkG_mem hk, rfl⟩
  have h1 := nd_len I.ndu (ys := r.sh.map Prod.snd) fun n hn => key n fun z => by
    have := I.us n
    rw [if_pos z] at this
    exact lkI_none.mp this hn
  have h2 := nd_len I.ndv (ys := r.sh.map Prod.snd) fun n hn => key n ((I.vs n).mpr fun z => lkI_none.mp z hn)
  unfold keysI at h1 h2
  rw [List.length_map, List.length_map] at h1 h2
  exact ⟨h1, h2⟩
/-- the pages of a task go to another task too -/
def isK (s : Str) (t : Int) (k : TK) : Bool := match k with
  | [Sum.inr s', Sum.inl x, Sum.inl _] => decide (s' = s) && decide (x = t)
  | _ => false
def pageK : TK → Int
  | [_, _, Sum.inl y] => y
  | _ => 0
def fkS (t n : Int) (r : RmS) (e : TK × Int) : RmS := if isK (Str.ofString "task") t e.1 = true then r.give (tkK n (pageK e.1)) e.2 else r
def RmS.fork (r : RmS) (t n : Int) : RmS := r.sh.foldl (fkS t n) r
def endS (s : Str) (t : Int) (r : RmS) (k : TK) : RmS := if isK s t k = true then r.release k else r
def RmS.gone (r : RmS) (s : Str) (t : Int) : RmS := (keysG r.sh).foldl (endS s t) r
theorem isK_rk {s s' : Str} {x t y : Int} : isK s t (rk s' x y) = (decide (s' = s) && decide (x = t)) := rfl
theorem isK_iff {s : Str} {t : Int} {k : TK} (hk : ∃ s' x y, k = rk s' x y) : isK s t k = true ↔ k = rk s t (pageK k) := by
  obtain ⟨s', x, y, rfl⟩ := hk
  rw [isK_rk]
  constructor
  · intro h
    rw [Bool.and_eq_true, decide_eq_true_eq, decide_eq_true_eq] at h
    rw [h.1, h.2]; rfl
  · intro h
    have h1 := List.cons.inj h
    have h2 := List.cons.inj h1.2
    rw [decide_eq_true (Sum.inr.inj h1.1), decide_eq_true (Sum.inl.inj h2.1)]; rfl
open scoped Classical
/-- the fork while the first pages are gone through -/
structure FK (r : RmS) (sz : Nat) (t n : Int) (pre : List (TK × Int)) (c : RmS) : Prop where
  I : RI c sz
  vals : c.vals = r.vals
  nx : c.nx = r.nx
  old : ∀ k, (∀ g, k ≠ tkK n g) → lkG c.sh k = lkG r.sh k
  new : ∀ g, lkG c.sh (tkK n g) = if tkK t g ∈ keysG pre then lkG r.sh (tkK t g) else none
  shp : ∀ k ∈ keysG c.sh, ∃ s x y, k = rk s x y
  l1 : c.sh.length ≤ r.sh.length + pre.length
  l2 : c.us.length ≤ r.us.length + pre.length
section
variable {r c : RmS} {sz : Nat} {t n : Int} {pre : List (TK × Int)} {e : TK × Int}
theorem FK.nil (I : RI r sz) (hs : ∀ k ∈ keysG r.sh, ∃ s x y, k = rk s x y) (hn : ∀ g, lkG r.sh (tkK n g) = none) : FK r sz t n [] r :=
  ⟨I, rfl, rfl, fun _ _ => rfl, fun g => by rw [if_neg (fun z => nomatch z)]; exact hn g, hs, Nat.le_add_right _ _, Nat.le_add_right _ _⟩
theorem keysG_snoc {β : Type} {es : List (TK × β)} {e : TK × β} {k : TK} : k ∈ keysG (es ++ [e]) ↔ k ∈ keysG es ∨ k = e.1 := by
  unfold keysG
  rw [List.map_append, List.mem_append, List.map_cons, List.map_nil, List.mem_singleton]
theorem FK.step (F : FK r sz t n pre c) (I : RI r sz) (htn : t ≠ n) (he : lkG r.sh e.1 = some e.2) (hs : ∃ s x y, e.1 = rk s x y) (hp : e.1 ∉ keysG pre) : FK r sz t n (pre ++ [e]) (fkS t n c e) := by
  unfold fkS
  by_cases h : isK (Str.ofString "task") t e.1 = true
  · rw [if_pos h]
    have hk : e.1 = tkK t (pageK e.1) := (isK_iff hs).mp h
    generalize pageK e.1 = g at hk ⊢
    have hno : lkG c.sh (tkK n g) = none := by rw [F.new, if_neg (by rw [← hk]; exact hp)]
    have hce : lkG c.sh e.1 = some e.2 := by
      rw [F.old e.1 (fun g' z => htn (by rw [hk] at z; exact (tkK_inj z).1)), he]
    have hcn : cn c.sh e.2 ≠ 0 := (cn_pos F.I.nd).mpr ⟨_, hce⟩
    have hsh : (c.give (tkK n g) e.2).sh = putG c.sh (tkK n g) e.2 := rfl
    refine ⟨F.I.give hno hcn, F.vals, F.nx, fun k hk2 => ?_, fun g' => ?_, fun k hk2 => ?_, ?_, ?_⟩
    · rw [hsh, lkG_put, if_neg (hk2 g)]
      exact F.old k hk2
    · rw [hsh, lkG_put]
      by_cases hg : g' = g
      · subst hg
        rw [if_pos rfl, if_pos (keysG_snoc.mpr (.inr hk.symm)), ← hk, he]
      · rw [if_neg (fun z => hg (tkK_inj z).2), F.new]
        by_cases hm : tkK t g' ∈ keysG pre
        · rw [if_pos hm, if_pos (keysG_snoc.mpr (.inl hm))]
        · rw [if_neg hm, if_neg (fun z => (keysG_snoc.mp z).elim hm fun z => hg (tkK_inj (z.trans hk)).2)]
    · rw [hsh, gmem_keys_put] at hk2
      exact hk2.elim (fun z => ⟨_, _, _, z⟩) (F.shp k)
    · rw [hsh, List.length_append, List.length_singleton]
      have := glen_put (es := c.sh) (n := tkK n g) (x := e.2)
      have := F.l1
      omega
    · show (putI c.us e.2 _).length ≤ _
      rw [List.length_append, List.length_singleton]
      have := len_put (es := c.us) (n := e.2) (x := (lkI c.us e.2).getD 0 + 1)
      have := F.l2
      omega
  · rw [if_neg h]
    refine ⟨F.I, F.vals, F.nx, F.old, fun g => ?_, F.shp, by rw [List.length_append]; have := F.l1; omega, by rw [List.length_append]; have := F.l2; omega⟩
    rw [F.new]
    by_cases hm : tkK t g ∈ keysG pre
    · rw [if_pos hm, if_pos (keysG_snoc.mpr (.inl hm))]
    · rw [if_neg hm]
      by_cases hq : tkK t g ∈ keysG (pre ++ [e])
      · have hz := (keysG_snoc.mp hq).elim (fun z => absurd z hm) id
        exfalso
        refine h ?_
        rw [← hz]
        exact (isK_iff ⟨_, _, _, rfl⟩).mpr rfl
      · rw [if_neg hq]
/-- the pages of a task or bank let go, one behind another -/
structure GK (r : RmS) (sz : Nat) (s : Str) (t : Int) (pre : List TK) (c : RmS) : Prop where
  I : RI c sz
  nx : c.nx = r.nx
  sh : ∀ k, lkG c.sh k = if k ∈ pre ∧ isK s t k = true then none else lkG r.sh k
  vals : ∀ n, cn c.sh n ≠ 0 → lkI c.vals n = lkI r.vals n
  shp : ∀ k ∈ keysG c.sh, ∃ s x y, k = rk s x y
  l1 : c.sh.length ≤ r.sh.length
  l2 : c.us.length ≤ r.us.length + pre.length
theorem GK.nil {s : Str} (I : RI r sz) (hs : ∀ k ∈ keysG r.sh, ∃ s x y, k = rk s x y) : GK r sz s t [] r :=
  ⟨I, rfl, fun k => by rw [if_neg (fun z => nomatch z.1)], fun _ _ => rfl, hs, Nat.le_refl _, Nat.le_refl _⟩
theorem drop_vals {k : TK} {n m : Int} (I : RI c sz) (h : lkG c.sh k = some n) (hm : cn (dropG c.sh k) m ≠ 0) : lkI (c.drop k n).vals m = lkI c.vals m := by
  have hc := cn_drop (m := m) I.nd h
  obtain ⟨_, _, _, hu, _⟩ := I.has h
  unfold RmS.drop
  rw [show (lkI c.us n).getD 0 = (cn c.sh n : Int) by rw [hu]; rfl]
  by_cases h1 : (cn c.sh n : Int) - 1 = 0
  · rw [if_pos h1]
    show lkI (dropI c.vals n) m = _
    rw [lkI_drop, if_neg]
    intro e
    subst e
    rw [if_pos rfl] at hc
    omega
  · rw [if_neg h1]
theorem GK.step {s : Str} {pre : List TK} {k : TK} (F : GK r sz s t pre c) (hk : k ∉ pre) : GK r sz s t (pre ++ [k]) (endS s t c k) := by
  unfold endS
  by_cases h : isK s t k = true
  · rw [if_pos h]
    have hnx : (c.release k).nx = c.nx := by
      unfold RmS.release RmS.drop
      split
      · rfl
      · split <;> rfl
    have hl := release_len (r := c) (k := k)
    refine ⟨F.I.release, hnx.trans F.nx, fun k' => ?_, fun m hm => ?_, fun k' hk' => ?_, ?_, ?_⟩
    · rw [release_sh, lkG_drop, F.sh]
      by_cases e : k' = k
      · subst e
        rw [if_pos rfl, if_pos ⟨by simp, h⟩]
      · rw [if_neg e]
        by_cases hp : k' ∈ pre ∧ isK s t k' = true
        · rw [if_pos hp, if_pos ⟨List.mem_append_left _ hp.1, hp.2⟩]
        · rw [if_neg hp, if_neg (fun z => hp ⟨(List.mem_append.mp z.1).elim id fun y => absurd (List.mem_singleton.mp y) e, z.2⟩)]
    · rw [release_sh] at hm
      have hcm : cn c.sh m ≠ 0 := by
        cases q : lkG c.sh k with
        | none => rw [drop_none (lkG_none.mp q)] at hm; exact hm
        | some n => have := cn_drop (m := m) F.I.nd q; omega
      rw [← F.vals m hcm]
      unfold RmS.release
      cases q : lkG c.sh k with
      | none => rfl
      | some n => exact drop_vals F.I q hm
    · rw [release_sh] at hk'
      unfold dropG keysG at hk'
      obtain ⟨e, he, rfl⟩ := List.mem_map.mp hk'
      exact F.shp _ (List.mem_map.mpr ⟨e, (List.mem_filter.mp he).1, rfl⟩)
    · have := F.l1; omega
    · rw [List.length_append, List.length_singleton]; have := F.l2; omega
  · rw [if_neg h]
    refine ⟨F.I, F.nx, fun k' => ?_, F.vals, F.shp, F.l1, by rw [List.length_append]; have := F.l2; omega⟩
    rw [F.sh]
    by_cases hp : k' ∈ pre ∧ isK s t k' = true
    · rw [if_pos hp, if_pos ⟨List.mem_append_left _ hp.1, hp.2⟩]
    · rw [if_neg hp, if_neg (fun z => hp ⟨(List.mem_append.mp z.1).elim id fun y => absurd z.2 (by rw [List.mem_singleton.mp y]; exact h), z.2⟩)]
end
end Fl
/-! Fl: rooms whose pages share sheets, beside plain dicts of boxes and of turns. -/
namespace Fl
open PySem PySem.Spec PyProof.Rows L2 L2.DX
abbrev dk (t g : Int) : TK := [Sum.inl t, Sum.inl g]
theorem dk_inj {t g t' g' : Int} (h : dk t g = dk t' g') : t = t' ∧ g = g' := by
  have h1 := List.cons.inj h
  exact ⟨Sum.inl.inj h1.1, Sum.inl.inj (List.cons.inj h1.2).1⟩
structure R52 (r : RmS) (sz : Nat) (P : List (Int × List (Int × Int))) (D : List (TK × Int)) (φ : Int → Int) (tn f m : Int) : Prop where
  I : RI r sz
  shp : ∀ k ∈ keysG r.sh, ∃ t g, k = tkK t g
  ndD : (keysG D).Nodup
  shd : ∀ k ∈ keysG D, ∃ t g, k = dk t g
  ndP : (keysI P).Nodup
  lk : ∀ t g, lkG D (dk t g) = (lkG r.sh (tkK t g)).map φ
  tsk : ∀ t g n, lkG r.sh (tkK t g) = some n → lkI P t ≠ none ∧ f ≤ g ∧ g < f + m ∧ φ n < tn
  inj : ∀ t g t' g' n n', lkG r.sh (tkK t g) = some n → lkG r.sh (tkK t' g') = some n' → φ n = φ n' → n = n'
  val : ∀ t g n es, lkG r.sh (tkK t g) = some n → lkI P t = some es → ∀ j < sz, ((lkI r.vals n).getD []).getD j 0 = (lkI es (g * sz + (j : Int))).getD 0
  un : ∀ t g es, lkG r.sh (tkK t g) = none → lkI P t = some es → ∀ j < sz, lkI es (g * sz + (j : Int)) = none
section
variable {r c : RmS} {sz : Nat} {P : List (Int × List (Int × Int))} {D D' : List (TK × Int)} {φ : Int → Int} {tn f m t g n nn : Int} {es : List (Int × Int)} {own : Bool}
theorem RI.lt (I : RI r sz) {k : TK} (h : lkG r.sh k = some n) : n < r.nx := by
  obtain ⟨xs, h1, _⟩ := I.has h
  exact I.nx n (by rw [h1]; exact nofun)
theorem R52.mv (R : R52 r sz P D φ tn f m) {r1 : RmS} (hP : lkI P t = some es) (hg : f ≤ g ∧ g < f + m) (I1 : RI r1 sz) (h1 : ∀ k, k ≠ tkK t g → lkG r1.sh k = lkG r.sh k) (h2 : lkG r1.sh (tkK t g) = some nn)
    (hnn : ∀ k, lkG r.sh k ≠ some nn) (hv : ∀ k n, k ≠ tkK t g → lkG r.sh k = some n → lkI r1.vals n = lkI r.vals n) (hy : ∀ j < sz, ((lkI r1.vals nn).getD []).getD j 0 = (lkI es (g * sz + (j : Int))).getD 0) :
    R52 r1 sz P (putG D (dk t g) tn) (fun n => if n = nn then tn else φ n) (tn + 1) f m where
  I := I1
  shp := fun k hk => by
    by_cases e : k = tkK t g
    · exact ⟨_, _, e⟩
    · obtain ⟨x, hx⟩ := lkG_some hk
      rw [h1 k e] at hx
      exact R.shp k (Classical.byContradiction fun z => by rw [lkG_none.mpr z] at hx; cases hx)
  ndD := gnodup_put' R.ndD
  shd := fun k hk => (gmem_keys_put.mp hk).elim (fun e => ⟨_, _, e⟩) (R.shd k)
  ndP := R.ndP
  lk := fun t' g' => by
    rw [lkG_put]
    by_cases e : tkK t' g' = tkK t g
    · obtain ⟨rfl, rfl⟩ := tkK_inj e
      rw [if_pos rfl, h2]
      show _ = some (if nn = nn then tn else φ nn)
      rw [if_pos rfl]
    · rw [if_neg (fun z => e (by obtain ⟨rfl, rfl⟩ := dk_inj z; rfl)), h1 _ e, R.lk]
      cases q : lkG r.sh (tkK t' g') with
      | none => rfl
      | some n' =>
        show some (φ n') = some (if n' = nn then tn else φ n')
        rw [if_neg (fun z => hnn _ (by rw [q, z]))]
  tsk := fun t' g' n' h => by
    by_cases e : tkK t' g' = tkK t g
    · obtain ⟨rfl, rfl⟩ := tkK_inj e
      rw [h2] at h
      obtain rfl := Option.some.inj h
      refine ⟨by rw [hP]; exact nofun, hg.1, hg.2, ?_⟩
      rw [if_pos rfl]; omega
    · rw [h1 _ e] at h
      obtain ⟨a1, a2, a3, a4⟩ := R.tsk t' g' n' h
      refine ⟨a1, a2, a3, ?_⟩
      rw [if_neg (fun z => hnn _ (by rw [h, z]))]; omega
  inj := fun t1 g1 t2 g2 n1 n2 k1 k2 he => by
    by_cases e1 : tkK t1 g1 = tkK t g
    · rw [e1, h2] at k1
      obtain rfl := Option.some.inj k1
      by_cases e2 : tkK t2 g2 = tkK t g
      · rw [e2, h2] at k2
        exact Option.some.inj k2
      · rw [h1 _ e2] at k2
        rw [if_pos rfl, if_neg (fun z => hnn _ (by rw [k2, z]))] at he
        have := (R.tsk _ _ _ k2).2.2.2
        omega
    · rw [h1 _ e1] at k1
      by_cases e2 : tkK t2 g2 = tkK t g
      · rw [e2, h2] at k2
        obtain rfl := Option.some.inj k2
        rw [if_pos rfl, if_neg (fun z => hnn _ (by rw [k1, z]))] at he
        have := (R.tsk _ _ _ k1).2.2.2
        omega
      · rw [h1 _ e2] at k2
        rw [if_neg (fun z => hnn _ (by rw [k1, z])), if_neg (fun z => hnn _ (by rw [k2, z]))] at he
        exact R.inj _ _ _ _ _ _ k1 k2 he
  val := fun t' g' n' es' h hp => by
    by_cases e : tkK t' g' = tkK t g
    · obtain ⟨rfl, rfl⟩ := tkK_inj e
      rw [h2] at h
      obtain rfl := Option.some.inj h
      rw [hP] at hp
      obtain rfl := Option.some.inj hp
      exact hy
    · rw [h1 _ e] at h
      rw [hv _ _ e h]
      exact R.val t' g' n' es' h hp
  un := fun t' g' es' h hp => by
    by_cases e : tkK t' g' = tkK t g
    · rw [e, h2] at h; cases h
    · rw [h1 _ e] at h
      exact R.un t' g' es' h hp
theorem R52.acc (R : R52 r sz P D φ tn f m) (hP : lkI P t = some es) (hg : f ≤ g ∧ g < f + m) (hn : r.need (tkK t g) own = true) :
    ∃ φ', R52 (r.access sz (tkK t g) own) sz P (putG D (dk t g) tn) φ' (tn + 1) f m ∧ lkG (r.access sz (tkK t g) own).sh (tkK t g) = some r.nx ∧ ∀ k, k ≠ tkK t g → lkG (r.access sz (tkK t g) own).sh k ≠ some r.nx := by
  have hnx : ∀ k, lkG r.sh k ≠ some r.nx := fun k h => by have := R.I.lt h; omega
  cases q : lkG r.sh (tkK t g) with
  | none =>
    have ha : r.access sz (tkK t g) own = r.fresh (tkK t g) (List.replicate sz 0) := by unfold RmS.access; rw [q]
    have h1 : ∀ k, k ≠ tkK t g → lkG (r.fresh (tkK t g) (List.replicate sz 0)).sh k = lkG r.sh k := fun k e => by
      show lkG (putG r.sh (tkK t g) r.nx) k = _
      rw [lkG_put, if_neg e]
    rw [ha]
    refine ⟨_, R.mv hP hg (R.I.fresh q List.length_replicate) h1 fresh_sh hnx (fun k n' e h => ?_) (fun j hj => ?_), fresh_sh, fun k e => by rw [h1 k e]; exact hnx k⟩
    · have := R.I.lt h
      show lkI (putI r.vals r.nx _) n' = _
      rw [lkI_put, if_neg (by omega)]
    · rw [fresh_vals, R.un t g es q hP j hj]
      simp [List.getD, hj]
  | some n' =>
    obtain ⟨xs, hx, hl, hu, hc⟩ := R.I.has q
    have ho : (own && decide ((lkI r.us n').getD 0 > 1)) = true := by unfold RmS.need at hn; rw [q] at hn; exact hn
    have ha : r.access sz (tkK t g) own = (r.release (tkK t g)).fresh (tkK t g) xs := by unfold RmS.access; rw [q]; dsimp only; rw [if_pos ho, hx]; rfl
    have hrn : (r.release (tkK t g)).nx = r.nx := by
      unfold RmS.release RmS.drop
      split
      · rfl
      · split <;> rfl
    have hno : lkG (r.release (tkK t g)).sh (tkK t g) = none := by rw [release_sh, lkG_drop, if_pos rfl]
    have h1 : ∀ k, k ≠ tkK t g → lkG ((r.release (tkK t g)).fresh (tkK t g) xs).sh k = lkG r.sh k := fun k e => by
      show lkG (putG (r.release (tkK t g)).sh (tkK t g) _) k = _
      rw [lkG_put, if_neg e, release_sh, lkG_drop, if_neg e]
    have hf := fresh_sh (r := r.release (tkK t g)) (k := tkK t g) (xs := xs)
    have hfv := fresh_vals (r := r.release (tkK t g)) (k := tkK t g) (xs := xs)
    rw [hrn] at hf hfv
    rw [ha]
    refine ⟨_, R.mv hP hg (R.I.release.fresh hno hl) h1 hf hnx (fun k n2 e h => ?_) (fun j hj => ?_), hf, fun k e => by rw [h1 k e]; exact hnx k⟩
    · have := R.I.lt h
      show lkI (putI (r.release (tkK t g)).vals (r.release (tkK t g)).nx xs) n2 = _
      rw [lkI_put, if_neg (by rw [hrn]; omega)]
      have hcd : cn (dropG r.sh (tkK t g)) n2 ≠ 0 := (cn_pos (gnodup_drop R.I.nd)).mpr ⟨k, by rw [lkG_drop, if_neg e]; exact h⟩
      unfold RmS.release
      rw [q]
      exact drop_vals R.I q hcd
    · rw [hfv, ← R.val t g n' es q hP j hj, hx]
theorem R52.stay (h : lkG r.sh (tkK t g) = some n) (hn : r.need (tkK t g) own = false) : r.access sz (tkK t g) own = r := by
  unfold RmS.need at hn
  rw [h] at hn
  unfold RmS.access
  rw [h]
  dsimp only at hn ⊢
  rw [if_neg (by rw [hn]; exact Bool.false_ne_true)]
/-- a box written -/
theorem R52.wr (R : R52 r sz P D φ tn f m) {j : Nat} {v : Int} (hj : j < sz) (h : lkG r.sh (tkK t g) = some n) (hs : ∀ k, k ≠ tkK t g → lkG r.sh k ≠ some n) (hP : lkI P t = some es) :
    R52 (r.write (tkK t g) j v) sz (putI P t (putI es (g * sz + (j : Int)) v)) D φ tn f m := by
  obtain ⟨xs, hx, hl, _⟩ := R.I.has h
  have hw : r.write (tkK t g) j v = r.put n (xs.set j v) := write_of h hx
  rw [hw]
  refine ⟨R.I.putv (by rw [hx]; exact nofun) (by rw [List.length_set]; exact hl), R.shp, R.ndD, R.shd, nodup_put R.ndP, R.lk, fun t' g' n' h' => ?_, R.inj, fun t' g' n' es' h' hp => ?_, fun t' g' es' h' hp => ?_⟩
  · obtain ⟨a1, a2⟩ := R.tsk t' g' n' h'
    refine ⟨?_, a2⟩
    rw [lkI_put]
    split
    · exact nofun
    · exact a1
  · have h' : lkG r.sh (tkK t' g') = some n' := h'
    show ∀ i < sz, ((lkI (putI r.vals n (xs.set j v)) n').getD []).getD i 0 = _
    intro i hi
    by_cases e : tkK t' g' = tkK t g
    · obtain ⟨rfl, rfl⟩ := tkK_inj e
      rw [h] at h'
      obtain rfl := Option.some.inj h'
      rw [lkI_put, if_pos rfl] at hp
      obtain rfl := Option.some.inj hp
      rw [lkI_put, if_pos rfl, lkI_put]
      by_cases hij : i = j
      · subst hij
        rw [if_pos rfl]
        show (xs.set i v).getD i 0 = v
        simp [List.getD, hl, hi]
      · rw [if_neg (fun z => hij (same_page hi hj z).2), ← R.val t' g' n es h hP i hi, hx]
        show (xs.set j v).getD i 0 = xs.getD i 0
        simp only [List.getD]
        rw [List.getElem?_set_ne (fun z => hij z.symm)]
    · have hne : n' ≠ n := fun z => hs _ e (by rw [h', z])
      rw [lkI_put, if_neg hne]
      by_cases ht : t' = t
      · subst ht
        rw [lkI_put, if_pos rfl] at hp
        obtain rfl := Option.some.inj hp
        rw [lkI_put, if_neg (fun z => e (by rw [(same_page hi hj z).1]))]
        exact R.val t' g' n' es h' hP i hi
      · rw [lkI_put, if_neg ht] at hp
        exact R.val t' g' n' es' h' hp i hi
  · have h' : lkG r.sh (tkK t' g') = none := h'
    intro i hi
    by_cases ht : t' = t
    · subst ht
      rw [lkI_put, if_pos rfl] at hp
      obtain rfl := Option.some.inj hp
      rw [lkI_put, if_neg (fun z => by rw [(same_page hi hj z).1, h] at h'; cases h')]
      exact R.un t' g' es h' hP i hi
    · rw [lkI_put, if_neg ht] at hp
      exact R.un t' g' es' h' hp i hi
/-- a fork -/
theorem R52.fk (R : R52 r sz P D φ tn f m) {nw : Int} (F : FK r sz t nw r.sh c) (hP : lkI P t = some es) (hw : lkI P nw = none) (ndD : (keysG D').Nodup) (shd : ∀ k ∈ keysG D', ∃ t g, k = dk t g)
    (d1 : ∀ t' g, t' ≠ nw → lkG D' (dk t' g) = lkG D (dk t' g)) (d2 : ∀ g, lkG D' (dk nw g) = lkG D (dk t g)) (shp : ∀ k ∈ keysG c.sh, ∃ t g, k = tkK t g) : R52 c sz (putI P nw es) D' φ tn f m := by
  have htn : t ≠ nw := fun z => by rw [z, hw] at hP; cases hP
  have hold : ∀ t' g, t' ≠ nw → lkG c.sh (tkK t' g) = lkG r.sh (tkK t' g) := fun t' g h => F.old _ fun g' z => h (tkK_inj z).1
  have hnew : ∀ g, lkG c.sh (tkK nw g) = lkG r.sh (tkK t g) := fun g => by
    rw [F.new]
    by_cases h : tkK t g ∈ keysG r.sh
    · rw [if_pos h]
    · rw [if_neg h, lkG_none.mpr h]
  have back : ∀ t' g n, lkG c.sh (tkK t' g) = some n → ∃ t2, lkG r.sh (tkK t2 g) = some n ∧ (t' = nw ∧ t2 = t ∨ t' ≠ nw ∧ t2 = t') := fun t' g n h => by
    by_cases e : t' = nw
    · subst e; rw [hnew] at h; exact ⟨t, h, .inl ⟨rfl, rfl⟩⟩
    · rw [hold t' g e] at h; exact ⟨t', h, .inr ⟨e, rfl⟩⟩
  refine ⟨F.I, shp, ndD, shd, nodup_put R.ndP, fun t' g => ?_, fun t' g n h => ?_, fun t1 g1 t2 g2 n1 n2 h1 h2 he => ?_, fun t' g n es' h hp => ?_, fun t' g es' h hp => ?_⟩
  · by_cases e : t' = nw
    · subst e; rw [d2, hnew, R.lk]
    · rw [d1 t' g e, hold t' g e, R.lk]
  · obtain ⟨t2, h2, _⟩ := back t' g n h
    obtain ⟨a1, a2⟩ := R.tsk t2 g n h2
    refine ⟨?_, a2⟩
    rw [lkI_put]
    by_cases e : t' = nw
    · rw [if_pos e]; exact nofun
    · rw [if_neg e]
      rw [hold t' g e] at h
      exact (R.tsk t' g n h).1
  · obtain ⟨_, k1, _⟩ := back t1 g1 n1 h1
    obtain ⟨_, k2, _⟩ := back t2 g2 n2 h2
    exact R.inj _ _ _ _ _ _ k1 k2 he
  · rw [F.vals]
    obtain ⟨t2, h2, e | e⟩ := back t' g n h
    · rw [lkI_put, if_pos e.1] at hp
      obtain rfl := Option.some.inj hp
      rw [e.2] at h2
      exact R.val t g n es h2 hP
    · rw [lkI_put, if_neg e.1] at hp
      rw [e.2] at h2
      exact R.val t' g n es' h2 hp
  · by_cases e : t' = nw
    · subst e
      rw [lkI_put, if_pos rfl] at hp
      obtain rfl := Option.some.inj hp
      rw [hnew] at h
      exact R.un t g es h hP
    · rw [lkI_put, if_neg e] at hp
      rw [hold t' g e] at h
      exact R.un t' g es' h hp
/-- a task's end -/
theorem R52.gk (R : R52 r sz P D φ tn f m) (F : GK r sz (Str.ofString "task") t (keysG r.sh) c) (ndD : (keysG D').Nodup) (shd : ∀ k ∈ keysG D', ∃ t g, k = dk t g)
    (d1 : ∀ t' g, lkG D' (dk t' g) = if t' = t then none else lkG D (dk t' g)) : R52 c sz (dropI P t) D' φ tn f m := by
  have hsh : ∀ t' g, lkG c.sh (tkK t' g) = if t' = t then none else lkG r.sh (tkK t' g) := fun t' g => by
    rw [F.sh]
    by_cases e : t' = t
    · rw [if_pos e]
      by_cases h : tkK t' g ∈ keysG r.sh
      · rw [if_pos ⟨h, by rw [isK_rk, decide_eq_true rfl, decide_eq_true e]; rfl⟩]
      · split
        · rfl
        · exact lkG_none.mpr h
    · rw [if_neg e, if_neg]
      rintro ⟨_, h⟩
      rw [isK_rk, decide_eq_false e, Bool.and_false] at h
      cases h
  have back : ∀ t' g n, lkG c.sh (tkK t' g) = some n → t' ≠ t ∧ lkG r.sh (tkK t' g) = some n := fun t' g n h => by
    rw [hsh] at h
    split at h
    · cases h
    · next e => exact ⟨e, h⟩
  refine ⟨F.I, fun k hk => ?_, ndD, shd, nodup_drop R.ndP, fun t' g => ?_, fun t' g n h => ?_, fun t1 g1 t2 g2 n1 n2 h1 h2 he => R.inj _ _ _ _ _ _ (back _ _ _ h1).2 (back _ _ _ h2).2 he, fun t' g n es' h hp => ?_, fun t' g es' h hp => ?_⟩
  · obtain ⟨x, hx⟩ := lkG_some hk
    rw [F.sh] at hx
    split at hx
    · cases hx
    · exact R.shp k (Classical.byContradiction fun z => by rw [lkG_none.mpr z] at hx; cases hx)
  · rw [d1, hsh, R.lk]
    split <;> rfl
  · obtain ⟨e, h⟩ := back t' g n h
    obtain ⟨a1, a2⟩ := R.tsk t' g n h
    exact ⟨by rw [lkI_drop, if_neg e]; exact a1, a2⟩
  · have hcn : cn c.sh n ≠ 0 := (cn_pos F.I.nd).mpr ⟨_, h⟩
    obtain ⟨e, h2⟩ := back t' g n h
    rw [lkI_drop, if_neg e] at hp
    rw [F.vals n hcn]
    exact R.val t' g n es' h2 hp
  · rw [lkI_drop] at hp
    split at hp
    · cases hp
    · next e =>
      rw [hsh, if_neg e] at h
      exact R.un t' g es' h hp
/-- how many sheets live -/
theorem R52.live (R : R52 r sz P D φ tn f m) : ∃ us : List Int, us.Nodup ∧ us.length = r.vals.length ∧ ∀ x, x ∈ us ↔ x ∈ D.map Prod.snd := by
  have hk : ∀ n ∈ keysI r.vals, ∃ t g, lkG r.sh (tkK t g) = some n := fun n hn => by
    have h1 : cn r.sh n ≠ 0 := (R.I.vs n).mpr fun z => lkI_none.mp z hn
    obtain ⟨k, h⟩ := (cn_pos R.I.nd).mp h1
    obtain ⟨t, g, rfl⟩ := R.shp k (Classical.byContradiction fun z => by rw [lkG_none.mpr z] at h; cases h)
    exact ⟨t, g, h⟩
  refine ⟨(keysI r.vals).map φ, ?_, by unfold keysI; rw [List.length_map, List.length_map], fun x => ?_⟩
  · show List.Pairwise (· ≠ ·) ((keysI r.vals).map φ)
    rw [List.pairwise_map]
    refine List.Pairwise.imp_of_mem (fun {a b} ha hb hab e => hab ?_) R.I.ndv
    obtain ⟨t1, g1, h1⟩ := hk a ha
    obtain ⟨t2, g2, h2⟩ := hk b hb
    exact R.inj _ _ _ _ _ _ h1 h2 e
  · rw [List.mem_map, List.mem_map]
    constructor
    · rintro ⟨n, hn, rfl⟩
      obtain ⟨t, g, h⟩ := hk n hn
      have h2 := R.lk t g
      rw [h] at h2
      exact ⟨_, lkG_mem h2, rfl⟩
    · rintro ⟨⟨k, u⟩, he, rfl⟩
      have h2 := lkG_of_mem R.ndD he
      obtain ⟨t, g, hkk⟩ := R.shd k (List.mem_map.mpr ⟨_, he, rfl⟩)
      dsimp only at h2 hkk
      rw [hkk, R.lk] at h2
      obtain ⟨n, hn, rfl⟩ := Option.map_eq_some_iff.mp h2
      refine ⟨n, ?_, rfl⟩
      have h3 := (R.I.vs n).mp ((cn_pos R.I.nd).mpr ⟨_, hn⟩)
      cases q : lkI r.vals n with
      | none => exact absurd q h3
      | some xs => exact List.mem_map.mpr ⟨_, lkI_mem q, rfl⟩
theorem R52.le (R : R52 r sz P D φ tn f m) {tn' : Int} (h : tn ≤ tn') : R52 r sz P D φ tn' f m :=
  ⟨R.I, R.shp, R.ndD, R.shd, R.ndP, R.lk, fun t g n hn => ⟨(R.tsk t g n hn).1, (R.tsk t g n hn).2.1, (R.tsk t g n hn).2.2.1, Int.lt_of_lt_of_le (R.tsk t g n hn).2.2.2 h⟩, R.inj, R.val, R.un⟩
def Ln (ps : List (Int × List (Int × Int))) (N : Nat) : Prop := ∀ t es, lkI ps t = some es → es.length ≤ N
theorem Ln.put {ps : List (Int × List (Int × Int))} {N N' : Nat} {t : Int} {es : List (Int × Int)} (h : Ln ps N) (hn : N ≤ N') (he : es.length ≤ N') : Ln (putI ps t es) N' := fun t' es' h' => by
  rw [lkI_put] at h'
  split at h'
  · obtain rfl := Option.some.inj h'; exact he
  · exact Nat.le_trans (h t' es' h') hn
theorem Ln.gone {ps : List (Int × List (Int × Int))} {N : Nat} {t : Int} (h : Ln ps N) : Ln (dropI ps t) N := fun t' es' h' => by
  rw [lkI_drop] at h'
  split at h'
  · cases h'
  · exact h t' es' h'
theorem Ln.le {ps : List (Int × List (Int × Int))} {N N' : Nat} (h : Ln ps N) (hn : N ≤ N') : Ln ps N' := fun t es e => Nat.le_trans (h t es e) hn
def toD : TK → TK
  | [_, Sum.inl t, Sum.inl g] => dk t g
  | _ => []
def toS : TK → TK
  | [Sum.inl t, Sum.inl g] => tkK t g
  | _ => []
theorem keys_pw {β : Type} {es : List (TK × β)} (h : (keysG es).Nodup) : es.Pairwise fun a b => a.1 ≠ b.1 := List.pairwise_map.mp h
theorem mem_key {β : Type} {es : List (TK × β)} {e : TK × β} (h : e ∈ es) : e.1 ∈ keysG es := List.mem_map.mpr ⟨e, h, rfl⟩
theorem R52.cnt (R : R52 r sz P D φ tn f m) (h : lkG r.sh (tkK t g) = some n) : (D.filter fun e => decide (e.2 = φ n)).length = cn r.sh n := by
  have a1 : (r.sh.filter fun e => decide (e.2 = n)).length ≤ (D.filter fun e => decide (e.2 = φ n)).length := by
    have := nd_len (xs := (r.sh.filter fun e => decide (e.2 = n)).map fun e => toD e.1) (ys := (D.filter fun e => decide (e.2 = φ n)).map Prod.fst) (by
      show List.Pairwise (· ≠ ·) _
      rw [List.pairwise_map]
      refine List.Pairwise.imp_of_mem (fun {a b} ha hb hab e => hab ?_) ((keys_pw R.I.nd).filter _)
      obtain ⟨t1, g1, h1⟩ := R.shp _ (mem_key (List.mem_filter.mp ha).1)
      obtain ⟨t2, g2, h2⟩ := R.shp _ (mem_key (List.mem_filter.mp hb).1)
      rw [h1, h2] at e ⊢
      obtain ⟨rfl, rfl⟩ := dk_inj e
      rfl) fun x hx => by
        obtain ⟨e, he, rfl⟩ := List.mem_map.mp hx
        obtain ⟨h1, h2⟩ := List.mem_filter.mp he
        obtain ⟨t1, g1, h3⟩ := R.shp _ (mem_key h1)
        have h4 := lkG_of_mem R.I.nd h1
        rw [h3, of_decide_eq_true h2] at h4
        have h5 := R.lk t1 g1
        rw [h4] at h5
        rw [h3]
        exact List.mem_map.mpr ⟨_, List.mem_filter.mpr ⟨lkG_mem h5, by simp⟩, rfl⟩
    rw [List.length_map, List.length_map] at this
    exact this
  have a2 : (D.filter fun e => decide (e.2 = φ n)).length ≤ (r.sh.filter fun e => decide (e.2 = n)).length := by
    have := nd_len (xs := (D.filter fun e => decide (e.2 = φ n)).map fun e => toS e.1) (ys := (r.sh.filter fun e => decide (e.2 = n)).map Prod.fst) (by
      show List.Pairwise (· ≠ ·) _
      rw [List.pairwise_map]
      refine List.Pairwise.imp_of_mem (fun {a b} ha hb hab e => hab ?_) ((keys_pw R.ndD).filter _)
      obtain ⟨t1, g1, h1⟩ := R.shd _ (mem_key (List.mem_filter.mp ha).1)
      obtain ⟨t2, g2, h2⟩ := R.shd _ (mem_key (List.mem_filter.mp hb).1)
      rw [h1, h2] at e ⊢
      obtain ⟨rfl, rfl⟩ := tkK_inj e
      rfl) fun x hx => by
        obtain ⟨e, he, rfl⟩ := List.mem_map.mp hx
        obtain ⟨h1, h2⟩ := List.mem_filter.mp he
        obtain ⟨t1, g1, h3⟩ := R.shd _ (mem_key h1)
        have h4 := lkG_of_mem R.ndD h1
        rw [h3, of_decide_eq_true h2, R.lk] at h4
        obtain ⟨n', hn', h5⟩ := Option.map_eq_some_iff.mp h4
        have h6 := R.inj _ _ _ _ _ _ hn' h h5
        rw [h6] at hn'
        rw [h3]
        exact List.mem_map.mpr ⟨_, List.mem_filter.mpr ⟨lkG_mem hn', by simp⟩, rfl⟩
    rw [List.length_map, List.length_map] at this
    exact this
  unfold cn
  omega
/-- how many pages share a page's sheet -/
def alikeN (D : List (TK × Int)) (k : TK) : Nat := match lkG D k with
  | none => 0
  | some u => (D.filter fun e => decide (e.2 = u)).length
theorem R52.need_iff (R : R52 r sz P D φ tn f m) : r.need (tkK t g) true = true ↔ alikeN D (dk t g) ≠ 1 := by
  unfold alikeN RmS.need
  rw [R.lk]
  cases h : lkG r.sh (tkK t g) with
  | none => exact ⟨fun _ => by show (0 : Nat) ≠ 1; decide, fun _ => rfl⟩
  | some n =>
    obtain ⟨_, _, _, hu, hc⟩ := R.I.has h
    show (true && decide ((lkI r.us n).getD 0 > 1)) = true ↔ (D.filter fun e => decide (e.2 = φ n)).length ≠ 1
    rw [R.cnt h, hu]
    show (true && decide (((cn r.sh n : Nat) : Int) > 1)) = true ↔ _
    rw [Bool.true_and, decide_eq_true_eq]
    omega
theorem R52.sole (R : R52 r sz P D φ tn f m) (h : lkG r.sh (tkK t g) = some n) (hn : r.need (tkK t g) true = false) : ∀ k, k ≠ tkK t g → lkG r.sh k ≠ some n := fun k hk hkn => by
  obtain ⟨_, _, _, hu, hc⟩ := R.I.has h
  unfold RmS.need at hn
  rw [h] at hn
  dsimp only at hn
  rw [hu, Bool.true_and, decide_eq_false_iff_not] at hn
  have hn : ¬ ((cn r.sh n : Nat) : Int) > 1 := hn
  have h1 := cn_drop (m := n) R.I.nd h
  rw [if_pos rfl] at h1
  have h2 : cn (dropG r.sh (tkK t g)) n ≠ 0 := (cn_pos (gnodup_drop R.I.nd)).mpr ⟨k, by rw [lkG_drop, if_neg hk]; exact hkn⟩
  omega
theorem R52.few (R : R52 r sz P D φ tn f m) : r.sh.length ≤ P.length * m.toNat := by
  have h := nd_len (xs := keysG r.sh) (ys := (keysI P).flatMap fun t => (List.range m.toNat).map fun k : Nat => tkK t (f + (k : Int))) R.I.nd fun k hk => by
    obtain ⟨t, g, rfl⟩ := R.shp k hk
    obtain ⟨n, hn⟩ := lkG_some hk
    obtain ⟨a1, a2, a3, _⟩ := R.tsk t g n hn
    refine List.mem_flatMap.mpr ⟨t, Classical.byContradiction fun z => a1 (lkI_none.mpr z), List.mem_map.mpr ⟨(g - f).toNat, List.mem_range.mpr (by omega), ?_⟩⟩
    rw [show f + (((g - f).toNat : Nat) : Int) = g by omega]
  have h2 : ((keysI P).flatMap fun t => (List.range m.toNat).map fun k : Nat => tkK t (f + (k : Int))).length = (keysI P).length * m.toNat := by
    generalize keysI P = ks
    induction ks with
    | nil => simp
    | cons k ks ih => rw [List.flatMap_cons, List.length_append, ih, List.length_map, List.length_range, List.length_cons, Nat.succ_mul, Nat.add_comm]
  rw [h2] at h
  unfold keysG at h
  unfold keysI at h
  rw [List.length_map, List.length_map] at h
  exact h
end
theorem alike_len {D : List (TK × Int)} {k0 : TK} (nd : (keysG D).Nodup) : ((keysG D).filter fun k => decide (lkG D k = lkG D k0)).length = alikeN D k0 := by
  have e1 : (keysG D).filter (fun k => decide (lkG D k = lkG D k0)) = (D.filter fun e => decide (some e.2 = lkG D k0)).map Prod.fst := by
    unfold keysG
    rw [List.filter_map]
    congr 1
    refine List.filter_congr fun e he => ?_
    show decide (lkG D e.1 = lkG D k0) = _
    rw [lkG_of_mem nd he]
  rw [e1, List.length_map]
  unfold alikeN
  cases h : lkG D k0 with
  | none =>
    rw [List.length_eq_zero_iff]
    exact List.filter_eq_nil_iff.mpr fun e _ => by simp
  | some u =>
    show (D.filter fun e => decide (some e.2 = some u)).length = (D.filter fun e => decide (e.2 = u)).length
    congr 1
    refine List.filter_congr fun e _ => ?_
    simp
open scoped Classical
/-- the turns while a fork is made -/
structure DFk (D : List (TK × Int)) (t n : Int) (pre : List TK) (C : List (TK × Int)) : Prop where
  nd : (keysG C).Nodup
  shd : ∀ k ∈ keysG C, ∃ t g, k = dk t g
  old : ∀ t' g, t' ≠ n → lkG C (dk t' g) = lkG D (dk t' g)
  new : ∀ g, lkG C (dk n g) = if dk t g ∈ pre then lkG D (dk t g) else none
  len : C.length ≤ D.length + pre.length
structure DGk (D : List (TK × Int)) (t : Int) (pre : List TK) (C : List (TK × Int)) : Prop where
  nd : (keysG C).Nodup
  shd : ∀ k ∈ keysG C, ∃ t g, k = dk t g
  lk : ∀ t' g, lkG C (dk t' g) = if dk t' g ∈ pre ∧ t' = t then none else lkG D (dk t' g)
  len : C.length ≤ D.length
section
variable {D C : List (TK × Int)} {t n g u : Int} {pre : List TK}
theorem DFk.nil (nd : (keysG D).Nodup) (shd : ∀ k ∈ keysG D, ∃ t g, k = dk t g) (hn : ∀ g, lkG D (dk n g) = none) : DFk D t n [] D :=
  ⟨nd, shd, fun _ _ _ => rfl, fun g => by rw [if_neg (fun z => nomatch z)]; exact hn g, Nat.le_add_right _ _⟩
theorem DFk.yes (F : DFk D t n pre C) (h : lkG D (dk t g) = some u) : DFk D t n (pre ++ [dk t g]) (putG C (dk n g) u) := by
  refine ⟨gnodup_put' F.nd, fun k hk => (gmem_keys_put.mp hk).elim (fun e => ⟨_, _, e⟩) (F.shd k), fun t' g' ht => ?_, fun g' => ?_, ?_⟩
  · rw [lkG_put, if_neg (fun z => ht (dk_inj z).1), F.old t' g' ht]
  · rw [lkG_put]
    by_cases e : g' = g
    · subst e
      rw [if_pos rfl, if_pos (by simp), h]
    · rw [if_neg (fun z => e (dk_inj z).2), F.new]
      by_cases hm : dk t g' ∈ pre
      · rw [if_pos hm, if_pos (List.mem_append_left _ hm)]
      · rw [if_neg hm, if_neg (fun z => (List.mem_append.mp z).elim hm fun z => e (dk_inj (List.mem_singleton.mp z)).2)]
  · have := glen_put (es := C) (n := dk n g) (x := u)
    have := F.len
    rw [List.length_append, List.length_singleton]
    omega
theorem DFk.no (F : DFk D t n pre C) {t' : Int} (h : t' ≠ t) : DFk D t n (pre ++ [dk t' g]) C := by
  refine ⟨F.nd, F.shd, F.old, fun g' => ?_, by rw [List.length_append]; have := F.len; omega⟩
  rw [F.new]
  by_cases hm : dk t g' ∈ pre
  · rw [if_pos hm, if_pos (List.mem_append_left _ hm)]
  · rw [if_neg hm, if_neg (fun z => (List.mem_append.mp z).elim hm fun z => h (dk_inj (List.mem_singleton.mp z)).1.symm)]
theorem DGk.nil (nd : (keysG D).Nodup) (shd : ∀ k ∈ keysG D, ∃ t g, k = dk t g) : DGk D t [] D :=
  ⟨nd, shd, fun _ _ => by rw [if_neg (fun z => nomatch z.1)], Nat.le_refl _⟩
theorem DGk.yes (F : DGk D t pre C) : DGk D t (pre ++ [dk t g]) (dropG C (dk t g)) := by
  refine ⟨gnodup_drop F.nd, fun k hk => ?_, fun t' g' => ?_, Nat.le_trans glen_drop F.len⟩
  · rw [gkeys_drop] at hk
    exact F.shd k (List.mem_filter.mp hk).1
  · rw [lkG_drop, F.lk]
    by_cases e : dk t' g' = dk t g
    · obtain ⟨rfl, rfl⟩ := dk_inj e
      rw [if_pos rfl, if_pos ⟨by simp, rfl⟩]
    · rw [if_neg e]
      by_cases hm : dk t' g' ∈ pre ∧ t' = t
      · rw [if_pos hm, if_pos ⟨List.mem_append_left _ hm.1, hm.2⟩]
      · rw [if_neg hm, if_neg (fun z => hm ⟨(List.mem_append.mp z.1).elim id fun y => absurd (List.mem_singleton.mp y) e, z.2⟩)]
theorem DGk.no (F : DGk D t pre C) {t' : Int} (h : t' ≠ t) : DGk D t (pre ++ [dk t' g]) C := by
  refine ⟨F.nd, F.shd, fun t2 g2 => ?_, F.len⟩
  rw [F.lk]
  by_cases hm : dk t2 g2 ∈ pre ∧ t2 = t
  · rw [if_pos hm, if_pos ⟨List.mem_append_left _ hm.1, hm.2⟩]
  · rw [if_neg hm, if_neg (fun z => hm ⟨(List.mem_append.mp z.1).elim id fun y => absurd ((dk_inj (List.mem_singleton.mp y)).1.symm.trans z.2) h, z.2⟩)]
end
end Fl
/-! Fl: texts. zip over a list and a text; a dict of texts that stands at a module's top. -/
namespace L2.DX
open PySem PySem.Spec PyProof.Rows L2
/-! ### zip(list, text) -/
/-- the items of the list at a as it stands, each with the text's sign of its place -/
def Itzs (K : PySem.W.Frag) (a : Addr) (x : Str) : It where
  go := fun i H => ∃ (xs : List V) (y : V), SqL K H a xs ∧ xs[i]? = some y ∧ i < x.cps.size
  yld := fun i H v H' => ∃ T y c, v = .ref T ∧ H T = none ∧ H' = upd H T (.tup [y, .str ⟨#[c]⟩]) ∧ (∀ l, SqL K H a l → l[i]? = some y) ∧ x.cps[i]? = some c
  stop := fun i H => ∃ xs : List V, SqL K H a xs ∧ i ≤ xs.length ∧ i ≤ x.cps.size ∧ (i = xs.length ∨ i = x.cps.size)
def zsAt (z TI TO i1 i2 a : Addr) (x : Str) (t : Tok) (i : Nat) (h : Heap) : Prop :=
  IsZip h z TI TO .none ∧ IsTupOf2 h TI (.ref i1) (.ref i2) ∧ (∃ p q, IsTupOf2 h TO p q) ∧ h.IsListIter i1 a i ∧ h.IsStrIter i2 (strIterType x) x t i
theorem five {c z TI TO i1 i2 : Addr} (h : c ∈ [z, TI, TO, i1, i2]) : c = z ∨ c = TI ∨ c = TO ∨ c = i1 ∨ c = i2 := by simpa using h
theorem not5 {c z TI TO i1 i2 : Addr} (h : c ∉ [z, TI, TO, i1, i2]) : c ≠ z ∧ c ≠ TI ∧ c ≠ TO ∧ c ≠ i1 ∧ c ≠ i2 := by simpa using h
theorem turn_zs {P : Program} {w : World} {K : PySem.W.Frag} {elts : List Expr} {kk : Nat} {tp : Pos} {a z TI TO i1 i2 : Addr} {x : Str} {t : Tok} (D : ZipSep2 z TI TO i1 i2 [i1, a] [i2]) :
    Turn P w K (.Tuple elts kk tp) (Itzs K a x) [z, TI, TO, i1, i2] z (zsAt z TI TO i1 i2 a x t) where
  mem := List.mem_cons_self ..
  obj := fun i h st c hc => by
    obtain ⟨hz, hI, ⟨p, q, hO⟩, ⟨o1, e1, _, d1⟩, ⟨o2, e2, _, d2⟩⟩ := st
    rcases five hc with rfl | rfl | rfl | rfl | rfl
    · exact ⟨_, hz, fun v k => nomatch k⟩
    · exact ⟨_, hI, fun v k => nomatch k⟩
    · exact ⟨_, hO, fun v k => nomatch k⟩
    · exact ⟨o1, e1, fun v k => by rw [d1] at k; cases k⟩
    · exact ⟨o2, e2, fun v k => by rw [d2] at k; cases k⟩
  keep := fun i h h' st k => by
    obtain ⟨hz, hI, ⟨p, q, hO⟩, s1, ⟨o2, e2, r2⟩⟩ := st
    exact ⟨k _ (by simp) _ hz, k _ (by simp) _ hI, ⟨p, q, k _ (by simp) _ hO⟩, s1.at fun o e => k i1 (by simp) o e, o2, k i2 (by simp) _ e2, r2⟩
  item := by
    intro X hP hw hK hc i pins s σ H E I hf st hg
    subst hP hw hK
    obtain ⟨hz, hI, ⟨p0, q0, hO⟩, s1, s2⟩ := st
    obtain ⟨xs, y, hqx, hy, hlt⟩ := hg
    obtain ⟨its, rv, p, _⟩ := I.list hqx
    obtain ⟨u, hu, ru⟩ := rv.get hy
    have hh : X.A.in1.handled = none := I.ok.hd hc
    have l1 : i < its.toArray.size := by
      have := List.getElem?_eq_some_iff.mp hu
      simpa using this.1
    have az : a ≠ i1 := fun e => by
      have h1 := (hf i1 (by simp)).1
      rw [← e] at h1
      rcases hqx with (r | ⟨_, r⟩) | ⟨o, it2, n, r, rc, _⟩
      · rw [h1] at r; cases r
      · rw [h1] at r; cases r
      · obtain ⟨o1, e1, c1, _⟩ := s1
        have h3 := I.kIn _ _ r
        rw [e, e1] at h3
        cases h3
        rw [c1] at rc
        injection rc with rc; exact absurd rc (by decide)
    refine wpAny_pyNext_zipD2_item D (Draws.list hh i1 a az its.toArray) (Draws.text hh i2 x t) hz hI hO ⟨s1, p.isList⟩ s2 l1 hlt fun u1 u2 h' tk e1 e2 z' O' s1' s2' hT hsz hk => ?_
    have hzl : z < s.heap.objs.size := Heap.lt_size hz
    obtain ⟨c, ct, hcx, rfl⟩ := e2
    have hue : u1 = u := by
      have h1 : its[i]? = some u1 := by simpa using e1
      rw [hu] at h1
      exact (Option.some.inj h1).symm
    subst hue
    refine ⟨_, rfl, wpAny_letOwnedTupleGo_zip (s := { s with heap := h', toks := tk }) z' fun h2 z2 sb => ?_⟩
    have old : ∀ c o, c ∉ [z, TI, TO, i1, i2] → s.heap.get? c = some o → h2.get? c = some o := fun c o hc e => by
      obtain ⟨n1, n2, n3, n4, n5⟩ := not5 hc
      exact (sb.2 c n1).trans (hk c o n1 n3 n4 n5 e)
    have hT2 : h2.get? s.heap.objs.size = some { cls := .type "tuple", data := .seq #[u1, .str ⟨#[c]⟩ ct] } := (sb.2 _ (Nat.ne_of_gt hzl)).trans hT
    have vv : Vals [y, V.str ⟨#[c]⟩] [u1, Value.str ⟨#[c]⟩ ct] := .cons ru (.cons ⟨ct, rfl⟩ .nil)
    have new : ObjOk X.prog X.w (upd H s.heap.objs.size (.tup [y, .str ⟨#[c]⟩])) h2 s.heap.objs.size (.tup [y, .str ⟨#[c]⟩]) :=
      ⟨(by decide : 2 ≤ sizeLine), _, vv, _, hT2, rfl, _, rfl⟩
    have I1 := I.turnedNew (t' := tk) (ch := [z, TI, TO, i1, i2]) old hf (Nat.le_refl _) new
    refine ⟨.ref s.heap.objs.size, _, I1, rfl, ⟨_, y, c, rfl, I.hok.fresh (Nat.le_refl _), rfl, fun l hl => by rw [I.list_inj hl hqx]; exact hy, hcx⟩, ⟨z2, ?_, ⟨u1, .str ⟨#[c]⟩ ct, ?_⟩, ?_, ?_⟩, fun b hb => ?_⟩
    · exact (sb.2 _ D.TIz).trans (hk _ _ D.TIz D.TITO D.TIi1 D.TIi2 hI)
    · exact (sb.2 _ D.TOz).trans O'
    · exact s1'.1.at fun o e => (sb.2 _ (fun k => D.zi1 k.symm)).trans e
    · obtain ⟨o2, g2, r2⟩ := s2'
      exact ⟨o2, (sb.2 _ (fun k => D.zi2 k.symm)).trans g2, r2⟩
    · have hlt2 : b < s.heap.objs.size := by
        rcases five hb with rfl | rfl | rfl | rfl | rfl
        · exact hzl
        · exact Heap.lt_size hI
        · exact Heap.lt_size hO
        · obtain ⟨_, g, _⟩ := s1; exact Heap.lt_size g
        · obtain ⟨_, g, _⟩ := s2; exact Heap.lt_size g
      rw [upd_ne (Nat.ne_of_lt hlt2)]
      exact (hf b hb).1
  done := by
    intro X hP hw hK hc i pins s σ H E I hf st hg
    subst hP hw hK
    obtain ⟨hz, hI, ⟨p0, q0, hO⟩, s1, s2⟩ := st
    obtain ⟨xs, hqx, b1, b2, b3⟩ := hg
    obtain ⟨its, rv, p, _⟩ := I.list hqx
    have hh : X.A.in1.handled = none := I.ok.hd hc
    have hl : its.toArray.size = xs.length := by rw [rv.length]; simp
    have az : a ≠ i1 := fun e => by
      have h1 := (hf i1 (by simp)).1
      rw [← e] at h1
      rcases hqx with (r | ⟨_, r⟩) | ⟨o, it2, n, r, rc, _⟩
      · rw [h1] at r; cases r
      · rw [h1] at r; cases r
      · obtain ⟨o1, e1, c1, _⟩ := s1
        have h3 := I.kIn _ _ r
        rw [e, e1] at h3
        cases h3
        rw [c1] at rc
        injection rc with rc; exact absurd rc (by decide)
    refine wpAny_pyNext_zipD2_end D (Draws.list hh i1 a az its.toArray) (Draws.text hh i2 x t) hz hI hO ⟨s1, p.isList⟩ s2 (by rw [hl]; exact b1) b2 (by rw [hl]; exact b3) fun h' tk hk => ⟨rfl, I.turnedL (t' := tk) (ch := [z, TI, TO, i1, i2]) (fun c o hc e => ?_) hf⟩
    obtain ⟨n1, n2, n3, n4, n5⟩ := not5 hc
    exact hk c o n1 n3 n4 n5 e
  self := fun A i s Q E st h => wpAny_pyIter_zip st.1 h
def iZs (K : PySem.W.Frag) (ta : TA) : TI := fun σ H R => ta σ H fun vs H1 => ∃ a x xs, vs = [V.ref a, V.str x] ∧ SqL K H1 a xs ∧ R (Itzs K a x) H1
theorem pi_zs {X : Cx} {e f : Expr} {ta : TA} {p pos tp : Pos} {elts : List Expr} {kk : Nat} (hg : Gl X "zip") (hm : X.mg "zip" = none) (ha : PA X [e, f] ta)
    (hs : starEach [e, f] X.env = (false, eval e X.env) :: starEach [f] X.env := by rfl) (hpl : (backTo pos (starEach [f] X.env)).any (·.1) = false := by rfl) :
    PI X (.Tuple elts kk tp) (.Call (.Name "zip" p) [e, f] [] pos) (iZs X.K ta) := by
  refine ⟨fun pins s σ H R I h => Call_ (ld_blt I hg hm PyProof.Rows.boot_zip (PyProof.Rows.callWith_type1 (thn (ha.run pos pins s σ H _ I h) fun us s1 ⟨vs, H1, I1, r1, q1⟩ => ?_) hs hpl))⟩
  obtain ⟨a, x, xs, rfl, hqx, q⟩ := q1
  cases r1 with
  | cons ra rr =>
    cases rr with
    | cons rb rr =>
      cases rr
      cases ra
      obtain ⟨t, rfl⟩ := rb
      obtain ⟨its, rv, p1, _⟩ := I1.list hqx
      have la : a < s1.heap.objs.size := p1.lt
      refine zip_begins2 (begins_list a its.toArray) (begins_text x t) p1.isList trivial fun h' hz hTI hTO g1 g2 hsz hk => wpAny_pyIter_zip hz ?_
      have I2 : Inv X pins σ H1 { s1 with heap := h' } := I1.kept (t' := s1.toks) hk
      have D := zip_sep2 (N := s1.heap.objs.size) (fp1 := [a]) (fp2 := []) (fun b hb => by rw [List.mem_singleton.mp hb]; exact la) (fun b hb => nomatch hb)
      refine ⟨_, _, _, _, H1, rfl, I2, turn_zs D, ⟨hz, hTI, ⟨_, _, hTO⟩, ⟨_, g1, rfl, rfl⟩, ⟨_, g2, rfl, rfl⟩⟩, fun c hcm => ?_, q⟩
      have hle : s1.heap.objs.size ≤ c := by
        rcases five hcm with rfl | rfl | rfl | rfl | rfl
        · exact Nat.le_add_right _ _
        · exact Nat.le_add_right _ _
        · exact Nat.le_add_right _ _
        · exact Nat.le_refl _
        · exact Nat.le_add_right _ _
      exact I1.fpOk hle (I1.hok.fresh hle)
/-! ### a dict at a module's top, texts its keys -/
/-- in every heap that holds K, a is a dict of these keys and values -/
def StatD (w : World) (K : PySem.W.Frag) (a : Addr) (kvs : List (Key × V)) : Prop :=
  (a == sysModules) = false ∧ ∀ (P : Program) (h : Heap), K.In h → ∃ vs, KV kvs vs ∧ h.DictOf (mixKind P w) a vs
inductive EntS (w : World) : List DictEntry → List (Key × V) → Prop
  | nil : EntS w [] []
  | cons {x : Str} {t : Tok} {v : V} {u : Value} {es : List DictEntry} {kvs : List (Key × V)} {k : Int} : k = hashStr w x → RelV v u → EntS w es kvs → EntS w (⟨k, .str x t, u⟩ :: es) ((Sum.inr x, v) :: kvs)
theorem EntS.vs {w : World} {es : List DictEntry} {kvs : List (Key × V)} (h : EntS w es kvs) : ∃ vs : List (Key × Value), KV kvs vs ∧ kvs.map (·.1) = vs.map (·.1) ∧ ∀ P, Pairs (mixKind P w) es vs ∧ ∀ e ∈ es, ∃ k, (mixKind P w).is k e.key = true ∧ e.hash = (mixKind P w).hash k := by
  induction h with
  | nil => exact ⟨[], .nil, rfl, fun P => ⟨.nil, fun e he => nomatch he⟩⟩
  | @cons x t v u es kvs k hk r _ ih =>
    obtain ⟨vs, h1, h2, h3⟩ := ih
    refine ⟨(Sum.inr x, u) :: vs, .cons ⟨rfl, r⟩ h1, by rw [List.map_cons, List.map_cons, h2], fun P => ⟨.cons (keyIs_str x t) rfl (h3 P).1, fun e he => ?_⟩⟩
    rcases List.mem_cons.mp he with rfl | he
    · exact ⟨Sum.inr x, keyIs_str x t, hk⟩
    · exact (h3 P).2 e he
theorem statD_mk {w : World} {K : PySem.W.Frag} {a : Addr} {es : Array DictEntry} {ep : Nat} {kvs : List (Key × V)} (hl : K.lookup a = some ⟨.type "dict", none, .dict es ep, #[]⟩) (he : EntS w es.toList kvs) (nd : (kvs.map (·.1)).Nodup)
    (ha : (a == sysModules) = false) : StatD w K a kvs := by
  obtain ⟨vs, h1, h2, h3⟩ := he.vs
  exact ⟨ha, fun P h hK => ⟨vs, h1, _, es, ep, hK _ _ hl, ⟨rfl, rfl, rfl⟩, rfl, fun e he => (h3 P).2 e (by simpa using he), (h3 P).1, by rw [← h2]; exact nd⟩⟩
def tSGet (kvs : List (Key × V)) (ty : TE) : TE := fun σ H Q => ty σ H fun y H1 => ∃ k v, y = kV k ∧ valV kvs k = some v ∧ Q v H1
def tSNotIn (kvs : List (Key × V)) (ty : TE) : TE := fun σ H Q => ty σ H fun y H1 => ∃ k, y = kV k ∧ Q (.bl (!(valV kvs k).isSome)) H1
section
variable {X : Cx} {o i : Expr} {pos : Pos} {ty : TE} {a : Addr} {kvs : List (Key × V)}
theorem pe_sget (hs : StatD X.w X.K a kvs) (ho : PE X o (tC (.ref a))) (hi : PE X i ty) (hn : NoSl i) : PE X (.Subscript o i pos) (tSGet kvs ty) := by
  refine ⟨fun pins s σ H Q I h => subD_of PySem.F.slot_dict_getitem.lookup hn (thn (ho.run pins s σ H (fun v H1 => v = .ref a ∧ H1 = H) I ⟨rfl, rfl⟩) fun u s1 ⟨x, H1, I1, rx, ex, eH⟩ => ?_)⟩
  subst ex eH
  obtain rfl : u = Value.ref a := rx
  refine thn (hi.run pins s1 σ _ _ I1 h) fun iv s2 ⟨y, H2, I2, ry, k, v, ey, l, q⟩ => ?_
  subst ey
  obtain ⟨vs, rel, dd⟩ := hs.2 X.prog s2.heap I2.kIn
  obtain ⟨w', hw, rw'⟩ := RelO.some_of (v := v) (o := valueAt vs k) (by rw [← l]; exact rel.val k)
  exact ⟨dd.typeIs, wpAny_getItem_of (kV_is ry) dd.mapOf hw ⟨v, H2, I2.tok _, rw', q⟩⟩
theorem pc_snotin (hs : StatD X.w X.K a kvs) (hi : PE X i ty) (ho : PE X o (tC (.ref a))) : PC X .NotIn i o (tSNotIn kvs ty) := by
  refine ⟨fun pins s σ H Q I h => thn (hi.run pins s σ H _ I h) fun iv s1 ⟨y, H1, I1, ry, k, ey, q⟩ => ?_⟩
  subst ey
  refine thn (ho.run pins s1 σ H1 (fun v H2 => v = .ref a ∧ H2 = H1) I1 ⟨rfl, rfl⟩) fun u s2 ⟨x, H2, I2, rx, ex, eH⟩ => ?_
  subst ex eH
  obtain rfl : u = Value.ref a := rx
  obtain ⟨vs, rel, dd⟩ := hs.2 X.prog s2.heap I2.kIn
  refine wpAny_notIn_of (kV_is ry) hs.1 dd.mapOf ?_
  rw [← (rel.val k).isSome_eq]
  exact ⟨.bl (!(valV kvs k).isSome), _, I2.tok _, rfl, q⟩
end
def rSGet (kvs : List (Key × V)) (y : V) (H : Hp) (Q : VK) : Prop := ∃ k v, y = kV k ∧ valV kvs k = some v ∧ Q v H
def rSNotIn (kvs : List (Key × V)) (y : V) (H : Hp) (Q : VK) : Prop := ∃ k, y = kV k ∧ Q (.bl (!(valV kvs k).isSome)) H
def kIZs (K : PySem.W.Frag) (vs : List V) (H : Hp) (R : It → Hp → Prop) : Prop := ∃ a x xs, vs = [V.ref a, V.str x] ∧ SqL K H a xs ∧ R (Itzs K a x) H
section
variable {L l : List Fl.Asrt} {H : Hp} {K : PySem.W.Frag} {Q : VK} {σ : L2.St} {ta : L2.TA} {ty : L2.TE} {a : Addr} {kvs : List (Key × V)} {x s : Str} {xs : List V} {v : V} {R : It → Hp → Prop}
instance i_sget : Fl.Stp (tSGet kvs ty σ H Q) (ty σ H fun y H1 => rSGet kvs y H1 Q) := ⟨id⟩
instance i_snotin : Fl.Stp (tSNotIn kvs ty σ H Q) (ty σ H fun y H1 => rSNotIn kvs y H1 Q) := ⟨id⟩
instance i_izs : Fl.Stp (iZs K ta σ H R) (ta σ H fun vs H1 => kIZs K vs H1 R) := ⟨id⟩
theorem r_sget (e : valV kvs (Sum.inr s) = some v) (h : Q v H) : rSGet kvs (.str s) H Q := ⟨Sum.inr s, v, rfl, e, h⟩
theorem r_snotin (h : Q (.bl (!(valV kvs (Sum.inr s)).isSome)) H) : rSNotIn kvs (.str s) H Q := ⟨Sum.inr s, rfl, h⟩
theorem r_kIZs (S : Fl.Star L H) (P : Fl.Pull (Fl.pt a (.lst xs)) L l) (h : R (Itzs K a x) H) : kIZs K [.ref a, .str x] H R := ⟨a, x, xs, rfl, .inl (.inl ((S.pull P).get (.head _))), h⟩
theorem use_zs : Fl.kUse (Itzs K a x) (Fl.gSqL K a xs) Fl.yTup ((xs.zip x.cps.toList).map fun p => [p.1, V.str ⟨#[p.2]⟩]) := by
  refine ⟨min xs.length x.cps.size, fun i H v H' => ∃ T y c, v = .ref T ∧ H T = none ∧ H' = upd H T (.tup [y, .str ⟨#[c]⟩]) ∧ xs[i]? = some y ∧ x.cps[i]? = some c, ⟨fun i H hi q => ?_, fun H q => ⟨xs, q, by omega, by omega, by omega⟩, fun i H v H' hi q y => ?_⟩, by simp, fun i H v H' hi y => ?_⟩
  · exact ⟨xs, xs[i], q, by rw [List.getElem?_eq_getElem], by omega⟩
  · obtain ⟨T, y, c, h1, h2, h3, h4, h5⟩ := y
    exact ⟨T, y, c, h1, h2, h3, h4 xs q, h5⟩
  · obtain ⟨T, y, c, h1, h2, h3, h4, h5⟩ := y
    refine ⟨[y, .str ⟨#[c]⟩], ?_, T, h1, h2, h3⟩
    have h6 : x.cps.toList[i]? = some c := by rw [Array.getElem?_toList]; exact h5
    rw [List.getElem?_map, List.zip, List.getElem?_zipWith, h4, h6]
    rfl
end
end L2.DX
namespace Fl
open PySem PySem.Spec PyProof.Rows L2
/-! ### steps over texts -/
def cLenX : List V → Hp → VK → Prop := fun xs H Q => ∃ z : Str, xs = [.str z] ∧ z.length ≤ sizeLine ∧ Q (.int z.length) H
theorem callLenX {X : Cx} : CallR X (.builtin "len") cLenX := call_len_str
def cIntS : List V → Hp → VK → Prop := fun xs H Q => ∃ a n, xs = [.str a] ∧ PySem.intText? a = some n ∧ a.length ≤ 640 ∧ Q (.int n) H
theorem callIntS {X : Cx} : CallR X (.type "int") cIntS := call_int_str
def mSplitS : V → List V → Hp → VK → Prop := fun x xs H Q => ∃ a b, x = .str a ∧ xs = [.str b] ∧ (b.length == 0) = false ∧ a.length + 2 ≤ sizeLine ∧ rNewStrs (Txt.split a b) H Q
def mJoinS (K : PySem.W.Frag) : V → List V → Hp → VK → Prop := fun x xs H Q => ∃ a p, ∃ ys : List Str, x = .str a ∧ xs = [.ref p] ∧ (SqL K H p (ys.map V.str) ∨ SqT K H p (ys.map V.str)) ∧
    (ys.map (·.length)).sum + ys.length * a.length ≤ 16777216 ∧ Q (.str (Txt.join a ys)) H
def mStartS : V → List V → Hp → VK → Prop := fun x xs H Q => ∃ a b, x = .str a ∧ xs = [.str b] ∧ Q (.bl (Txt.startswith a b)) H
theorem mtSplitS {X : Cx} : MtR X "str.split" mSplitS := mt_split
theorem mtJoinS {X : Cx} {K : PySem.W.Frag} (e : X.K = K) : MtR X "str.join" (mJoinS K) := by subst e; exact mt_join
theorem mtStartS {X : Cx} : MtR X "str.startswith" mStartS := mt_startswith
def kM1 (r : V → List V → Hp → VK → Prop) (te : L2.TE) (σ : L2.St) (x : V) (H : Hp) (Q : VK) : Prop := (∃ a, x = .str a) ∧ te σ H fun y H2 => r x [y] H2 Q
section
variable {K : PySem.W.Frag} {H : Hp} {L l : List Asrt} {Q : VK} {σ : L2.St} {to te : L2.TE} {r : V → List V → Hp → VK → Prop} {z s : Str} {c : Nat} {i : Int} {a : Addr}
instance i_m1s : Stp (tM1 r to te σ H Q) (to σ H fun x H1 => kM1 r te σ x H1 Q) := ⟨id⟩
instance i_km1 : Stp (kM1 r te σ (.str z) H Q) (te σ H fun y H2 => r (.str z) [y] H2 Q) := ⟨fun h => ⟨⟨z, rfl⟩, h⟩⟩
theorem r_lenX (hz : z.length ≤ sizeLine) (h : Q (.int z.length) H) : cLenX [.str z] H Q := ⟨z, rfl, hz, h⟩
theorem r_intS {n : Int} (e : PySem.intText? z = some n) (hz : z.length ≤ 640) (h : Q (.int n) H) : cIntS [.str z] H Q := ⟨z, n, rfl, e, hz, h⟩
theorem r_splitS {ws : List Str} (e : Txt.split z s = ws) (hs : (s.length == 0) = false) (hz : z.length + 2 ≤ sizeLine) (S : Star L H) (h : ∀ p H', Star (pt p (.lst (ws.map V.str)) :: L) H' → Q (.ref p) H') : mSplitS (.str z) [.str s] H Q := by
  subst e
  exact ⟨z, s, rfl, rfl, hs, hz, fun p n => h p _ (S.new n)⟩
theorem r_joinS {ys : List Str} (S : Star L H) (P : Pull (pt a (.lst (ys.map V.str))) L l) (hz : (ys.map (·.length)).sum + ys.length * z.length ≤ 16777216) (h : Q (.str (Txt.join z ys)) H) : mJoinS K (.str z) [.ref a] H Q :=
  ⟨z, a, ys, rfl, rfl, .inl (SqL.of ((S.pull P).get (.head _))), hz, h⟩
theorem r_startS (h : Q (.bl (Txt.startswith z s)) H) : mStartS (.str z) [.str s] H Q := ⟨z, s, rfl, rfl, h⟩
theorem r_inS (h : Q (.bl (decide (c ∈ z.cps.toList))) H) : rInS (.str ⟨#[c]⟩) (.str z) H Q := ⟨c, z, rfl, rfl, h⟩
theorem r_notInS (h : Q (.bl (!decide (c ∈ z.cps.toList))) H) : rNotInS (.str ⟨#[c]⟩) (.str z) H Q := ⟨c, z, rfl, rfl, h⟩
theorem r_ixS (hz : z.length ≤ sizeLine) (e : atI z.cps.toList i = some c) (h : Q (.str ⟨#[c]⟩) H) : rIxS (.str z) (.int i) H Q := ⟨z, i, c, rfl, rfl, hz, e, h⟩
theorem r_slX {lo hi : Option Int} (hz : z.length ≤ sizeLine) (h : Q (.str (L2.cutS z lo hi)) H) : rSlS (.str z) lo hi H Q := ⟨z, rfl, hz, h⟩
theorem r_eqTx (h : Q (.bl (decide (z = s))) H) : rEq (.str z) (.str s) H Q := ⟨rfl, by rw [show decide (V.str z = V.str s) = decide (z = s) from decide_eq_decide.mpr ⟨fun e => V.str.inj e, fun e => by rw [e]⟩]; exact h⟩
theorem r_neTx (h : Q (.bl (!decide (z = s))) H) : rNe (.str z) (.str s) H Q := ⟨rfl, by rw [show decide (V.str z = V.str s) = decide (z = s) from decide_eq_decide.mpr ⟨fun e => V.str.inj e, fun e => by rw [e]⟩]; exact h⟩
theorem r_catTx (hz : z.length + s.length ≤ 100000) (h : Q (.str (z ++ s)) H) : rCatS (.str z) (.str s) H Q := ⟨z, s, rfl, rfl, Nat.le_trans hz (by decide), h⟩
theorem r_iStr {R : It → Hp → Prop} (h : te σ H fun v H1 => ∃ x, v = .str x ∧ R (Its x) H1) : iStr te σ H R := h
def kIS (v : V) (H : Hp) (R : It → Hp → Prop) : Prop := ∃ x, v = .str x ∧ R (Its x) H
instance i_istr {R : It → Hp → Prop} : Stp (iStr te σ H R) (te σ H fun v H1 => kIS v H1 R) := ⟨id⟩
instance i_kis {R : It → Hp → Prop} : Stp (kIS (.str z) H R) (R (Its z) H) := ⟨fun h => ⟨z, rfl, h⟩⟩
end
end Fl
namespace Fl
open PySem PySem.Spec PyProof.Rows L2
/-! ### words that are read -/
abbrev tl (x : Str) : List Nat := TL.tl x
/-- figures that write a number -/
def goodN (x : Str) : Bool := decide (1 ≤ x.length) && decide (x.length ≤ 60) && (tl x).all (fun c => decide (48 ≤ c) && decide (c ≤ 57)) && !(decide (1 < x.length) && decide ((tl x).head? = some 48))
def numN (x : Str) : Int := (NumText.digitsVal (tl x) : Nat)
theorem goodN_iff {x : Str} : goodN x = true ↔ 1 ≤ x.length ∧ x.length ≤ 60 ∧ NumText.AllDigits (tl x) ∧ ¬ (1 < x.length ∧ (tl x).head? = some 48) := by
  unfold goodN
  rw [Bool.and_eq_true, Bool.and_eq_true, Bool.and_eq_true, decide_eq_true_eq, decide_eq_true_eq, List.all_eq_true, Bool.not_eq_true', Bool.and_eq_false_iff, decide_eq_false_iff_not, decide_eq_false_iff_not]
  constructor
  · rintro ⟨⟨⟨h1, h2⟩, h3⟩, h4⟩
    refine ⟨h1, h2, fun c hc => ?_, fun z => h4.elim (fun k => k z.1) fun k => k z.2⟩
    have := h3 c hc
    rwa [Bool.and_eq_true, decide_eq_true_eq, decide_eq_true_eq] at this
  · rintro ⟨h1, h2, h3, h4⟩
    refine ⟨⟨⟨h1, h2⟩, fun c hc => ?_⟩, ?_⟩
    · rw [Bool.and_eq_true, decide_eq_true_eq, decide_eq_true_eq]; exact h3 c hc
    · by_cases h : 1 < x.length
      · exact .inr fun k => h4 ⟨h, k⟩
      · exact .inl h
theorem goodN_int {x : Str} (h : goodN x = true) : PySem.intText? x = some (numN x) := by
  obtain ⟨h1, h2, h3, _⟩ := goodN_iff.mp h
  refine PySem.intText_digits h3 (fun e => ?_) (by omega)
  have := TL.len_tl x
  have h5 : TL.tl x = [] := e
  rw [h5] at this
  rw [this] at h1
  exact absurd h1 (by decide)
theorem fig_mem (c : Nat) : decide (c ∈ (Str.ofString "0123456789").cps.toList) = (decide (48 ≤ c) && decide (c ≤ 57)) := by
  rw [show (Str.ofString "0123456789").cps.toList = [48, 49, 50, 51, 52, 53, 54, 55, 56, 57] by decide +kernel, Bool.eq_iff_iff, decide_eq_true_eq, Bool.and_eq_true, decide_eq_true_eq, decide_eq_true_eq]
  simp only [List.mem_cons, List.not_mem_nil, or_false]
  omega
/-- rights -/
def rtOf (x : Str) : Option Int := match tl x with
  | [a, b] => if (a = 114 ∨ a = 45) ∧ (b = 119 ∨ b = 45) then some ((if a = 114 then 1 else 0) + 2 * (if b = 119 then 1 else 0)) else none
  | _ => none
/-- a value, perhaps behind a sign -/
def valOf (x : Str) : Option Int := match tl x with
  | 45 :: r => if goodN ⟨r.toArray⟩ = true ∧ numN ⟨r.toArray⟩ ≠ 0 then some (-numN ⟨r.toArray⟩) else none
  | _ => if goodN x = true then some (numN x) else none
/-- a word by its kind -/
def readW (c : Nat) (x : Str) : Option Int := if c = 110 then (if goodN x = true then some (numN x) else none) else if c = 118 then valOf x else rtOf x
def readWs : List Nat → List Str → Option (List Int)
  | [], [] => some []
  | c :: cs, x :: xs => match readW c x with
    | none => none
    | some v => match readWs cs xs with
      | none => none
      | some r => some (v :: r)
  | _, _ => none
def kv95 : List (Key × V) := [(Sum.inr "new", .str ""), (Sum.inr "fork", .str "n"), (Sum.inr "end", .str "n"), (Sum.inr "bank", .str "n"), (Sum.inr "drop", .str "n"), (Sum.inr "lay", .str "nnnr"), (Sum.inr "lift", .str "nnn"), (Sum.inr "guard", .str "nnnr"), (Sum.inr "read", .str "nn"), (Sum.inr "write", .str "nnv"), (Sum.inr "fold", .str ""), (Sum.inr "see", .str "nn"), (Sum.inr "laid", .str "n"), (Sum.inr "live", .str "")]
/-- the kinds of a row's words behind the first one; n of them stand there -/
def kindsOf (x : Str) (n : Nat) : Option (List Nat) := match valV kv95 (Sum.inr x) with
  | some (.str ks) => if x = "lay" ∧ n = 6 then some (tl ks ++ [110, 110]) else some (tl ks)
  | _ => none
/-- the deed of a row, as numbers behind its first word -/
def deedOf : List Str → Option (List V)
  | [] => none
  | x :: xs => match kindsOf x xs.length with
    | none => none
    | some ks => match readWs ks xs with
      | none => none
      | some r => some (V.str x :: r.map V.int ++ if x = "lay" ∧ xs.length = 4 then [V.non, V.int 0] else [])
end Fl
/-! Fl: texts, the walking macro's rules; rows of words as plain laws. -/
namespace Fl
open PySem PySem.Spec PyProof.Rows L2
section
variable {K : PySem.W.Frag} {L l : List Asrt} {H : Hp} {σ σ' : L2.St} {Q : VK} {g : TG} {tb : TS} {nx bk ct : L2.St → Hp → Prop} {rt : VK} {a : Addr} {xs : List V} {x z s : Str} {vs : List V} {u v : V} {lo hi : Option Int} {kvs : List (Key × V)} {R : It → Hp → Prop}
theorem r_wZs (S : Star L H) (P : Pull (pt a (.lst xs)) L l) (h : kFl (gSqL K a xs) yTup g tb nx rt ((xs.zip x.cps.toList).map fun p => [p.1, V.str ⟨#[p.2]⟩]) σ H) : kW (L2.DX.Itzs K a x) g tb nx rt bk ct σ H := r_w L2.DX.use_zs h
theorem r_wS (h : kFl gAny yId g tb nx rt (x.cps.toList.map fun c => V.str ⟨#[c]⟩) σ H) : kW (Its x) g tb nx rt bk ct σ H := r_w use_str h
instance i_r_wS : Stp (kW (Its x) g tb nx rt bk ct σ H) (kFl gAny yId g tb nx rt (x.cps.toList.map fun c => V.str ⟨#[c]⟩) σ H) := ⟨r_wS⟩
theorem r_ixH (S : Star L H) (P : Pull (pt a (.lst (v :: xs))) L l) (h : Q v H) : rIxL K (.ref a) (.int 0) H Q := by
  refine r_ixL S P (v := v) ?_ h
  unfold atI ixN
  simp
instance : Grp (rIxL K u v H Q) 12 := ⟨⟩
instance : Grp (rIxT K u v H Q) 12 := ⟨⟩
instance : Grp (rCatT K u v H Q) 12 := ⟨⟩
instance : Grp (cLenX vs H Q) 12 := ⟨⟩
instance : Grp (cIntS vs H Q) 12 := ⟨⟩
instance : Grp (mSplitS u vs H Q) 12 := ⟨⟩
instance : Grp (mJoinS K u vs H Q) 12 := ⟨⟩
instance : Grp (mStartS u vs H Q) 12 := ⟨⟩
instance : Grp (rInS u v H Q) 12 := ⟨⟩
instance : Grp (rNotInS u v H Q) 12 := ⟨⟩
instance : Grp (rIxS u v H Q) 12 := ⟨⟩
instance : Grp (rSlS u lo hi H Q) 12 := ⟨⟩
instance : Grp (rCatS u v H Q) 12 := ⟨⟩
instance : Grp (rEq (.str x) (.str z) H Q) 12 := ⟨⟩
instance : Grp (rNe (.str x) (.str z) H Q) 12 := ⟨⟩
instance : Grp (L2.DX.rSGet kvs v H Q) 12 := ⟨⟩
instance : Grp (L2.DX.rSNotIn kvs v H Q) 12 := ⟨⟩
instance : Grp (L2.DX.kIZs K vs H R) 12 := ⟨⟩
instance : Grp (kW (L2.DX.Itzs K a x) g tb nx rt bk ct σ H) 12 := ⟨⟩
end
theorem piZs {X : Cx} {K : PySem.W.Frag} {e f : Expr} {ta : TA} {p pos tp : Pos} {elts : List Expr} {kk : Nat} (hK : X.K = K) (hg : Gl X "zip") (hm : X.mg "zip" = none) (ha : PA X [e, f] ta)
    (hs : starEach [e, f] X.env = (false, eval e X.env) :: starEach [f] X.env := by rfl) (hpl : (backTo pos (starEach [f] X.env)).any (·.1) = false := by rfl) :
    PI X (.Tuple elts kk tp) (.Call (.Name "zip" p) [e, f] [] pos) (L2.DX.iZs K ta) := by subst hK; exact L2.DX.pi_zs hg hm ha hs hpl
theorem splitX_pos (x y : Str) : 1 ≤ (Txt.split x y).length := split_pos x y
theorem splitX_le (x y : Str) : (Txt.split x y).length ≤ x.length + 2 := split_le x y
/-! ### numbers as texts -/
abbrev numS (n : Int) : Str := Str.ofString (toString n)
theorem tl_eq (x : Str) : tl x = x.cps.toList := rfl
theorem str_ext {x y : Str} (h : tl x = tl y) : x = y := by
  cases x; cases y
  exact congrArg Str.mk (Array.toList_inj.mp h)
theorem len_tl (x : Str) : x.length = (tl x).length := TL.len_tl x
theorem numS_nat (m : Nat) : tl (numS (m : Int)) = (Nat.toDigits 10 m).map Char.toNat := PySem.W.KIN.signs_num m
theorem numS_neg (m : Nat) : tl (numS (-((m + 1 : Nat) : Int))) = 45 :: (Nat.toDigits 10 (m + 1)).map Char.toNat := by
  show (Str.ofString (toString (Int.negSucc m))).cps.toList = _
  rw [signs_ofString]
  show ("-" ++ Nat.repr (m + 1)).toList.map Char.toNat = _
  rw [String.toList_append, List.map_append, Nat.toList_repr]
  rfl
theorem dig_all (m : Nat) : NumText.AllDigits ((Nat.toDigits 10 m).map Char.toNat) := by
  intro c hc
  obtain ⟨ch, hch, e⟩ := List.mem_map.mp hc
  have r := digit_range (Nat.isDigit_of_mem_toDigits (by decide) (by decide) hch)
  rw [← e]
  exact r
theorem dig_len {m : Nat} (h : m < 10 ^ 60) : (Nat.toDigits 10 m).length ≤ 60 := toDigits_len_pow (by decide) (by decide) h
theorem dig_pos (m : Nat) : 1 ≤ (Nat.toDigits 10 m).length := PySem.toDigits_len_ge 10 m
theorem dig_head : ∀ (m : Nat), 1 < (Nat.toDigits 10 m).length → ((Nat.toDigits 10 m).map Char.toNat).head? ≠ some 48 := by
  intro m
  induction m using Nat.strongRecOn with
  | _ m ih =>
    intro hl
    by_cases h : m < 10
    · rw [Nat.toDigits_of_lt_base h] at hl
      simp at hl
    · have hm : m % 10 < 10 := Nat.mod_lt m (by decide)
      have t : Nat.toDigits 10 (m / 10) ++ Nat.toDigits 10 (m % 10) = Nat.toDigits 10 (10 * (m / 10) + m % 10) := Nat.toDigits_append_toDigits (by decide) (by omega) hm
      rw [Nat.div_add_mod] at t
      rw [← t, List.map_append]
      by_cases h2 : m / 10 < 10
      · rw [Nat.toDigits_of_lt_base h2]
        have h3 : ∀ d : Nat, d < 10 → d ≠ 0 → (Nat.digitChar d).toNat ≠ 48 := by decide
        intro e
        simp only [List.map_cons, List.map_nil, List.cons_append, List.head?_cons, Option.some.injEq] at e
        exact h3 (m / 10) h2 (by omega) e
      · have h4 := dig_pos (m / 10 / 10)
        have t2 : Nat.toDigits 10 (m / 10 / 10) ++ Nat.toDigits 10 (m / 10 % 10) = Nat.toDigits 10 (10 * (m / 10 / 10) + m / 10 % 10) := Nat.toDigits_append_toDigits (by decide) (by omega) (Nat.mod_lt _ (by decide))
        rw [Nat.div_add_mod] at t2
        have h5 := dig_pos (m / 10 % 10)
        have h6 : 1 < (Nat.toDigits 10 (m / 10)).length := by rw [← t2, List.length_append]; omega
        have h7 := ih (m / 10) (by omega) h6
        cases q : Nat.toDigits 10 (m / 10) with
        | nil => rw [q] at h6; simp at h6
        | cons c r =>
          rw [q] at h7
          simpa using h7
theorem numS_good {m : Nat} (h : m < 10 ^ 60) : goodN (numS (m : Int)) = true ∧ numN (numS (m : Int)) = (m : Int) := by
  have hl := dig_len h
  have hp := dig_pos m
  have hn : (numS (m : Int)).length = (Nat.toDigits 10 m).length := by rw [len_tl, numS_nat, List.length_map]
  refine ⟨goodN_iff.mpr ⟨by omega, by omega, by rw [numS_nat]; exact dig_all m, fun z => ?_⟩, ?_⟩
  · rw [numS_nat, hn] at z
    exact dig_head m z.1 z.2
  · unfold numN
    rw [numS_nat, PySem.W.KIN.val_back]
theorem numS_len {n : Int} (h : n.natAbs < 10 ^ 60) : 1 ≤ (numS n).length ∧ (numS n).length ≤ 61 := by
  rw [len_tl]
  rcases Int.eq_nat_or_neg n with ⟨m, rfl | rfl⟩
  · rw [numS_nat, List.length_map]
    have := dig_len (m := m) (by omega)
    have := dig_pos m
    omega
  · cases m with
    | zero =>
      rw [show (-((0 : Nat) : Int)) = ((0 : Nat) : Int) from rfl, numS_nat, List.length_map]
      have := dig_len (m := 0) (by decide)
      have := dig_pos 0
      omega
    | succ m =>
      rw [numS_neg, List.length_cons, List.length_map]
      have := dig_len (m := m + 1) (by omega)
      omega
theorem numS_blank (n : Int) : 32 ∉ tl (numS n) := fun h => (intText_free_32 n).mp h
theorem numS_val {n : Int} (h : n.natAbs < 10 ^ 60) : valOf (numS n) = some n := by
  rcases Int.eq_nat_or_neg n with ⟨m, rfl | rfl⟩
  · have hg := numS_good (m := m) (by omega)
    unfold valOf
    split
    · next r e =>
      rw [numS_nat] at e
      have := dig_all m 45 (by rw [e]; exact List.mem_cons_self)
      omega
    · rw [if_pos hg.1, hg.2]
  · cases m with
    | zero =>
      have hg := numS_good (m := 0) (by decide)
      rw [show (-((0 : Nat) : Int)) = ((0 : Nat) : Int) from rfl]
      unfold valOf
      split
      · next r e =>
        rw [numS_nat] at e
        have := dig_all 0 45 (by rw [e]; exact List.mem_cons_self)
        omega
      · rw [if_pos hg.1, hg.2]
    | succ m =>
      have hg := numS_good (m := m + 1) (by omega)
      have e0 : numS ((m + 1 : Nat) : Int) = ⟨((Nat.toDigits 10 (m + 1)).map Char.toNat).toArray⟩ := str_ext (by rw [numS_nat])
      rw [e0] at hg
      unfold valOf
      rw [numS_neg]
      show (if goodN ⟨((Nat.toDigits 10 (m + 1)).map Char.toNat).toArray⟩ = true ∧ numN ⟨((Nat.toDigits 10 (m + 1)).map Char.toNat).toArray⟩ ≠ 0 then _ else _) = _
      rw [if_pos ⟨hg.1, by rw [hg.2]; omega⟩, hg.2]
/-! ### words in a row -/
theorem app_inj {c : Nat} : ∀ {a b x y : List Nat}, c ∉ a → c ∉ b → a ++ c :: x = b ++ c :: y → a = b ∧ x = y
  | [], [], x, y, _, _, e => by simpa using e
  | [], d :: b, x, y, _, hb, e => by
    simp only [List.nil_append, List.cons_append, List.cons.injEq] at e
    exact absurd (by rw [e.1]; exact List.mem_cons_self) hb
  | d :: a, [], x, y, ha, _, e => by
    simp only [List.nil_append, List.cons_append, List.cons.injEq] at e
    exact absurd (by rw [e.1]; exact List.mem_cons_self) ha
  | d :: a, d' :: b, x, y, ha, hb, e => by
    simp only [List.cons_append, List.cons.injEq] at e
    obtain ⟨e1, e2⟩ := e
    obtain ⟨e3, e4⟩ := app_inj (fun h => ha (.tail _ h)) (fun h => hb (.tail _ h)) e2
    exact ⟨by rw [e1, e3], e4⟩
theorem tl_app (x y : Str) : tl (x ++ y) = tl x ++ tl y := by
  show (x.cps ++ y.cps).toList = _
  rw [Array.toList_append]
theorem tl_join2 (c : Nat) (x y : Str) (r : List Str) : tl (Str.join ⟨#[c]⟩ (x :: y :: r)) = tl x ++ c :: tl (Str.join ⟨#[c]⟩ (y :: r)) := by
  show tl (x ++ ⟨#[c]⟩ ++ Str.join ⟨#[c]⟩ (y :: r)) = _
  rw [tl_app, tl_app, List.append_assoc]
  rfl
theorem join_inj {c : Nat} : ∀ {x : Str} {xs : List Str} {y : Str} {ys : List Str}, (∀ w ∈ x :: xs, c ∉ tl w) → (∀ w ∈ y :: ys, c ∉ tl w) → tl (Str.join ⟨#[c]⟩ (x :: xs)) = tl (Str.join ⟨#[c]⟩ (y :: ys)) → x :: xs = y :: ys
  | x, [], y, [], _, _, e => by rw [str_ext (x := x) (y := y) e]
  | x, [], y, y2 :: ys, hx, _, e => by
    rw [tl_join2] at e
    have e : tl x = _ := e
    exact absurd (by rw [e]; simp) (hx x List.mem_cons_self)
  | x, x2 :: xs, y, [], _, hy, e => by
    rw [tl_join2] at e
    have e : _ = tl y := e
    exact absurd (by rw [← e]; simp) (hy y List.mem_cons_self)
  | x, x2 :: xs, y, y2 :: ys, hx, hy, e => by
    rw [tl_join2, tl_join2] at e
    obtain ⟨e1, e2⟩ := app_inj (hx x List.mem_cons_self) (hy y List.mem_cons_self) e
    rw [str_ext e1, join_inj (fun w hw => hx w (.tail _ hw)) (fun w hw => hy w (.tail _ hw)) e2]
theorem split_uniq {c : Nat} {x y : Str} {ys : List Str} (hx : ∀ w ∈ y :: ys, c ∉ tl w) (e : tl x = tl (Str.join ⟨#[c]⟩ (y :: ys))) : Txt.split x ⟨#[c]⟩ = y :: ys := by
  have h1 := StrLaws.join_split x ⟨#[c]⟩
  have h2 := StrLaws.split_free x c
  have h3 := split_pos x ⟨#[c]⟩
  cases h : Txt.split x ⟨#[c]⟩ with
  | nil => rw [h] at h3; simp at h3
  | cons a r =>
    rw [h] at h1 h2
    exact join_inj (fun w hw => h2 w hw) hx (by rw [h1]; exact e)
theorem split_join {c : Nat} {y : Str} {ys : List Str} (hx : ∀ w ∈ y :: ys, c ∉ tl w) : Txt.split (Txt.join ⟨#[c]⟩ (y :: ys)) ⟨#[c]⟩ = y :: ys :=
  split_uniq hx (by show tl (Builtin.Str.glued ⟨#[c]⟩ (y :: ys)) = _; rw [StrLaws.glued_eq_join])
theorem join_len {z : Str} {ys : List Str} : (Txt.join z ys).length ≤ (ys.map (·.length)).sum + ys.length * z.length := by
  show (Builtin.Str.glued z ys).length ≤ _
  rw [StrLaws.glued_eq_join]
  exact StrLaws.join_length_le z ys
theorem one_iff {c d : Nat} {z : Str} (e : z = ⟨#[d]⟩) : ((⟨#[c]⟩ : Str) = z) ↔ c = d := by
  rw [e]
  constructor
  · intro h
    injection h with h
    have := congrArg Array.toList h
    simpa using this
  · rintro rfl; rfl
theorem one_zero_iff {c : Nat} : ((⟨#[c]⟩ : Str) = "0") ↔ c = 48 := one_iff (by decide +kernel)
/-! ### a value's sign -/
theorem starts_dash (x : Str) : Txt.startswith x "-" = decide ((tl x).head? = some 45) := by
  unfold Txt.startswith
  rw [StrLaws.subAt_eq]
  have e : (Str.ofString "-") = ⟨#[45]⟩ := by decide +kernel
  rw [e]
  have h := len_tl x
  cases q : tl x with
  | nil =>
    rw [q] at h
    have : x.length = 0 := h
    have q2 : x.cps.toList = [] := q
    rw [q2, this]
    simp [Str.length]
  | cons c r =>
    rw [q] at h
    have h2 : x.length = r.length + 1 := h
    have q2 : x.cps.toList = c :: r := q
    rw [q2, h2]
    by_cases hc : c = 45
    · subst hc
      simp [Str.length]
    · simp [Str.length, hc]
theorem cutX_one (x : Str) : tl (L2.cutS x (some 1) none) = (tl x).drop 1 := by
  show ((x.cps.toList.drop (HT.sIx x.length 0 (some ((1 : Nat) : Int)))).take (HT.sIx x.length x.length none - HT.sIx x.length 0 (some ((1 : Nat) : Int)))).toArray.toList = x.cps.toList.drop 1
  rw [HT.sIx_nat, HT.sIx_none]
  have h : x.length = x.cps.toList.length := len_tl x
  rcases Nat.lt_or_ge x.length 1 with h1 | h1
  · rw [Nat.min_eq_right (by omega)]
    rw [List.drop_eq_nil_of_le (by omega), List.drop_eq_nil_of_le (by omega)]
    simp
  · rw [Nat.min_eq_left h1]
    exact List.take_of_length_le (by rw [List.length_drop]; omega)
theorem val_no {x : Str} (h : (tl x).head? ≠ some 45) : valOf x = if goodN x = true then some (numN x) else none := by
  unfold valOf
  split
  · next r e => rw [e] at h; exact absurd rfl h
  · rfl
theorem val_yes {x : Str} (h : (tl x).head? = some 45) : valOf x = if goodN (L2.cutS x (some 1) none) = true ∧ numN (L2.cutS x (some 1) none) ≠ 0 then some (-numN (L2.cutS x (some 1) none)) else none := by
  have e : ∃ r, tl x = 45 :: r ∧ L2.cutS x (some 1) none = ⟨r.toArray⟩ := by
    cases q : tl x with
    | nil => rw [q] at h; cases h
    | cons c r =>
      rw [q] at h
      injection h with h
      subst h
      exact ⟨r, rfl, str_ext (by rw [cutX_one, q]; rfl)⟩
  obtain ⟨r, e1, e2⟩ := e
  rw [e2]
  unfold valOf
  rw [e1]
  rfl
theorem cutV_tail {v : V} {xs : List V} : cutV (v :: xs) (some 1) none = xs := cutI_from (xs := v :: xs) 1
theorem zip_ws {ys : List Str} {ks : List Nat} : ((ys.map V.str).zip ks).map (fun p => [p.1, V.str ⟨#[p.2]⟩]) = (ys.zip ks).map fun p => [V.str p.1, V.str ⟨#[p.2]⟩] := by
  rw [List.zip_map_left, List.map_map]
  rfl
theorem kind_iff {c d : Nat} {z : Str} (e : z = ⟨#[d]⟩) : decide ((⟨#[c]⟩ : Str) = z) = decide (c = d) := decide_eq_decide.mpr (one_iff e)
theorem kind_n {c : Nat} : decide ((⟨#[c]⟩ : Str) = "n") = decide (c = 110) := kind_iff (by decide +kernel)
theorem kind_v {c : Nat} : decide ((⟨#[c]⟩ : Str) = "v") = decide (c = 118) := kind_iff (by decide +kernel)
theorem kind_r {c : Nat} : decide ((⟨#[c]⟩ : Str) = "r") = decide (c = 114) := kind_iff (by decide +kernel)
/-! ### kinds -/
theorem kv_mem {x : Str} {v : V} (h : valV kv95 (Sum.inr x) = some v) : (Sum.inr x, v) ∈ kv95 := by
  unfold valV at h
  obtain ⟨p, hp, rfl⟩ := Option.map_eq_some_iff.mp h
  have h1 := List.mem_of_find?_eq_some hp
  have h2 := List.find?_some hp
  rw [decide_eq_true_eq] at h2
  rw [← h2]
  exact h1
theorem kv_at {x : Str} {v : V} (h : valV kv95 (Sum.inr x) = some v) : ∃ ks : Str, v = .str ks ∧ ks.length ≤ 4 ∧ (x = "lay" → ks.length = 4) ∧ ∀ c ∈ tl ks, c = 110 ∨ c = 118 ∨ c = 114 := by
  have : ∀ p ∈ kv95, ∃ ks : Str, p.2 = .str ks ∧ ks.length ≤ 4 ∧ (p.1 = Sum.inr (Str.ofString "lay") → ks.length = 4) ∧ ∀ c ∈ tl ks, c = 110 ∨ c = 118 ∨ c = 114 := by
    intro p hp
    simp only [kv95, List.mem_cons, List.not_mem_nil, or_false] at hp
    rcases hp with rfl | rfl | rfl | rfl | rfl | rfl | rfl | rfl | rfl | rfl | rfl | rfl | rfl | rfl
    all_goals exact ⟨_, rfl, by decide +kernel, by decide +kernel, by decide +kernel⟩
  obtain ⟨ks, h1, h2, h3, h4⟩ := this _ (kv_mem h)
  exact ⟨ks, h1, h2, fun e => h3 (by rw [e]), h4⟩
theorem kinds_none {x : Str} {n : Nat} (h : valV kv95 (Sum.inr x) = none) : kindsOf x n = none := by
  unfold kindsOf; rw [h]
theorem kinds_six {x ks : Str} {n : Nat} (h : valV kv95 (Sum.inr x) = some (.str ks)) (e : x = "lay" ∧ n = 6) : kindsOf x n = some (tl (ks ++ "nn")) := by
  unfold kindsOf; rw [h]
  show (if _ then _ else _) = _
  rw [if_pos e, tl_app]
  rfl
theorem kinds_not {x ks : Str} {n : Nat} (h : valV kv95 (Sum.inr x) = some (.str ks)) (e : ¬ (x = "lay" ∧ n = 6)) : kindsOf x n = some (tl ks) := by
  unfold kindsOf; rw [h]
  show (if _ then _ else _) = _
  rw [if_neg e]
theorem readWs_len : ∀ {cs : List Nat} {xs : List Str} {r : List Int}, readWs cs xs = some r → cs.length = xs.length ∧ r.length = xs.length
  | [], [], r, h => by cases h; exact ⟨rfl, rfl⟩
  | [], _ :: _, r, h => by cases h
  | _ :: _, [], r, h => by cases h
  | c :: cs, x :: xs, r, h => by
    unfold readWs at h
    split at h
    · cases h
    · split at h
      · cases h
      · next q =>
        cases h
        have := readWs_len q
        simp only [List.length_cons]; omega
theorem readWs_cons {c : Nat} {cs : List Nat} {x : Str} {xs : List Str} : readWs (c :: cs) (x :: xs) = (match readW c x with
    | none => none
    | some v => match readWs cs xs with
      | none => none
      | some r => some (v :: r)) := rfl
theorem readWs_bad : ∀ {cs : List Nat} {xs : List Str} {c : Nat} {x : Str} {cs2 : List Nat} {xs2 : List Str}, cs.length = xs.length → readW c x = none → readWs (cs ++ c :: cs2) (xs ++ x :: xs2) = none
  | [], [], c, x, cs2, xs2, _, h => by
    show readWs (c :: cs2) (x :: xs2) = none
    rw [readWs_cons, h]
  | d :: cs, y :: xs, c, x, cs2, xs2, hl, h => by
    show readWs (d :: (cs ++ c :: cs2)) (y :: (xs ++ x :: xs2)) = none
    rw [readWs_cons, readWs_bad (by simpa using hl) h]
    cases readW d y <;> rfl
theorem readWs_app : ∀ {cs : List Nat} {xs : List Str} {r : List Int} {c : Nat} {x : Str} {v : Int}, readWs cs xs = some r → readW c x = some v → readWs (cs ++ [c]) (xs ++ [x]) = some (r ++ [v])
  | [], [], r, c, x, v, h, h2 => by
    cases h
    show readWs [c] [x] = _
    rw [readWs_cons, h2]
    rfl
  | [], _ :: _, r, c, x, v, h, h2 => by cases h
  | _ :: _, [], r, c, x, v, h, h2 => by cases h
  | d :: cs, y :: xs, r, c, x, v, h, h2 => by
    rw [readWs_cons] at h
    show readWs (d :: (cs ++ [c])) (y :: (xs ++ [x])) = _
    rw [readWs_cons]
    cases q : readW d y with
    | none => rw [q] at h; cases h
    | some u =>
      rw [q] at h
      cases q2 : readWs cs xs with
      | none => rw [q2] at h; cases h
      | some r2 =>
        rw [q2] at h
        cases h
        rw [readWs_app q2 h2]
        rfl
theorem deed_some {x : Str} {xs : List Str} {ks : List Nat} {r : List Int} (h : kindsOf x xs.length = some ks) (h2 : readWs ks xs = some r) : deedOf (x :: xs) = some (V.str x :: r.map V.int ++ if x = "lay" ∧ xs.length = 4 then [V.non, V.int 0] else []) := by
  unfold deedOf; dsimp only; rw [h]; dsimp only; rw [h2]
theorem deed_none {x : Str} {xs : List Str} {ks : List Nat} (h : kindsOf x xs.length = some ks) (h2 : readWs ks xs = none) : deedOf (x :: xs) = none := by
  unfold deedOf; dsimp only; rw [h]; dsimp only; rw [h2]
theorem deed_no {x : Str} {xs : List Str} (h : kindsOf x xs.length = none) : deedOf (x :: xs) = none := by
  unfold deedOf; dsimp only; rw [h]
end Fl
namespace Fl
open PySem PySem.Spec PyProof.Rows L2
/-! ### the fifteen forms -/
def fms : List (Str × Str) := [("new", ""), ("fork", "n"), ("end", "n"), ("bank", "n"), ("drop", "n"), ("lay", "nnnr"), ("lay", "nnnrnn"), ("lift", "nnn"), ("guard", "nnnr"), ("read", "nn"), ("write", "nnv"), ("fold", ""), ("see", "nn"), ("laid", "n"), ("live", "")]
def fmW (i : Nat) : Str := (fms.getD i ("", "")).1
def fmK (i : Nat) : Str := (fms.getD i ("", "")).2
/-- a number of a kind -/
def okN (k : Nat) (n : Int) : Prop := if k = 114 then 0 ≤ n ∧ n ≤ 3 else if k = 118 then n.natAbs < 10 ^ 60 else 0 ≤ n ∧ n < 10 ^ 60
def rtS (n : Int) : Str := if n = 0 then "--" else if n = 1 then "r-" else if n = 2 then "-w" else "rw"
/-- a number as it is written -/
def wrt (k : Nat) (n : Int) : Str := if k = 114 then rtS n else numS n
def flatV : V → Prop
  | .str _ => True
  | .int _ => True
  | .non => True
  | _ => False
theorem rtS_of {n : Int} (h0 : 0 ≤ n) (h1 : n ≤ 3) : rtOf (rtS n) = some n ∧ (rtS n).length = 2 ∧ 32 ∉ tl (rtS n) := by
  have h : n = 0 ∨ n = 1 ∨ n = 2 ∨ n = 3 := by omega
  rcases h with rfl | rfl | rfl | rfl <;> exact ⟨by decide +kernel, by decide +kernel, by decide +kernel⟩
theorem okN_abs {k : Nat} {n : Int} (h : okN k n) : n.natAbs < 10 ^ 60 := by
  unfold okN at h
  split at h
  · omega
  · split at h <;> omega
theorem wrt_of {k : Nat} {n : Int} (hk : k = 110 ∨ k = 118 ∨ k = 114) (h : okN k n) : readW k (wrt k n) = some n ∧ (wrt k n).length ≤ 61 ∧ 32 ∉ tl (wrt k n) := by
  have ha := okN_abs h
  unfold okN at h
  unfold wrt readW
  rcases hk with rfl | rfl | rfl
  · rw [if_neg (by decide), if_neg (by decide)] at h
    rw [if_pos (show (110 : Nat) = 110 from rfl), if_neg (show ¬ (110 : Nat) = 114 by decide)]
    obtain ⟨m, rfl⟩ := Int.eq_ofNat_of_zero_le h.1
    have hg := numS_good (m := m) (by omega)
    rw [if_pos hg.1, hg.2]
    exact ⟨rfl, (numS_len ha).2, numS_blank _⟩
  · rw [if_neg (show ¬ (118 : Nat) = 110 by decide), if_pos (show (118 : Nat) = 118 from rfl), if_neg (show ¬ (118 : Nat) = 114 by decide)]
    exact ⟨numS_val ha, (numS_len ha).2, numS_blank _⟩
  · rw [if_pos rfl] at h
    rw [if_neg (show ¬ (114 : Nat) = 110 by decide), if_neg (show ¬ (114 : Nat) = 118 by decide), if_pos (show (114 : Nat) = 114 from rfl)]
    obtain ⟨h1, h2, h3⟩ := rtS_of h.1 h.2
    exact ⟨h1, by omega, h3⟩
theorem atI_nat {α : Type} {xs : List α} {k : Nat} {x : α} (h : xs[k]? = some x) : atI xs (k : Int) = some x := by
  have hk : k < xs.length := (List.getElem?_eq_some_iff.mp h).1
  unfold atI ixN
  rw [if_pos (by omega), if_pos (by omega)]
  simpa using h
theorem Star.unpull {A : Asrt} : ∀ {L l : List Asrt} {H : Hp}, Pull A L l → Star (A :: l) H → Star L H
  | _, _, _, .here, S => S
  | _, _, _, .there h, S => (Star.swap S).under fun _ S => Star.unpull h S
/-- a tuple and one more, which may be empty -/
theorem r_catTupE {K : PySem.W.Frag} {L l m : List Asrt} {H : Hp} {Q : VK} {p q : Addr} {xs ys zs : List V} (S : Star L H) (P : Pull (pt p (.tup xs)) L l) (P2 : Pull (pt q (.tup ys)) L m) (e : xs ++ ys = zs) (hx : xs ≠ []) (z : xs.length + ys.length ≤ 100000) (h : ∀ r H', Star (pt r (.tup zs) :: L) H' → Q (.ref r) H') : rCatT K (.ref p) (.ref q) H Q := by
  refine ⟨p, q, xs, ys, rfl, rfl, SqT.of ((S.pull P).get (.head _)), SqT.of ((S.pull P2).get (.head _)), hx, Evl.sz_of z, fun e0 => ?_, fun _ r n => h r _ (by rw [e]; exact S.new n)⟩
  subst e0
  rw [List.append_nil] at e
  subst e
  refine h p H ?_
  have S2 := Star.tup2 (S.pull P)
  exact S2.under fun _ S3 => Star.unpull P S3
/-! ### k95: rows made of forms and numbers -/
def numF (c : Int) (k : Nat) : Int := if k = 114 then c % 4 else if k = 118 ∧ c / 2 % 2 = 1 then -(if c % 2 = 0 then c / 4 % 12 else c / 2 % 10 ^ 60) else if c % 2 = 0 then c / 4 % 12 else c / 2 % 10 ^ 60
theorem numF_ok {c : Int} {k : Nat} : okN k (numF c k) := by
  unfold okN numF
  by_cases h1 : k = 114
  · rw [if_pos h1, if_pos h1]; omega
  rw [if_neg h1, if_neg h1]
  by_cases h2 : k = 118
  · rw [if_pos h2]
    split
    · split <;> omega
    · split <;> omega
  · rw [if_neg h2, if_neg (fun z => h2 z.1)]
    split <;> omega
theorem fm_of : ∀ i < 15, (fmW i).length ≤ 5 ∧ (fmK i).length ≤ 6 ∧ 32 ∉ tl (fmW i) ∧ (∀ c ∈ tl (fmK i), c = 110 ∨ c = 118 ∨ c = 114) ∧ kindsOf (fmW i) (fmK i).length = some (tl (fmK i)) := by decide +kernel
theorem steps7 {k : Nat} (h : k < 64) : RgC 0 (k : Nat) 7 ((k + 6) / 7) := by
  have : ∀ k < 64, RgC 0 ((k : Nat) : Int) 7 ((k + 6) / 7) := by unfold RgC; decide +kernel
  exact this k h
/-- a row and its deed -/
def rwA (e : Str × List V) (v : V) : Asrt := fun h => ∃ a b, v = .ref a ∧ Star [pt a (.tup [.str e.1, .ref b]), pt b (.tup e.2)] h
instance : Pst rwA := ⟨fun e v => Sup.ex fun a => Sup.ex fun b => Sup.and fun _ => Sup.star (by
  intro A h
  simp only [List.mem_cons, List.not_mem_nil, or_false] at h
  rcases h with rfl | rfl <;> exact Sup.tup)⟩
theorem rw_open {e : Str × List V} {v : V} {L l : List Asrt} {H : Hp} (S : Star L H) (P : Pull (rwA e v) L l) : ∃ a b, v = .ref a ∧ Star (pt a (.tup [.str e.1, .ref b]) :: pt b (.tup e.2) :: l) H := by
  obtain ⟨h1, h2, dj, s1, s2, ⟨a, b, e, S1⟩, S2⟩ := S.pull P
  exact ⟨a, b, e, Star.glue (l := [_, _]) ⟨h1, h2, dj, s1, s2, S1, S2⟩⟩
theorem rw_close {x : Str} {vs : List V} {a b : Addr} {L l m : List Asrt} {H : Hp} (S : Star L H) (P : Pull (pt a (.tup [.str x, .ref b])) L l) (P2 : Pull (pt b (.tup vs)) l m) : Star (rwA (x, vs) (.ref a) :: m) H :=
  Star.cl (k := [_, _]) ((S.pull P).under fun _ S => S.pull P2) fun h S => ⟨a, b, rfl, S⟩
/-- a row that reads as its deed -/
def rowOk (e : Str × List V) : Prop := e.1.length ≤ 90000 ∧ (∀ w ∈ Txt.split e.1 " ", w.length ≤ 90000) ∧ deedOf (Txt.split e.1 " ") = some e.2 ∧ e.2.length ≤ 100 ∧ ∀ x ∈ e.2, flatV x
theorem readWs_made : ∀ {n : Nat} {ks : List Nat} {f : Nat → Int}, ks.length = n → (∀ k ∈ ks, k = 110 ∨ k = 118 ∨ k = 114) → (∀ j < n, okN (ks.getD j 0) (f j)) → readWs ks ((List.range n).map fun j => wrt (ks.getD j 0) (f j)) = some ((List.range n).map f)
  | 0, [], f, _, _, _ => rfl
  | n + 1, c :: ks, f, hl, hk, hf => by
    rw [List.range_succ_eq_map, List.map_cons, List.map_cons, List.map_map, List.map_map]
    rw [readWs_cons]
    have h0 := (wrt_of (hk c List.mem_cons_self) (hf 0 (by omega))).1
    have ih := readWs_made (n := n) (ks := ks) (f := fun j => f (j + 1)) (by simpa using hl) (fun k h => hk k (.tail _ h)) (fun j hj => by have := hf (j + 1) (by omega); simpa using this)
    rw [show (c :: ks).getD 0 0 = c from rfl] at *
    rw [h0]
    dsimp only
    rw [show ((fun j => wrt ((c :: ks).getD j 0) (f j)) ∘ Nat.succ) = fun j => wrt (ks.getD j 0) (f (j + 1)) by funext j; simp]
    rw [ih]
    rfl
theorem row_sum {i : Nat} (hi : i < 15) {f : Nat → Int} (hf : ∀ j < (fmK i).length, okN ((tl (fmK i)).getD j 0) (f j)) {WS : List Str} (e : WS = fmW i :: (List.range (fmK i).length).map fun j => wrt ((tl (fmK i)).getD j 0) (f j)) : (WS.map (·.length)).sum + WS.length * (Str.ofString " ").length ≤ 16777216 ∧ ∀ w ∈ WS, w.length ≤ 61 ∧ 32 ∉ tl w := by
  obtain ⟨h1, h2, h3, h4, h5⟩ := fm_of i hi
  have hlen : (tl (fmK i)).length = (fmK i).length := (len_tl _).symm
  have hw : ∀ w ∈ WS, w.length ≤ 61 ∧ 32 ∉ tl w := by
    intro w hw
    rw [e] at hw
    rcases List.mem_cons.mp hw with rfl | hw
    · exact ⟨by omega, h3⟩
    · obtain ⟨j, hj, rfl⟩ := List.mem_map.mp hw
      have hj := List.mem_range.mp hj
      refine (wrt_of (h4 _ ?_) (hf j hj)).2
      rw [List.getD_eq_getElem?_getD, List.getElem?_eq_getElem (by omega), Option.getD_some]
      exact List.getElem_mem _
  have : ∀ l : List Str, (∀ w ∈ l, w.length ≤ 61 ∧ 32 ∉ tl w) → (l.map (·.length)).sum ≤ l.length * 61 := by
    intro l
    induction l with
    | nil => intro _; simp
    | cons a l ih =>
      intro h
      have h1 := (h a List.mem_cons_self).1
      have h2 := ih fun w hw => h w (.tail _ hw)
      simp only [List.map_cons, List.sum_cons, List.length_cons]
      omega
  have h6 := this WS hw
  have e1 : (Str.ofString " ").length = 1 := by decide +kernel
  have h7 : WS.length ≤ 7 := by rw [e, List.length_cons, List.length_map, List.length_range]; omega
  exact ⟨by rw [e1]; omega, hw⟩
theorem row_made {i : Nat} (hi : i < 15) {f : Nat → Int} (hf : ∀ j < (fmK i).length, okN ((tl (fmK i)).getD j 0) (f j)) :
    let ws := fmW i :: (List.range (fmK i).length).map fun j => wrt ((tl (fmK i)).getD j 0) (f j)
    rowOk (Txt.join " " ws, V.str (fmW i) :: ((List.range (fmK i).length).map fun j => V.int (f j)) ++ if fmW i = "lay" ∧ (fmK i).length = 4 then [V.non, V.int 0] else []) := by
  intro ws
  obtain ⟨h1, h2, h3, h4, h5⟩ := fm_of i hi
  have hb : (Str.ofString " ") = ⟨#[32]⟩ := by decide +kernel
  have hlen : (tl (fmK i)).length = (fmK i).length := (len_tl _).symm
  have hw : ∀ w ∈ ws, w.length ≤ 61 ∧ 32 ∉ tl w := by
    intro w hw
    rcases List.mem_cons.mp hw with rfl | hw
    · exact ⟨by omega, h3⟩
    · obtain ⟨j, hj, rfl⟩ := List.mem_map.mp hw
      have hj := List.mem_range.mp hj
      refine (wrt_of (h4 _ ?_) (hf j hj)).2
      rw [List.getD_eq_getElem?_getD, List.getElem?_eq_getElem (by omega), Option.getD_some]
      exact List.getElem_mem _
  have hs : Txt.split (Txt.join " " ws) " " = ws := by rw [hb]; exact split_join fun w h => (hw w h).2
  have hd : deedOf ws = some (V.str (fmW i) :: ((List.range (fmK i).length).map fun j => V.int (f j)) ++ if fmW i = "lay" ∧ (fmK i).length = 4 then [V.non, V.int 0] else []) := by
    have hl : ((List.range (fmK i).length).map fun j => wrt ((tl (fmK i)).getD j 0) (f j)).length = (fmK i).length := by simp
    rw [deed_some (x := fmW i) (ks := tl (fmK i)) (r := (List.range (fmK i).length).map f) (by rw [hl]; exact h5) (readWs_made (by omega) h4 hf), hl, List.map_map]
    rfl
  have hl7 : ws.length ≤ 7 := by
    show (fmW i :: _).length ≤ 7
    rw [List.length_cons, List.length_map, List.length_range]; omega
  refine ⟨?_, fun w h => ?_, by rw [hs]; exact hd, ?_, ?_⟩
  · have hj := join_len (z := " ") (ys := ws)
    have hsum : (ws.map (·.length)).sum ≤ ws.length * 61 := by
      have : ∀ l : List Str, (∀ w ∈ l, w.length ≤ 61 ∧ 32 ∉ tl w) → (l.map (·.length)).sum ≤ l.length * 61 := by
        intro l
        induction l with
        | nil => intro _; simp
        | cons a l ih =>
          intro h
          have h1 := (h a List.mem_cons_self).1
          have h2 := ih fun w hw => h w (.tail _ hw)
          simp only [List.map_cons, List.sum_cons, List.length_cons]
          omega
      exact this ws hw
    have e1 : (Str.ofString " ").length = 1 := by decide +kernel
    rw [e1] at hj
    show (Txt.join " " ws).length ≤ 90000
    omega
  · rw [hs] at h
    have := (hw w h).1
    omega
  · show (V.str (fmW i) :: _ ++ _ : List V).length ≤ 100
    rw [List.length_append, List.length_cons, List.length_map, List.length_range]
    split <;> simp <;> omega
  · intro x hx
    rcases List.mem_append.mp hx with hx | hx
    · rcases List.mem_cons.mp hx with rfl | hx
      · trivial
      · obtain ⟨j, _, rfl⟩ := List.mem_map.mp hx
        trivial
    · split at hx
      · simp at hx
        rcases hx with rfl | rfl <;> trivial
      · cases hx
end Fl
/-! Fl: rows that are shown. -/
namespace Fl
open PySem PySem.Spec PyProof.Rows L2
/-! ### flat tuples that are compared -/
def datV : V → PyData
  | .str x => .str x
  | .int i => .int i
  | .bl b => .bool b
  | _ => .none
def flatW : V → Prop
  | .str z => PyData.strOk z = true
  | .int _ => True
  | .non => True
  | _ => False
theorem datL_flat : ∀ {xs : List V}, (∀ x ∈ xs, flatW x) → DatL xs (xs.map datV)
  | [], _ => datL0
  | v :: xs, h => by
    have q := datL_flat (xs := xs) fun x hx => h x (.tail _ hx)
    have hv := h v List.mem_cons_self
    cases v with
    | str z => exact ⟨.cons (.str z) q.dp, by have hv : PyData.strOk z = true := hv; simp [datV, PyData.canLayAll0, PyData.canLay0, q.lay, hv], by simp [datV, PyData.depthAll, PyData.depth, q.dep]⟩
    | int z => exact ⟨.cons (.int z) q.dp, by simp [datV, PyData.canLayAll0, PyData.canLay0, q.lay], by simp [datV, PyData.depthAll, PyData.depth, q.dep]⟩
    | non => exact ⟨.cons .non q.dp, by simp [datV, PyData.canLayAll0, PyData.canLay0, q.lay], by simp [datV, PyData.depthAll, PyData.depth, q.dep]⟩
    | _ => exact hv.elim
theorem eqv_flat : ∀ {xs : List V}, (∀ x ∈ xs, flatW x) → PyData.eqvAll (xs.map datV) (xs.map datV) = true
  | [], _ => by simp [PyData.eqvAll]
  | v :: xs, h => by
    have q := eqv_flat (xs := xs) fun x hx => h x (.tail _ hx)
    have hv := h v List.mem_cons_self
    rw [List.map_cons, PyData.eqvAll, q, Bool.and_true]
    cases v with
    | str z => simp [datV, PyData.eqv]
    | int z => simp [datV, PyData.eqv]
    | non => simp [datV, PyData.eqv]
    | _ => exact hv.elim
theorem r_neFlat {K : PySem.W.Frag} {L l m : List Asrt} {H : Hp} {Q : VK} {p q : Addr} {xs : List V} (hf : ∀ x ∈ xs, flatW x) (S : Star L H) (P : Pull (pt p (.tup xs)) L l) (P2 : Pull (pt q (.tup xs)) L m) (h : Q (.bl false) H) : rNeD K (.ref p) (.ref q) H Q := by
  have d := datL_flat hf
  refine r_neTD (a := d) (b := d) S P P2 ?_
  rw [eqv_flat hf]; exact h
theorem r_eqFlat {K : PySem.W.Frag} {L l m : List Asrt} {H : Hp} {Q : VK} {p q : Addr} {xs : List V} (hf : ∀ x ∈ xs, flatW x) (S : Star L H) (P : Pull (pt p (.tup xs)) L l) (P2 : Pull (pt q (.tup xs)) L m) (h : Q (.bl true) H) : rEqD K (.ref p) (.ref q) H Q := by
  have d := datL_flat hf
  refine r_eqTD (a := d) (b := d) S P P2 ?_
  rw [eqv_flat hf]; exact h
theorem inV_strs {s : Str} {ss : List Str} : inV (.str s) (ss.map V.str) = decide (s ∈ ss) := by
  unfold inV
  rw [List.any_map]
  induction ss with
  | nil => rfl
  | cons t ss ih =>
    rw [List.any_cons, ih]
    show ((t == s) || decide (s ∈ ss)) = _
    by_cases h : t = s
    · subst h; simp
    · have h2 : ¬ s = t := fun e => h e.symm
      rw [show (t == s) = false by simpa using h, Bool.false_or]
      simp [h2]
theorem r_inTS {K : PySem.W.Frag} {xs : List V} (ss : List Str) {s : Str} {p : Addr} {L l : List Asrt} {H : Hp} {Q : VK} (S : Star L H) (P : Pull (pt p (.tup xs)) L l) (e : xs = ss.map V.str) (h : Q (.bl (decide (s ∈ ss))) H) : rIn K false (.str s) (.ref p) H Q := by
  subst e
  exact ⟨p, _, rfl, .inr (SqT.of ((S.pull P).get (.head _))), rfl, by rw [List.all_map]; exact List.all_eq_true.mpr fun _ _ => rfl, by rw [if_neg Bool.false_ne_true, inV_strs]; exact h⟩
/-! ### figure by figure -/
def figs (m : Nat) : List Nat := if m = 0 then [] else (Nat.toDigits 10 m).map Char.toNat
theorem figs_step {m : Nat} (h : 0 < m) : figs m = figs (m / 10) ++ [48 + m % 10] := by
  have hd : ∀ d : Nat, d < 10 → (Nat.digitChar d).toNat = 48 + d := by decide
  unfold figs
  rw [if_neg (by omega)]
  by_cases h2 : m < 10
  · rw [if_pos (by omega), Nat.toDigits_of_lt_base h2]
    simp [hd m h2, Nat.mod_eq_of_lt h2]
  · have hm : m % 10 < 10 := Nat.mod_lt m (by decide)
    have t : Nat.toDigits 10 (m / 10) ++ Nat.toDigits 10 (m % 10) = Nat.toDigits 10 (10 * (m / 10) + m % 10) := Nat.toDigits_append_toDigits (by decide) (by omega) hm
    rw [Nat.div_add_mod] at t
    rw [if_neg (by omega), ← t, List.map_append, Nat.toDigits_of_lt_base hm]
    simp [hd (m % 10) hm]
theorem numS_figs {n : Int} (h : n ≠ 0) : tl (numS n) = if n < 0 then 45 :: figs n.natAbs else figs n.natAbs := by
  rcases Int.eq_nat_or_neg n with ⟨m, rfl | rfl⟩
  · rw [numS_nat, if_neg (by omega)]
    unfold figs
    rw [Int.natAbs_natCast, if_neg (by omega)]
  · cases m with
    | zero => exact absurd rfl h
    | succ m =>
      rw [numS_neg, if_pos (by omega)]
      unfold figs
      rw [Int.natAbs_neg, Int.natAbs_natCast, if_neg (by omega)]
/-! ### numbers by how many figures they have -/
def numG (c : Int) (k : Nat) : Int := if k = 114 then c % 4 else
  let l : Int := 10 ^ (c / 3 % 60).toNat
  let n : Int := if c % 3 = 0 then l else if c % 3 = 1 then l * 10 - 1 else l + c / 180 % (l * 9)
  if c / 180 % 7 = 6 then 0 else if k = 118 ∧ c / 180 % 2 = 1 then -n else n
theorem pow_60 {m : Nat} (h : m < 60) : 1 ≤ (10 : Int) ^ m ∧ (10 : Int) ^ m ≤ 10 ^ 59 := by
  have h1 : 1 ≤ (10 : Nat) ^ m := Nat.one_le_pow _ _ (by decide)
  have h2 : (10 : Nat) ^ m ≤ 10 ^ 59 := Nat.pow_le_pow_right (by decide) (by omega)
  have e : ((10 ^ m : Nat) : Int) = (10 : Int) ^ m := by rw [Int.natCast_pow]; rfl
  rw [← e]
  omega
theorem numG_ok {c : Int} {k : Nat} : okN k (numG c k) := by
  unfold okN numG
  dsimp only
  by_cases h1 : k = 114
  · rw [if_pos h1, if_pos h1]; omega
  rw [if_neg h1, if_neg h1]
  obtain ⟨hl1, hl2⟩ := pow_60 (m := (c / 3 % 60).toNat) (by omega)
  generalize (10 : Int) ^ (c / 3 % 60).toNat = l at *
  have hm0 := Int.emod_nonneg (c / 180) (show l * 9 ≠ 0 by omega)
  have hm1 := Int.emod_lt_of_pos (c / 180) (show 0 < l * 9 by omega)
  generalize c / 180 % (l * 9) = z at *
  have hn : 0 ≤ (if c % 3 = 0 then l else if c % 3 = 1 then l * 10 - 1 else l + z) ∧ (if c % 3 = 0 then l else if c % 3 = 1 then l * 10 - 1 else l + z) < 10 ^ 60 := by
    split
    · omega
    · split <;> omega
  generalize (if c % 3 = 0 then l else if c % 3 = 1 then l * 10 - 1 else l + z) = n at *
  by_cases h2 : k = 118
  · rw [if_pos h2]
    split
    · decide
    · split <;> omega
  · rw [if_neg h2]
    split
    · decide
    · rw [if_neg (fun z => h2 z.1)]
      exact hn
/-! ### a deed of a form and its words -/
def tailD (i : Nat) : List V := if fmW i = "lay" ∧ (fmK i).length = 4 then [V.non, V.int 0] else []
def dd (i : Nat) (f : Nat → Int) : List V := V.str (fmW i) :: ((List.range (fmK i).length).map fun j => V.int (f j)) ++ tailD i
def wsD (i : Nat) (f : Nat → Int) : List Str := fmW i :: (List.range (fmK i).length).map fun j => wrt ((tl (fmK i)).getD j 0) (f j)
abbrev fOk (i : Nat) (f : Nat → Int) : Prop := ∀ j < (fmK i).length, okN ((tl (fmK i)).getD j 0) (f j)
theorem rt_at : ∀ i < 15, ∀ j < 6, j < (fmK i).length → (decide ((tl (fmK i)).getD j 0 = 114) = (decide (j = 3) && decide (fmW i ∈ [Str.ofString "lay", Str.ofString "guard"]))) := by decide +kernel
theorem fm_lay : ∀ i < 15, (fmW i = Str.ofString "lay" ↔ i = 5 ∨ i = 6) := by decide +kernel
theorem tailD_no {i : Nat} (hi : i < 15) (h : i ≠ 5) : tailD i = [] := by
  have : ∀ i < 15, i ≠ 5 → ¬ (fmW i = "lay" ∧ (fmK i).length = 4) := by decide +kernel
  unfold tailD
  rw [if_neg (this i hi h)]
theorem dd_at {i : Nat} {f : Nat → Int} {j : Nat} (hj : j < (fmK i).length) : (dd i f)[j + 1]? = some (V.int (f j)) := by
  unfold dd
  rw [List.cons_append, List.getElem?_cons_succ, List.getElem?_append_left (by simp; omega)]
  simp [hj]
theorem dd_flat {i : Nat} {f : Nat → Int} (hi : i < 15) : ∀ x ∈ dd i f, flatW x := by
  have h1 : ∀ i < 15, PyData.strOk (fmW i) = true := by decide +kernel
  intro x hx
  unfold dd at hx
  rcases List.mem_append.mp hx with hx | hx
  · rcases List.mem_cons.mp hx with rfl | hx
    · exact h1 i hi
    · obtain ⟨j, _, rfl⟩ := List.mem_map.mp hx
      trivial
  · unfold tailD at hx
    split at hx
    · simp at hx
      rcases hx with rfl | rfl <;> trivial
    · cases hx
theorem wsD_len {i : Nat} {f : Nat → Int} : (wsD i f).length = (fmK i).length + 1 := by unfold wsD; simp
theorem wsD_at {i : Nat} {f : Nat → Int} {j : Nat} (hj : j < (fmK i).length) : (wsD i f)[j + 1]? = some (wrt ((tl (fmK i)).getD j 0) (f j)) := by
  unfold wsD
  rw [List.getElem?_cons_succ]
  simp [hj]
theorem take_next {α : Type} {l : List α} {k : Nat} {x : α} (h : l[k]? = some x) : l.take (k + 1) = l.take k ++ [x] := by
  rw [List.take_succ, h]; rfl
theorem join_snoc {z : Str} : ∀ {l : List Str} {w : Str}, l ≠ [] → Txt.join z (l ++ [w]) = Txt.join z l ++ z ++ w := by
  have : ∀ {l : List Str} {w : Str}, l ≠ [] → Str.join z (l ++ [w]) = Str.join z l ++ z ++ w := by
    intro l w h
    induction l with
    | nil => exact absurd rfl h
    | cons a l ih =>
      cases l with
      | nil => rfl
      | cons b l =>
        have ih := ih (by simp)
        show a ++ z ++ Str.join z (b :: (l ++ [w])) = a ++ z ++ Str.join z (b :: l) ++ z ++ w
        rw [show b :: (l ++ [w]) = (b :: l) ++ [w] from rfl, ih]
        exact str_ext (by simp only [tl_app, List.append_assoc])
  intro l w h
  show Builtin.Str.glued z (l ++ [w]) = Builtin.Str.glued z l ++ z ++ w
  rw [StrLaws.glued_eq_join, StrLaws.glued_eq_join, this h]
theorem join_one {z w : Str} : Txt.join z [w] = w := by
  show Builtin.Str.glued z [w] = w
  rw [StrLaws.glued_eq_join]; rfl
/-- the two signs of rights, one by one -/
theorem rtS_two {n : Int} (h0 : 0 ≤ n) (h1 : n ≤ 3) : ∃ a b, atI (Str.ofString "-r").cps.toList (n % 2) = some a ∧ atI (Str.ofString "-w").cps.toList (n / 2) = some b ∧ rtS n = ⟨#[a, b]⟩ := by
  have h : n = 0 ∨ n = 1 ∨ n = 2 ∨ n = 3 := by omega
  rcases h with rfl | rfl | rfl | rfl
  · exact ⟨45, 45, by decide +kernel, by decide +kernel, by decide +kernel⟩
  · exact ⟨114, 45, by decide +kernel, by decide +kernel, by decide +kernel⟩
  · exact ⟨45, 119, by decide +kernel, by decide +kernel, by decide +kernel⟩
  · exact ⟨114, 119, by decide +kernel, by decide +kernel, by decide +kernel⟩
theorem cutV_to {xs : List V} (k : Nat) : cutV xs none (some (k : Int)) = xs.take k := cutI_to (xs := xs) k
def fvO (i : Nat) (f : Nat → Int) : Option Nat → V
  | none => .str (fmW i)
  | some j => .int (f j)
def w0 (i : Nat) : List (Option Nat) := none :: (List.range (fmK i).length).map some
theorem w0_map {i : Nat} {f : Nat → Int} : (w0 i).map (fvO i f) = V.str (fmW i) :: (List.range (fmK i).length).map fun j => V.int (f j) := by
  unfold w0
  rw [List.map_cons, List.map_map]
  rfl
theorem w0_at {i k : Nat} {x : Option Nat} {r : List (Option Nat)} (h : (w0 i).drop k = x :: r) : (w0 i).drop (k + 1) = r ∧ ((k = 0 ∧ x = none) ∨ ∃ j, k = j + 1 ∧ x = some j ∧ j < (fmK i).length) := by
  refine ⟨by rw [← List.drop_drop, h]; rfl, ?_⟩
  have h2 : (w0 i)[k]? = some x := by
    have := congrArg List.head? h
    rw [List.head?_drop] at this
    simpa using this
  cases k with
  | zero => left; exact ⟨rfl, (Option.some.inj h2).symm⟩
  | succ j =>
    right
    unfold w0 at h2
    rw [List.getElem?_cons_succ, List.getElem?_map] at h2
    obtain ⟨y, h3, h4⟩ := Option.map_eq_some_iff.mp h2
    have hj : j < (fmK i).length := by
      have := (List.getElem?_eq_some_iff.mp h3).1
      simpa using this
    rw [List.getElem?_range hj] at h3
    cases h3
    exact ⟨j, rfl, h4.symm, hj⟩
end Fl
set_option hygiene false
namespace Fl
open PySem L2
/-! the text by places -/
def top (i : Nat) : Stmt := PySem.Challenge.pw_frameland_k96_rows_shown.main.body.getD i (.Pass ⟨0, 0, 0, 0⟩)
abbrev s_read_number : Stmt := top 7
abbrev N_read_number : List Str := ["word", "sign"]
theorem sc_read_number : FnScope N_read_number ["word"] (defScope s_read_number) := ⟨rfl, rfl, rfl, by decide +kernel, rfl, by decide +kernel, by decide +kernel⟩
abbrev s_read_value : Stmt := top 8
abbrev N_read_value : List Str := ["word", "number"]
theorem sc_read_value : FnScope N_read_value ["word"] (defScope s_read_value) := ⟨rfl, rfl, rfl, by decide +kernel, rfl, by decide +kernel, by decide +kernel⟩
abbrev s_read_rights : Stmt := top 9
abbrev N_read_rights : List Str := ["word"]
theorem sc_read_rights : FnScope N_read_rights ["word"] (defScope s_read_rights) := ⟨rfl, rfl, rfl, by decide +kernel, rfl, by decide +kernel, by decide +kernel⟩
abbrev s_show_rights : Stmt := top 10
abbrev N_show_rights : List Str := ["rights"]
theorem sc_show_rights : FnScope N_show_rights ["rights"] (defScope s_show_rights) := ⟨rfl, rfl, rfl, by decide +kernel, rfl, by decide +kernel, by decide +kernel⟩
abbrev s_read_row : Stmt := top 11
abbrev N_read_row : List Str := ["text", "words", "kinds", "deed", "word", "kind"]
theorem sc_read_row : FnScope N_read_row ["text"] (defScope s_read_row) := ⟨rfl, rfl, rfl, by decide +kernel, rfl, by decide +kernel, by decide +kernel⟩
abbrev s_show_row : Stmt := top 12
abbrev N_show_row : List Str := ["deed", "parts", "words", "k", "part"]
theorem sc_show_row : FnScope N_show_row ["deed"] (defScope s_show_row) := ⟨rfl, rfl, rfl, by decide +kernel, rfl, by decide +kernel, by decide +kernel⟩
abbrev s_L_cell_at : Stmt := top 14
abbrev N_L_cell_at : List Str := ["_law_script", "_law_k"]
theorem sc_L_cell_at : FnScope N_L_cell_at ["_law_script", "_law_k"] (defScope s_L_cell_at) := ⟨rfl, rfl, rfl, by decide +kernel, rfl, by decide +kernel, by decide +kernel⟩
abbrev s_L_form : Stmt := top 15
abbrev N_L_form : List Str := ["_law_cell", "_law_forms"]
theorem sc_L_form : FnScope N_L_form ["_law_cell"] (defScope s_L_form) := ⟨rfl, rfl, rfl, by decide +kernel, rfl, by decide +kernel, by decide +kernel⟩
abbrev s_L_number : Stmt := top 16
abbrev N_L_number : List Str := ["_law_cell", "_law_kind", "_law_least", "_law_k", "_law_number_here"]
theorem sc_L_number : FnScope N_L_number ["_law_cell", "_law_kind"] (defScope s_L_number) := ⟨rfl, rfl, rfl, by decide +kernel, rfl, by decide +kernel, by decide +kernel⟩
abbrev s_L_figures : Stmt := top 17
abbrev N_L_figures : List Str := ["_law_number_here", "_law_written", "_law_rest"]
theorem sc_L_figures : FnScope N_L_figures ["_law_number_here"] (defScope s_L_figures) := ⟨rfl, rfl, rfl, by decide +kernel, rfl, by decide +kernel, by decide +kernel⟩
abbrev s_L_shown : Stmt := top 18
abbrev N_L_shown : List Str := ["_law_deed", "_law_kinds", "_law_written", "_law_k", "_law_part"]
theorem sc_L_shown : FnScope N_L_shown ["_law_deed", "_law_kinds"] (defScope s_L_shown) := ⟨rfl, rfl, rfl, by decide +kernel, rfl, by decide +kernel, by decide +kernel⟩
abbrev s_law : Stmt := top 19
abbrev N_law : List Str := ["_law_script", "_law_deeds", "_law_at", "_law_word", "_law_kinds", "_law_deed", "_law_k", "_law_shown_here"]
theorem sc_law : FnScope N_law ["_law_script"] (defScope s_law) := ⟨rfl, rfl, rfl, by decide +kernel, rfl, by decide +kernel, by decide +kernel⟩
abbrev kv_WORDS : List (Key × V) := [((Sum.inr "new" : Key), V.str ""), ((Sum.inr "fork" : Key), V.str "n"), ((Sum.inr "end" : Key), V.str "n"), ((Sum.inr "bank" : Key), V.str "n"), ((Sum.inr "drop" : Key), V.str "n"), ((Sum.inr "lay" : Key), V.str "nnnr"), ((Sum.inr "lift" : Key), V.str "nnn"), ((Sum.inr "guard" : Key), V.str "nnnr"), ((Sum.inr "read" : Key), V.str "nn"), ((Sum.inr "write" : Key), V.str "nnv"), ((Sum.inr "fold" : Key), V.str ""), ((Sum.inr "see" : Key), V.str "nn"), ((Sum.inr "laid" : Key), V.str "n"), ((Sum.inr "live" : Key), V.str "")]
set_option genInjectivity false in
set_option genSizeOf false in
set_option genSizeOfSpec false in
structure Txt (w : World) (K : PySem.W.Frag) (mg : Str → Option Value) where
  C_FrameError : Addr
  mg_FrameError : mg "FrameError" = some (.ref C_FrameError)
  C_NoRow : Addr
  mg_NoRow : mg "NoRow" = some (.ref C_NoRow)
  f_read_number : Addr
  fd_read_number : FuncData
  F_read_number : Fun K "read_number" "read_number" s_read_number f_read_number fd_read_number
  kp_read_number : PySem.W.keepIn K (.ref f_read_number) = true
  b_read_number_1 : Binds K fd_read_number ["word"] []
  mg_read_number : mg "read_number" = some (.ref f_read_number)
  f_read_value : Addr
  fd_read_value : FuncData
  F_read_value : Fun K "read_value" "read_value" s_read_value f_read_value fd_read_value
  kp_read_value : PySem.W.keepIn K (.ref f_read_value) = true
  b_read_value_1 : Binds K fd_read_value ["word"] []
  mg_read_value : mg "read_value" = some (.ref f_read_value)
  f_read_rights : Addr
  fd_read_rights : FuncData
  F_read_rights : Fun K "read_rights" "read_rights" s_read_rights f_read_rights fd_read_rights
  kp_read_rights : PySem.W.keepIn K (.ref f_read_rights) = true
  b_read_rights_1 : Binds K fd_read_rights ["word"] []
  mg_read_rights : mg "read_rights" = some (.ref f_read_rights)
  f_show_rights : Addr
  fd_show_rights : FuncData
  F_show_rights : Fun K "show_rights" "show_rights" s_show_rights f_show_rights fd_show_rights
  kp_show_rights : PySem.W.keepIn K (.ref f_show_rights) = true
  b_show_rights_1 : Binds K fd_show_rights ["rights"] []
  mg_show_rights : mg "show_rights" = some (.ref f_show_rights)
  f_read_row : Addr
  fd_read_row : FuncData
  F_read_row : Fun K "read_row" "read_row" s_read_row f_read_row fd_read_row
  kp_read_row : PySem.W.keepIn K (.ref f_read_row) = true
  b_read_row_1 : Binds K fd_read_row ["text"] []
  mg_read_row : mg "read_row" = some (.ref f_read_row)
  f_show_row : Addr
  fd_show_row : FuncData
  F_show_row : Fun K "show_row" "show_row" s_show_row f_show_row fd_show_row
  kp_show_row : PySem.W.keepIn K (.ref f_show_row) = true
  b_show_row_1 : Binds K fd_show_row ["deed"] []
  mg_show_row : mg "show_row" = some (.ref f_show_row)
  f_L_cell_at : Addr
  fd_L_cell_at : FuncData
  F_L_cell_at : Fun K "_law_cell_at" "_law_cell_at" s_L_cell_at f_L_cell_at fd_L_cell_at
  kp_L_cell_at : PySem.W.keepIn K (.ref f_L_cell_at) = true
  b_L_cell_at_2 : Binds K fd_L_cell_at ["_law_script", "_law_k"] []
  mg_L_cell_at : mg "_law_cell_at" = some (.ref f_L_cell_at)
  f_L_form : Addr
  fd_L_form : FuncData
  F_L_form : Fun K "_law_form" "_law_form" s_L_form f_L_form fd_L_form
  kp_L_form : PySem.W.keepIn K (.ref f_L_form) = true
  b_L_form_1 : Binds K fd_L_form ["_law_cell"] []
  mg_L_form : mg "_law_form" = some (.ref f_L_form)
  f_L_number : Addr
  fd_L_number : FuncData
  F_L_number : Fun K "_law_number" "_law_number" s_L_number f_L_number fd_L_number
  kp_L_number : PySem.W.keepIn K (.ref f_L_number) = true
  b_L_number_2 : Binds K fd_L_number ["_law_cell", "_law_kind"] []
  mg_L_number : mg "_law_number" = some (.ref f_L_number)
  f_L_figures : Addr
  fd_L_figures : FuncData
  F_L_figures : Fun K "_law_figures" "_law_figures" s_L_figures f_L_figures fd_L_figures
  kp_L_figures : PySem.W.keepIn K (.ref f_L_figures) = true
  b_L_figures_1 : Binds K fd_L_figures ["_law_number_here"] []
  mg_L_figures : mg "_law_figures" = some (.ref f_L_figures)
  f_L_shown : Addr
  fd_L_shown : FuncData
  F_L_shown : Fun K "_law_shown" "_law_shown" s_L_shown f_L_shown fd_L_shown
  kp_L_shown : PySem.W.keepIn K (.ref f_L_shown) = true
  b_L_shown_2 : Binds K fd_L_shown ["_law_deed", "_law_kinds"] []
  mg_L_shown : mg "_law_shown" = some (.ref f_L_shown)
  f_law : Addr
  fd_law : FuncData
  F_law : Fun K "law" "law" s_law f_law fd_law
  kp_law : PySem.W.keepIn K (.ref f_law) = true
  b_law_1 : Binds K fd_law ["_law_script"] []
  mg_law : mg "law" = some (.ref f_law)
  bt_law : ∀ (s : Shared) (v : Value), BindsTo s fd_law ⟨[v], []⟩ [("_law_script", v)]
  xx_NoRow : PySem.W.excIn K C_NoRow [.type "ValueError", .type "Exception", .type "BaseException", .type "object"] "ValueError.__new__" = true
  xk_NoRow : PySem.W.keepIn K (.ref C_NoRow) = true
  xb_NoRow : PySem.W.subIn K (.ref C_NoRow) (.type "BaseException") = some true
  xt_NoRow : PySem.W.typeIn K (.ref C_NoRow) = some (.type "type")
  z_abs : mg "abs" = none
  z_enumerate : mg "enumerate" = none
  z_int : mg "int" = none
  z_isinstance : mg "isinstance" = none
  z_len : mg "len" = none
  z_list : mg "list" = none
  z_min : mg "min" = none
  z_range : mg "range" = none
  z_str : mg "str" = none
  z_tuple : mg "tuple" = none
  z_zip : mg "zip" = none
  tk_FIGURES : Tok
  g_FIGURES : mg "FIGURES" = some (.str "0123456789" tk_FIGURES)
  tk_MOST_FIGURES : Tok
  g_MOST_FIGURES : mg "MOST_FIGURES" = some (.int 60 tk_MOST_FIGURES)
  d_WORDS : Addr
  mgd_WORDS : mg "WORDS" = some (.ref d_WORDS)
  sd_WORDS : L2.DX.StatD w K d_WORDS kv_WORDS
set_option hygiene false
local macro_rules | `(tactic| walk_at "nS") => `(tactic| (clear S; (try clear H); rename Star _ _ => S; rename Hp => H))
local macro_rules | `(tactic| walk_at "len") => `(tactic| (intro h; first | (obtain ⟨e, _⟩ := h; subst e; rfl) | (obtain ⟨_, e, _⟩ := h; subst e; rfl) | (obtain ⟨_, _, e, _⟩ := h; subst e; rfl) | (obtain ⟨_, _, _, e, _⟩ := h; subst e; rfl) | (obtain ⟨_, _, _, _, e, _⟩ := h; subst e; rfl) | (obtain ⟨_, _, _, _, _, e, _⟩ := h; subst e; rfl) | (obtain ⟨_, _, _, _, _, _, e, _⟩ := h; subst e; rfl) | (obtain ⟨_, _, _, _, _, _, _, e, _⟩ := h; subst e; rfl) | (obtain ⟨_, _, _, _, _, _, _, _, e, _⟩ := h; subst e; rfl) | (obtain ⟨_, _, _, _, _, _, _, _, _, e, _⟩ := h; subst e; rfl) | (obtain ⟨_, _, _, _, _, _, _, _, _, _, e, _⟩ := h; subst e; rfl) | (obtain ⟨_, _, _, _, _, _, _, _, _, _, _, e, _⟩ := h; subst e; rfl) | (obtain ⟨_, _, _, _, _, _, _, _, _, _, _, _, e, _⟩ := h; subst e; rfl) | (obtain ⟨_, _, _, _, _, _, _, _, _, _, _, _, _, e, _⟩ := h; subst e; rfl) | (obtain ⟨_, _, _, _, _, _, _, _, _, _, _, _, _, _, e, _⟩ := h; subst e; rfl) | (obtain ⟨_, _, _, _, _, _, _, _, _, _, _, _, _, _, _, e, _⟩ := h; subst e; rfl) | (obtain ⟨_, _, _, _, _, _, _, _, _, _, _, _, _, _, _, _, e, _⟩ := h; subst e; rfl) | (obtain ⟨_, _, _, _, _, _, _, _, _, _, _, _, _, _, _, _, _, e, _⟩ := h; subst e; rfl) | (obtain ⟨_, _, _, _, _, _, _, _, _, _, _, _, _, _, _, _, _, _, e, _⟩ := h; subst e; rfl) | (obtain ⟨_, _, _, _, _, _, _, _, _, _, _, _, _, _, _, _, _, _, _, e, _⟩ := h; subst e; rfl) | (obtain ⟨_, _, _, _, _, _, _, _, _, _, _, _, _, _, _, _, _, _, _, _, e, _⟩ := h; subst e; rfl) | (obtain ⟨_, _, _, _, _, _, _, _, _, _, _, _, _, _, _, _, _, _, _, _, _, e, _⟩ := h; subst e; rfl) | (obtain ⟨_, _, _, _, _, _, _, _, _, _, _, _, _, _, _, _, _, _, _, _, _, _, e, _⟩ := h; subst e; rfl) | (obtain ⟨_, _, _, _, _, _, _, _, _, _, _, _, _, _, _, _, _, _, _, _, _, _, _, e, _⟩ := h; subst e; rfl) | (obtain ⟨_, _, _, _, _, _, _, _, _, _, _, _, _, _, _, _, _, _, _, _, _, _, _, _, e, _⟩ := h; subst e; rfl) | (obtain ⟨_, _, _, _, _, _, _, _, _, _, _, _, _, _, _, _, _, _, _, _, _, _, _, _, _, e, _⟩ := h; subst e; rfl) | (obtain ⟨_, _, _, _, _, _, _, _, _, _, _, _, _, _, _, _, _, _, _, _, _, _, _, _, _, _, e, _⟩ := h; subst e; rfl) | (obtain ⟨_, _, _, _, _, _, _, _, _, _, _, _, _, _, _, _, _, _, _, _, _, _, _, _, _, _, _, e, _⟩ := h; subst e; rfl) | (obtain ⟨_, _, _, _, _, _, _, _, _, _, _, _, _, _, _, _, _, _, _, _, _, _, _, _, _, _, _, _, e, _⟩ := h; subst e; rfl) | (obtain ⟨_, _, _, _, _, _, _, _, _, _, _, _, _, _, _, _, _, _, _, _, _, _, _, _, _, _, _, _, _, e, _⟩ := h; subst e; rfl)))
local macro_rules | `(tactic| walk_at "P") => `(tactic| ((with_reducible (repeat (first | apply Pull.here | apply Pull.there))); (first | done | fail "left")))
local macro_rules | `(tactic| walk_at "K") => `(tactic| ((refine Star.keep S ?_; repeat (first | (with_reducible apply Keep.refl) | apply Keep.nil | refine Keep.cons (by (((with_reducible (repeat (first | apply Pull.here | apply Pull.there))); (first | done | fail "left")))) ?_ | apply Keep.drop)); (first | done | fail "left")))
local macro_rules | `(tactic| walk_at "set") => `(tactic| ((try simp only [List.set_cons_zero, List.set_cons_succ]); exact rfl))
local macro_rules | `(tactic| walk_at "pre") => `(tactic| first | exact True.intro | assumption | omega | (simp only [List.length_nil, Nat.zero_le]; done) | ((repeat' apply And.intro) <;> first | assumption | omega | (simp only [List.length_nil, Nat.zero_le]; done) | exact True.intro | (intro _; first | exact True.intro | omega)))
local macro_rules | `(tactic| walk_at "cl") => `(tactic| fail "no call")
local macro_rules | `(tactic| walk_at "pd") => `(tactic| first | rfl | assumption)
local macro_rules | `(tactic| walk_at "mt") => `(tactic| fail "no method")
local macro_rules | `(tactic| walk_at "tn") => `(tactic| ((try simp only [Int.toNat_natCast, Int.reduceToNat, Int.sub_zero, Int.reduceSub]); exact rfl))
local macro_rules | `(tactic| walk_at "lit") => `(tactic| (simp only [Int.reduceToNat, Int.reducePow, Int.reduceMul]; exact rfl))
local macro_rules | `(tactic| walk_at "un") => `(tactic| ((with_reducible refine grpFl ?_); first
  | (with_reducible refine fl_id (by walk_at "G") ?_)
  | (with_reducible refine fl_nil (by walk_at "G") ?_)
  | (refine fl_more (rgV_more (by simp only [Int.reduceAdd]; exact rfl)) (by walk_at "G") ?_)
  | (refine fl_nil (by walk_at "G") ?_)))
local macro_rules | `(tactic| walk_at "num") => `(tactic| first | assumption | omega | exact cdiv_ok (by omega) (by omega) | exact ⟨by decide, by decide +kernel⟩ | exact ⟨by decide, by decide, by decide⟩ | exact ⟨by omega, by omega, by decide⟩ | exact .inl ⟨by decide, by decide⟩ | exact .inr ⟨by decide, by decide⟩ | exact .inl ⟨by omega, by omega⟩ | exact .inr ⟨by omega, by omega⟩)
local macro_rules | `(tactic| walk_at "sz") => `(tactic| (refine Evl.sz_lt ?_; (try simp only [List.length_append, List.length_cons, List.length_nil, List.length_map, List.length_range]); omega))
local macro_rules | `(tactic| walk_at "app") => `(tactic| ((try simp only [List.nil_append, List.cons_append]); exact rfl))
local macro_rules | `(tactic| walk_at "sz2") => `(tactic| (refine Evl.sz_of ?_; (try simp only [List.length_append, List.length_cons, List.length_nil, List.length_map, List.length_range]); omega))
local macro_rules | `(tactic| walk_at "len2") => `(tactic| ((try simp only [List.length_append, List.length_cons, List.length_nil, List.length_map, List.length_range]); omega))
local macro_rules | `(tactic| walk_at "G") => `(tactic| first | exact gA | exact gL S (by (((with_reducible (repeat (first | apply Pull.here | apply Pull.there))); (first | done | fail "left")))) | exact gLs S (by (((with_reducible (repeat (first | apply Pull.here | apply Pull.there))); (first | done | fail "left")))) | exact gT S (by (((with_reducible (repeat (first | apply Pull.here | apply Pull.there))); (first | done | fail "left")))) | exact gF S (by (((with_reducible (repeat (first | apply Pull.here | apply Pull.there))); (first | done | fail "left")))))
local macro_rules | `(tactic| walk_at "bd") => `(tactic| ((simp only [Bool.and_eq_true, Bool.or_eq_true, Bool.and_eq_false_iff, Bool.or_eq_false_iff, Bool.not_eq_true', Bool.not_eq_false', decide_eq_true_eq, decide_eq_false_iff_not, Bool.not_true, Bool.not_false]); (first | done | omega)))
local macro_rules | `(tactic| walk_at "sp") => `(tactic| (refine if_b (fun h => ?_) (fun h => ?_) <;> (try simp only [Bool.and_eq_true, Bool.or_eq_true, Bool.and_eq_false_iff, Bool.or_eq_false_iff, Bool.not_eq_true', Bool.not_eq_false', decide_eq_true_eq, decide_eq_false_iff_not, Bool.not_true, Bool.not_false] at h)))
local macro_rules | `(tactic| walk_at "ixn") => `(tactic| first | assumption | exact ixN_set (by omega) (by omega))
local macro_rules | `(tactic| walk_at "dl") => `(tactic| ((try simp only [dmI_len, dmB_len, List.length_nil]); first | assumption | omega))
local macro_rules | `(tactic| walk_at "few") => `(tactic| (simp only [List.length_cons, List.length_nil]; omega))
local macro_rules | `(tactic| walk_at "sl") => `(tactic| (simp only [cutV, HT.sIx, List.length_cons, List.length_nil, List.drop_zero, List.drop_succ_cons, Nat.reduceAdd, Int.reduceLT, ↓reduceIte, Int.reduceToNat, Nat.min_def, Nat.reduceLeDiff, Nat.sub_zero, Nat.reduceSub, List.take_succ_cons, List.take_zero, List.take_nil]; exact rfl))
local macro_rules | `(tactic| walk_at "lk") => `(tactic| (first | exact rfl | with_unfolding_all rfl))
local macro_rules | `(tactic| walk_at "pf") => `(tactic| (first | exact rfl | with_unfolding_all rfl))
local macro_rules | `(tactic| walk_at "ln") => `(tactic| ((try simp only [List.length_map, List.length_cons, List.length_nil, List.length_append, List.length_replicate, List.length_range, rgV_len, List.length_reverse, enums_len, List.length_set, Nat.reduceAdd, Nat.zero_add]); exact rfl))
local macro_rules | `(tactic| walk_at "wp") => `(tactic| ((try simp only [wipe, List.map_cons, List.map_nil, List.set_cons_zero, List.set_cons_succ]); exact rfl))
local macro_rules | `(tactic| walk_at "st") => `(tactic| first
  | (with_reducible refine Stp.go ?_)
  | ((with_reducible refine grp 3 ?_); first
      | (walk_at "cl")
      | (with_reducible refine c_word S (by constructor) (fun H2 S2 => ?_); ((clear S; (try clear H); rename Star _ _ => S; rename Hp => H)))
      | ((with_reducible apply kCall_ex); (walk_at "cl"))
      | (with_reducible refine r_kMk S (fun no ndx H2 S2 => ?_); ((clear S; (try clear H); rename Star _ _ => S; rename Hp => H)))
      | (fail "none"))
  | ((with_reducible refine grp 4 ?_); first
      | ((with_reducible refine grp 128 ?_); first
        | (with_reducible refine len_lstH (by assumption) (by assumption) ?_)
        | (with_reducible refine len_tupH (by assumption) (by assumption) ?_)
        | (with_reducible refine r_lenLA S (by (((with_reducible (repeat (first | apply Pull.here | apply Pull.there))); (first | done | fail "left")))) ?_)
        | (with_reducible refine r_lenScr S (by (((with_reducible (repeat (first | apply Pull.here | apply Pull.there))); (first | done | fail "left")))) ?_)
        | (refine r_lenL S (by (((with_reducible (repeat (first | apply Pull.here | apply Pull.there))); (first | done | fail "left")))) (by (((try simp only [List.length_map, List.length_cons, List.length_nil, List.length_append, List.length_replicate, List.length_range, rgV_len, List.length_reverse, enums_len, List.length_set, Nat.reduceAdd, Nat.zero_add]); exact rfl))) ?_)
        | (refine r_lenT S (by (((with_reducible (repeat (first | apply Pull.here | apply Pull.there))); (first | done | fail "left")))) (by (((try simp only [List.length_map, List.length_cons, List.length_nil, List.length_append, List.length_replicate, List.length_range, rgV_len, List.length_reverse, enums_len, List.length_set, Nat.reduceAdd, Nat.zero_add]); exact rfl))) ?_)
        | (fail "none"))
      | ((with_reducible refine grp 111 ?_); first
        | (with_reducible refine r_kBML S (by (((with_reducible (repeat (first | apply Pull.here | apply Pull.there))); (first | done | fail "left")))) ?_)
        | (with_reducible refine r_kBMLA S (by (((with_reducible (repeat (first | apply Pull.here | apply Pull.there))); (first | done | fail "left")))) ?_)
        | (with_reducible refine r_kBMT S (by (((with_reducible (repeat (first | apply Pull.here | apply Pull.there))); (first | done | fail "left")))) ?_)
        | (fail "none"))
      | ((with_reducible refine grp 112 ?_); first
        | (with_reducible refine r_appMk S (by (((with_reducible (repeat (first | apply Pull.here | apply Pull.there))); (first | done | fail "left")))) (by (((with_reducible (repeat (first | apply Pull.here | apply Pull.there))); (first | done | fail "left")))) (by (((try simp only [List.length_append, List.length_cons, List.length_nil, List.length_map, List.length_range]); omega))) (fun H2 S2 => ?_); ((clear S; (try clear H); rename Star _ _ => S; rename Hp => H)))
        | (with_reducible refine r_appLA S (by (((with_reducible (repeat (first | apply Pull.here | apply Pull.there))); (first | done | fail "left")))) (by (((with_reducible (repeat (first | apply Pull.here | apply Pull.there))); (first | done | fail "left")))) (by (((try simp only [List.length_append, List.length_cons, List.length_nil, List.length_map, List.length_range]); omega))) (fun H2 S2 => ?_); ((clear S; (try clear H); rename Star _ _ => S; rename Hp => H)))
        | (with_reducible refine r_appendI S (by (((with_reducible (repeat (first | apply Pull.here | apply Pull.there))); (first | done | fail "left")))) (by (((try simp only [List.length_append, List.length_cons, List.length_nil, List.length_map, List.length_range]); omega))) (fun H2 S2 => ?_); ((clear S; (try clear H); rename Star _ _ => S; rename Hp => H)))
        | (refine r_append S (by (((with_reducible (repeat (first | apply Pull.here | apply Pull.there))); (first | done | fail "left")))) (by ((refine Evl.sz_lt ?_; (try simp only [List.length_append, List.length_cons, List.length_nil, List.length_map, List.length_range]); omega))) (by (((try simp only [List.nil_append, List.cons_append]); exact rfl))) (fun H2 S2 => ?_); ((clear S; (try clear H); rename Star _ _ => S; rename Hp => H)))
        | (fail "none"))
      | ((with_reducible refine grp 113 ?_); first
        | (with_reducible refine r_extLD S (by (((with_reducible (repeat (first | apply Pull.here | apply Pull.there))); (first | done | fail "left")))) (by (((with_reducible (repeat (first | apply Pull.here | apply Pull.there))); (first | done | fail "left")))) (by (((try simp only [List.length_append, List.length_cons, List.length_nil, List.length_map, List.length_range]); omega))) (fun H2 S2 => ?_); ((clear S; (try clear H); rename Star _ _ => S; rename Hp => H)))
        | (with_reducible refine r_extLA S (by (((with_reducible (repeat (first | apply Pull.here | apply Pull.there))); (first | done | fail "left")))) (by (((with_reducible (repeat (first | apply Pull.here | apply Pull.there))); (first | done | fail "left")))) (by (((try simp only [List.length_append, List.length_cons, List.length_nil, List.length_map, List.length_range]); omega))) (fun H2 S2 => ?_); ((clear S; (try clear H); rename Star _ _ => S; rename Hp => H)))
        | (fail "none"))
      | ((with_reducible refine grp 114 ?_); first
        | (with_reducible refine r_pop S (by (((with_reducible (repeat (first | apply Pull.here | apply Pull.there))); (first | done | fail "left")))) (by assumption) (fun H2 S2 => ?_); ((clear S; (try clear H); rename Star _ _ => S; rename Hp => H)))
        | (fail "none"))
      | ((with_reducible refine grp 119 ?_); first
        | (with_reducible refine r_clistLA S (by (((with_reducible (repeat (first | apply Pull.here | apply Pull.there))); (first | done | fail "left")))) (fun nq H2 S2 => ?_); ((clear S; (try clear H); rename Star _ _ => S; rename Hp => H)))
        | (with_reducible refine r_clistL S (by (((with_reducible (repeat (first | apply Pull.here | apply Pull.there))); (first | done | fail "left")))) (fun nq H2 S2 => ?_); ((clear S; (try clear H); rename Star _ _ => S; rename Hp => H)))
        | (with_reducible refine r_clistT S (by (((with_reducible (repeat (first | apply Pull.here | apply Pull.there))); (first | done | fail "left")))) (fun nq H2 S2 => ?_); ((clear S; (try clear H); rename Star _ _ => S; rename Hp => H)))
        | (fail "none"))
      | ((with_reducible refine grp 194 ?_); first
        | (with_reducible refine r_inTI S (by (((with_reducible (repeat (first | apply Pull.here | apply Pull.there))); (first | done | fail "left")))) ?_)
        | (fail "none"))
      | ((with_reducible refine grp 122 ?_); first
        | (with_reducible refine r_ixLF S (by (((with_reducible (repeat (first | apply Pull.here | apply Pull.there))); (first | done | fail "left")))) ?_)
        | (with_reducible refine r_ixPair S (by (((with_reducible (repeat (first | apply Pull.here | apply Pull.there))); (first | done | fail "left")))) (by assumption) (fun nT S2 => ?_); (clear S; rename Star _ _ => S))
        | (with_reducible refine r_ixLA S (by (((with_reducible (repeat (first | apply Pull.here | apply Pull.there))); (first | done | fail "left")))) (by first | assumption | exact nthA_c0 | exact nthA_c1) (fun nv S2 => ?_); (clear S; rename Star _ _ => S))
        | (with_reducible refine r_nthI S (by (((with_reducible (repeat (first | apply Pull.here | apply Pull.there))); (first | done | fail "left")))) (by assumption) ?_)
        | (with_reducible refine r_ixL S (by (((with_reducible (repeat (first | apply Pull.here | apply Pull.there))); (first | done | fail "left")))) (by with_unfolding_all rfl) ?_)
        | (fail "none"))
      | ((with_reducible refine grp 183 ?_); first
        | (with_reducible refine r_clearL S (by (((with_reducible (repeat (first | apply Pull.here | apply Pull.there))); (first | done | fail "left")))) (fun H2 S2 => ?_); ((clear S; (try clear H); rename Star _ _ => S; rename Hp => H)))
        | (with_reducible refine r_clearLA S (by (((with_reducible (repeat (first | apply Pull.here | apply Pull.there))); (first | done | fail "left")))) (fun H2 S2 => ?_); ((clear S; (try clear H); rename Star _ _ => S; rename Hp => H)))
        | (fail "none"))
      | ((with_reducible refine grp 116 ?_); first
        | (with_reducible refine r_slLA S (by (((with_reducible (repeat (first | apply Pull.here | apply Pull.there))); (first | done | fail "left")))) (fun nq H2 S2 => ?_); ((clear S; (try clear H); rename Star _ _ => S; rename Hp => H)))
        | (with_reducible refine r_slI S (by (((with_reducible (repeat (first | apply Pull.here | apply Pull.there))); (first | done | fail "left")))) (fun nq H2 S2 => ?_); ((clear S; (try clear H); rename Star _ _ => S; rename Hp => H)))
        | (with_reducible refine r_slL S (by (((with_reducible (repeat (first | apply Pull.here | apply Pull.there))); (first | done | fail "left")))) (fun nq H2 S2 => ?_); ((clear S; (try clear H); rename Star _ _ => S; rename Hp => H)))
        | (with_reducible refine r_slS S (by (((with_reducible (repeat (first | apply Pull.here | apply Pull.there))); (first | done | fail "left")))) (fun nq H2 S2 => ?_); ((clear S; (try clear H); rename Star _ _ => S; rename Hp => H)))
        | (fail "none"))
      | ((with_reducible refine grp 117 ?_); first
        | (with_reducible refine r_catLA S (by (((with_reducible (repeat (first | apply Pull.here | apply Pull.there))); (first | done | fail "left")))) (by (((with_reducible (repeat (first | apply Pull.here | apply Pull.there))); (first | done | fail "left")))) (by (((try simp only [List.length_append, List.length_cons, List.length_nil, List.length_map, List.length_range]); omega))) (fun nq H2 S2 => ?_); ((clear S; (try clear H); rename Star _ _ => S; rename Hp => H)))
        | (with_reducible refine r_catI S (by (((with_reducible (repeat (first | apply Pull.here | apply Pull.there))); (first | done | fail "left")))) (by (((with_reducible (repeat (first | apply Pull.here | apply Pull.there))); (first | done | fail "left")))) (by (((try simp only [List.length_append, List.length_cons, List.length_nil, List.length_map, List.length_range]); omega))) (fun nq H2 S2 => ?_); ((clear S; (try clear H); rename Star _ _ => S; rename Hp => H)))
        | (refine r_cat S (by (((with_reducible (repeat (first | apply Pull.here | apply Pull.there))); (first | done | fail "left")))) (by (((with_reducible (repeat (first | apply Pull.here | apply Pull.there))); (first | done | fail "left")))) (by ((refine Evl.sz_of ?_; (try simp only [List.length_append, List.length_cons, List.length_nil, List.length_map, List.length_range]); omega))) (fun nq H2 S2 => ?_); ((clear S; (try clear H); rename Star _ _ => S; rename Hp => H)))
        | (fail "none"))
      | ((with_reducible refine grp 115 ?_); first
        | (with_reducible refine r_revLA S (by (((with_reducible (repeat (first | apply Pull.here | apply Pull.there))); (first | done | fail "left")))) (fun H2 S2 => ?_); ((clear S; (try clear H); rename Star _ _ => S; rename Hp => H)))
        | (fail "none"))
      | ((with_reducible refine grp 126 ?_); first
        | (with_reducible refine r_kAppMk S (by (((with_reducible (repeat (first | apply Pull.here | apply Pull.there))); (first | done | fail "left")))) (by (((with_reducible (repeat (first | apply Pull.here | apply Pull.there))); (first | done | fail "left")))) (by (((try simp only [List.length_append, List.length_cons, List.length_nil, List.length_map, List.length_range]); omega))) (fun H2 S2 => ?_); ((clear S; (try clear H); rename Star _ _ => S; rename Hp => H)))
        | (refine r_app S (by (((with_reducible (repeat (first | apply Pull.here | apply Pull.there))); (first | done | fail "left")))) (by ((refine Evl.sz_lt ?_; (try simp only [List.length_append, List.length_cons, List.length_nil, List.length_map, List.length_range]); omega))) (fun H2 S2 => ?_); ((clear S; (try clear H); rename Star _ _ => S; rename Hp => H)))
        | (fail "none"))
      | ((with_reducible refine grp 184 ?_); first
        | (with_reducible refine r_slTup S (by (((with_reducible (repeat (first | apply Pull.here | apply Pull.there))); (first | done | fail "left")))) (by (((try simp only [List.length_map, List.length_cons, List.length_nil, List.length_append, List.length_replicate, List.length_range, rgV_len, List.length_reverse, enums_len, List.length_set, Nat.reduceAdd, Nat.zero_add]); exact rfl))) (by ((simp only [cutV, HT.sIx, List.length_cons, List.length_nil, List.drop_zero, List.drop_succ_cons, Nat.reduceAdd, Int.reduceLT, ↓reduceIte, Int.reduceToNat, Nat.min_def, Nat.reduceLeDiff, Nat.sub_zero, Nat.reduceSub, List.take_succ_cons, List.take_zero, List.take_nil]; exact rfl))) (by decide) (fun nT H2 S2 => ?_); ((clear S; (try clear H); rename Star _ _ => S; rename Hp => H)))
        | (fail "none"))
      | ((with_reducible refine grp 185 ?_); first
        | (with_reducible refine r_catTup S (by (((with_reducible (repeat (first | apply Pull.here | apply Pull.there))); (first | done | fail "left")))) (by (((with_reducible (repeat (first | apply Pull.here | apply Pull.there))); (first | done | fail "left")))) (by (((try simp only [List.nil_append, List.cons_append]); exact rfl))) (by simp) (by simp) (by (((try simp only [List.length_append, List.length_cons, List.length_nil, List.length_map, List.length_range]); omega))) (fun nT H2 S2 => ?_); ((clear S; (try clear H); rename Star _ _ => S; rename Hp => H)))
        | (fail "none"))
      | ((with_reducible refine grp 121 ?_); first
        | (with_reducible refine r_gTup S (by (((with_reducible (repeat (first | apply Pull.here | apply Pull.there))); (first | done | fail "left")))) (by with_unfolding_all rfl) ?_)
        | (fail "none"))
      | ((with_reducible refine grp 120 ?_); first
        | (with_reducible refine r_setI S (by (((with_reducible (repeat (first | apply Pull.here | apply Pull.there))); (first | done | fail "left")))) (by (first | assumption | exact ixN_set (by omega) (by omega))) (fun H2 S2 => ?_); ((clear S; (try clear H); rename Star _ _ => S; rename Hp => H)))
        | (fail "none"))
      | ((with_reducible refine grp 129 ?_); first
        | (with_reducible refine r_any S (by (((with_reducible (repeat (first | apply Pull.here | apply Pull.there))); (first | done | fail "left")))) ?_)
        | (fail "none"))
      | ((with_reducible refine grp 130 ?_); first
        | (with_reducible refine r_all S (by (((with_reducible (repeat (first | apply Pull.here | apply Pull.there))); (first | done | fail "left")))) ?_)
        | (fail "none"))
      | ((with_reducible refine grp 127 ?_); first
        | (refine r_wipe (by with_unfolding_all rfl) ?_)
        | (fail "none"))
      | ((with_reducible refine grp 123 ?_); first
        | (with_reducible refine r_ixT S (by (((with_reducible (repeat (first | apply Pull.here | apply Pull.there))); (first | done | fail "left")))) (by with_unfolding_all rfl) ?_)
        | (fail "none"))
      | ((with_reducible refine grp 124 ?_); first
        | (refine r_kLst S (by ((refine Evl.sz_of ?_; (try simp only [List.length_append, List.length_cons, List.length_nil, List.length_map, List.length_range]); omega))) (fun np H2 S2 => ?_); ((clear S; (try clear H); rename Star _ _ => S; rename Hp => H)))
        | (fail "none"))
      | ((with_reducible refine grp 125 ?_); first
        | (refine r_kTup S (by ((refine Evl.sz_of ?_; (try simp only [List.length_append, List.length_cons, List.length_nil, List.length_map, List.length_range]); omega))) (fun np H2 S2 => ?_); ((clear S; (try clear H); rename Star _ _ => S; rename Hp => H)))
        | (fail "none"))
      | ((with_reducible refine grp 142 ?_); first
        | (refine r_str (by (first | assumption | omega | exact cdiv_ok (by omega) (by omega) | exact ⟨by decide, by decide +kernel⟩ | exact ⟨by decide, by decide, by decide⟩ | exact ⟨by omega, by omega, by decide⟩ | exact .inl ⟨by decide, by decide⟩ | exact .inr ⟨by decide, by decide⟩ | exact .inl ⟨by omega, by omega⟩ | exact .inr ⟨by omega, by omega⟩)) ?_)
        | (fail "none"))
      | (fail "none"))
  | ((with_reducible refine grp 9 ?_); first
      | ((with_reducible refine grp 167 ?_); first
        | (with_reducible refine isi_lstH (by assumption) (c := true) (by decide +kernel) ?_)
        | (with_reducible refine isi_lstH (by assumption) (c := false) (by decide +kernel) ?_)
        | (with_reducible refine isi_tupH (by assumption) (c := true) (by decide +kernel) ?_)
        | (with_reducible refine isi_tupH (by assumption) (c := false) (by decide +kernel) ?_)
        | (refine r_isiLA (c := true) S (by (((with_reducible (repeat (first | apply Pull.here | apply Pull.there))); (first | done | fail "left")))) (by decide +kernel) ?_)
        | (refine r_isiLA (c := false) S (by (((with_reducible (repeat (first | apply Pull.here | apply Pull.there))); (first | done | fail "left")))) (by decide +kernel) ?_)
        | (refine isi_lst (c := true) S (by (((with_reducible (repeat (first | apply Pull.here | apply Pull.there))); (first | done | fail "left")))) (by decide +kernel) ?_)
        | (refine isi_lst (c := false) S (by (((with_reducible (repeat (first | apply Pull.here | apply Pull.there))); (first | done | fail "left")))) (by decide +kernel) ?_)
        | (refine isi_tup (c := true) S (by (((with_reducible (repeat (first | apply Pull.here | apply Pull.there))); (first | done | fail "left")))) (by decide +kernel) ?_)
        | (refine isi_tup (c := false) S (by (((with_reducible (repeat (first | apply Pull.here | apply Pull.there))); (first | done | fail "left")))) (by decide +kernel) ?_)
        | (fail "none"))
      | ((with_reducible refine grp 165 ?_); first
        | (with_reducible refine r_eqLI S (by (((with_reducible (repeat (first | apply Pull.here | apply Pull.there))); (first | done | fail "left")))) (by (((with_reducible (repeat (first | apply Pull.here | apply Pull.there))); (first | done | fail "left")))) ?_)
        | (with_reducible refine r_eqTI S (by (((with_reducible (repeat (first | apply Pull.here | apply Pull.there))); (first | done | fail "left")))) (by (((with_reducible (repeat (first | apply Pull.here | apply Pull.there))); (first | done | fail "left")))) ?_)
        | (with_reducible refine r_eqLB S (by (((with_reducible (repeat (first | apply Pull.here | apply Pull.there))); (first | done | fail "left")))) (by (((with_reducible (repeat (first | apply Pull.here | apply Pull.there))); (first | done | fail "left")))) ?_)
        | (with_reducible refine r_eqTD S (by (((with_reducible (repeat (first | apply Pull.here | apply Pull.there))); (first | done | fail "left")))) (by (((with_reducible (repeat (first | apply Pull.here | apply Pull.there))); (first | done | fail "left")))) ?_)
        | (with_reducible refine r_eqLA S (by (((with_reducible (repeat (first | apply Pull.here | apply Pull.there))); (first | done | fail "left")))) (by (((with_reducible (repeat (first | apply Pull.here | apply Pull.there))); (first | done | fail "left")))) ?_)
        | (refine r_eqQ S (by walk_at "pd") (by decide) ?_)
        | (fail "none"))
      | ((with_reducible refine grp 166 ?_); first
        | (with_reducible refine r_neLI S (by (((with_reducible (repeat (first | apply Pull.here | apply Pull.there))); (first | done | fail "left")))) (by (((with_reducible (repeat (first | apply Pull.here | apply Pull.there))); (first | done | fail "left")))) ?_)
        | (with_reducible refine r_neTI S (by (((with_reducible (repeat (first | apply Pull.here | apply Pull.there))); (first | done | fail "left")))) (by (((with_reducible (repeat (first | apply Pull.here | apply Pull.there))); (first | done | fail "left")))) ?_)
        | (with_reducible refine r_neTD S (by (((with_reducible (repeat (first | apply Pull.here | apply Pull.there))); (first | done | fail "left")))) (by (((with_reducible (repeat (first | apply Pull.here | apply Pull.there))); (first | done | fail "left")))) ?_)
        | (with_reducible refine r_neLB S (by (((with_reducible (repeat (first | apply Pull.here | apply Pull.there))); (first | done | fail "left")))) (by (((with_reducible (repeat (first | apply Pull.here | apply Pull.there))); (first | done | fail "left")))) ?_)
        | (with_reducible refine r_neLA S (by (((with_reducible (repeat (first | apply Pull.here | apply Pull.there))); (first | done | fail "left")))) (by (((with_reducible (repeat (first | apply Pull.here | apply Pull.there))); (first | done | fail "left")))) ?_)
        | (refine r_neQ S (by walk_at "pd") (by decide) ?_)
        | (fail "none"))
      | ((with_reducible refine grp 164 ?_); first
        | (with_reducible refine r_noneIn S (by (((with_reducible (repeat (first | apply Pull.here | apply Pull.there))); (first | done | fail "left")))) ?_)
        | (fail "none"))
      | (fail "none"))
  | ((with_reducible refine grp 11 ?_); first
      | ((with_reducible refine grp 189 ?_); first
        | (with_reducible refine r_eqT rfl ?_)
        | (refine r_eqF (by decide +kernel) ?_)
        | (refine r_eqT (by decide +kernel) ?_)
        | (fail "none"))
      | ((with_reducible refine grp 188 ?_); first
        | (refine r_catNil (by decide +kernel) ?_)
        | (fail "none"))
      | ((with_reducible refine grp 190 ?_); first
        | (with_reducible refine r_neT rfl ?_)
        | (refine r_neF (by decide +kernel) ?_)
        | (refine r_neT (by decide +kernel) ?_)
        | (fail "none"))
      | ((with_reducible refine grp 191 ?_); first
        | (with_reducible refine r_sumI S (by (((with_reducible (repeat (first | apply Pull.here | apply Pull.there))); (first | done | fail "left")))) ?_)
        | (fail "none"))
      | ((with_reducible refine grp 181 ?_); first
        | (with_reducible refine r_tupOf S (by (((with_reducible (repeat (first | apply Pull.here | apply Pull.there))); (first | done | fail "left")))) (fun nT H2 S2 => ?_); ((clear S; (try clear H); rename Star _ _ => S; rename Hp => H)))
        | (fail "none"))
      | ((with_reducible refine grp 186 ?_); first
        | (with_reducible refine r_idxN S (by (((with_reducible (repeat (first | apply Pull.here | apply Pull.there))); (first | done | fail "left")))) (by assumption) ?_)
        | (fail "none"))
      | (fail "none"))
  | ((with_reducible refine grp 10 ?_); first
      | ((with_reducible refine grp 168 ?_); first
        | ((with_reducible refine r_catch (fun ea σe ee => ?_)); (simp only [List.set_cons_zero, List.set_cons_succ] at ee); subst ee)
        | (fail "none"))
      | ((with_reducible refine grp 169 ?_); first
        | (with_reducible refine r_catchOn (fun ea => ?_))
        | (fail "none"))
      | ((with_reducible refine grp 195 ?_); first
        | (with_reducible refine r_catchM (fun ea => ?_))
        | (fail "none"))
      | ((with_reducible refine grp 170 ?_); first
        | (with_reducible refine r_isXT S (by (((with_reducible (repeat (first | apply Pull.here | apply Pull.there))); (first | done | fail "left")))) ?_)
        | (fail "none"))
      | ((with_reducible refine grp 171 ?_); first
        | (with_reducible refine r_isF (by assumption) S (by (((with_reducible (repeat (first | apply Pull.here | apply Pull.there))); (first | done | fail "left")))) ?_)
        | (fail "none"))
      | (fail "none"))
  | ((with_reducible refine grp 8 ?_); first
      | (refine r_pow (by (first | assumption | omega | exact cdiv_ok (by omega) (by omega) | exact ⟨by decide, by decide +kernel⟩ | exact ⟨by decide, by decide, by decide⟩ | exact ⟨by omega, by omega, by decide⟩ | exact .inl ⟨by decide, by decide⟩ | exact .inr ⟨by decide, by decide⟩ | exact .inl ⟨by omega, by omega⟩ | exact .inr ⟨by omega, by omega⟩)) (by ((simp only [Int.reduceToNat, Int.reducePow, Int.reduceMul]; exact rfl))) ?_)
      | (refine r_I (by (first | assumption | omega | exact cdiv_ok (by omega) (by omega) | exact ⟨by decide, by decide +kernel⟩ | exact ⟨by decide, by decide, by decide⟩ | exact ⟨by omega, by omega, by decide⟩ | exact .inl ⟨by decide, by decide⟩ | exact .inr ⟨by decide, by decide⟩ | exact .inl ⟨by omega, by omega⟩ | exact .inr ⟨by omega, by omega⟩)) ?_)
      | (fail "none"))
  | ((with_reducible refine grp 7 ?_); first
      | ((with_reducible refine grp 102 ?_); first
        | (with_reducible refine r_kMt2l S (by (((with_reducible (repeat (first | apply Pull.here | apply Pull.there))); (first | done | fail "left")))) (by ((first | exact rfl | with_unfolding_all rfl))) ?_)
        | (with_reducible refine r_kMt2r S (by (((with_reducible (repeat (first | apply Pull.here | apply Pull.there))); (first | done | fail "left")))) (by ((first | exact rfl | with_unfolding_all rfl))) ?_)
        | (fail "none"))
      | ((with_reducible refine grp 100 ?_); first
        | (with_reducible refine r_fld2 S (by (((with_reducible (repeat (first | apply Pull.here | apply Pull.there))); (first | done | fail "left")))) (by first | assumption | exact .inl rfl | exact .inr rfl) ?_)
        | (fail "none"))
      | ((with_reducible refine grp 101 ?_); first
        | (refine r_sto2 S (by (((with_reducible (repeat (first | apply Pull.here | apply Pull.there))); (first | done | fail "left")))) (by first | assumption | exact .inl rfl | exact .inr rfl) (by ((simp only [List.length_cons, List.length_nil]; omega))) (fun H2 S2 => ?_); ((clear S; (try clear H); rename Star _ _ => S; rename Hp => H)))
        | (fail "none"))
      | ((with_reducible refine grp 158 ?_); first
        | (with_reducible refine r_fld S (by (((with_reducible (repeat (first | apply Pull.here | apply Pull.there))); (first | done | fail "left")))) ?_)
        | (fail "none"))
      | ((with_reducible refine grp 159 ?_); first
        | (refine r_sto S (by (((with_reducible (repeat (first | apply Pull.here | apply Pull.there))); (first | done | fail "left")))) (by ((simp only [List.length_cons, List.length_nil]; omega))) (fun H2 S2 => ?_); ((clear S; (try clear H); rename Star _ _ => S; rename Hp => H)))
        | (fail "none"))
      | ((with_reducible refine grp 160 ?_); first
        | (with_reducible refine r_kMt S (by (((with_reducible (repeat (first | apply Pull.here | apply Pull.there))); (first | done | fail "left")))) (by ((first | exact rfl | with_unfolding_all rfl))) ?_)
        | (fail "none"))
      | (walk_at "mt")
      | ((with_reducible refine grp 161 ?_); first
        | (with_reducible refine r_augR S (by (((with_reducible (repeat (first | apply Pull.here | apply Pull.there))); (first | done | fail "left")))) ?_)
        | (fail "none"))
      | ((with_reducible refine grp 162 ?_); first
        | (refine r_augW S (by (((with_reducible (repeat (first | apply Pull.here | apply Pull.there))); (first | done | fail "left")))) (by ((simp only [List.length_cons, List.length_nil]; omega))) (fun H2 S2 => ?_); ((clear S; (try clear H); rename Star _ _ => S; rename Hp => H)))
        | (fail "none"))
      | (fail "none"))
  | ((with_reducible refine grp 5 ?_); first
      | ((with_reducible refine grp 134 ?_); first
        | (with_reducible refine r_inI S (by (((with_reducible (repeat (first | apply Pull.here | apply Pull.there))); (first | done | fail "left")))) ?_)
        | (with_reducible refine r_inB S (by (((with_reducible (repeat (first | apply Pull.here | apply Pull.there))); (first | done | fail "left")))) ?_)
        | (with_reducible refine r_inA S (by (((with_reducible (repeat (first | apply Pull.here | apply Pull.there))); (first | done | fail "left")))) ?_)
        | (with_reducible refine r_inK S (by (((with_reducible (repeat (first | apply Pull.here | apply Pull.there))); (first | done | fail "left")))) (by assumption) ?_)
        | (with_reducible refine r_kDIn S (by (((with_reducible (repeat (first | apply Pull.here | apply Pull.there))); (first | done | fail "left")))) ?_)
        | (with_reducible refine r_inT S (by (((with_reducible (repeat (first | apply Pull.here | apply Pull.there))); (first | done | fail "left")))) (by (((with_reducible (repeat (first | apply Pull.here | apply Pull.there))); (first | done | fail "left")))) ?_)
        | (fail "none"))
      | ((with_reducible refine grp 135 ?_); first
        | (with_reducible refine r_notDB S (by (((with_reducible (repeat (first | apply Pull.here | apply Pull.there))); (first | done | fail "left")))) ?_)
        | (with_reducible refine r_notI S (by (((with_reducible (repeat (first | apply Pull.here | apply Pull.there))); (first | done | fail "left")))) ?_)
        | (with_reducible refine r_notA S (by (((with_reducible (repeat (first | apply Pull.here | apply Pull.there))); (first | done | fail "left")))) ?_)
        | (with_reducible refine r_notK S (by (((with_reducible (repeat (first | apply Pull.here | apply Pull.there))); (first | done | fail "left")))) (by assumption) ?_)
        | (with_reducible refine r_kDNot S (by (((with_reducible (repeat (first | apply Pull.here | apply Pull.there))); (first | done | fail "left")))) ?_)
        | (with_reducible refine r_notT S (by (((with_reducible (repeat (first | apply Pull.here | apply Pull.there))); (first | done | fail "left")))) (by (((with_reducible (repeat (first | apply Pull.here | apply Pull.there))); (first | done | fail "left")))) ?_)
        | (fail "none"))
      | ((with_reducible refine grp 133 ?_); first
        | (with_reducible refine r_getB S (by (((with_reducible (repeat (first | apply Pull.here | apply Pull.there))); (first | done | fail "left")))) (by assumption) ?_)
        | (with_reducible refine r_getIc S (by (((with_reducible (repeat (first | apply Pull.here | apply Pull.there))); (first | done | fail "left")))) ?_)
        | (with_reducible refine r_getI S (by (((with_reducible (repeat (first | apply Pull.here | apply Pull.there))); (first | done | fail "left")))) (by assumption) ?_)
        | (with_reducible refine r_getP S (by (((with_reducible (repeat (first | apply Pull.here | apply Pull.there))); (first | done | fail "left")))) (by assumption) (by infer_instance) (fun nv S2 => ?_); (clear S; rename Star _ _ => S))
        | (with_reducible refine r_getA S (by (((with_reducible (repeat (first | apply Pull.here | apply Pull.there))); (first | done | fail "left")))) (by assumption) (fun nv S2 => ?_); (clear S; rename Star _ _ => S))
        | (with_reducible refine r_kDGetF S (by (((with_reducible (repeat (first | apply Pull.here | apply Pull.there))); (first | done | fail "left")))) (by assumption) ?_)
        | (with_reducible refine r_kDGet S (by (((with_reducible (repeat (first | apply Pull.here | apply Pull.there))); (first | done | fail "left")))) (by assumption) ?_)
        | (with_reducible refine r_getT S (by (((with_reducible (repeat (first | apply Pull.here | apply Pull.there))); (first | done | fail "left")))) (by (((with_reducible (repeat (first | apply Pull.here | apply Pull.there))); (first | done | fail "left")))) (by assumption) ?_)
        | (fail "none"))
      | ((with_reducible refine grp 136 ?_); first
        | (with_reducible refine r_putB S (by (((with_reducible (repeat (first | apply Pull.here | apply Pull.there))); (first | done | fail "left")))) (by (((try simp only [dmI_len, dmB_len, List.length_nil]); first | assumption | omega))) (fun H2 S2 => ?_); ((clear S; (try clear H); rename Star _ _ => S; rename Hp => H)))
        | (with_reducible refine r_putI S (by (((with_reducible (repeat (first | apply Pull.here | apply Pull.there))); (first | done | fail "left")))) (by (((try simp only [dmI_len, dmB_len, List.length_nil]); first | assumption | omega))) (fun H2 S2 => ?_); ((clear S; (try clear H); rename Star _ _ => S; rename Hp => H)))
        | (with_reducible refine r_setD S (by (((with_reducible (repeat (first | apply Pull.here | apply Pull.there))); (first | done | fail "left")))) (by (((with_reducible (repeat (first | apply Pull.here | apply Pull.there))); (first | done | fail "left")))) (by first | assumption | omega) (fun H2 S2 => ?_); ((clear S; (try clear H); rename Star _ _ => S; rename Hp => H)))
        | (with_reducible refine r_putS S (by (((with_reducible (repeat (first | apply Pull.here | apply Pull.there))); (first | done | fail "left")))) (by (((with_reducible (repeat (first | apply Pull.here | apply Pull.there))); (first | done | fail "left")))) (by (((try simp only [dmI_len, dmB_len, List.length_nil]); first | assumption | omega))) (fun H2 S2 => ?_); ((clear S; (try clear H); rename Star _ _ => S; rename Hp => H)))
        | (refine r_kDPut S (by (((with_reducible (repeat (first | apply Pull.here | apply Pull.there))); (first | done | fail "left")))) (by ((refine Evl.sz_lt ?_; (try simp only [List.length_append, List.length_cons, List.length_nil, List.length_map, List.length_range]); omega))) (fun H2 S2 => ?_); ((clear S; (try clear H); rename Star _ _ => S; rename Hp => H)))
        | (with_reducible refine r_putT S (by (((with_reducible (repeat (first | apply Pull.here | apply Pull.there))); (first | done | fail "left")))) (by (((with_reducible (repeat (first | apply Pull.here | apply Pull.there))); (first | done | fail "left")))) (by (((try simp only [dmI_len, dmB_len, List.length_nil]); first | assumption | omega))) (fun H2 S2 => ?_); ((clear S; (try clear H); rename Star _ _ => S; rename Hp => H)))
        | (fail "none"))
      | ((with_reducible refine grp 138 ?_); first
        | (with_reducible refine r_popB S (by (((with_reducible (repeat (first | apply Pull.here | apply Pull.there))); (first | done | fail "left")))) (by assumption) (fun H2 S2 => ?_); ((clear S; (try clear H); rename Star _ _ => S; rename Hp => H)))
        | (with_reducible refine r_popI S (by (((with_reducible (repeat (first | apply Pull.here | apply Pull.there))); (first | done | fail "left")))) (by assumption) (fun H2 S2 => ?_); ((clear S; (try clear H); rename Star _ _ => S; rename Hp => H)))
        | (with_reducible refine r_popA S (by (((with_reducible (repeat (first | apply Pull.here | apply Pull.there))); (first | done | fail "left")))) (by assumption) (fun nv H2 S2 => ?_); ((clear S; (try clear H); rename Star _ _ => S; rename Hp => H)))
        | (with_reducible refine r_kDp1 S (by (((with_reducible (repeat (first | apply Pull.here | apply Pull.there))); (first | done | fail "left")))) (by assumption) (fun H2 S2 => ?_); ((clear S; (try clear H); rename Star _ _ => S; rename Hp => H)))
        | (fail "none"))
      | ((with_reducible refine grp 144 ?_); first
        | (with_reducible refine r_lenDB S (by (((with_reducible (repeat (first | apply Pull.here | apply Pull.there))); (first | done | fail "left")))) ?_)
        | (with_reducible refine r_lenDI S (by (((with_reducible (repeat (first | apply Pull.here | apply Pull.there))); (first | done | fail "left")))) ?_)
        | (with_reducible refine r_lenA S (by (((with_reducible (repeat (first | apply Pull.here | apply Pull.there))); (first | done | fail "left")))) ?_)
        | (with_reducible refine r_lenK S (by (((with_reducible (repeat (first | apply Pull.here | apply Pull.there))); (first | done | fail "left")))) (by assumption) ?_)
        | (with_reducible refine r_lenD S (by (((with_reducible (repeat (first | apply Pull.here | apply Pull.there))); (first | done | fail "left")))) ?_)
        | (fail "none"))
      | ((with_reducible refine grp 132 ?_); first
        | (with_reducible refine r_isDA S (by (((with_reducible (repeat (first | apply Pull.here | apply Pull.there))); (first | done | fail "left")))) ?_)
        | (with_reducible refine r_kIsD S (by (((with_reducible (repeat (first | apply Pull.here | apply Pull.there))); (first | done | fail "left")))) ?_)
        | (with_reducible refine r_kIsDT S (by (((with_reducible (repeat (first | apply Pull.here | apply Pull.there))); (first | done | fail "left")))) ?_)
        | (fail "none"))
      | ((with_reducible refine grp 137 ?_); first
        | (with_reducible refine r_dgO S (by (((with_reducible (repeat (first | apply Pull.here | apply Pull.there))); (first | done | fail "left")))) ?_)
        | (with_reducible refine r_dgI S (by (((with_reducible (repeat (first | apply Pull.here | apply Pull.there))); (first | done | fail "left")))) ?_)
        | (with_reducible refine r_kDg S (by (((with_reducible (repeat (first | apply Pull.here | apply Pull.there))); (first | done | fail "left")))) ?_)
        | (with_reducible refine r_dgT S (by (((with_reducible (repeat (first | apply Pull.here | apply Pull.there))); (first | done | fail "left")))) (by (((with_reducible (repeat (first | apply Pull.here | apply Pull.there))); (first | done | fail "left")))) ?_)
        | (fail "none"))
      | ((with_reducible refine grp 196 ?_); first
        | (with_reducible refine r_dcopyI S (by (((with_reducible (repeat (first | apply Pull.here | apply Pull.there))); (first | done | fail "left")))) (fun nd H2 S2 => ?_); ((clear S; (try clear H); rename Star _ _ => S; rename Hp => H)))
        | (with_reducible refine r_dcopyA S (by (((with_reducible (repeat (first | apply Pull.here | apply Pull.there))); (first | done | fail "left")))) (by infer_instance) (fun nd H2 S2 => ?_); ((clear S; (try clear H); rename Star _ _ => S; rename Hp => H)))
        | (fail "none"))
      | ((with_reducible refine grp 145 ?_); first
        | (with_reducible refine r_sortedDI S (by (((with_reducible (repeat (first | apply Pull.here | apply Pull.there))); (first | done | fail "left")))) (by (((try simp only [dmI_len, dmB_len, List.length_nil]); first | assumption | omega))) (fun ms nq H2 hpm hpw S2 => ?_); ((clear S; (try clear H); rename Star _ _ => S; rename Hp => H)))
        | (with_reducible refine r_sortedDA S (by (((with_reducible (repeat (first | apply Pull.here | apply Pull.there))); (first | done | fail "left")))) (by (((try simp only [dmI_len, dmB_len, List.length_nil]); first | assumption | omega))) (fun ms nq H2 hpm hpw S2 => ?_); ((clear S; (try clear H); rename Star _ _ => S; rename Hp => H)))
        | (with_reducible refine r_sortedK S (by (((with_reducible (repeat (first | apply Pull.here | apply Pull.there))); (first | done | fail "left")))) (by assumption) (by omega) (fun nq H2 S2 => ?_); ((clear S; (try clear H); rename Star _ _ => S; rename Hp => H)))
        | (fail "none"))
      | ((with_reducible refine grp 187 ?_); first
        | (with_reducible refine r_sortDR S (by (((with_reducible (repeat (first | apply Pull.here | apply Pull.there))); (first | done | fail "left")))) (by (((try simp only [dmI_len, dmB_len, List.length_nil]); first | assumption | omega))) (fun ms nq H2 hpm hpw S2 => ?_); ((clear S; (try clear H); rename Star _ _ => S; rename Hp => H)))
        | (fail "none"))
      | ((with_reducible refine grp 193 ?_); first
        | (with_reducible refine r_lenS S (by (((with_reducible (repeat (first | apply Pull.here | apply Pull.there))); (first | done | fail "left")))) ?_)
        | (with_reducible refine r_lenT2 S (by (((with_reducible (repeat (first | apply Pull.here | apply Pull.there))); (first | done | fail "left")))) ?_)
        | (fail "none"))
      | ((with_reducible refine grp 140 ?_); first
        | (with_reducible refine r_disp S (fun nd H2 S2 => ?_); ((clear S; (try clear H); rename Star _ _ => S; rename Hp => H)))
        | (fail "none"))
      | ((with_reducible refine grp 141 ?_); first
        | (refine r_kDisp S (by (((with_reducible (repeat (first | apply Pull.here | apply Pull.there))); (first | done | fail "left")))) (by simp only [List.length_cons, List.length_nil]; omega) (fun H2 S2 => ?_); ((clear S; (try clear H); rename Star _ _ => S; rename Hp => H)))
        | (fail "none"))
      | ((with_reducible refine grp 139 ?_); first
        | (with_reducible refine r_dnewK S (fun nd H2 S2 => ?_); ((clear S; (try clear H); rename Star _ _ => S; rename Hp => H)))
        | (fail "none"))
      | ((with_reducible refine grp 143 ?_); first
        | (with_reducible refine r_dnewT S (fun nd H2 S2 => ?_); ((clear S; (try clear H); rename Star _ _ => S; rename Hp => H)))
        | (fail "none"))
      | ((with_reducible refine grp 178 ?_); first
        | (with_reducible refine r_popT1 S (by (((with_reducible (repeat (first | apply Pull.here | apply Pull.there))); (first | done | fail "left")))) (by (((with_reducible (repeat (first | apply Pull.here | apply Pull.there))); (first | done | fail "left")))) (by assumption) (fun H2 S2 => ?_); ((clear S; (try clear H); rename Star _ _ => S; rename Hp => H)))
        | (fail "none"))
      | ((with_reducible refine grp 179 ?_); first
        | (with_reducible refine r_popT2 S (by (((with_reducible (repeat (first | apply Pull.here | apply Pull.there))); (first | done | fail "left")))) (by (((with_reducible (repeat (first | apply Pull.here | apply Pull.there))); (first | done | fail "left")))) (fun H2 S2 => ?_); ((clear S; (try clear H); rename Star _ _ => S; rename Hp => H)))
        | (fail "none"))
      | ((with_reducible refine grp 173 ?_); first
        | (with_reducible refine r_keysT S (by (((with_reducible (repeat (first | apply Pull.here | apply Pull.there))); (first | done | fail "left")))) (fun nk H2 S2 => ?_); ((clear S; (try clear H); rename Star _ _ => S; rename Hp => H)))
        | (fail "none"))
      | ((with_reducible refine grp 174 ?_); first
        | (with_reducible refine r_sortHd S (by (((with_reducible (repeat (first | apply Pull.here | apply Pull.there))); (first | done | fail "left")))) (by (((with_reducible (repeat (first | apply Pull.here | apply Pull.there))); (first | done | fail "left")))) (fun nq H2 S2 => ?_); ((clear S; (try clear H); rename Star _ _ => S; rename Hp => H)))
        | (fail "none"))
      | ((with_reducible refine grp 176 ?_); first
        | (with_reducible refine r_disp1T S (fun nd H2 S2 => ?_); ((clear S; (try clear H); rename Star _ _ => S; rename Hp => H)))
        | (fail "none"))
      | ((with_reducible refine grp 177 ?_); first
        | (with_reducible refine r_kDisp1T (f := trueV) S (by (((with_reducible (repeat (first | apply Pull.here | apply Pull.there))); (first | done | fail "left")))) (by (((with_reducible (repeat (first | apply Pull.here | apply Pull.there))); (first | done | fail "left")))) (fun H2 S2 => ?_); ((clear S; (try clear H); rename Star _ _ => S; rename Hp => H)))
        | (fail "none"))
      | (fail "none"))
  | ((with_reducible refine grp 1 ?_); first
      | (with_reducible refine if_dt rfl ?_)
      | (with_reducible refine if_y dec_nn ?_)
      | (with_reducible refine if_n dec_rn ?_)
      | (with_reducible refine if_n dec_in ?_)
      | (with_reducible refine if_n ndec_nn ?_)
      | (with_reducible refine if_y ndec_rn ?_)
      | (with_reducible refine if_y ndec_in ?_)
      | (with_reducible refine if_ndf rfl ?_)
      | (with_reducible refine if_dt (by omega) ?_)
      | (with_reducible refine if_ndf (by omega) ?_)
      | (with_reducible refine if_df (by omega) ?_)
      | (with_reducible refine if_ndt (by omega) ?_)
      | (with_reducible refine if_y (by (((simp only [Bool.and_eq_true, Bool.or_eq_true, Bool.and_eq_false_iff, Bool.or_eq_false_iff, Bool.not_eq_true', Bool.not_eq_false', decide_eq_true_eq, decide_eq_false_iff_not, Bool.not_true, Bool.not_false]); (first | done | omega)))) ?_)
      | (with_reducible refine if_n (by (((simp only [Bool.and_eq_true, Bool.or_eq_true, Bool.and_eq_false_iff, Bool.or_eq_false_iff, Bool.not_eq_true', Bool.not_eq_false', decide_eq_true_eq, decide_eq_false_iff_not, Bool.not_true, Bool.not_false]); (first | done | omega)))) ?_)
      | (fail "none"))
  | ((with_reducible refine grp 2 ?_); first
      | ((with_reducible refine grp 105 ?_); first
        | (with_reducible refine kAnd_go rfl ?_)
        | (with_reducible refine kAnd_go dec_nn ?_)
        | (with_reducible refine kAnd_st dec_nn ?_)
        | (with_reducible refine kAnd_go dec_rn ?_)
        | (with_reducible refine kAnd_st dec_rn ?_)
        | (with_reducible refine kAnd_go dec_in ?_)
        | (with_reducible refine kAnd_st dec_in ?_)
        | (with_reducible refine kAnd_go ndec_nn ?_)
        | (with_reducible refine kAnd_st ndec_nn ?_)
        | (with_reducible refine kAnd_go ndec_rn ?_)
        | (with_reducible refine kAnd_st ndec_rn ?_)
        | (with_reducible refine kAnd_go ndec_in ?_)
        | (with_reducible refine kAnd_st ndec_in ?_)
        | (with_reducible refine kAnd_st rfl ?_)
        | (with_reducible refine kAnd_go (by (((simp only [Bool.and_eq_true, Bool.or_eq_true, Bool.and_eq_false_iff, Bool.or_eq_false_iff, Bool.not_eq_true', Bool.not_eq_false', decide_eq_true_eq, decide_eq_false_iff_not, Bool.not_true, Bool.not_false]); (first | done | omega)))) ?_)
        | (with_reducible refine kAnd_st (by (((simp only [Bool.and_eq_true, Bool.or_eq_true, Bool.and_eq_false_iff, Bool.or_eq_false_iff, Bool.not_eq_true', Bool.not_eq_false', decide_eq_true_eq, decide_eq_false_iff_not, Bool.not_true, Bool.not_false]); (first | done | omega)))) ?_)
        | ((with_reducible apply kAnd_J); (· exact S); (· (intro hc QB k; walk_at "go"; exact k _ (by (((refine Star.keep S ?_; repeat (first | (with_reducible apply Keep.refl) | apply Keep.nil | refine Keep.cons (by (((with_reducible (repeat (first | apply Pull.here | apply Pull.there))); (first | done | fail "left")))) ?_ | apply Keep.drop)); (first | done | fail "left")))))); intro H2 S2; ((clear S; (try clear H); rename Star _ _ => S; rename Hp => H)))
        | (fail "none"))
      | ((with_reducible refine grp 106 ?_); first
        | (with_reducible refine kOr_go rfl ?_)
        | (with_reducible refine kOr_go dec_nn ?_)
        | (with_reducible refine kOr_st dec_nn ?_)
        | (with_reducible refine kOr_go dec_rn ?_)
        | (with_reducible refine kOr_st dec_rn ?_)
        | (with_reducible refine kOr_go dec_in ?_)
        | (with_reducible refine kOr_st dec_in ?_)
        | (with_reducible refine kOr_go ndec_nn ?_)
        | (with_reducible refine kOr_st ndec_nn ?_)
        | (with_reducible refine kOr_go ndec_rn ?_)
        | (with_reducible refine kOr_st ndec_rn ?_)
        | (with_reducible refine kOr_go ndec_in ?_)
        | (with_reducible refine kOr_st ndec_in ?_)
        | (with_reducible refine kOr_st rfl ?_)
        | (with_reducible refine kOr_go (by (((simp only [Bool.and_eq_true, Bool.or_eq_true, Bool.and_eq_false_iff, Bool.or_eq_false_iff, Bool.not_eq_true', Bool.not_eq_false', decide_eq_true_eq, decide_eq_false_iff_not, Bool.not_true, Bool.not_false]); (first | done | omega)))) ?_)
        | (with_reducible refine kOr_st (by (((simp only [Bool.and_eq_true, Bool.or_eq_true, Bool.and_eq_false_iff, Bool.or_eq_false_iff, Bool.not_eq_true', Bool.not_eq_false', decide_eq_true_eq, decide_eq_false_iff_not, Bool.not_true, Bool.not_false]); (first | done | omega)))) ?_)
        | ((with_reducible apply kOr_J); (· exact S); (· (intro hc QB k; walk_at "go"; exact k _ (by (((refine Star.keep S ?_; repeat (first | (with_reducible apply Keep.refl) | apply Keep.nil | refine Keep.cons (by (((with_reducible (repeat (first | apply Pull.here | apply Pull.there))); (first | done | fail "left")))) ?_ | apply Keep.drop)); (first | done | fail "left")))))); intro H2 S2; ((clear S; (try clear H); rename Star _ _ => S; rename Hp => H)))
        | (fail "none"))
      | ((with_reducible refine grp 107 ?_); first
        | (with_reducible refine kAndV_go rfl ?_)
        | (with_reducible refine kAndV_go dec_nn ?_)
        | (with_reducible refine kAndV_st dec_nn ?_)
        | (with_reducible refine kAndV_go dec_rn ?_)
        | (with_reducible refine kAndV_st dec_rn ?_)
        | (with_reducible refine kAndV_go dec_in ?_)
        | (with_reducible refine kAndV_st dec_in ?_)
        | (with_reducible refine kAndV_go ndec_nn ?_)
        | (with_reducible refine kAndV_st ndec_nn ?_)
        | (with_reducible refine kAndV_go ndec_rn ?_)
        | (with_reducible refine kAndV_st ndec_rn ?_)
        | (with_reducible refine kAndV_go ndec_in ?_)
        | (with_reducible refine kAndV_st ndec_in ?_)
        | (with_reducible refine kAndV_st rfl ?_)
        | (with_reducible refine kAndV_go (by (((simp only [Bool.and_eq_true, Bool.or_eq_true, Bool.and_eq_false_iff, Bool.or_eq_false_iff, Bool.not_eq_true', Bool.not_eq_false', decide_eq_true_eq, decide_eq_false_iff_not, Bool.not_true, Bool.not_false]); (first | done | omega)))) ?_)
        | (with_reducible refine kAndV_st (by (((simp only [Bool.and_eq_true, Bool.or_eq_true, Bool.and_eq_false_iff, Bool.or_eq_false_iff, Bool.not_eq_true', Bool.not_eq_false', decide_eq_true_eq, decide_eq_false_iff_not, Bool.not_true, Bool.not_false]); (first | done | omega)))) ?_)
        | ((with_reducible apply kAndV_J); (· exact S); (· (intro hc QB k; walk_at "go"; exact k _ (by (((refine Star.keep S ?_; repeat (first | (with_reducible apply Keep.refl) | apply Keep.nil | refine Keep.cons (by (((with_reducible (repeat (first | apply Pull.here | apply Pull.there))); (first | done | fail "left")))) ?_ | apply Keep.drop)); (first | done | fail "left")))))); intro H2 S2; ((clear S; (try clear H); rename Star _ _ => S; rename Hp => H)))
        | (fail "none"))
      | ((with_reducible refine grp 108 ?_); first
        | (with_reducible refine kOrV_go rfl ?_)
        | (with_reducible refine kOrV_go dec_nn ?_)
        | (with_reducible refine kOrV_st dec_nn ?_)
        | (with_reducible refine kOrV_go dec_rn ?_)
        | (with_reducible refine kOrV_st dec_rn ?_)
        | (with_reducible refine kOrV_go dec_in ?_)
        | (with_reducible refine kOrV_st dec_in ?_)
        | (with_reducible refine kOrV_go ndec_nn ?_)
        | (with_reducible refine kOrV_st ndec_nn ?_)
        | (with_reducible refine kOrV_go ndec_rn ?_)
        | (with_reducible refine kOrV_st ndec_rn ?_)
        | (with_reducible refine kOrV_go ndec_in ?_)
        | (with_reducible refine kOrV_st ndec_in ?_)
        | (with_reducible refine kOrV_st rfl ?_)
        | (with_reducible refine kOrV_go (by (((simp only [Bool.and_eq_true, Bool.or_eq_true, Bool.and_eq_false_iff, Bool.or_eq_false_iff, Bool.not_eq_true', Bool.not_eq_false', decide_eq_true_eq, decide_eq_false_iff_not, Bool.not_true, Bool.not_false]); (first | done | omega)))) ?_)
        | (with_reducible refine kOrV_st (by (((simp only [Bool.and_eq_true, Bool.or_eq_true, Bool.and_eq_false_iff, Bool.or_eq_false_iff, Bool.not_eq_true', Bool.not_eq_false', decide_eq_true_eq, decide_eq_false_iff_not, Bool.not_true, Bool.not_false]); (first | done | omega)))) ?_)
        | ((with_reducible apply kOrV_J); (· exact S); (· (intro hc QB k; walk_at "go"; exact k _ (by (((refine Star.keep S ?_; repeat (first | (with_reducible apply Keep.refl) | apply Keep.nil | refine Keep.cons (by (((with_reducible (repeat (first | apply Pull.here | apply Pull.there))); (first | done | fail "left")))) ?_ | apply Keep.drop)); (first | done | fail "left")))))); intro H2 S2; ((clear S; (try clear H); rename Star _ _ => S; rename Hp => H)))
        | (fail "none"))
      | (fail "none"))
  | ((with_reducible refine grp 6 ?_); first
      | ((with_reducible refine grp 146 ?_); first
        | (with_reducible refine r_kILA S (by (((with_reducible (repeat (first | apply Pull.here | apply Pull.there))); (first | done | fail "left")))) ?_)
        | (with_reducible refine r_kIL S (by (((with_reducible (repeat (first | apply Pull.here | apply Pull.there))); (first | done | fail "left")))) ?_)
        | (with_reducible refine r_kILs S (by (((with_reducible (repeat (first | apply Pull.here | apply Pull.there))); (first | done | fail "left")))) ?_)
        | (fail "none"))
      | ((with_reducible refine grp 148 ?_); first
        | (with_reducible refine r_kIELA S (by (((with_reducible (repeat (first | apply Pull.here | apply Pull.there))); (first | done | fail "left")))) ?_)
        | (with_reducible refine r_kIE S (by (((with_reducible (repeat (first | apply Pull.here | apply Pull.there))); (first | done | fail "left")))) ?_)
        | (fail "none"))
      | ((with_reducible refine grp 147 ?_); first
        | (with_reducible refine r_kIT S (by (((with_reducible (repeat (first | apply Pull.here | apply Pull.there))); (first | done | fail "left")))) ?_)
        | (fail "none"))
      | ((with_reducible refine grp 150 ?_); first
        | (with_reducible refine r_kIV S (by (((with_reducible (repeat (first | apply Pull.here | apply Pull.there))); (first | done | fail "left")))) ?_)
        | (fail "none"))
      | ((with_reducible refine grp 151 ?_); first
        | (with_reducible refine r_kIK S (by (((with_reducible (repeat (first | apply Pull.here | apply Pull.there))); (first | done | fail "left")))) ?_)
        | (with_reducible refine r_kIKt S (by (((with_reducible (repeat (first | apply Pull.here | apply Pull.there))); (first | done | fail "left")))) ?_)
        | (fail "none"))
      | ((with_reducible refine grp 152 ?_); first
        | (with_reducible refine r_kIVa S (by (((with_reducible (repeat (first | apply Pull.here | apply Pull.there))); (first | done | fail "left")))) ?_)
        | (fail "none"))
      | ((with_reducible refine grp 153 ?_); first
        | (refine r_kIR1 (by (((try simp only [Int.toNat_natCast, Int.reduceToNat, Int.sub_zero, Int.reduceSub]); exact rfl))) (by first | omega | decide) ?_)
        | (fail "none"))
      | ((with_reducible refine grp 154 ?_); first
        | (refine r_kIR2 (by (((try simp only [Int.toNat_natCast, Int.reduceToNat, Int.sub_zero, Int.reduceSub]); exact rfl))) (by first | omega | decide) ?_)
        | (fail "none"))
      | ((with_reducible refine grp 155 ?_); first
        | (with_reducible refine r_wL S (by (((with_reducible (repeat (first | apply Pull.here | apply Pull.there))); (first | done | fail "left")))) ?_)
        | (with_reducible refine r_wLs S (by (((with_reducible (repeat (first | apply Pull.here | apply Pull.there))); (first | done | fail "left")))) ?_)
        | (with_reducible refine r_wT S (by (((with_reducible (repeat (first | apply Pull.here | apply Pull.there))); (first | done | fail "left")))) ?_)
        | (with_reducible refine r_wE S (by (((with_reducible (repeat (first | apply Pull.here | apply Pull.there))); (first | done | fail "left")))) ?_)
        | (with_reducible refine r_wV S (by (((with_reducible (repeat (first | apply Pull.here | apply Pull.there))); (first | done | fail "left")))) ?_)
        | (fail "none"))
      | ((with_reducible refine grp 157 ?_); first
        | (with_reducible refine r_unl S (by (((with_reducible (repeat (first | apply Pull.here | apply Pull.there))); (first | done | fail "left")))) (fun H2 S2 => ?_); ((clear S; (try clear H); rename Star _ _ => S; rename Hp => H)))
        | (fail "none"))
      | ((with_reducible refine grp 156 ?_); first
        | (refine r_lwL (by (((try simp only [wipe, List.map_cons, List.map_nil, List.set_cons_zero, List.set_cons_succ]); exact rfl))) S (by (((with_reducible (repeat (first | apply Pull.here | apply Pull.there))); (first | done | fail "left")))) (fun nD H2 S2 => ?_); ((clear S; (try clear H); rename Star _ _ => S; rename Hp => H)))
        | (refine r_lwLs (by (((try simp only [wipe, List.map_cons, List.map_nil, List.set_cons_zero, List.set_cons_succ]); exact rfl))) S (by (((with_reducible (repeat (first | apply Pull.here | apply Pull.there))); (first | done | fail "left")))) (fun nD H2 S2 => ?_); ((clear S; (try clear H); rename Star _ _ => S; rename Hp => H)))
        | (refine r_lwT (by (((try simp only [wipe, List.map_cons, List.map_nil, List.set_cons_zero, List.set_cons_succ]); exact rfl))) S (by (((with_reducible (repeat (first | apply Pull.here | apply Pull.there))); (first | done | fail "left")))) (fun nD H2 S2 => ?_); ((clear S; (try clear H); rename Star _ _ => S; rename Hp => H)))
        | (refine r_lwR (by (((try simp only [wipe, List.map_cons, List.map_nil, List.set_cons_zero, List.set_cons_succ]); exact rfl))) S (fun nD H2 S2 => ?_); ((clear S; (try clear H); rename Star _ _ => S; rename Hp => H)))
        | (fail "none"))
      | (fail "none")))
local macro_rules | `(tactic| walk_at "go0") => `(tactic| (refine r_start (by simp only [L2.start, List.map_cons, List.map_nil, List.length_cons, List.length_nil, Nat.reduceAdd, Nat.reduceSub, List.replicate_succ, List.replicate_zero, List.cons_append, List.nil_append]; exact rfl) ?_; repeat (walk_at "st")))
local macro_rules | `(tactic| walk_at "go") => `(tactic| repeat (walk_at "st"))
local macro_rules | `(tactic| walk_at "bs") => `(tactic| (try simp only [Bool.and_eq_true, Bool.or_eq_true, Bool.and_eq_false_iff, Bool.or_eq_false_iff, Bool.not_eq_true', Bool.not_eq_false', decide_eq_true_eq, decide_eq_false_iff_not, Bool.not_true, Bool.not_false] at c1))
local macro_rules | `(tactic| walk_at "cs") => `(tactic| first
  | ((with_reducible refine grp 1 ?_); first
      | (with_reducible refine if_d (fun c1 => ?_) (fun c1 => ?_))
      | (with_reducible refine if_nd (fun c1 => ?_) (fun c1 => ?_))
      | ((with_reducible refine if_b (fun c1 => ?_) (fun c1 => ?_)) <;> walk_at "bs")
      | (fail "none"))
  | ((with_reducible refine grp 2 ?_); first
      | ((with_reducible refine grp 105 ?_); first
        | ((with_reducible refine kAnd_sp (fun c1 => ?_) (fun c1 => ?_)) <;> walk_at "bs")
        | (fail "none"))
      | ((with_reducible refine grp 106 ?_); first
        | ((with_reducible refine kOr_sp (fun c1 => ?_) (fun c1 => ?_)) <;> walk_at "bs")
        | (fail "none"))
      | ((with_reducible refine grp 107 ?_); first
        | ((with_reducible refine kAndV_sp (fun c1 => ?_) (fun c1 => ?_)) <;> walk_at "bs")
        | (fail "none"))
      | ((with_reducible refine grp 108 ?_); first
        | ((with_reducible refine kOrV_sp (fun c1 => ?_) (fun c1 => ?_)) <;> walk_at "bs")
        | (fail "none"))
      | (fail "none")))
local macro_rules | `(tactic| walk_at "fork") => `(tactic| repeat' (first | walk_at "st" | walk_at "cs"))
local macro_rules | `(tactic| walk_at "PD") => `(tactic| (first | (((with_reducible (repeat (first | apply Pull.here | apply Pull.there))); (first | done | fail "left"))) | (with_reducible refine Pull.ePt (by (((with_reducible (repeat (first | apply Pull.here | apply Pull.there))); (first | done | fail "left")))) ?_; exact rfl) | (with_reducible refine Pull.eLA (by (((with_reducible (repeat (first | apply Pull.here | apply Pull.there))); (first | done | fail "left")))) ?_; exact rfl) | (with_reducible refine Pull.eLF (by (((with_reducible (repeat (first | apply Pull.here | apply Pull.there))); (first | done | fail "left")))) ?_; exact rfl) | ((repeat (first | apply Pull.here | apply Pull.there)); (first | done | fail "left"))))
local macro_rules | `(tactic| walk_at "KD") => `(tactic| ((refine Star.keep S ?_; repeat (first | (with_reducible apply Keep.refl) | apply Keep.nil | refine Keep.cons (by (((with_reducible (repeat (first | apply Pull.here | apply Pull.there))); (first | done | fail "left")))) ?_ | refine Keep.cons (by ((first | (((with_reducible (repeat (first | apply Pull.here | apply Pull.there))); (first | done | fail "left"))) | (with_reducible refine Pull.ePt (by (((with_reducible (repeat (first | apply Pull.here | apply Pull.there))); (first | done | fail "left")))) ?_; exact rfl) | (with_reducible refine Pull.eLA (by (((with_reducible (repeat (first | apply Pull.here | apply Pull.there))); (first | done | fail "left")))) ?_; exact rfl) | (with_reducible refine Pull.eLF (by (((with_reducible (repeat (first | apply Pull.here | apply Pull.there))); (first | done | fail "left")))) ?_; exact rfl) | ((repeat (first | apply Pull.here | apply Pull.there)); (first | done | fail "left"))))) ?_ | apply Keep.drop)); (first | done | fail "left")))
section
variable {P : Program} {w : World} {K : PySem.W.Frag} {mg : Str → Option Value} {base : Heap}
def sp_L_cell_at {K : PySem.W.Frag} {mg : Str → Option Value} (T : Txt w K mg)  : Sp := fun vs H Q E => ∃ (a : Addr) (ns : List Int) (k : Int) (l : List Asrt), vs = [.ref a, .int k] ∧ Star (scr K a ns :: l) H ∧ (0 ≤ k) ∧ (∀ (H' : Hp), Star (scr K a ns :: l) H' → Q (.int (cellAt ns k)) H')
theorem c_L_cell_at {T : Txt w K mg}  {a : Addr} {ns : List Int} {k : Int} {L l : List Asrt} {H : Hp} {Q : VK} {E : XK} (S : Star L H) (P0 : Pull (scr K a ns) L l) (pre : 0 ≤ k) (q : (∀ (H' : Hp), Star (scr K a ns :: l) H' → Q (.int (cellAt ns k)) H')) : kCall (sp_L_cell_at T ) [.ref a, .int k] H Q E := ⟨a, ns, k, l, rfl, (S.pull P0), pre, q⟩
instance {T : Txt w K mg}  : Ctg (sp_L_cell_at T ) 1 := ⟨⟩
local macro_rules | `(tactic| walk_at "cl") => `(tactic| ((with_reducible refine ctg 1 ?_); ((with_reducible refine c_L_cell_at S (by (((with_reducible (repeat (first | apply Pull.here | apply Pull.there))); (first | done | fail "left")))) (by walk_at "pre") (fun  H2 S2 => ?_)) <;> ((clear S; (try clear H); rename Star _ _ => S; rename Hp => H)))))
theorem ok_L_cell_at (T : Txt w K mg) : FnOk P w K mg base (L2.CX P w) (1) T.f_L_cell_at T.fd_L_cell_at ["_law_script", "_law_k"] (sp_L_cell_at T) := by
  refine T.F_L_cell_at.okX sc_L_cell_at (fun vs H Q E => by walk_at "len") (fun cdv A outer s H vs Q E hr h => ?_)
  have hu := hu_of hr
  refine ⟨_, (pss_cons (ps_if (pt_cmpR op_lt (pv 1) (pe_callB (callLen (K := K) rfl) (by rfl) T.z_len (by decide +kernel) (pa_cons (pv 0) pa_nil)) (nomark _)) (pss_one (ps_ret (pe_ix (ixL (K := K) rfl) (pv 0) (pv 1) (fun _ _ => rfl)))) pss_nil)
      (pss_one (ps_ret pe_int))), ?_⟩
  obtain ⟨a, ns, k, l, rfl, S, pre, q⟩ := h
  walk_at "go0"
  refine if_d (fun h => ?_) (fun h => ?_)
  · walk_at "go"
    refine r_ixScr S (by (((with_reducible (repeat (first | apply Pull.here | apply Pull.there))); (first | done | fail "left")))) (atI_script pre h) ?_
    exact q _ S
  · walk_at "go"
    rw [cellAt_beyond h] at q
    exact q _ S
def spLaw (K : PySem.W.Frag) : Sp := fun vs H Q _ => ∃ (a : Addr) (ns : List Int), vs = [.ref a] ∧ Star [scr K a ns] H ∧ ns.length ≤ 63 ∧ (∀ z ∈ ns, Builtin.Int.intBits z ≤ 1048576) ∧ ∀ H', Q (.bl true) H'
local macro_rules | `(tactic| walk_at "lx") => `(tactic| first | assumption | exact Nat.le_trans (m := 100000) (by first | assumption | omega) (by decide) | decide +kernel)
local macro_rules | `(tactic| walk_at "st") => `(tactic| ((with_reducible refine grp 12 ?_); first
  | (with_reducible refine r_ixH S (by (((with_reducible (repeat (first | apply Pull.here | apply Pull.there))); (first | done | fail "left")))) ?_)
  | (with_reducible refine r_ixT S (by (((with_reducible (repeat (first | apply Pull.here | apply Pull.there))); (first | done | fail "left")))) (by assumption) ?_)
  | (with_reducible refine r_ixL S (by (((with_reducible (repeat (first | apply Pull.here | apply Pull.there))); (first | done | fail "left")))) (by assumption) ?_)
  | (with_reducible refine r_catTupE S (by (((with_reducible (repeat (first | apply Pull.here | apply Pull.there))); (first | done | fail "left")))) (by (((with_reducible (repeat (first | apply Pull.here | apply Pull.there))); (first | done | fail "left")))) (by (((try simp only [List.nil_append, List.cons_append]); exact rfl))) (by simp) (by (((try simp only [List.length_append, List.length_cons, List.length_nil, List.length_map, List.length_range]); omega))) (fun nT H2 S2 => ?_); ((clear S; (try clear H); rename Star _ _ => S; rename Hp => H)))
  | (with_reducible refine r_wZs S (by (((with_reducible (repeat (first | apply Pull.here | apply Pull.there))); (first | done | fail "left")))) ?_)
  | (with_reducible refine L2.DX.r_kIZs S (by (((with_reducible (repeat (first | apply Pull.here | apply Pull.there))); (first | done | fail "left")))) ?_)
  | (with_reducible refine L2.DX.r_snotin ?_)
  | (with_reducible refine L2.DX.r_sget (by assumption) ?_)
  | (with_reducible refine r_eqT rfl ?_)
  | (with_reducible refine r_neT rfl ?_)
  | (refine r_eqF (by decide +kernel) ?_)
  | (refine r_neF (by decide +kernel) ?_)
  | (refine r_eqT (by decide +kernel) ?_)
  | (refine r_neT (by decide +kernel) ?_)
  | (with_reducible refine r_eqTx ?_)
  | (with_reducible refine r_neTx ?_)
  | (with_reducible refine r_lenX (by walk_at "lx") ?_)
  | (with_reducible refine r_intS (by assumption) (by first | assumption | omega) ?_)
  | (with_reducible refine r_startS ?_)
  | (with_reducible refine r_inS ?_)
  | (with_reducible refine r_notInS ?_)
  | (with_reducible refine r_slX (by walk_at "lx") ?_)
  | (with_reducible refine r_ixS (by walk_at "lx") (by first | assumption | rfl) ?_)
  | (with_reducible refine r_splitS (by assumption) (by decide +kernel) (by first | assumption | omega) S (fun nq H2 S2 => ?_); ((clear S; (try clear H); rename Star _ _ => S; rename Hp => H)))
  | (with_reducible refine r_joinS S (by (((with_reducible (repeat (first | apply Pull.here | apply Pull.there))); (first | done | fail "left")))) (by assumption) ?_)
  | (with_reducible refine r_catTx (by first | assumption | omega) ?_)
  | (fail "none")))
def sp_read_number {K : PySem.W.Frag} {mg : Str → Option Value} (T : Txt w K mg)  : Sp := fun vs H Q E => ∃ (x : Str) (l : List Asrt), vs = [.str x] ∧ Star (l) H ∧ (x.length ≤ 100000) ∧ (∀ (H' : Hp), ¬ (goodN x = false) → Star (l) H' → Q (.int (numN x)) H') ∧ ((goodN x = false) → ∀ (H' : Hp), Star (l) H' → E (.ref T.C_NoRow) none H')
theorem c_read_number {T : Txt w K mg}  {x : Str} {l : List Asrt} {H : Hp} {Q : VK} {E : XK} (S : Star l H) (pre : x.length ≤ 100000) (q : (∀ (H' : Hp), ¬ (goodN x = false) → Star (l) H' → Q (.int (numN x)) H')) (q1 : ((goodN x = false) → ∀ (H' : Hp), Star (l) H' → E (.ref T.C_NoRow) none H')) : kCall (sp_read_number T ) [.str x] H Q E := ⟨x, l, rfl, S, pre, q, q1⟩
instance {T : Txt w K mg}  : Ctg (sp_read_number T ) 2 := ⟨⟩
local macro_rules | `(tactic| walk_at "cl") => `(tactic| ((with_reducible refine ctg 2 ?_); ((with_reducible refine c_read_number S (by walk_at "pre") (fun  H2 hn0 S2 => ?_) (fun hx H2 S2 => ?_)) <;> ((clear S; (try clear H); rename Star _ _ => S; rename Hp => H))) <;> (try (have hx2 := hx; exfalso; clear hx2; omega))))
theorem ok_read_number (T : Txt w K mg) : FnOk P w K mg base (L2.CX P w) (1) T.f_read_number T.fd_read_number ["word"] (sp_read_number T) := by
  refine T.F_read_number.okX sc_read_number (fun vs H Q E => by walk_at "len") (fun cdv A outer s H vs Q E hr h => ?_)
  have hu := hu_of hr
  refine ⟨_, (pss_cons (ps_if (pt_not (pt_chain op_le op_le pe_int (pe_callB callLenX (by rfl) T.z_len (by decide +kernel) (pa_cons (pv 0) pa_nil)) (pe_glob (v := .int 60) (by rfl) T.g_MOST_FIGURES ⟨_, rfl⟩))) (pss_one (ps_raiseC rfl (takes_of rfl rfl rfl rfl) PySem.F.excBase_ValueError T.xx_NoRow T.mg_NoRow T.xk_NoRow (raises_own T.xb_NoRow T.xt_NoRow) (by rfl))) pss_nil)
      (pss_cons (ps_for (passes_of rfl) rfl (pi_str (pv 0)) (pg_name (i := 1) sc_read_number.nd rfl (Or.inl rfl)) (pss_one (ps_if (pt_cmpR op_notInS (pv 1) (pe_glob (v := .str "0123456789") (by rfl) T.g_FIGURES ⟨_, rfl⟩) rfl) (pss_one (ps_raiseC rfl (takes_of rfl rfl rfl rfl) PySem.F.excBase_ValueError T.xx_NoRow T.mg_NoRow T.xk_NoRow (raises_own T.xb_NoRow T.xt_NoRow) (by rfl))) pss_nil)))
      (pss_cons (ps_if (PW.pt (pw_and (pt_cmpR op_gt (pe_callB callLenX (by rfl) T.z_len (by decide +kernel) (pa_cons (pv 0) pa_nil)) pe_int (nomark _)) (pw_and1 (pt_cmpR op_eq (pe_ix ix_str (pv 0) pe_int (fun _ _ => rfl)) pe_str (nomark _))))) (pss_one (ps_raiseC rfl (takes_of rfl rfl rfl rfl) PySem.F.excBase_ValueError T.xx_NoRow T.mg_NoRow T.xk_NoRow (raises_own T.xb_NoRow T.xt_NoRow) (by rfl))) pss_nil)
      (pss_one (ps_ret (pe_callTy callIntS (by rfl) T.z_int (by decide +kernel) (pa_cons (pv 0) pa_nil))))))), ?_⟩
  obtain ⟨x, l, rfl, S, pre, q, q1⟩ := h
  by_cases h1 : 1 ≤ x.length ∧ x.length ≤ 60
  rotate_left
  · have hg : goodN x = false := by
      cases hc : goodN x with
      | false => rfl
      | true => have := goodN_iff.mp hc; exact absurd ⟨this.1, this.2.1⟩ h1
    walk_at "go0"
    walk_at "fork"
    all_goals first | exact q1 hg _ S | (exfalso; omega) | skip
  obtain ⟨h1, h2⟩ := h1
  walk_at "go0"
  refine fl_indM (fun r σ H => ∃ y done, σ = [some (.str x), y] ∧ tl x = done ++ r ∧ NumText.AllDigits done ∧ Star l H) ⟨none, [], rfl, rfl, (fun _ h => nomatch h), S⟩ ?_ ?_
  · rintro σ H ⟨y, done, rfl, e, hd, S⟩
    rw [List.append_nil] at e
    subst e
    refine ⟨by walk_at "G", ?_⟩
    obtain ⟨c, r, hc⟩ : ∃ c r, tl x = c :: r := by
      cases h : tl x with
      | nil => have := len_tl x; rw [h] at this; rw [this] at h1; exact absurd h1 (by decide)
      | cons c r => exact ⟨c, r, rfl⟩
    have hi : atI x.cps.toList 0 = some c := by
      have hc2 : x.cps.toList = c :: r := hc
      rw [hc2]
      unfold atI ixN
      simp
    have hk : 1 < x.length ∧ c = 48 → goodN x = false := fun z => by
      cases hg : goodN x with
      | false => rfl
      | true => exact absurd ⟨z.1, by rw [hc, z.2]; rfl⟩ (goodN_iff.mp hg).2.2.2
    have ho : ¬ (1 < x.length ∧ c = 48) → goodN x = true := fun z => goodN_iff.mpr ⟨h1, h2, hd, fun k => z ⟨k.1, by rw [hc] at k; exact Option.some.inj k.2⟩⟩
    walk_at "go"
    walk_at "fork"
    · rw [one_zero_iff] at c1
      exact q1 (hk ⟨by omega, c1.2⟩) _ S
    · rw [one_zero_iff] at c1
      have hg := ho (fun k => by omega)
      have hi2 := goodN_int hg
      have hx6 : x.length ≤ 640 := by omega
      walk_at "go"
      exact q _ (by rw [hg]; simp) S
  · rintro c r σ H ⟨y, done, rfl, e, hd, S⟩ N hN
    refine ⟨by walk_at "G", ?_⟩
    walk_at "go"
    rw [fig_mem]
    by_cases hc : 48 ≤ c ∧ c ≤ 57
    · rw [decide_eq_true hc.1, decide_eq_true hc.2]
      walk_at "go"
      refine hN _ _ ⟨_, done ++ [c], rfl, by rw [e]; simp, fun z hz => ?_, S⟩
      rcases List.mem_append.mp hz with hz | hz
      · exact hd z hz
      · rw [List.mem_singleton.mp hz]; exact hc
    · rw [show (!(decide (48 ≤ c) && decide (c ≤ 57))) = true by rw [Bool.not_eq_true', Bool.and_eq_false_iff, decide_eq_false_iff_not, decide_eq_false_iff_not]; omega]
      walk_at "go"
      refine q1 ?_ _ S
      cases hg : goodN x with
      | false => rfl
      | true => exact absurd ((goodN_iff.mp hg).2.2.1 c (by rw [e]; simp)) hc
def sp_read_value {K : PySem.W.Frag} {mg : Str → Option Value} (T : Txt w K mg)  : Sp := fun vs H Q E => ∃ (x : Str) (l : List Asrt), vs = [.str x] ∧ Star (l) H ∧ (x.length ≤ 100000) ∧ (∀ (n : Int) (H' : Hp), ¬ (valOf x = none) → (valOf x = some n) → Star (l) H' → Q (.int n) H') ∧ ((valOf x = none) → ∀ (H' : Hp), Star (l) H' → E (.ref T.C_NoRow) none H')
theorem c_read_value {T : Txt w K mg}  {x : Str} {l : List Asrt} {H : Hp} {Q : VK} {E : XK} (S : Star l H) (pre : x.length ≤ 100000) (q : (∀ (n : Int) (H' : Hp), ¬ (valOf x = none) → (valOf x = some n) → Star (l) H' → Q (.int n) H')) (q1 : ((valOf x = none) → ∀ (H' : Hp), Star (l) H' → E (.ref T.C_NoRow) none H')) : kCall (sp_read_value T ) [.str x] H Q E := ⟨x, l, rfl, S, pre, q, q1⟩
instance {T : Txt w K mg}  : Ctg (sp_read_value T ) 3 := ⟨⟩
local macro_rules | `(tactic| walk_at "cl") => `(tactic| ((with_reducible refine ctg 3 ?_); ((with_reducible refine c_read_value S (by walk_at "pre") (fun on H2 hn0 oc S2 => ?_) (fun hx H2 S2 => ?_)) <;> ((clear S; (try clear H); rename Star _ _ => S; rename Hp => H))) <;> (try (have hx2 := hx; exfalso; clear hx2; omega))))
theorem ok_read_value (T : Txt w K mg) : FnOk P w K mg base (L2.CX P w) (2) T.f_read_value T.fd_read_value ["word"] (sp_read_value T) := by
  refine T.F_read_value.okX sc_read_value (fun vs H Q E => by walk_at "len") (fun cdv A outer s H vs Q E hr h => ?_)
  have hu := hu_of hr
  refine ⟨_, (pss_cons (ps_if (pt_not (pt_val (pe_m1 PySem.F.slot_str_startswith PySem.F.type_str_startswith mtStartS (pv 0) pe_str))) (pss_one (ps_ret (pe_cl (ok_read_number T) (hr.mono (by decide)) T.mg_read_number T.kp_read_number T.b_read_number_1 .nil (fun σ => passW (takes_of rfl rfl rfl rfl) σ) (pa_cons (pv 0) pa_nil)))) pss_nil)
      (pss_cons (ps_set (i := 1) sc_read_value.nd rfl (Or.inl rfl) (pe_cl (ok_read_number T) (hr.mono (by decide)) T.mg_read_number T.kp_read_number T.b_read_number_1 .nil (fun σ => passW (takes_of rfl rfl rfl rfl) σ) (pa_cons (pe_slice sl_str (pv 0) (po_some pe_int) po_none) pa_nil)))
      (pss_cons (ps_if (pt_cmpR op_eq (pv 1) pe_int (nomark _)) (pss_one (ps_raiseC rfl (takes_of rfl rfl rfl rfl) PySem.F.excBase_ValueError T.xx_NoRow T.mg_NoRow T.xk_NoRow (raises_own T.xb_NoRow T.xt_NoRow) (by rfl))) pss_nil)
      (pss_one (ps_ret (pe_un un_neg (pv 1))))))), ?_⟩
  obtain ⟨x, l, rfl, S, pre, q, q1⟩ := h
  have hlc : (L2.cutS x (some 1) none).length ≤ 100000 := Nat.le_trans (L2.cutS_length x _ _) pre
  walk_at "go0"
  rw [starts_dash]
  by_cases h1 : (tl x).head? = some 45
  · have e := val_yes h1
    rw [decide_eq_true h1]
    walk_at "go"
    · have hg : goodN (L2.cutS x (some 1) none) = true := by simpa using hn0
      refine if_d (fun h2 => ?_) (fun h2 => ?_)
      · walk_at "go"
        exact q1 (by rw [e, if_neg (fun k => k.2 h2)]) _ S
      · rw [if_pos ⟨hg, h2⟩] at e
        walk_at "go"
        exact q _ _ (by rw [e]; simp) e S
    · exact q1 (by rw [e, if_neg (fun k => by rw [hx] at k; simp at k)]) _ S
  · have e := val_no h1
    rw [decide_eq_false h1]
    walk_at "go"
    · rw [if_pos (by simpa using hn0)] at e
      exact q _ _ (by rw [e]; simp) e S
    · exact q1 (by rw [e, if_neg (by rw [hx]; simp)]) _ S
def sp_read_rights {K : PySem.W.Frag} {mg : Str → Option Value} (T : Txt w K mg)  : Sp := fun vs H Q E => ∃ (x : Str) (l : List Asrt), vs = [.str x] ∧ Star (l) H ∧ (x.length ≤ 100000) ∧ (∀ (n : Int) (H' : Hp), ¬ (rtOf x = none) → (rtOf x = some n) → Star (l) H' → Q (.int n) H') ∧ ((rtOf x = none) → ∀ (H' : Hp), Star (l) H' → E (.ref T.C_NoRow) none H')
theorem c_read_rights {T : Txt w K mg}  {x : Str} {l : List Asrt} {H : Hp} {Q : VK} {E : XK} (S : Star l H) (pre : x.length ≤ 100000) (q : (∀ (n : Int) (H' : Hp), ¬ (rtOf x = none) → (rtOf x = some n) → Star (l) H' → Q (.int n) H')) (q1 : ((rtOf x = none) → ∀ (H' : Hp), Star (l) H' → E (.ref T.C_NoRow) none H')) : kCall (sp_read_rights T ) [.str x] H Q E := ⟨x, l, rfl, S, pre, q, q1⟩
instance {T : Txt w K mg}  : Ctg (sp_read_rights T ) 4 := ⟨⟩
local macro_rules | `(tactic| walk_at "cl") => `(tactic| ((with_reducible refine ctg 4 ?_); ((with_reducible refine c_read_rights S (by walk_at "pre") (fun on H2 hn0 oc S2 => ?_) (fun hx H2 S2 => ?_)) <;> ((clear S; (try clear H); rename Star _ _ => S; rename Hp => H))) <;> (try (have hx2 := hx; exfalso; clear hx2; omega))))
theorem ok_read_rights (T : Txt w K mg) : FnOk P w K mg base (L2.CX P w) (1) T.f_read_rights T.fd_read_rights ["word"] (sp_read_rights T) := by
  refine T.F_read_rights.okX sc_read_rights (fun vs H Q E => by walk_at "len") (fun cdv A outer s H vs Q E hr h => ?_)
  have hu := hu_of hr
  refine ⟨_, (pss_cons (ps_if (PW.pt (pw_or (pt_cmpR op_ne (pe_callB callLenX (by rfl) T.z_len (by decide +kernel) (pa_cons (pv 0) pa_nil)) pe_int (nomark _)) (pw_or (pt_cmpR op_notInS (pe_ix ix_str (pv 0) pe_int (fun _ _ => rfl)) pe_str rfl) (pw_or1 (pt_cmpR op_notInS (pe_ix ix_str (pv 0) pe_int (fun _ _ => rfl)) pe_str rfl))))) (pss_one (ps_raiseC rfl (takes_of rfl rfl rfl rfl) PySem.F.excBase_ValueError T.xx_NoRow T.mg_NoRow T.xk_NoRow (raises_own T.xb_NoRow T.xt_NoRow) (by rfl))) pss_nil)
      (pss_one (ps_ret (pe_op op_add (pe_callTy callInt1 (by rfl) T.z_int (by decide +kernel) (pa_cons (pe_cmpR op_eq (pe_ix ix_str (pv 0) pe_int (fun _ _ => rfl)) pe_str (nomark _)) pa_nil)) (pe_op op_mul pe_int (pe_callTy callInt1 (by rfl) T.z_int (by decide +kernel) (pa_cons (pe_cmpR op_eq (pe_ix ix_str (pv 0) pe_int (fun _ _ => rfl)) pe_str (nomark _)) pa_nil))))))), ?_⟩
  obtain ⟨x, l, rfl, S, pre, q, q1⟩ := h
  by_cases h1 : x.length = 2
  rotate_left
  · have e : rtOf x = none := by
      unfold rtOf
      split
      · next a b h => exact absurd (by rw [len_tl, h]; rfl) h1
      · rfl
    walk_at "go0"
    exact q1 e _ S
  obtain ⟨a, b, rfl⟩ : ∃ a b, x = ⟨#[a, b]⟩ := by
    rw [len_tl] at h1
    cases h : tl x with
    | nil => rw [h] at h1; cases h1
    | cons a r =>
      cases r with
      | nil => rw [h] at h1; cases h1
      | cons b r =>
        cases r with
        | nil => exact ⟨a, b, str_ext h⟩
        | cons c r => rw [h] at h1; simp at h1
  have hi0 : atI (Str.mk #[a, b]).cps.toList 0 = some a := by unfold atI ixN; simp
  have hi1 : atI (Str.mk #[a, b]).cps.toList 1 = some b := by unfold atI ixN; simp
  have er : (Str.ofString "r-").cps.toList = [114, 45] := by decide +kernel
  have ew : (Str.ofString "w-").cps.toList = [119, 45] := by decide +kernel
  have e : rtOf ⟨#[a, b]⟩ = if (a = 114 ∨ a = 45) ∧ (b = 119 ∨ b = 45) then some ((if a = 114 then 1 else 0) + 2 * (if b = 119 then 1 else 0)) else none := rfl
  walk_at "go0"
  rw [er]
  by_cases ha : a = 114 ∨ a = 45
  rotate_left
  · rw [show (!decide (a ∈ [114, 45])) = true by simpa using ha]
    walk_at "go"
    exact q1 (by rw [e, if_neg (fun k => ha k.1)]) _ S
  rw [show (!decide (a ∈ [114, 45])) = false by simp; omega]
  walk_at "go"
  rw [ew]
  by_cases hb : b = 119 ∨ b = 45
  rotate_left
  · rw [show (!decide (b ∈ [119, 45])) = true by simpa using hb]
    walk_at "go"
    exact q1 (by rw [e, if_neg (fun k => hb k.2)]) _ S
  rw [show (!decide (b ∈ [119, 45])) = false by simp; omega]
  rw [if_pos ⟨ha, hb⟩] at e
  walk_at "go"
  rw [show (false || false) = false from rfl]
  walk_at "go"
  have o1 : ∀ c : Nat, ((⟨#[c]⟩ : Str) = "r") = (c = 114) := fun c => propext (one_iff (by decide +kernel))
  have o2 : ∀ c : Nat, ((⟨#[c]⟩ : Str) = "w") = (c = 119) := fun c => propext (one_iff (by decide +kernel))
  simp only [o1, o2]
  have oz : ∀ c d : Nat, (if decide (c = d) = true then (1 : Int) else 0) = if c = d then 1 else 0 := fun c d => by by_cases h : c = d <;> simp [h]
  simp only [oz]
  exact q _ _ (by rw [e]; simp) e S
def sp_read_row {K : PySem.W.Frag} {mg : Str → Option Value} (T : Txt w K mg)  : Sp := fun vs H Q E => ∃ (x : Str) (ws : List Str) (l : List Asrt), vs = [.str x] ∧ Star (l) H ∧ (x.length ≤ 90000 ∧ Txt.split x " " = ws ∧ (∀ w ∈ ws, w.length ≤ 90000)) ∧ (∀ (t : Addr) (vs : List V) (H' : Hp), ¬ (deedOf ws = none) → (deedOf ws = some vs) → Star (pt t (.tup vs) :: l) H' → Q (.ref t) H') ∧ ((deedOf ws = none) → ∀ (H' : Hp), Star (l) H' → E (.ref T.C_NoRow) none H')
theorem c_read_row {T : Txt w K mg}  {x : Str} {ws : List Str} {l : List Asrt} {H : Hp} {Q : VK} {E : XK} (S : Star l H) (pre : x.length ≤ 90000 ∧ Txt.split x " " = ws ∧ (∀ w ∈ ws, w.length ≤ 90000)) (q : (∀ (t : Addr) (vs : List V) (H' : Hp), ¬ (deedOf ws = none) → (deedOf ws = some vs) → Star (pt t (.tup vs) :: l) H' → Q (.ref t) H')) (q1 : ((deedOf ws = none) → ∀ (H' : Hp), Star (l) H' → E (.ref T.C_NoRow) none H')) : kCall (sp_read_row T ) [.str x] H Q E := ⟨x, ws, l, rfl, S, pre, q, q1⟩
instance {T : Txt w K mg}  : Ctg (sp_read_row T ) 5 := ⟨⟩
local macro_rules | `(tactic| walk_at "cl") => `(tactic| ((with_reducible refine ctg 5 ?_); ((with_reducible refine c_read_row S (by walk_at "pre") (fun ot ovs H2 hn0 oc S2 => ?_) (fun hx H2 S2 => ?_)) <;> ((clear S; (try clear H); rename Star _ _ => S; rename Hp => H))) <;> (try (have hx2 := hx; exfalso; clear hx2; omega))))
theorem ok_read_row (T : Txt w K mg) : FnOk P w K mg base (L2.CX P w) (3) T.f_read_row T.fd_read_row ["text"] (sp_read_row T) := by
  refine T.F_read_row.okX sc_read_row (fun vs H Q E => by walk_at "len") (fun cdv A outer s H vs Q E hr h => ?_)
  have hu := hu_of hr
  refine ⟨_, (pss_cons (ps_set (i := 1) sc_read_row.nd rfl (Or.inl rfl) (pe_m1 PySem.F.slot_str_split PySem.F.type_str_split mtSplitS (pv 0) pe_str))
      (pss_cons (ps_if (pt_cmp (L2.DX.pc_snotin T.sd_WORDS (pe_ix (ixL (K := K) rfl) (pv 1) pe_int (fun _ _ => rfl)) (pe_glob (v := .ref T.d_WORDS) (by rfl) T.mgd_WORDS rfl)) rfl) (pss_one (ps_raiseC rfl (takes_of rfl rfl rfl rfl) PySem.F.excBase_ValueError T.xx_NoRow T.mg_NoRow T.xk_NoRow (raises_own T.xb_NoRow T.xt_NoRow) (by rfl))) pss_nil)
      (pss_cons (ps_set (i := 2) sc_read_row.nd rfl (Or.inl rfl) (L2.DX.pe_sget T.sd_WORDS (pe_glob (v := .ref T.d_WORDS) (by rfl) T.mgd_WORDS rfl) (pe_ix (ixL (K := K) rfl) (pv 1) pe_int (fun _ _ => rfl)) (fun _ _ => rfl)))
      (Evl.pss_cut (ps_if (PW.pt (pw_and (pt_cmpR op_eq (pe_ix (ixL (K := K) rfl) (pv 1) pe_int (fun _ _ => rfl)) pe_str (nomark _)) (pw_and1 (pt_cmpR op_eq (pe_callB (callLen (K := K) rfl) (by rfl) T.z_len (by decide +kernel) (pa_cons (pv 1) pa_nil)) pe_int (nomark _))))) (pss_one (ps_set (i := 2) sc_read_row.nd rfl (Or.inl rfl) (pe_op opCatS (pv 2) pe_str))) pss_nil)
      (pss_cons (ps_if (pt_cmpR op_ne (pe_callB (callLen (K := K) rfl) (by rfl) T.z_len (by decide +kernel) (pa_cons (pv 1) pa_nil)) (pe_op op_add (pe_callB callLenX (by rfl) T.z_len (by decide +kernel) (pa_cons (pv 2) pa_nil)) pe_int) (nomark _)) (pss_one (ps_raiseC rfl (takes_of rfl rfl rfl rfl) PySem.F.excBase_ValueError T.xx_NoRow T.mg_NoRow T.xk_NoRow (raises_own T.xb_NoRow T.xt_NoRow) (by rfl))) pss_nil)
      (pss_cons (ps_set (i := 3) sc_read_row.nd rfl (Or.inl rfl) (pe_lst (pa_cons (pe_ix (ixL (K := K) rfl) (pv 1) pe_int (fun _ _ => rfl)) pa_nil)))
      (pss_cons (ps_for (passes_of rfl) rfl (piZs (K := K) rfl (by rfl) T.z_zip (pa_cons (pe_slice (slL (K := K) rfl) (pv 1) (po_some pe_int) po_none) (pa_cons (pv 2) pa_nil))) (pgTup (K := K) rfl rfl (pgs_cons (pg_name (i := 4) sc_read_row.nd rfl (Or.inl rfl)) (pgs_cons (pg_name (i := 5) sc_read_row.nd rfl (Or.inl rfl)) pgs_nil))) (pss_one (ps_if (pt_cmpR op_eq (pv 5) pe_str (nomark _)) (pss_one (ps_expr (pe_bm PySem.F.plainAttrs_list PySem.F.slot_list_append PySem.F.type_list_append mt_append (pv 3) (pa_cons (pe_cl (ok_read_number T) (hr.mono (by decide)) T.mg_read_number T.kp_read_number T.b_read_number_1 .nil (fun σ => passW (takes_of rfl rfl rfl rfl) σ) (pa_cons (pv 4) pa_nil)) pa_nil)))) (pss_one (ps_if (pt_cmpR op_eq (pv 5) pe_str (nomark _)) (pss_one (ps_expr (pe_bm PySem.F.plainAttrs_list PySem.F.slot_list_append PySem.F.type_list_append mt_append (pv 3) (pa_cons (pe_cl (ok_read_value T) (hr.mono (by decide)) T.mg_read_value T.kp_read_value T.b_read_value_1 .nil (fun σ => passW (takes_of rfl rfl rfl rfl) σ) (pa_cons (pv 4) pa_nil)) pa_nil)))) (pss_one (ps_expr (pe_bm PySem.F.plainAttrs_list PySem.F.slot_list_append PySem.F.type_list_append mt_append (pv 3) (pa_cons (pe_cl (ok_read_rights T) (hr.mono (by decide)) T.mg_read_rights T.kp_read_rights T.b_read_rights_1 .nil (fun σ => passW (takes_of rfl rfl rfl rfl) σ) (pa_cons (pv 4) pa_nil)) pa_nil)))))))))
      (Evl.pss_cut (ps_if (PW.pt (pw_and (pt_cmpR op_eq (pe_ix (ixL (K := K) rfl) (pv 1) pe_int (fun _ _ => rfl)) pe_str (nomark _)) (pw_and1 (pt_cmpR op_eq (pe_callB (callLen (K := K) rfl) (by rfl) T.z_len (by decide +kernel) (pa_cons (pv 1) pa_nil)) pe_int (nomark _))))) (pss_one (ps_set (i := 3) sc_read_row.nd rfl (Or.inl rfl) (pe_op op_cat (pv 3) (pe_lst (pa_cons pe_non (pa_cons pe_int pa_nil)))))) pss_nil)
      (pss_one (ps_ret (pe_callTy (callTupOf (K := K) rfl) (by rfl) T.z_tuple (by decide +kernel) (pa_cons (pv 3) pa_nil)))))))))))), ?_⟩
  obtain ⟨x, ws, l, rfl, S, pre, q, q1⟩ := h
  obtain ⟨hl, hw, hwl⟩ := pre
  have hl2 : x.length + 2 ≤ sizeLine := Nat.le_trans (m := 100000) (by omega) (by decide)
  have hkv : kv_WORDS = kv95 := rfl
  have h1 := splitX_pos x " "
  rw [hw] at h1
  have hlen : ws.length ≤ 90002 := by
    have := splitX_le x " "
    rw [hw] at this; omega
  obtain ⟨y, ys, rfl⟩ : ∃ y ys, ws = y :: ys := by
    cases ws with
    | nil => simp at h1
    | cons y ys => exact ⟨y, ys, rfl⟩
  have hly := hwl y List.mem_cons_self
  walk_at "go0"
  rw [List.map_cons] at S
  obtain ⟨nq0, e0⟩ : ∃ z, z = nq := ⟨_, rfl⟩
  subst e0
  walk_at "go"
  rw [hkv]
  cases hv : valV kv95 (Sum.inr y) with
  | none =>
    walk_at "go"
    exact q1 (deed_no (kinds_none hv)) _ (by (((refine Star.keep S ?_; repeat (first | (with_reducible apply Keep.refl) | apply Keep.nil | refine Keep.cons (by (((with_reducible (repeat (first | apply Pull.here | apply Pull.there))); (first | done | fail "left")))) ?_ | apply Keep.drop)); (first | done | fail "left"))))
  | some v =>
  obtain ⟨ks, rfl, hk4, hlay, hkc⟩ := kv_at hv
  rw [show (!(some (V.str ks)).isSome) = false from rfl]
  walk_at "go"
  refine r_cut (fun σ' H' => ∃ kk : Str, σ' = [some (V.str x), some (V.ref nq0), some (V.str kk), none, none, none] ∧ kindsOf y ys.length = some (tl kk) ∧ kk.length ≤ 6 ∧ (∀ c ∈ tl kk, c = 110 ∨ c = 118 ∨ c = 114) ∧ Star (pt nq0 (HO.lst (V.str y :: ys.map V.str)) :: l) H') ?_ ?_
  · walk_at "go"
    by_cases hc : y = "lay" ∧ ys.length = 6
    · rw [show (decide (y = Str.ofString "lay") && decide ((↑(ys.length + 1) : Int) = 7)) = true by rw [decide_eq_true hc.1, decide_eq_true (by omega)]; rfl]
      have e1 : ks.length + (Str.ofString "nn").length ≤ 100000 := by rw [show (Str.ofString "nn").length = 2 by decide +kernel]; omega
      walk_at "go"
      have e2 : (ks ++ Str.ofString "nn").length = ks.length + 2 := by rw [Str.length_append, show (Str.ofString "nn").length = 2 by decide +kernel]
      have e3 := hlay hc.1
      refine ⟨ks ++ Str.ofString "nn", rfl, kinds_six hv hc, by omega, fun c h => ?_, S⟩
      rw [tl_app] at h
      rcases List.mem_append.mp h with h | h
      · exact hkc c h
      · have : tl (Str.ofString "nn") = [110, 110] := by decide +kernel
        rw [this] at h; simp at h; exact .inl h
    · rw [show (decide (y = Str.ofString "lay") && decide ((↑(ys.length + 1) : Int) = 7)) = false by rw [Bool.and_eq_false_iff, decide_eq_false_iff_not, decide_eq_false_iff_not]; by_cases h : y = "lay"; (exact .inr (fun k => hc ⟨h, by omega⟩)); (exact .inl h)]
      walk_at "go"
      exact ⟨ks, rfl, kinds_not hv hc, by omega, hkc, S⟩
  rintro _ H ⟨kk, rfl, hks, hk6, hkc2, S⟩
  have hkz : kk.length ≤ 100000 := by omega
  have htk : (tl kk).length = kk.length := (len_tl kk).symm
  walk_at "go"
  by_cases hle : ys.length = kk.length
  rotate_left
  · rw [show (!decide ((↑(ys.length + 1) : Int) = ↑kk.length + 1)) = true by rw [Bool.not_eq_true', decide_eq_false_iff_not]; omega]
    walk_at "go"
    refine q1 (deed_none hks ?_) _ (by (((refine Star.keep S ?_; repeat (first | (with_reducible apply Keep.refl) | apply Keep.nil | refine Keep.cons (by (((with_reducible (repeat (first | apply Pull.here | apply Pull.there))); (first | done | fail "left")))) ?_ | apply Keep.drop)); (first | done | fail "left"))))
    cases hr : readWs (tl kk) ys with
    | none => rfl
    | some r => have := readWs_len hr; omega
  rw [show (!decide ((↑(ys.length + 1) : Int) = ↑kk.length + 1)) = false by rw [Bool.not_eq_false', decide_eq_true_eq]; omega]
  walk_at "go"
  rw [cutV_tail] at S
  rw [cutV_tail, zip_ws]
  have hz1 : (ys.zip (tl kk)).map Prod.fst = ys := List.map_fst_zip (by omega)
  have hz2 : (ys.zip (tl kk)).map Prod.snd = tl kk := List.map_snd_zip (by omega)
  refine fl_indTM (f := fun p : Str × Nat => [V.str p.1, V.str ⟨#[p.2]⟩]) (fun r σ H => ∃ x4 x5 done dk rr, σ = [some (V.str x), some (V.ref nq0), some (V.str kk), some (V.ref np), x4, x5] ∧ ys = done ++ r.map Prod.fst ∧ tl kk = dk ++ r.map Prod.snd ∧ dk.length = done.length ∧ readWs dk done = some rr ∧ Star (pt np (HO.lst (V.str y :: rr.map V.int)) :: pt nq (HO.lst (List.map V.str ys)) :: pt nq0 (HO.lst (V.str y :: List.map V.str ys)) :: l) H) ⟨none, none, [], [], [], rfl, by rw [hz1]; rfl, by rw [hz2]; rfl, rfl, rfl, by rw [List.map_nil]; (((refine Star.keep S ?_; repeat (first | (with_reducible apply Keep.refl) | apply Keep.nil | refine Keep.cons (by (((with_reducible (repeat (first | apply Pull.here | apply Pull.there))); (first | done | fail "left")))) ?_ | apply Keep.drop)); (first | done | fail "left")))⟩ ?_ ?_
  · rintro σ H ⟨x4, x5, done, dk, rr, rfl, e1, e2, e3, e4, S⟩
    simp only [List.map_nil, List.append_nil] at e1 e2
    subst e1
    rw [← e2] at e4
    have hd := deed_some hks e4
    have hrl := readWs_len e4
    refine ⟨by walk_at "G", ?_⟩
    refine r_cut (fun σ' H' => ∃ (np2 : Addr), σ' = [some (V.str x), some (V.ref nq0), some (V.str kk), some (V.ref np2), x4, x5] ∧ Star (pt np2 (HO.lst (V.str y :: rr.map V.int ++ if y = "lay" ∧ ys.length = 4 then [V.non, V.int 0] else [])) :: l) H') ?_ ?_
    · walk_at "go"
      by_cases hc : y = "lay" ∧ ys.length = 4
      · rw [show (decide (y = Str.ofString "lay") && decide ((↑(ys.length + 1) : Int) = 5)) = true by rw [decide_eq_true hc.1, decide_eq_true (by omega)]; rfl]
        rw [if_pos hc]
        walk_at "go"
        exact ⟨nq, rfl, by (((refine Star.keep S ?_; repeat (first | (with_reducible apply Keep.refl) | apply Keep.nil | refine Keep.cons (by (((with_reducible (repeat (first | apply Pull.here | apply Pull.there))); (first | done | fail "left")))) ?_ | apply Keep.drop)); (first | done | fail "left")))⟩
      · rw [show (decide (y = Str.ofString "lay") && decide ((↑(ys.length + 1) : Int) = 5)) = false by rw [Bool.and_eq_false_iff, decide_eq_false_iff_not, decide_eq_false_iff_not]; by_cases h : y = "lay"; (exact .inr (fun k => hc ⟨h, by omega⟩)); (exact .inl h)]
        rw [if_neg hc, List.append_nil]
        walk_at "go"
        exact ⟨np, rfl, by (((refine Star.keep S ?_; repeat (first | (with_reducible apply Keep.refl) | apply Keep.nil | refine Keep.cons (by (((with_reducible (repeat (first | apply Pull.here | apply Pull.there))); (first | done | fail "left")))) ?_ | apply Keep.drop)); (first | done | fail "left")))⟩
    · rintro _ H ⟨np2, rfl, S⟩
      walk_at "go"
      exact q _ _ _ (by rw [hd]; simp) hd (by (((refine Star.keep S ?_; repeat (first | (with_reducible apply Keep.refl) | apply Keep.nil | refine Keep.cons (by (((with_reducible (repeat (first | apply Pull.here | apply Pull.there))); (first | done | fail "left")))) ?_ | apply Keep.drop)); (first | done | fail "left"))))
  · rintro ⟨wd, c⟩ r σ H ⟨x4, x5, done, dk, rr, rfl, e1, e2, e3, e4, S⟩ N hN
    simp only [List.map_cons] at e1 e2
    have hwd := hwl wd (by rw [e1]; simp)
    have hwd2 : wd.length ≤ 100000 := by omega
    have hc := hkc2 c (by rw [e2]; simp)
    have hno : readW c wd = none → deedOf (y :: ys) = none := fun k => deed_none hks (by rw [e1, e2]; exact readWs_bad e3 k)
    have hyes : ∀ v, readW c wd = some v → readWs (dk ++ [c]) (done ++ [wd]) = some (rr ++ [v]) := fun v k => readWs_app e4 k
    have hrl := readWs_len e4
    have hrr : rr.length ≤ 6 := by
      have h1 := congrArg List.length e2
      rw [List.length_append, htk] at h1
      omega
    refine ⟨by walk_at "G", fun T0 H' add => ?_⟩
    replace S := add _ S
    clear add
    rename Hp => H
    walk_at "go"
    rw [kind_n]
    have hap : ∀ v : Int, rr.map V.int ++ [V.int v] = (rr ++ [v]).map V.int := fun v => by simp
    by_cases h1 : c = 110
    · rw [decide_eq_true h1]
      have hrd : readW c wd = if goodN wd = true then some (numN wd) else none := by unfold readW; rw [if_pos h1]
      walk_at "go"
      · rw [if_pos (by simpa using hn0)] at hrd
        rw [hap] at S
        exact hN _ _ ⟨_, _, done ++ [wd], dk ++ [c], rr ++ [numN wd], rfl, by rw [e1]; simp, by rw [e2]; simp, by simp [e3], hyes _ hrd, by (((refine Star.keep S ?_; repeat (first | (with_reducible apply Keep.refl) | apply Keep.nil | refine Keep.cons (by (((with_reducible (repeat (first | apply Pull.here | apply Pull.there))); (first | done | fail "left")))) ?_ | apply Keep.drop)); (first | done | fail "left")))⟩
      · rw [if_neg (by rw [hx]; simp)] at hrd
        exact q1 (hno hrd) _ (by (((refine Star.keep S ?_; repeat (first | (with_reducible apply Keep.refl) | apply Keep.nil | refine Keep.cons (by (((with_reducible (repeat (first | apply Pull.here | apply Pull.there))); (first | done | fail "left")))) ?_ | apply Keep.drop)); (first | done | fail "left"))))
    rw [decide_eq_false h1]
    walk_at "go"
    rw [kind_v]
    by_cases h2 : c = 118
    · rw [decide_eq_true h2]
      have hrd : readW c wd = valOf wd := by unfold readW; rw [if_neg h1, if_pos h2]
      walk_at "go"
      · rw [hap] at S
        exact hN _ _ ⟨_, _, done ++ [wd], dk ++ [c], _, rfl, by rw [e1]; simp, by rw [e2]; simp, by simp [e3], hyes _ (hrd.trans oc), by (((refine Star.keep S ?_; repeat (first | (with_reducible apply Keep.refl) | apply Keep.nil | refine Keep.cons (by (((with_reducible (repeat (first | apply Pull.here | apply Pull.there))); (first | done | fail "left")))) ?_ | apply Keep.drop)); (first | done | fail "left")))⟩
      · exact q1 (hno (hrd.trans hx)) _ (by (((refine Star.keep S ?_; repeat (first | (with_reducible apply Keep.refl) | apply Keep.nil | refine Keep.cons (by (((with_reducible (repeat (first | apply Pull.here | apply Pull.there))); (first | done | fail "left")))) ?_ | apply Keep.drop)); (first | done | fail "left"))))
    rw [decide_eq_false h2]
    have hrd : readW c wd = rtOf wd := by unfold readW; rw [if_neg h1, if_neg h2]
    walk_at "go"
    · rw [hap] at S
      exact hN _ _ ⟨_, _, done ++ [wd], dk ++ [c], _, rfl, by rw [e1]; simp, by rw [e2]; simp, by simp [e3], hyes _ (hrd.trans oc), by (((refine Star.keep S ?_; repeat (first | (with_reducible apply Keep.refl) | apply Keep.nil | refine Keep.cons (by (((with_reducible (repeat (first | apply Pull.here | apply Pull.there))); (first | done | fail "left")))) ?_ | apply Keep.drop)); (first | done | fail "left")))⟩
    · exact q1 (hno (hrd.trans hx)) _ (by (((refine Star.keep S ?_; repeat (first | (with_reducible apply Keep.refl) | apply Keep.nil | refine Keep.cons (by (((with_reducible (repeat (first | apply Pull.here | apply Pull.there))); (first | done | fail "left")))) ?_ | apply Keep.drop)); (first | done | fail "left"))))
def sp_L_form {K : PySem.W.Frag} {mg : Str → Option Value} (T : Txt w K mg)  : Sp := fun vs H Q E => ∃ (c : Int) (l : List Asrt), vs = [.int c] ∧ Star (l) H ∧ (True) ∧ (∀ (t : Addr) (i : Nat) (H' : Hp), (i < 15) → Star (pt t (.tup [.str (fmW i), .str (fmK i)]) :: l) H' → Q (.ref t) H')
theorem c_L_form {T : Txt w K mg}  {c : Int} {l : List Asrt} {H : Hp} {Q : VK} {E : XK} (S : Star l H) (pre : True) (q : (∀ (t : Addr) (i : Nat) (H' : Hp), (i < 15) → Star (pt t (.tup [.str (fmW i), .str (fmK i)]) :: l) H' → Q (.ref t) H')) : kCall (sp_L_form T ) [.int c] H Q E := ⟨c, l, rfl, S, pre, q⟩
instance {T : Txt w K mg}  : Ctg (sp_L_form T ) 6 := ⟨⟩
local macro_rules | `(tactic| walk_at "cl") => `(tactic| ((with_reducible refine ctg 6 ?_); ((with_reducible refine c_L_form S (by walk_at "pre") (fun ot oi H2 oc S2 => ?_)) <;> ((clear S; (try clear H); rename Star _ _ => S; rename Hp => H)))))
theorem ok_L_form (T : Txt w K mg) : FnOk P w K mg base (L2.CX P w) (1) T.f_L_form T.fd_L_form ["_law_cell"] (sp_L_form T) := by
  refine T.F_L_form.okX sc_L_form (fun vs H Q E => by walk_at "len") (fun cdv A outer s H vs Q E hr h => ?_)
  have hu := hu_of hr
  refine ⟨_, (pss_cons (ps_set (i := 1) sc_L_form.nd rfl (Or.inl rfl) (pe_lst (pa_cons (pe_tup (pa_cons pe_str (pa_cons pe_str pa_nil))) (pa_cons (pe_tup (pa_cons pe_str (pa_cons pe_str pa_nil))) (pa_cons (pe_tup (pa_cons pe_str (pa_cons pe_str pa_nil))) (pa_cons (pe_tup (pa_cons pe_str (pa_cons pe_str pa_nil))) (pa_cons (pe_tup (pa_cons pe_str (pa_cons pe_str pa_nil))) (pa_cons (pe_tup (pa_cons pe_str (pa_cons pe_str pa_nil))) pa_nil))))))))
      (pss_cons (ps_set (i := 1) sc_L_form.nd rfl (Or.inl rfl) (pe_op op_cat (pv 1) (pe_lst (pa_cons (pe_tup (pa_cons pe_str (pa_cons pe_str pa_nil))) (pa_cons (pe_tup (pa_cons pe_str (pa_cons pe_str pa_nil))) (pa_cons (pe_tup (pa_cons pe_str (pa_cons pe_str pa_nil))) (pa_cons (pe_tup (pa_cons pe_str (pa_cons pe_str pa_nil))) (pa_cons (pe_tup (pa_cons pe_str (pa_cons pe_str pa_nil))) pa_nil))))))))
      (pss_cons (ps_set (i := 1) sc_L_form.nd rfl (Or.inl rfl) (pe_op op_cat (pv 1) (pe_lst (pa_cons (pe_tup (pa_cons pe_str (pa_cons pe_str pa_nil))) (pa_cons (pe_tup (pa_cons pe_str (pa_cons pe_str pa_nil))) (pa_cons (pe_tup (pa_cons pe_str (pa_cons pe_str pa_nil))) (pa_cons (pe_tup (pa_cons pe_str (pa_cons pe_str pa_nil))) pa_nil)))))))
      (pss_one (ps_ret (pe_ix (ixL (K := K) rfl) (pv 1) (pe_op op_mod (pv 0) pe_int) (fun _ _ => rfl))))))), ?_⟩
  obtain ⟨c, l, rfl, S, pre, q⟩ := h
  walk_at "go0"
  have h : c % 15 = 0 ∨ c % 15 = 1 ∨ c % 15 = 2 ∨ c % 15 = 3 ∨ c % 15 = 4 ∨ c % 15 = 5 ∨ c % 15 = 6 ∨ c % 15 = 7 ∨ c % 15 = 8 ∨ c % 15 = 9 ∨ c % 15 = 10 ∨ c % 15 = 11 ∨ c % 15 = 12 ∨ c % 15 = 13 ∨ c % 15 = 14 := by omega
  rcases h with h | h | h | h | h | h | h | h | h | h | h | h | h | h | h
  all_goals (rw [h]; walk_at "go")
  · exact q _ 0 _ (by decide) (by (((refine Star.keep S ?_; repeat (first | (with_reducible apply Keep.refl) | apply Keep.nil | refine Keep.cons (by (((with_reducible (repeat (first | apply Pull.here | apply Pull.there))); (first | done | fail "left")))) ?_ | refine Keep.cons (by ((first | (((with_reducible (repeat (first | apply Pull.here | apply Pull.there))); (first | done | fail "left"))) | (with_reducible refine Pull.ePt (by (((with_reducible (repeat (first | apply Pull.here | apply Pull.there))); (first | done | fail "left")))) ?_; exact rfl) | (with_reducible refine Pull.eLA (by (((with_reducible (repeat (first | apply Pull.here | apply Pull.there))); (first | done | fail "left")))) ?_; exact rfl) | (with_reducible refine Pull.eLF (by (((with_reducible (repeat (first | apply Pull.here | apply Pull.there))); (first | done | fail "left")))) ?_; exact rfl) | ((repeat (first | apply Pull.here | apply Pull.there)); (first | done | fail "left"))))) ?_ | apply Keep.drop)); (first | done | fail "left"))))
  · exact q _ 1 _ (by decide) (by (((refine Star.keep S ?_; repeat (first | (with_reducible apply Keep.refl) | apply Keep.nil | refine Keep.cons (by (((with_reducible (repeat (first | apply Pull.here | apply Pull.there))); (first | done | fail "left")))) ?_ | refine Keep.cons (by ((first | (((with_reducible (repeat (first | apply Pull.here | apply Pull.there))); (first | done | fail "left"))) | (with_reducible refine Pull.ePt (by (((with_reducible (repeat (first | apply Pull.here | apply Pull.there))); (first | done | fail "left")))) ?_; exact rfl) | (with_reducible refine Pull.eLA (by (((with_reducible (repeat (first | apply Pull.here | apply Pull.there))); (first | done | fail "left")))) ?_; exact rfl) | (with_reducible refine Pull.eLF (by (((with_reducible (repeat (first | apply Pull.here | apply Pull.there))); (first | done | fail "left")))) ?_; exact rfl) | ((repeat (first | apply Pull.here | apply Pull.there)); (first | done | fail "left"))))) ?_ | apply Keep.drop)); (first | done | fail "left"))))
  · exact q _ 2 _ (by decide) (by (((refine Star.keep S ?_; repeat (first | (with_reducible apply Keep.refl) | apply Keep.nil | refine Keep.cons (by (((with_reducible (repeat (first | apply Pull.here | apply Pull.there))); (first | done | fail "left")))) ?_ | refine Keep.cons (by ((first | (((with_reducible (repeat (first | apply Pull.here | apply Pull.there))); (first | done | fail "left"))) | (with_reducible refine Pull.ePt (by (((with_reducible (repeat (first | apply Pull.here | apply Pull.there))); (first | done | fail "left")))) ?_; exact rfl) | (with_reducible refine Pull.eLA (by (((with_reducible (repeat (first | apply Pull.here | apply Pull.there))); (first | done | fail "left")))) ?_; exact rfl) | (with_reducible refine Pull.eLF (by (((with_reducible (repeat (first | apply Pull.here | apply Pull.there))); (first | done | fail "left")))) ?_; exact rfl) | ((repeat (first | apply Pull.here | apply Pull.there)); (first | done | fail "left"))))) ?_ | apply Keep.drop)); (first | done | fail "left"))))
  · exact q _ 3 _ (by decide) (by (((refine Star.keep S ?_; repeat (first | (with_reducible apply Keep.refl) | apply Keep.nil | refine Keep.cons (by (((with_reducible (repeat (first | apply Pull.here | apply Pull.there))); (first | done | fail "left")))) ?_ | refine Keep.cons (by ((first | (((with_reducible (repeat (first | apply Pull.here | apply Pull.there))); (first | done | fail "left"))) | (with_reducible refine Pull.ePt (by (((with_reducible (repeat (first | apply Pull.here | apply Pull.there))); (first | done | fail "left")))) ?_; exact rfl) | (with_reducible refine Pull.eLA (by (((with_reducible (repeat (first | apply Pull.here | apply Pull.there))); (first | done | fail "left")))) ?_; exact rfl) | (with_reducible refine Pull.eLF (by (((with_reducible (repeat (first | apply Pull.here | apply Pull.there))); (first | done | fail "left")))) ?_; exact rfl) | ((repeat (first | apply Pull.here | apply Pull.there)); (first | done | fail "left"))))) ?_ | apply Keep.drop)); (first | done | fail "left"))))
  · exact q _ 4 _ (by decide) (by (((refine Star.keep S ?_; repeat (first | (with_reducible apply Keep.refl) | apply Keep.nil | refine Keep.cons (by (((with_reducible (repeat (first | apply Pull.here | apply Pull.there))); (first | done | fail "left")))) ?_ | refine Keep.cons (by ((first | (((with_reducible (repeat (first | apply Pull.here | apply Pull.there))); (first | done | fail "left"))) | (with_reducible refine Pull.ePt (by (((with_reducible (repeat (first | apply Pull.here | apply Pull.there))); (first | done | fail "left")))) ?_; exact rfl) | (with_reducible refine Pull.eLA (by (((with_reducible (repeat (first | apply Pull.here | apply Pull.there))); (first | done | fail "left")))) ?_; exact rfl) | (with_reducible refine Pull.eLF (by (((with_reducible (repeat (first | apply Pull.here | apply Pull.there))); (first | done | fail "left")))) ?_; exact rfl) | ((repeat (first | apply Pull.here | apply Pull.there)); (first | done | fail "left"))))) ?_ | apply Keep.drop)); (first | done | fail "left"))))
  · exact q _ 5 _ (by decide) (by (((refine Star.keep S ?_; repeat (first | (with_reducible apply Keep.refl) | apply Keep.nil | refine Keep.cons (by (((with_reducible (repeat (first | apply Pull.here | apply Pull.there))); (first | done | fail "left")))) ?_ | refine Keep.cons (by ((first | (((with_reducible (repeat (first | apply Pull.here | apply Pull.there))); (first | done | fail "left"))) | (with_reducible refine Pull.ePt (by (((with_reducible (repeat (first | apply Pull.here | apply Pull.there))); (first | done | fail "left")))) ?_; exact rfl) | (with_reducible refine Pull.eLA (by (((with_reducible (repeat (first | apply Pull.here | apply Pull.there))); (first | done | fail "left")))) ?_; exact rfl) | (with_reducible refine Pull.eLF (by (((with_reducible (repeat (first | apply Pull.here | apply Pull.there))); (first | done | fail "left")))) ?_; exact rfl) | ((repeat (first | apply Pull.here | apply Pull.there)); (first | done | fail "left"))))) ?_ | apply Keep.drop)); (first | done | fail "left"))))
  · exact q _ 6 _ (by decide) (by (((refine Star.keep S ?_; repeat (first | (with_reducible apply Keep.refl) | apply Keep.nil | refine Keep.cons (by (((with_reducible (repeat (first | apply Pull.here | apply Pull.there))); (first | done | fail "left")))) ?_ | refine Keep.cons (by ((first | (((with_reducible (repeat (first | apply Pull.here | apply Pull.there))); (first | done | fail "left"))) | (with_reducible refine Pull.ePt (by (((with_reducible (repeat (first | apply Pull.here | apply Pull.there))); (first | done | fail "left")))) ?_; exact rfl) | (with_reducible refine Pull.eLA (by (((with_reducible (repeat (first | apply Pull.here | apply Pull.there))); (first | done | fail "left")))) ?_; exact rfl) | (with_reducible refine Pull.eLF (by (((with_reducible (repeat (first | apply Pull.here | apply Pull.there))); (first | done | fail "left")))) ?_; exact rfl) | ((repeat (first | apply Pull.here | apply Pull.there)); (first | done | fail "left"))))) ?_ | apply Keep.drop)); (first | done | fail "left"))))
  · exact q _ 7 _ (by decide) (by (((refine Star.keep S ?_; repeat (first | (with_reducible apply Keep.refl) | apply Keep.nil | refine Keep.cons (by (((with_reducible (repeat (first | apply Pull.here | apply Pull.there))); (first | done | fail "left")))) ?_ | refine Keep.cons (by ((first | (((with_reducible (repeat (first | apply Pull.here | apply Pull.there))); (first | done | fail "left"))) | (with_reducible refine Pull.ePt (by (((with_reducible (repeat (first | apply Pull.here | apply Pull.there))); (first | done | fail "left")))) ?_; exact rfl) | (with_reducible refine Pull.eLA (by (((with_reducible (repeat (first | apply Pull.here | apply Pull.there))); (first | done | fail "left")))) ?_; exact rfl) | (with_reducible refine Pull.eLF (by (((with_reducible (repeat (first | apply Pull.here | apply Pull.there))); (first | done | fail "left")))) ?_; exact rfl) | ((repeat (first | apply Pull.here | apply Pull.there)); (first | done | fail "left"))))) ?_ | apply Keep.drop)); (first | done | fail "left"))))
  · exact q _ 8 _ (by decide) (by (((refine Star.keep S ?_; repeat (first | (with_reducible apply Keep.refl) | apply Keep.nil | refine Keep.cons (by (((with_reducible (repeat (first | apply Pull.here | apply Pull.there))); (first | done | fail "left")))) ?_ | refine Keep.cons (by ((first | (((with_reducible (repeat (first | apply Pull.here | apply Pull.there))); (first | done | fail "left"))) | (with_reducible refine Pull.ePt (by (((with_reducible (repeat (first | apply Pull.here | apply Pull.there))); (first | done | fail "left")))) ?_; exact rfl) | (with_reducible refine Pull.eLA (by (((with_reducible (repeat (first | apply Pull.here | apply Pull.there))); (first | done | fail "left")))) ?_; exact rfl) | (with_reducible refine Pull.eLF (by (((with_reducible (repeat (first | apply Pull.here | apply Pull.there))); (first | done | fail "left")))) ?_; exact rfl) | ((repeat (first | apply Pull.here | apply Pull.there)); (first | done | fail "left"))))) ?_ | apply Keep.drop)); (first | done | fail "left"))))
  · exact q _ 9 _ (by decide) (by (((refine Star.keep S ?_; repeat (first | (with_reducible apply Keep.refl) | apply Keep.nil | refine Keep.cons (by (((with_reducible (repeat (first | apply Pull.here | apply Pull.there))); (first | done | fail "left")))) ?_ | refine Keep.cons (by ((first | (((with_reducible (repeat (first | apply Pull.here | apply Pull.there))); (first | done | fail "left"))) | (with_reducible refine Pull.ePt (by (((with_reducible (repeat (first | apply Pull.here | apply Pull.there))); (first | done | fail "left")))) ?_; exact rfl) | (with_reducible refine Pull.eLA (by (((with_reducible (repeat (first | apply Pull.here | apply Pull.there))); (first | done | fail "left")))) ?_; exact rfl) | (with_reducible refine Pull.eLF (by (((with_reducible (repeat (first | apply Pull.here | apply Pull.there))); (first | done | fail "left")))) ?_; exact rfl) | ((repeat (first | apply Pull.here | apply Pull.there)); (first | done | fail "left"))))) ?_ | apply Keep.drop)); (first | done | fail "left"))))
  · exact q _ 10 _ (by decide) (by (((refine Star.keep S ?_; repeat (first | (with_reducible apply Keep.refl) | apply Keep.nil | refine Keep.cons (by (((with_reducible (repeat (first | apply Pull.here | apply Pull.there))); (first | done | fail "left")))) ?_ | refine Keep.cons (by ((first | (((with_reducible (repeat (first | apply Pull.here | apply Pull.there))); (first | done | fail "left"))) | (with_reducible refine Pull.ePt (by (((with_reducible (repeat (first | apply Pull.here | apply Pull.there))); (first | done | fail "left")))) ?_; exact rfl) | (with_reducible refine Pull.eLA (by (((with_reducible (repeat (first | apply Pull.here | apply Pull.there))); (first | done | fail "left")))) ?_; exact rfl) | (with_reducible refine Pull.eLF (by (((with_reducible (repeat (first | apply Pull.here | apply Pull.there))); (first | done | fail "left")))) ?_; exact rfl) | ((repeat (first | apply Pull.here | apply Pull.there)); (first | done | fail "left"))))) ?_ | apply Keep.drop)); (first | done | fail "left"))))
  · exact q _ 11 _ (by decide) (by (((refine Star.keep S ?_; repeat (first | (with_reducible apply Keep.refl) | apply Keep.nil | refine Keep.cons (by (((with_reducible (repeat (first | apply Pull.here | apply Pull.there))); (first | done | fail "left")))) ?_ | refine Keep.cons (by ((first | (((with_reducible (repeat (first | apply Pull.here | apply Pull.there))); (first | done | fail "left"))) | (with_reducible refine Pull.ePt (by (((with_reducible (repeat (first | apply Pull.here | apply Pull.there))); (first | done | fail "left")))) ?_; exact rfl) | (with_reducible refine Pull.eLA (by (((with_reducible (repeat (first | apply Pull.here | apply Pull.there))); (first | done | fail "left")))) ?_; exact rfl) | (with_reducible refine Pull.eLF (by (((with_reducible (repeat (first | apply Pull.here | apply Pull.there))); (first | done | fail "left")))) ?_; exact rfl) | ((repeat (first | apply Pull.here | apply Pull.there)); (first | done | fail "left"))))) ?_ | apply Keep.drop)); (first | done | fail "left"))))
  · exact q _ 12 _ (by decide) (by (((refine Star.keep S ?_; repeat (first | (with_reducible apply Keep.refl) | apply Keep.nil | refine Keep.cons (by (((with_reducible (repeat (first | apply Pull.here | apply Pull.there))); (first | done | fail "left")))) ?_ | refine Keep.cons (by ((first | (((with_reducible (repeat (first | apply Pull.here | apply Pull.there))); (first | done | fail "left"))) | (with_reducible refine Pull.ePt (by (((with_reducible (repeat (first | apply Pull.here | apply Pull.there))); (first | done | fail "left")))) ?_; exact rfl) | (with_reducible refine Pull.eLA (by (((with_reducible (repeat (first | apply Pull.here | apply Pull.there))); (first | done | fail "left")))) ?_; exact rfl) | (with_reducible refine Pull.eLF (by (((with_reducible (repeat (first | apply Pull.here | apply Pull.there))); (first | done | fail "left")))) ?_; exact rfl) | ((repeat (first | apply Pull.here | apply Pull.there)); (first | done | fail "left"))))) ?_ | apply Keep.drop)); (first | done | fail "left"))))
  · exact q _ 13 _ (by decide) (by (((refine Star.keep S ?_; repeat (first | (with_reducible apply Keep.refl) | apply Keep.nil | refine Keep.cons (by (((with_reducible (repeat (first | apply Pull.here | apply Pull.there))); (first | done | fail "left")))) ?_ | refine Keep.cons (by ((first | (((with_reducible (repeat (first | apply Pull.here | apply Pull.there))); (first | done | fail "left"))) | (with_reducible refine Pull.ePt (by (((with_reducible (repeat (first | apply Pull.here | apply Pull.there))); (first | done | fail "left")))) ?_; exact rfl) | (with_reducible refine Pull.eLA (by (((with_reducible (repeat (first | apply Pull.here | apply Pull.there))); (first | done | fail "left")))) ?_; exact rfl) | (with_reducible refine Pull.eLF (by (((with_reducible (repeat (first | apply Pull.here | apply Pull.there))); (first | done | fail "left")))) ?_; exact rfl) | ((repeat (first | apply Pull.here | apply Pull.there)); (first | done | fail "left"))))) ?_ | apply Keep.drop)); (first | done | fail "left"))))
  · exact q _ 14 _ (by decide) (by (((refine Star.keep S ?_; repeat (first | (with_reducible apply Keep.refl) | apply Keep.nil | refine Keep.cons (by (((with_reducible (repeat (first | apply Pull.here | apply Pull.there))); (first | done | fail "left")))) ?_ | refine Keep.cons (by ((first | (((with_reducible (repeat (first | apply Pull.here | apply Pull.there))); (first | done | fail "left"))) | (with_reducible refine Pull.ePt (by (((with_reducible (repeat (first | apply Pull.here | apply Pull.there))); (first | done | fail "left")))) ?_; exact rfl) | (with_reducible refine Pull.eLA (by (((with_reducible (repeat (first | apply Pull.here | apply Pull.there))); (first | done | fail "left")))) ?_; exact rfl) | (with_reducible refine Pull.eLF (by (((with_reducible (repeat (first | apply Pull.here | apply Pull.there))); (first | done | fail "left")))) ?_; exact rfl) | ((repeat (first | apply Pull.here | apply Pull.there)); (first | done | fail "left"))))) ?_ | apply Keep.drop)); (first | done | fail "left"))))
def sp_show_rights {K : PySem.W.Frag} {mg : Str → Option Value} (T : Txt w K mg)  : Sp := fun vs H Q E => ∃ (n : Int) (l : List Asrt), vs = [.int n] ∧ Star (l) H ∧ (0 ≤ n ∧ n ≤ 3) ∧ (∀ (H' : Hp), Star (l) H' → Q (.str (rtS n)) H')
theorem c_show_rights {T : Txt w K mg}  {n : Int} {l : List Asrt} {H : Hp} {Q : VK} {E : XK} (S : Star l H) (pre : 0 ≤ n ∧ n ≤ 3) (q : (∀ (H' : Hp), Star (l) H' → Q (.str (rtS n)) H')) : kCall (sp_show_rights T ) [.int n] H Q E := ⟨n, l, rfl, S, pre, q⟩
instance {T : Txt w K mg}  : Ctg (sp_show_rights T ) 7 := ⟨⟩
local macro_rules | `(tactic| walk_at "cl") => `(tactic| ((with_reducible refine ctg 7 ?_); ((with_reducible refine c_show_rights S (by walk_at "pre") (fun  H2 S2 => ?_)) <;> ((clear S; (try clear H); rename Star _ _ => S; rename Hp => H)))))
theorem ok_show_rights (T : Txt w K mg) : FnOk P w K mg base (L2.CX P w) (1) T.f_show_rights T.fd_show_rights ["rights"] (sp_show_rights T) := by
  refine T.F_show_rights.okX sc_show_rights (fun vs H Q E => by walk_at "len") (fun cdv A outer s H vs Q E hr h => ?_)
  have hu := hu_of hr
  refine ⟨_, (pss_one (ps_ret (pe_ix (ixL (K := K) rfl) (pe_lst (pa_cons pe_str (pa_cons pe_str (pa_cons pe_str (pa_cons pe_str pa_nil))))) (pv 0) (fun _ _ => rfl)))), ?_⟩
  obtain ⟨n, l, rfl, S, pre, q⟩ := h
  have h : n = 0 ∨ n = 1 ∨ n = 2 ∨ n = 3 := by omega
  rcases h with rfl | rfl | rfl | rfl
  all_goals (walk_at "go0"; exact q _ (by (((refine Star.keep S ?_; repeat (first | (with_reducible apply Keep.refl) | apply Keep.nil | refine Keep.cons (by (((with_reducible (repeat (first | apply Pull.here | apply Pull.there))); (first | done | fail "left")))) ?_ | apply Keep.drop)); (first | done | fail "left")))))
def sp_L_number {K : PySem.W.Frag} {mg : Str → Option Value} (T : Txt w K mg)  : Sp := fun vs H Q E => ∃ (c : Int) (k : Nat) (l : List Asrt), vs = [.int c, .str ⟨#[k]⟩] ∧ Star (l) H ∧ (True) ∧ (∀ (H' : Hp), Star (l) H' → Q (.int (numG c k)) H')
theorem c_L_number {T : Txt w K mg}  {c : Int} {k : Nat} {l : List Asrt} {H : Hp} {Q : VK} {E : XK} (S : Star l H) (pre : True) (q : (∀ (H' : Hp), Star (l) H' → Q (.int (numG c k)) H')) : kCall (sp_L_number T ) [.int c, .str ⟨#[k]⟩] H Q E := ⟨c, k, l, rfl, S, pre, q⟩
instance {T : Txt w K mg}  : Ctg (sp_L_number T ) 8 := ⟨⟩
local macro_rules | `(tactic| walk_at "cl") => `(tactic| ((with_reducible refine ctg 8 ?_); ((with_reducible refine c_L_number S (by walk_at "pre") (fun  H2 S2 => ?_)) <;> ((clear S; (try clear H); rename Star _ _ => S; rename Hp => H)))))
theorem ok_L_number (T : Txt w K mg) : FnOk P w K mg base (L2.CX P w) (1) T.f_L_number T.fd_L_number ["_law_cell", "_law_kind"] (sp_L_number T) := by
  refine T.F_L_number.okX sc_L_number (fun vs H Q E => by walk_at "len") (fun cdv A outer s H vs Q E hr h => ?_)
  have hu := hu_of hr
  refine ⟨_, (pss_cons (ps_if (pt_cmpR op_eq (pv 1) pe_str (nomark _)) (pss_one (ps_ret (pe_op op_mod (pv 0) pe_int))) pss_nil)
      (pss_cons (ps_set (i := 2) sc_L_number.nd rfl (Or.inl rfl) pe_int)
      (pss_cons (ps_for (passes_of rfl) rfl (pi_range1 (by rfl) T.z_range (pa_cons (pe_op op_mod (pe_op op_fdivW (pv 0) pe_int) pe_int) pa_nil)) (pg_name (i := 3) sc_L_number.nd rfl (Or.inl rfl)) (pss_one (ps_set (i := 2) sc_L_number.nd rfl (Or.inl rfl) (pe_op op_mul (pv 2) pe_int))))
      (pss_cons (ps_set (i := 4) sc_L_number.nd rfl (Or.inl rfl) (pe_ix (ixL (K := K) rfl) (pe_lst (pa_cons (pv 2) (pa_cons (pe_op op_sub (pe_op op_mul (pv 2) pe_int) pe_int) (pa_cons (pe_op op_add (pv 2) (pe_op op_mod (pe_op op_fdivW (pv 0) pe_int) (pe_op op_mul (pv 2) pe_int))) pa_nil)))) (pe_op op_mod (pv 0) pe_int) (fun _ _ => rfl)))
      (pss_cons (ps_if (pt_cmpR op_eq (pe_op op_mod (pe_op op_fdivW (pv 0) pe_int) pe_int) pe_int (nomark _)) (pss_one (ps_ret pe_int)) pss_nil)
      (pss_cons (ps_if (PW.pt (pw_and (pt_cmpR op_eq (pv 1) pe_str (nomark _)) (pw_and1 (pt_cmpR op_eq (pe_op op_mod (pe_op op_fdivW (pv 0) pe_int) pe_int) pe_int (nomark _))))) (pss_one (ps_ret (pe_un un_neg (pv 4)))) pss_nil)
      (pss_one (ps_ret (pv 4))))))))), ?_⟩
  obtain ⟨c, k, l, rfl, S, pre, q⟩ := h
  walk_at "go0"
  rw [kind_r]
  by_cases h1 : k = 114
  · rw [decide_eq_true h1]
    unfold numG at q
    rw [if_pos h1] at q
    walk_at "go"
    exact q _ S
  rw [decide_eq_false h1]
  obtain ⟨m, hm, hm60⟩ : ∃ m : Nat, (c / 3 % 60).toNat = m ∧ m < 60 := ⟨_, rfl, by omega⟩
  have eq : numG c k = if c / 180 % 7 = 6 then 0 else if k = 118 ∧ c / 180 % 2 = 1 then -(if c % 3 = 0 then (10 : Int) ^ m else if c % 3 = 1 then 10 ^ m * 10 - 1 else 10 ^ m + c / 180 % (10 ^ m * 9)) else (if c % 3 = 0 then (10 : Int) ^ m else if c % 3 = 1 then 10 ^ m * 10 - 1 else 10 ^ m + c / 180 % (10 ^ m * 9)) := by
    unfold numG; rw [if_neg h1, hm]
  rw [eq] at q
  walk_at "go"
  rw [hm]
  refine fl_indR0 (fun j σ H => ∃ x, σ = [some (V.int c), some (V.str ⟨#[k]⟩), some (V.int (10 ^ j)), x, none] ∧ Star l H) ⟨none, rfl, S⟩ ?_ ?_
  rotate_left
  · rintro j σ H hj ⟨x, rfl, S⟩ N hN
    have hp := pow_60 (m := j) (by omega)
    refine ⟨by walk_at "G", ?_⟩
    walk_at "go"
    refine hN _ _ ⟨_, by rw [Int.pow_succ], S⟩
  rintro σ H ⟨x, rfl, S⟩
  refine ⟨by walk_at "G", ?_⟩
  obtain ⟨hl1, hl2⟩ := pow_60 (m := m) hm60
  generalize (10 : Int) ^ m = L at *
  have hi : atI [V.int L, V.int (L * 10 - 1), V.int (L + c / 180 % (L * 9))] (c % 3) = some (V.int (if c % 3 = 0 then L else if c % 3 = 1 then L * 10 - 1 else L + c / 180 % (L * 9))) := by
    have h : c % 3 = 0 ∨ c % 3 = 1 ∨ c % 3 = 2 := by omega
    rcases h with h | h | h <;> rw [h] <;> rfl
  have hL9 : 0 < L * 9 := by omega
  walk_at "go"
  generalize (if c % 3 = 0 then L else if c % 3 = 1 then L * 10 - 1 else L + c / 180 % (L * 9)) = z at *
  refine if_d (fun h2 => ?_) (fun h2 => ?_)
  · rw [if_pos h2] at q
    walk_at "go"
    exact q _ (by (((refine Star.keep S ?_; repeat (first | (with_reducible apply Keep.refl) | apply Keep.nil | refine Keep.cons (by (((with_reducible (repeat (first | apply Pull.here | apply Pull.there))); (first | done | fail "left")))) ?_ | apply Keep.drop)); (first | done | fail "left"))))
  rw [if_neg h2] at q
  walk_at "go"
  rw [kind_v]
  by_cases h3 : k = 118
  · rw [decide_eq_true h3, Bool.true_and]
    refine if_d (fun h4 => ?_) (fun h4 => ?_)
    · rw [if_pos ⟨h3, h4⟩] at q
      walk_at "go"; exact q _ (by (((refine Star.keep S ?_; repeat (first | (with_reducible apply Keep.refl) | apply Keep.nil | refine Keep.cons (by (((with_reducible (repeat (first | apply Pull.here | apply Pull.there))); (first | done | fail "left")))) ?_ | apply Keep.drop)); (first | done | fail "left"))))
    · rw [if_neg (fun z => h4 z.2)] at q
      walk_at "go"; exact q _ (by (((refine Star.keep S ?_; repeat (first | (with_reducible apply Keep.refl) | apply Keep.nil | refine Keep.cons (by (((with_reducible (repeat (first | apply Pull.here | apply Pull.there))); (first | done | fail "left")))) ?_ | apply Keep.drop)); (first | done | fail "left"))))
  · rw [decide_eq_false h3, Bool.false_and]
    rw [if_neg (fun z => h3 z.1)] at q
    walk_at "go"
    exact q _ (by (((refine Star.keep S ?_; repeat (first | (with_reducible apply Keep.refl) | apply Keep.nil | refine Keep.cons (by (((with_reducible (repeat (first | apply Pull.here | apply Pull.there))); (first | done | fail "left")))) ?_ | apply Keep.drop)); (first | done | fail "left"))))
def sp_L_figures {K : PySem.W.Frag} {mg : Str → Option Value} (T : Txt w K mg)  : Sp := fun vs H Q E => ∃ (n : Int) (l : List Asrt), vs = [.int n] ∧ Star (l) H ∧ (n.natAbs < 10 ^ 60) ∧ (∀ (H' : Hp), Star (l) H' → Q (.str (numS n)) H')
theorem c_L_figures {T : Txt w K mg}  {n : Int} {l : List Asrt} {H : Hp} {Q : VK} {E : XK} (S : Star l H) (pre : n.natAbs < 10 ^ 60) (q : (∀ (H' : Hp), Star (l) H' → Q (.str (numS n)) H')) : kCall (sp_L_figures T ) [.int n] H Q E := ⟨n, l, rfl, S, pre, q⟩
instance {T : Txt w K mg}  : Ctg (sp_L_figures T ) 9 := ⟨⟩
local macro_rules | `(tactic| walk_at "cl") => `(tactic| ((with_reducible refine ctg 9 ?_); ((with_reducible refine c_L_figures S (by walk_at "pre") (fun  H2 S2 => ?_)) <;> ((clear S; (try clear H); rename Star _ _ => S; rename Hp => H)))))
theorem ok_L_figures (T : Txt w K mg) : FnOk P w K mg base (L2.CX P w) (1) T.f_L_figures T.fd_L_figures ["_law_number_here"] (sp_L_figures T) := by
  refine T.F_L_figures.okX sc_L_figures (fun vs H Q E => by walk_at "len") (fun cdv A outer s H vs Q E hr h => ?_)
  have hu := hu_of hr
  refine ⟨_, (pss_cons (ps_if (pt_cmpR op_eq (pv 0) pe_int (nomark _)) (pss_one (ps_ret pe_str)) pss_nil)
      (pss_cons (ps_set (i := 1) sc_L_figures.nd rfl (Or.inl rfl) pe_str)
      (pss_cons (ps_set (i := 2) sc_L_figures.nd rfl (Or.inl rfl) (pe_callB call_abs (by rfl) T.z_abs (by decide +kernel) (pa_cons (pv 0) pa_nil)))
      (pss_cons (ps_while (passes_of rfl) (pt_cmpR op_gt (pv 2) pe_int (nomark _)) (pss_cons (ps_set (i := 1) sc_L_figures.nd rfl (Or.inl rfl) (pe_op opCatS (pe_ix ix_str pe_str (pe_op op_mod (pv 2) pe_int) (fun _ _ => rfl)) (pv 1)))
      (pss_one (ps_set (i := 2) sc_L_figures.nd rfl (Or.inl rfl) (pe_op op_fdivW (pv 2) pe_int)))))
      (pss_cons (ps_if (pt_cmpR op_lt (pv 0) pe_int (nomark _)) (pss_one (ps_ret (pe_op opCatS pe_str (pv 1)))) pss_nil)
      (pss_one (ps_ret (pv 1)))))))), ?_⟩
  obtain ⟨n, l, rfl, S, pre, q⟩ := h
  walk_at "go0"
  refine if_d (fun h => ?_) (fun h => ?_)
  · walk_at "go"
    subst h
    exact q _ S
  walk_at "go"
  refine ⟨n, rfl, ?_⟩
  have ea : (if n < 0 then -n else n) = (n.natAbs : Int) := by split <;> omega
  rw [ea]
  walk_at "go"
  refine r_while (fun m σ H => ∃ w : Str, σ = [some (V.int n), some (V.str w), some (V.int (m : Int))] ∧ figs n.natAbs = figs m ++ tl w ∧ w.length + (figs m).length ≤ 61 ∧ Star l H) n.natAbs ⟨_, rfl, ?_, ?_, S⟩ ?_
  · rw [show tl (Str.ofString "") = [] by decide +kernel, List.append_nil]
  · rw [show (Str.ofString "").length = 0 by decide +kernel]
    have hd := dig_len pre
    unfold figs
    split
    · simp
    · rw [List.length_map]; omega
  rintro m σ H ⟨w, rfl, e, hle, S⟩
  walk_at "go"
  by_cases hm : 0 < m
  · rw [decide_eq_true (show (0 : Int) < (m : Int) by omega), if_pos rfl]
    have hfs := figs_step hm
    have hdg : ∀ d < 10, (Str.ofString "0123456789").cps.toList[d]? = some (48 + d) := by decide +kernel
    have hi : atI (Str.ofString "0123456789").cps.toList ((m : Int) % 10) = some (48 + m % 10) := by
      rw [show ((m : Int) % 10) = ((m % 10 : Nat) : Int) by omega]
      exact atI_nat (hdg _ (Nat.mod_lt _ (by decide)))
    have hw1 : (Str.mk #[48 + m % 10]).length = 1 := rfl
    have hl3 : (figs m).length = (figs (m / 10)).length + 1 := by rw [hfs, List.length_append]; rfl
    have hsz : (Str.mk #[48 + m % 10]).length + w.length ≤ 100000 := by omega
    refine r_turn ?_
    walk_at "go"
    refine ⟨m / 10, by omega, _, by rw [show ((m : Int) / 10) = ((m / 10 : Nat) : Int) by omega], ?_, ?_, S⟩
    · rw [e, hfs, tl_app, List.append_assoc]
    · rw [Str.length_append]; omega
  · obtain rfl : m = 0 := by omega
    rw [decide_eq_false (show ¬ (0 : Int) < ((0 : Nat) : Int) by omega), if_neg Bool.false_ne_true]
    rw [show figs 0 = [] from rfl] at e
    replace e : figs n.natAbs = tl w := e
    have hf := numS_figs h
    have hd1 : (Str.ofString "-").length + w.length ≤ 100000 := by rw [show (Str.ofString "-").length = 1 by decide +kernel]; omega
    walk_at "go"
    refine if_d (fun h2 => ?_) (fun h2 => ?_)
    · walk_at "go"
      rw [show Str.ofString "-" ++ w = numS n from str_ext (by rw [tl_app, hf, if_pos h2, e, show tl (Str.ofString "-") = [45] by decide +kernel]; rfl)]
      exact q _ S
    · walk_at "go"
      rw [show w = numS n from str_ext (by rw [hf, if_neg h2, e])]
      exact q _ S
def sp_show_row {K : PySem.W.Frag} {mg : Str → Option Value} (T : Txt w K mg)  : Sp := fun vs H Q E => ∃ (a : Addr) (i : Nat) (f : Nat → Int) (l : List Asrt), vs = [.ref a] ∧ Star (pt a (.tup (dd i f)) :: l) H ∧ (i < 15 ∧ fOk i f) ∧ (∀ (H' : Hp), Star (pt a (.tup (dd i f)) :: l) H' → Q (.str (Txt.join " " (wsD i f))) H')
theorem c_show_row {T : Txt w K mg}  {a : Addr} {i : Nat} {f : Nat → Int} {L l : List Asrt} {H : Hp} {Q : VK} {E : XK} (S : Star L H) (P0 : Pull (pt a (.tup (dd i f))) L l) (pre : i < 15 ∧ fOk i f) (q : (∀ (H' : Hp), Star (pt a (.tup (dd i f)) :: l) H' → Q (.str (Txt.join " " (wsD i f))) H')) : kCall (sp_show_row T ) [.ref a] H Q E := ⟨a, i, f, l, rfl, (S.pull P0), pre, q⟩
instance {T : Txt w K mg}  : Ctg (sp_show_row T ) 10 := ⟨⟩
local macro_rules | `(tactic| walk_at "cl") => `(tactic| ((with_reducible refine ctg 10 ?_); ((with_reducible refine c_show_row S (by (((with_reducible (repeat (first | apply Pull.here | apply Pull.there))); (first | done | fail "left")))) (by walk_at "pre") (fun  H2 S2 => ?_)) <;> ((clear S; (try clear H); rename Star _ _ => S; rename Hp => H)))))
theorem ok_show_row (T : Txt w K mg) : FnOk P w K mg base (L2.CX P w) (2) T.f_show_row T.fd_show_row ["deed"] (sp_show_row T) := by
  refine T.F_show_row.okX sc_show_row (fun vs H Q E => by walk_at "len") (fun cdv A outer s H vs Q E hr h => ?_)
  have hu := hu_of hr
  refine ⟨_, (pss_cons (ps_set (i := 1) sc_show_row.nd rfl (Or.inl rfl) (pe_callTy (callList (K := K) rfl) (by rfl) T.z_list (by decide +kernel) (pa_cons (pv 0) pa_nil)))
      (Evl.pss_cut (ps_if (PW.pt (pw_and (pt_cmpR op_eq (pe_ix (ixT (K := K) rfl) (pv 0) pe_int (fun _ _ => rfl)) pe_str (nomark _)) (pw_and1 (pt_cmpR op_isN1 (pe_ix (ixT (K := K) rfl) (pv 0) pe_int (fun _ _ => rfl)) pe_non (nomark _))))) (pss_one (ps_set (i := 1) sc_show_row.nd rfl (Or.inl rfl) (pe_slice (slL (K := K) rfl) (pv 1) po_none (po_some pe_int)))) pss_nil)
      (pss_cons (ps_set (i := 2) sc_show_row.nd rfl (Or.inl rfl) (pe_lst pa_nil))
      (pss_cons (ps_for (passes_of rfl) rfl (pi_enum (by rfl) T.z_enumerate (pa_cons (pv 1) pa_nil)) (pgTup (K := K) rfl rfl (pgs_cons (pg_name (i := 3) sc_show_row.nd rfl (Or.inl rfl)) (pgs_cons (pg_name (i := 4) sc_show_row.nd rfl (Or.inl rfl)) pgs_nil))) (pss_one (ps_if (pt_cmpR op_eq (pv 3) pe_int (nomark _)) (pss_one (ps_expr (pe_bm PySem.F.plainAttrs_list PySem.F.slot_list_append PySem.F.type_list_append mt_append (pv 2) (pa_cons (pv 4) pa_nil)))) (pss_one (ps_if (PW.pt (pw_and (pt_cmpR op_eq (pv 3) pe_int (nomark _)) (pw_and1 (pt_cmpR (inL (K := K) rfl) (pe_ix (ixT (K := K) rfl) (pv 0) pe_int (fun _ _ => rfl)) (pe_tup (pa_cons pe_str (pa_cons pe_str pa_nil))) (by rfl))))) (pss_one (ps_expr (pe_bm PySem.F.plainAttrs_list PySem.F.slot_list_append PySem.F.type_list_append mt_append (pv 2) (pa_cons (pe_cl (ok_show_rights T) (hr.mono (by decide)) T.mg_show_rights T.kp_show_rights T.b_show_rights_1 .nil (fun _ => pass0At) (pa_cons (pv 4) pa_nil)) pa_nil)))) (pss_one (ps_expr (pe_bm PySem.F.plainAttrs_list PySem.F.slot_list_append PySem.F.type_list_append mt_append (pv 2) (pa_cons (pe_callTy callStr (by rfl) T.z_str (by decide +kernel) (pa_cons (pv 4) pa_nil)) pa_nil)))))))))
      (pss_one (ps_ret (pe_m1 PySem.F.slot_str_join PySem.F.type_str_join (mtJoinS (K := K) rfl) pe_str (pv 2)))))))), ?_⟩
  obtain ⟨a, i, f, l, rfl, S, pre, q⟩ := h
  obtain ⟨hi, hf⟩ := pre
  have h0 : atI (dd i f) 0 = some (V.str (fmW i)) := atI_nat (k := 0) rfl
  have hlay := fm_lay i hi
  obtain ⟨f1, f2, f3, f4, f5⟩ := fm_of i hi
  walk_at "go0"
  refine r_cut (fun σ' H' => ∃ np : Addr, σ' = [some (V.ref a), some (V.ref np), none, none, none] ∧ Star (pt np (.lst ((w0 i).map (fvO i f))) :: pt a (.tup (dd i f)) :: l) H') ?_ ?_
  · walk_at "go"
    by_cases h5 : i = 5
    · subst h5
      have e5 : (fmK 5).length = 4 := by decide +kernel
      have ha5 : atI (dd 5 f) 5 = some V.non := by
        refine atI_nat (k := 5) ?_
        unfold dd tailD
        rw [e5, if_pos ⟨hlay.mpr (.inl rfl), rfl⟩]
        rfl
      rw [decide_eq_true (hlay.mpr (.inl rfl))]
      walk_at "go"
      have ec : cutV (dd 5 f) none (some 5) = (w0 5).map (fvO 5 f) := by
        rw [show (5 : Int) = ((5 : Nat) : Int) from rfl, cutV_to, w0_map]
        unfold dd
        rw [e5]
        rfl
      rw [ec] at S
      exact ⟨_, rfl, by (((refine Star.keep S ?_; repeat (first | (with_reducible apply Keep.refl) | apply Keep.nil | refine Keep.cons (by (((with_reducible (repeat (first | apply Pull.here | apply Pull.there))); (first | done | fail "left")))) ?_ | apply Keep.drop)); (first | done | fail "left")))⟩
    have et := tailD_no hi h5
    have ed : dd i f = (w0 i).map (fvO i f) := by unfold dd; rw [et, List.append_nil, w0_map]
    by_cases h6 : i = 6
    · subst h6
      have ha5 : atI (dd 6 f) 5 = some (V.int (f 4)) := atI_nat (k := 5) (dd_at (j := 4) (by decide +kernel))
      rw [decide_eq_true (hlay.mpr (.inr rfl))]
      walk_at "go"
      have S2 : Star (pt nq (.lst ((w0 6).map (fvO 6 f))) :: pt a (.tup (dd 6 f)) :: l) H := by rw [← ed]; exact S
      exact ⟨_, rfl, S2⟩
    · rw [decide_eq_false (fun k => by have := hlay.mp k; omega)]
      walk_at "go"
      have S2 : Star (pt nq (.lst ((w0 i).map (fvO i f))) :: pt a (.tup (dd i f)) :: l) H := by rw [← ed]; exact S
      exact ⟨_, rfl, S2⟩
  rintro _ H ⟨p1, rfl, S⟩
  walk_at "go"
  refine fl_indE (f := fvO i f) (xs := w0 i) (fun k r σ H => ∃ x3 x4, σ = [some (V.ref a), some (V.ref p1), some (V.ref np), x3, x4] ∧ (w0 i).drop k = r ∧ Star (pt np (.lst (((wsD i f).take k).map V.str)) :: pt p1 (.lst ((w0 i).map (fvO i f))) :: pt a (.tup (dd i f)) :: l) H) ⟨none, none, rfl, rfl, by rw [List.take_zero, List.map_nil]; exact S⟩ ?_ ?_
  · rintro k σ H ⟨x3, x4, rfl, hd, S⟩
    have hk : (wsD i f).length ≤ k := by
      have := List.drop_eq_nil_iff.mp hd
      unfold w0 at this
      rw [wsD_len]
      simpa using this
    rw [List.take_of_length_le hk] at S
    have hsum := (row_sum hi hf (WS := wsD i f) rfl).1
    refine ⟨by walk_at "G", ?_⟩
    walk_at "go"
    exact q _ (by (((refine Star.keep S ?_; repeat (first | (with_reducible apply Keep.refl) | apply Keep.nil | refine Keep.cons (by (((with_reducible (repeat (first | apply Pull.here | apply Pull.there))); (first | done | fail "left")))) ?_ | apply Keep.drop)); (first | done | fail "left"))))
  · rintro k x r σ H ⟨x3, x4, rfl, hd, S⟩ N hN
    obtain ⟨hd2, hcase⟩ := w0_at hd
    have hlk : ((wsD i f).take k).length ≤ 100 := by rw [List.length_take, wsD_len]; omega
    refine ⟨by walk_at "G", fun T0 H' add => ?_⟩
    replace S := add _ S
    clear add
    rename Hp => H
    rcases hcase with ⟨rfl, rfl⟩ | ⟨j, rfl, rfl, hj⟩
    · dsimp only [fvO] at S
      have hn := take_next (l := wsD i f) (k := 0) (x := fmW i) rfl
      walk_at "go"
      refine hN _ _ ⟨_, _, rfl, hd2, ?_⟩
      rw [hn, List.map_append, List.map_cons, List.map_nil]
      (((refine Star.keep S ?_; repeat (first | (with_reducible apply Keep.refl) | apply Keep.nil | refine Keep.cons (by (((with_reducible (repeat (first | apply Pull.here | apply Pull.there))); (first | done | fail "left")))) ?_ | apply Keep.drop)); (first | done | fail "left")))
    · dsimp only [fvO] at S
      have hn := take_next (wsD_at (i := i) (f := f) hj)
      have hr := rt_at i hi j (by omega) hj
      have hok := hf j hj
      have hkc := f4 ((tl (fmK i)).getD j 0) (by rw [List.getD_eq_getElem?_getD, List.getElem?_eq_getElem (by rw [← len_tl]; exact hj), Option.getD_some]; exact List.getElem_mem _)
      generalize (tl (fmK i)).getD j 0 = c at *
      have ha := okN_abs hok
      have hr3 : decide (((j + 1 : Nat) : Int) = 4) = decide (j = 3) := decide_eq_decide.mpr (by omega)
      walk_at "go"
      rw [hr3]
      by_cases hc : c = 114
      · rw [decide_eq_true hc] at hr
        have hr4 := hr.symm
        rw [Bool.and_eq_true] at hr4
        rw [hr4.1]
        have ew : wrt c (f j) = rtS (f j) := by unfold wrt; rw [if_pos hc]
        unfold okN at hok
        rw [if_pos hc] at hok
        walk_at "go"
        refine r_inTS [Str.ofString "lay", Str.ofString "guard"] S (by (((with_reducible (repeat (first | apply Pull.here | apply Pull.there))); (first | done | fail "left")))) (by rfl) ?_
        rw [hr4.2]
        walk_at "go"
        refine hN _ _ ⟨_, _, rfl, hd2, ?_⟩
        rw [hn, List.map_append, ew, List.map_cons, List.map_nil]
        (((refine Star.keep S ?_; repeat (first | (with_reducible apply Keep.refl) | apply Keep.nil | refine Keep.cons (by (((with_reducible (repeat (first | apply Pull.here | apply Pull.there))); (first | done | fail "left")))) ?_ | apply Keep.drop)); (first | done | fail "left")))
      · rw [decide_eq_false hc] at hr
        have ew : wrt c (f j) = numS (f j) := by unfold wrt; rw [if_neg hc]
        by_cases h3 : j = 3
        · rw [decide_eq_true h3, Bool.true_and] at hr
          rw [decide_eq_true h3]
          walk_at "go"
          refine r_inTS [Str.ofString "lay", Str.ofString "guard"] S (by (((with_reducible (repeat (first | apply Pull.here | apply Pull.there))); (first | done | fail "left")))) (by rfl) ?_
          rw [← hr]
          walk_at "go"
          refine hN _ _ ⟨_, _, rfl, hd2, ?_⟩
          rw [hn, List.map_append, ew, List.map_cons, List.map_nil]
          (((refine Star.keep S ?_; repeat (first | (with_reducible apply Keep.refl) | apply Keep.nil | refine Keep.cons (by (((with_reducible (repeat (first | apply Pull.here | apply Pull.there))); (first | done | fail "left")))) ?_ | apply Keep.drop)); (first | done | fail "left")))
        · rw [decide_eq_false h3]
          walk_at "go"
          refine hN _ _ ⟨_, _, rfl, hd2, ?_⟩
          rw [hn, List.map_append, ew, List.map_cons, List.map_nil]
          (((refine Star.keep S ?_; repeat (first | (with_reducible apply Keep.refl) | apply Keep.nil | refine Keep.cons (by (((with_reducible (repeat (first | apply Pull.here | apply Pull.there))); (first | done | fail "left")))) ?_ | apply Keep.drop)); (first | done | fail "left")))
def sp_L_shown {K : PySem.W.Frag} {mg : Str → Option Value} (T : Txt w K mg)  : Sp := fun vs H Q E => ∃ (a : Addr) (i : Nat) (f : Nat → Int) (l : List Asrt), vs = [.ref a, .str (fmK i)] ∧ Star (pt a (.tup (dd i f)) :: l) H ∧ (i < 15 ∧ fOk i f) ∧ (∀ (H' : Hp), Star (pt a (.tup (dd i f)) :: l) H' → Q (.str (Txt.join " " (wsD i f))) H')
theorem c_L_shown {T : Txt w K mg}  {a : Addr} {i : Nat} {f : Nat → Int} {L l : List Asrt} {H : Hp} {Q : VK} {E : XK} (S : Star L H) (P0 : Pull (pt a (.tup (dd i f))) L l) (pre : i < 15 ∧ fOk i f) (q : (∀ (H' : Hp), Star (pt a (.tup (dd i f)) :: l) H' → Q (.str (Txt.join " " (wsD i f))) H')) : kCall (sp_L_shown T ) [.ref a, .str (fmK i)] H Q E := ⟨a, i, f, l, rfl, (S.pull P0), pre, q⟩
instance {T : Txt w K mg}  : Ctg (sp_L_shown T ) 11 := ⟨⟩
local macro_rules | `(tactic| walk_at "cl") => `(tactic| ((with_reducible refine ctg 11 ?_); ((with_reducible refine c_L_shown S (by (((with_reducible (repeat (first | apply Pull.here | apply Pull.there))); (first | done | fail "left")))) (by walk_at "pre") (fun  H2 S2 => ?_)) <;> ((clear S; (try clear H); rename Star _ _ => S; rename Hp => H)))))
theorem ok_L_shown (T : Txt w K mg) : FnOk P w K mg base (L2.CX P w) (2) T.f_L_shown T.fd_L_shown ["_law_deed", "_law_kinds"] (sp_L_shown T) := by
  refine T.F_L_shown.okX sc_L_shown (fun vs H Q E => by walk_at "len") (fun cdv A outer s H vs Q E hr h => ?_)
  have hu := hu_of hr
  refine ⟨_, (pss_cons (ps_set (i := 2) sc_L_shown.nd rfl (Or.inl rfl) (pe_ix (ixT (K := K) rfl) (pv 0) pe_int (fun _ _ => rfl)))
      (pss_cons (ps_for (passes_of rfl) rfl (pi_range1 (by rfl) T.z_range (pa_cons (pe_callB callLenX (by rfl) T.z_len (by decide +kernel) (pa_cons (pv 1) pa_nil)) pa_nil)) (pg_name (i := 3) sc_L_shown.nd rfl (Or.inl rfl)) (pss_cons (ps_set (i := 4) sc_L_shown.nd rfl (Or.inl rfl) (pe_ix (ixT (K := K) rfl) (pv 0) (pe_op op_add pe_int (pv 3)) (fun _ _ => rfl)))
      (pss_one (ps_if (pt_cmpR op_eq (pe_ix ix_str (pv 1) (pv 3) (fun _ _ => rfl)) pe_str (nomark _)) (pss_one (ps_set (i := 2) sc_L_shown.nd rfl (Or.inl rfl) (pe_op opCatS (pe_op opCatS (pe_op opCatS (pv 2) pe_str) (pe_ix ix_str pe_str (pe_op op_mod (pv 4) pe_int) (fun _ _ => rfl))) (pe_ix ix_str pe_str (pe_op op_fdivW (pv 4) pe_int) (fun _ _ => rfl))))) (pss_one (ps_set (i := 2) sc_L_shown.nd rfl (Or.inl rfl) (pe_op opCatS (pe_op opCatS (pv 2) pe_str) (pe_cl (ok_L_figures T) (hr.mono (by decide)) T.mg_L_figures T.kp_L_figures T.b_L_figures_1 .nil (fun _ => pass0At) (pa_cons (pv 4) pa_nil)))))))))
      (pss_one (ps_ret (pv 2))))), ?_⟩
  obtain ⟨a, i, f, l, rfl, S, pre, q⟩ := h
  obtain ⟨hi, hf⟩ := pre
  have h0 : atI (dd i f) 0 = some (V.str (fmW i)) := atI_nat (k := 0) rfl
  obtain ⟨f1, f2, f3, f4, f5⟩ := fm_of i hi
  have hn6 : (fmK i).length ≤ 100000 := by omega
  walk_at "go0"
  refine fl_indR0 (fun k σ H => ∃ x3 x4 w, σ = [some (V.ref a), some (V.str (fmK i)), some (V.str w), x3, x4] ∧ w = Txt.join " " ((wsD i f).take (k + 1)) ∧ w.length ≤ 70 * (k + 1) ∧ Star (pt a (.tup (dd i f)) :: l) H) ⟨none, none, _, rfl, ?_, ?_, S⟩ ?_ ?_
  · show _ = Txt.join " " [fmW i]
    rw [join_one]
  · omega
  · rintro σ H ⟨x3, x4, w, rfl, e, hw, S⟩
    refine ⟨by walk_at "G", ?_⟩
    walk_at "go"
    rw [e, List.take_of_length_le (by rw [wsD_len]; exact Nat.le_refl _)]
    exact q _ S
  · rintro k σ H hk ⟨x3, x4, w, rfl, e, hw, S⟩ N hN
    have hg := atI_nat (dd_at (i := i) (f := f) hk)
    have hnext := take_next (wsD_at (i := i) (f := f) hk)
    have hj := join_snoc (z := " ") (l := (wsD i f).take (k + 1)) (w := wrt ((tl (fmK i)).getD k 0) (f k)) (by unfold wsD; simp)
    have hk2 : k < (tl (fmK i)).length := by rw [← len_tl]; exact hk
    have hix : atI (fmK i).cps.toList (k : Int) = some ((tl (fmK i)).getD k 0) := atI_nat (by show (tl (fmK i))[k]? = _; rw [List.getD_eq_getElem?_getD, List.getElem?_eq_getElem hk2, Option.getD_some])
    have hkc := f4 ((tl (fmK i)).getD k 0) (by rw [List.getD_eq_getElem?_getD, List.getElem?_eq_getElem hk2, Option.getD_some]; exact List.getElem_mem _)
    have hok := hf k hk
    have hwr := wrt_of hkc hok
    have hb1 : (Str.ofString " ").length = 1 := by decide +kernel
    generalize (tl (fmK i)).getD k 0 = c at *
    generalize hz : f k = z at *
    rw [show ((k + 1 : Nat) : Int) = 1 + (k : Int) by omega] at hg
    refine ⟨by walk_at "G", ?_⟩
    walk_at "go"
    rw [kind_r]
    by_cases hc : c = 114
    · rw [decide_eq_true hc]
      have hok2 := hok
      unfold okN at hok2
      rw [if_pos hc] at hok2
      obtain ⟨u, v, hu, hv, e2⟩ := rtS_two hok2.1 hok2.2
      have ew : wrt c z = rtS z := by unfold wrt; rw [if_pos hc]
      have hl1 : (w ++ Str.ofString " ").length = w.length + 1 := by rw [Str.length_append, hb1]
      have hl2 : (w ++ Str.ofString " " ++ ⟨#[u]⟩).length = w.length + 2 := by rw [Str.length_append, hl1]; rfl
      have hl3 : (w ++ Str.ofString " " ++ ⟨#[u]⟩ ++ ⟨#[v]⟩).length = w.length + 3 := by rw [Str.length_append, hl2]; rfl
      have hu1 : (Str.mk #[u]).length = 1 := rfl
      have hv1 : (Str.mk #[v]).length = 1 := rfl
      walk_at "go"
      refine hN _ _ ⟨_, _, _, rfl, ?_, by omega, S⟩
      rw [hnext, hj, ← e, ew, e2]
      exact str_ext (by simp only [tl_app, List.append_assoc]; rfl)
    · rw [decide_eq_false hc]
      have ew : wrt c z = numS z := by unfold wrt; rw [if_neg hc]
      have ha := okN_abs hok
      have hl1 : (w ++ Str.ofString " ").length = w.length + 1 := by rw [Str.length_append, hb1]
      have hl2 : (w ++ Str.ofString " " ++ numS z).length = w.length + 1 + (numS z).length := by rw [Str.length_append, hl1]
      have hl3 := numS_len ha
      walk_at "go"
      refine hN _ _ ⟨_, _, _, rfl, ?_, by omega, S⟩
      rw [hnext, hj, ← e, ew]
def dkA (e : List V × Str) (v : V) : Asrt := fun h => ∃ a b, v = .ref a ∧ Star [pt a (.tup [.ref b, .str e.2]), pt b (.tup e.1)] h
instance : Pst dkA := ⟨fun e v => Sup.ex fun a => Sup.ex fun b => Sup.and fun _ => Sup.star (by
  intro A h
  simp only [List.mem_cons, List.not_mem_nil, or_false] at h
  rcases h with rfl | rfl <;> exact Sup.tup)⟩
theorem dk_open {e : List V × Str} {v : V} {L l : List Asrt} {H : Hp} (S : Star L H) (P : Pull (dkA e v) L l) : ∃ a b, v = .ref a ∧ Star (pt a (.tup [.ref b, .str e.2]) :: pt b (.tup e.1) :: l) H := by
  obtain ⟨h1, h2, dj, s1, s2, ⟨a, b, e, S1⟩, S2⟩ := S.pull P
  exact ⟨a, b, e, Star.glue (l := [_, _]) ⟨h1, h2, dj, s1, s2, S1, S2⟩⟩
theorem dk_close {x : Str} {vs : List V} {a b : Addr} {L l m : List Asrt} {H : Hp} (S : Star L H) (P : Pull (pt a (.tup [.ref b, .str x])) L l) (P2 : Pull (pt b (.tup vs)) l m) : Star (dkA (vs, x) (.ref a) :: m) H :=
  Star.cl (k := [_, _]) ((S.pull P).under fun _ S => S.pull P2) fun h S => ⟨a, b, rfl, S⟩
def dkOk (e : List V × Str) : Prop := ∃ i f, i < 15 ∧ fOk i f ∧ e = (dd i f, fmK i)
theorem ok_law (T : Txt w K mg) : FnOk P w K mg base (L2.CX P w) (4) T.f_law T.fd_law ["_law_script"] (spLaw K) := by
  refine T.F_law.okX sc_law (fun vs H Q E => by walk_at "len") (fun cdv A outer s H vs Q E hr h => ?_)
  have hu := hu_of hr
  refine ⟨_, (pss_cons (ps_set (i := 1) sc_law.nd rfl (Or.inl rfl) (pe_lst pa_nil))
      (pss_cons (ps_for (passes_of rfl) rfl (pi_range3 (by rfl) T.z_range (pa_cons pe_int (pa_cons (pe_op op_add pe_int (pe_callB (call_minU rfl) (by rfl) T.z_min (by decide +kernel) (pa_cons (pe_callB (callLen (K := K) rfl) (by rfl) T.z_len (by decide +kernel) (pa_cons (pv 0) pa_nil)) (pa_cons pe_int pa_nil)))) (pa_cons pe_int pa_nil)))) (pg_name (i := 2) sc_law.nd rfl (Or.inl rfl)) (pss_cons (ps_asg (pe_cl (ok_L_form T) (hr.mono (by decide)) T.mg_L_form T.kp_L_form T.b_L_form_1 .nil (fun _ => pass0At) (pa_cons (pe_cl (ok_L_cell_at T) (hr.mono (by decide)) T.mg_L_cell_at T.kp_L_cell_at T.b_L_cell_at_2 .nil (fun _ => pass0At) (pa_cons (pv 0) (pa_cons (pv 2) pa_nil))) pa_nil)) (pgTup (K := K) rfl rfl (pgs_cons (pg_name (i := 3) sc_law.nd rfl (Or.inl rfl)) (pgs_cons (pg_name (i := 4) sc_law.nd rfl (Or.inl rfl)) pgs_nil))))
      (pss_cons (ps_set (i := 5) sc_law.nd rfl (Or.inl rfl) (pe_lst (pa_cons (pv 3) pa_nil)))
      (pss_cons (ps_for (passes_of rfl) rfl (pi_range1 (by rfl) T.z_range (pa_cons (pe_callB callLenX (by rfl) T.z_len (by decide +kernel) (pa_cons (pv 4) pa_nil)) pa_nil)) (pg_name (i := 6) sc_law.nd rfl (Or.inl rfl)) (pss_one (ps_expr (pe_bm PySem.F.plainAttrs_list PySem.F.slot_list_append PySem.F.type_list_append mt_append (pv 5) (pa_cons (pe_cl (ok_L_number T) (hr.mono (by decide)) T.mg_L_number T.kp_L_number T.b_L_number_2 .nil (fun _ => pass0At) (pa_cons (pe_cl (ok_L_cell_at T) (hr.mono (by decide)) T.mg_L_cell_at T.kp_L_cell_at T.b_L_cell_at_2 .nil (fun _ => pass0At) (pa_cons (pv 0) (pa_cons (pe_op op_add (pe_op op_add (pv 2) pe_int) (pv 6)) pa_nil))) (pa_cons (pe_ix ix_str (pv 4) (pv 6) (fun _ _ => rfl)) pa_nil))) pa_nil)))))
      (Evl.pss_cut (ps_if (PW.pt (pw_and (pt_cmpR op_eq (pv 3) pe_str (nomark _)) (pw_and1 (pt_cmpR op_eq (pe_callB callLenX (by rfl) T.z_len (by decide +kernel) (pa_cons (pv 4) pa_nil)) pe_int (nomark _))))) (pss_one (ps_set (i := 5) sc_law.nd rfl (Or.inl rfl) (pe_op op_cat (pv 5) (pe_lst (pa_cons pe_non (pa_cons pe_int pa_nil)))))) pss_nil)
      (pss_one (ps_expr (pe_bm PySem.F.plainAttrs_list PySem.F.slot_list_append PySem.F.type_list_append mt_append (pv 1) (pa_cons (pe_tup (pa_cons (pe_callTy (callTupOf (K := K) rfl) (by rfl) T.z_tuple (by decide +kernel) (pa_cons (pv 5) pa_nil)) (pa_cons (pv 4) pa_nil))) pa_nil)))))))))
      (pss_cons (ps_for (passes_of rfl) rfl (piList (K := K) rfl (pv 1)) (pgTup (K := K) rfl rfl (pgs_cons (pg_name (i := 5) sc_law.nd rfl (Or.inl rfl)) (pgs_cons (pg_name (i := 4) sc_law.nd rfl (Or.inl rfl)) pgs_nil))) (pss_cons (ps_set (i := 7) sc_law.nd rfl (Or.inl rfl) (pe_cl (ok_show_row T) (hr.mono (by decide)) T.mg_show_row T.kp_show_row T.b_show_row_1 .nil (fun _ => pass0At) (pa_cons (pv 5) pa_nil)))
      (pss_cons (ps_if (PW.pt (pw_or (pt_not (pt_val (pe_callB (callIsi (K := K) rfl) (by rfl) T.z_isinstance (by decide +kernel) (pa_cons (pv 7) (pa_cons (pe_bltn (v := .ty "str") (by rfl) T.z_str (by decide +kernel) rfl) pa_nil))))) (pw_or1 (pt_cmpR op_ne (pv 7) (pe_cl (ok_L_shown T) (hr.mono (by decide)) T.mg_L_shown T.kp_L_shown T.b_L_shown_2 .nil (fun _ => pass0At) (pa_cons (pv 5) (pa_cons (pv 4) pa_nil))) (nomark _))))) (pss_one (ps_ret pe_bl)) pss_nil)
      (pss_one (ps_if (pt_cmpR (opNeD (K := K) rfl hr.units) (pe_cl (ok_read_row T) (hr.mono (by decide)) T.mg_read_row T.kp_read_row T.b_read_row_1 .nil (fun _ => pass0At) (pa_cons (pv 7) pa_nil)) (pv 5) (nomark _)) (pss_one (ps_ret pe_bl)) pss_nil)))))
      (pss_one (ps_ret pe_bl))))), ?_⟩
  obtain ⟨a, ns, rfl, S, hl, hb, q⟩ := h
  walk_at "go0"
  refine r_iR3 ?_
  walk_at "go"
  obtain ⟨j, hj, hj2⟩ : ∃ j : Nat, 1 + (if (62 : Int) < (ns.length : Int) then 62 else (ns.length : Int)) = (j : Int) ∧ j < 64 := ⟨1 + min ns.length 62, by omega, by omega⟩
  rw [hj]
  refine r_kIR3 (steps7 hj2) (r_wC ?_)
  have S := listA_newP (A := dkA) S (by (((with_reducible (repeat (first | apply Pull.here | apply Pull.there))); (first | done | fail "left"))))
  obtain ⟨ro, e0⟩ : ∃ z, z = np := ⟨_, rfl⟩
  subst e0
  unfold rgC
  refine fl_indM (fun xs σ H => ∃ x2 x3 x4 x5 x6 x7 rs, σ = [some (.ref a), some (.ref ro), x2, x3, x4, x5, x6, x7] ∧ (∀ e ∈ rs, dkOk e) ∧ rs.length + xs.length ≤ 100 ∧ Star [listA dkA rs ro, scr K a ns] H) ⟨_, _, _, _, _, _, [], rfl, (fun _ h => nomatch h), by simp; omega, S⟩ ?_ ?_
  rotate_left
  · rintro i0 xr σ H ⟨x2, x3, x4, x5, x6, x7, rs, rfl, hrs, hrl, S⟩ N hN
    rw [List.length_cons] at hrl
    refine ⟨by walk_at "G", ?_⟩
    walk_at "go"
    obtain ⟨f1, f2, f3, f4, f5⟩ := fm_of oi oc
    have hn6 : (fmK oi).length ≤ 100000 := by omega
    have hpos : 0 ≤ 0 + (i0 : Int) * 7 + 1 := by omega
    obtain ⟨fn, hfn⟩ : ∃ fn : Nat → Int, ∀ k, fn k = numG (cellAt ns (0 + (i0 : Int) * 7 + 1 + k)) ((tl (fmK oi)).getD k 0) := ⟨_, fun _ => rfl⟩
    have hok : fOk oi fn := fun k _ => by rw [hfn]; exact numG_ok
    walk_at "go"
    refine fl_indR0 (fun k σ H => ∃ x6, σ = [some (.ref a), some (.ref ro), some (.int (0 + (i0 : Int) * 7)), some (.str (fmW oi)), some (.str (fmK oi)), some (.ref np), x6, x7] ∧ Star [pt np (.lst (V.str (fmW oi) :: (List.range k).map fun j => V.int (fn j))), scr K a ns, listA dkA rs ro] H) ⟨_, rfl, by rw [List.range_zero, List.map_nil]; (((refine Star.keep S ?_; repeat (first | (with_reducible apply Keep.refl) | apply Keep.nil | refine Keep.cons (by (((with_reducible (repeat (first | apply Pull.here | apply Pull.there))); (first | done | fail "left")))) ?_ | apply Keep.drop)); (first | done | fail "left")))⟩ ?_ ?_
    rotate_left
    · rintro k σ H hk ⟨x6, rfl, S⟩ N hN
      have hk2 : k < (tl (fmK oi)).length := by rw [← len_tl]; exact hk
      have hix : atI (fmK oi).cps.toList (k : Int) = some ((tl (fmK oi)).getD k 0) := atI_nat (by show (tl (fmK oi))[k]? = _; rw [List.getD_eq_getElem?_getD, List.getElem?_eq_getElem hk2, Option.getD_some])
      refine ⟨by walk_at "G", ?_⟩
      walk_at "go"
      rw [← hfn] at S
      refine hN _ _ ⟨_, rfl, ?_⟩
      rw [List.range_succ, List.map_append, List.map_cons, List.map_nil]
      (((refine Star.keep S ?_; repeat (first | (with_reducible apply Keep.refl) | apply Keep.nil | refine Keep.cons (by (((with_reducible (repeat (first | apply Pull.here | apply Pull.there))); (first | done | fail "left")))) ?_ | apply Keep.drop)); (first | done | fail "left")))
    rintro σ H ⟨x6, rfl, S⟩
    refine ⟨by walk_at "G", ?_⟩
    walk_at "go"
    refine r_cut (fun σ' H' => ∃ n2 : Addr, σ' = [some (.ref a), some (.ref ro), some (.int (0 + (i0 : Int) * 7)), some (.str (fmW oi)), some (.str (fmK oi)), some (.ref n2), x6, x7] ∧ Star [pt n2 (.lst (dd oi fn)), scr K a ns, listA dkA rs ro] H') ?_ ?_
    · walk_at "go"
      by_cases hc : fmW oi = "lay" ∧ (fmK oi).length = 4
      · rw [show (decide (fmW oi = Str.ofString "lay") && decide (((fmK oi).length : Int) = 4)) = true by rw [decide_eq_true hc.1, decide_eq_true (by omega)]; rfl]
        have ed : dd oi fn = V.str (fmW oi) :: (List.range (fmK oi).length).map (fun j => V.int (fn j)) ++ [V.non, V.int 0] := by unfold dd tailD; rw [if_pos hc]
        walk_at "go"
        rw [ed]
        exact ⟨_, rfl, by (((refine Star.keep S ?_; repeat (first | (with_reducible apply Keep.refl) | apply Keep.nil | refine Keep.cons (by (((with_reducible (repeat (first | apply Pull.here | apply Pull.there))); (first | done | fail "left")))) ?_ | apply Keep.drop)); (first | done | fail "left")))⟩
      · rw [show (decide (fmW oi = Str.ofString "lay") && decide (((fmK oi).length : Int) = 4)) = false by rw [Bool.and_eq_false_iff, decide_eq_false_iff_not, decide_eq_false_iff_not]; by_cases h : fmW oi = "lay"; (exact .inr (fun k => hc ⟨h, by omega⟩)); (exact .inl h)]
        have ed : dd oi fn = V.str (fmW oi) :: (List.range (fmK oi).length).map (fun j => V.int (fn j)) := by unfold dd tailD; rw [if_neg hc, List.append_nil]
        walk_at "go"
        rw [ed]
        exact ⟨_, rfl, by (((refine Star.keep S ?_; repeat (first | (with_reducible apply Keep.refl) | apply Keep.nil | refine Keep.cons (by (((with_reducible (repeat (first | apply Pull.here | apply Pull.there))); (first | done | fail "left")))) ?_ | apply Keep.drop)); (first | done | fail "left")))⟩
    rintro _ H ⟨n2, rfl, S⟩
    walk_at "go"
    have S := dk_close (x := fmK oi) (vs := dd oi fn) S (by (((with_reducible (repeat (first | apply Pull.here | apply Pull.there))); (first | done | fail "left")))) (by (((with_reducible (repeat (first | apply Pull.here | apply Pull.there))); (first | done | fail "left"))))
    refine r_appLA S (by (((with_reducible (repeat (first | apply Pull.here | apply Pull.there))); (first | done | fail "left")))) (by (((with_reducible (repeat (first | apply Pull.here | apply Pull.there))); (first | done | fail "left")))) (by omega) (fun H2 S2 => ?_)
    exact hN _ _ ⟨_, _, _, _, _, _, _, rfl, fun e he => by
      rcases List.mem_append.mp he with he | he
      · exact hrs e he
      · rw [List.mem_singleton.mp he]; exact ⟨oi, fn, oc, hok, rfl⟩, by rw [List.length_append]; simp; omega, by first | exact S2 | exact Star.keep S2 (.cons (by (((with_reducible (repeat (first | apply Pull.here | apply Pull.there))); (first | done | fail "left")))) (.cons (by (((with_reducible (repeat (first | apply Pull.here | apply Pull.there))); (first | done | fail "left")))) .nil))⟩
  · rintro σ H ⟨x2, x3, x4, x5, x6, x7, rs, rfl, hrs, hrl, S⟩
    refine ⟨by walk_at "G", ?_⟩
    obtain ⟨cs, ecs, S⟩ := listA_open S
    have hcs : ∀ c ∈ cs, dkOk c.1 := fun c hc => hrs _ (by rw [← ecs]; exact List.mem_map_of_mem hc)
    walk_at "go"
    refine fl_indM (f := Prod.snd) (fun r σ H => ∃ x4 x5 x7, σ = [some (.ref a), some (.ref ro), x2, x3, x4, x5, x6, x7] ∧ (∀ c ∈ r, c ∈ cs) ∧ Star [pt ro (.lst (cs.map Prod.snd)), ownL dkA cs, scr K a ns] H) ⟨_, _, _, rfl, fun _ h => h, S⟩ ?_ ?_
    rotate_left
    · rintro c r σ H ⟨x4, x5, x7, rfl, hr, S⟩ N hN
      have hc := hr c List.mem_cons_self
      obtain ⟨i, f, hi, hf, ee⟩ := hcs c hc
      have S := (own_dup hc S.swap)
      rw [ee] at S
      obtain ⟨ta, tb, ec, S⟩ := dk_open S .here
      rw [ec]
      dsimp only at S
      obtain ⟨k1, k2, k3, k4, k5⟩ := row_made hi hf
      refine ⟨by walk_at "G", ?_⟩
      walk_at "go"
      refine c_read_row (ws := Txt.split (Txt.join (Str.ofString " ") (wsD i f)) " ") S ⟨k1, rfl, k2⟩ (fun t vs H2 hn0 hv S2 => ?_) (fun hx H2 S2 => absurd hx (by rw [show deedOf (Txt.split (Txt.join (Str.ofString " ") (wsD i f)) " ") = some (dd i f) from k3]; simp))
      rw [show deedOf (Txt.split (Txt.join (Str.ofString " ") (wsD i f)) " ") = some (dd i f) from k3] at hv
      obtain rfl := Option.some.inj hv
      ((clear S; (try clear H); rename Star _ _ => S; rename Hp => H))
      walk_at "go"
      refine r_neFlat (dd_flat hi) S (by (((with_reducible (repeat (first | apply Pull.here | apply Pull.there))); (first | done | fail "left")))) (by first | exact .there .here | (((with_reducible (repeat (first | apply Pull.here | apply Pull.there))); (first | done | fail "left")))) ?_
      walk_at "go"
      exact hN _ _ ⟨_, _, _, rfl, fun c h => hr c (.tail _ h), by (((refine Star.keep S ?_; repeat (first | (with_reducible apply Keep.refl) | apply Keep.nil | refine Keep.cons (by (((with_reducible (repeat (first | apply Pull.here | apply Pull.there))); (first | done | fail "left")))) ?_ | apply Keep.drop)); (first | done | fail "left")))⟩
    · rintro σ H ⟨x4, x5, x7, rfl, _, S⟩
      refine ⟨by walk_at "G", ?_⟩
      walk_at "go"
      exact q _
end
theorem all_mk {w : World} {K : PySem.W.Frag} {h : Heap} {mg : Str → Option Value} {fa : Addr} (X : K.In h) (G : h.Ns mainGlobals mg) (hfa : mg "law" = some (.ref fa))
    {C_FrameError C_NoRow f_read_number f_read_value f_read_rights f_show_rights f_read_row f_show_row f_L_cell_at f_L_form f_L_number f_L_figures f_L_shown f_law : Addr}
    {od_read_number an_read_number : Option Addr} {sl_read_number : Array (Option Value)} {oc_read_number kV_read_number dc_read_number pm_read_number cd_read_number ct_read_number : Value}
    {od_read_value an_read_value : Option Addr} {sl_read_value : Array (Option Value)} {oc_read_value kV_read_value dc_read_value pm_read_value cd_read_value ct_read_value : Value}
    {od_read_rights an_read_rights : Option Addr} {sl_read_rights : Array (Option Value)} {oc_read_rights kV_read_rights dc_read_rights pm_read_rights cd_read_rights ct_read_rights : Value}
    {od_show_rights an_show_rights : Option Addr} {sl_show_rights : Array (Option Value)} {oc_show_rights kV_show_rights dc_show_rights pm_show_rights cd_show_rights ct_show_rights : Value}
    {od_read_row an_read_row : Option Addr} {sl_read_row : Array (Option Value)} {oc_read_row kV_read_row dc_read_row pm_read_row cd_read_row ct_read_row : Value}
    {od_show_row an_show_row : Option Addr} {sl_show_row : Array (Option Value)} {oc_show_row kV_show_row dc_show_row pm_show_row cd_show_row ct_show_row : Value}
    {od_L_cell_at an_L_cell_at : Option Addr} {sl_L_cell_at : Array (Option Value)} {oc_L_cell_at kV_L_cell_at dc_L_cell_at pm_L_cell_at cd_L_cell_at ct_L_cell_at : Value}
    {od_L_form an_L_form : Option Addr} {sl_L_form : Array (Option Value)} {oc_L_form kV_L_form dc_L_form pm_L_form cd_L_form ct_L_form : Value}
    {od_L_number an_L_number : Option Addr} {sl_L_number : Array (Option Value)} {oc_L_number kV_L_number dc_L_number pm_L_number cd_L_number ct_L_number : Value}
    {od_L_figures an_L_figures : Option Addr} {sl_L_figures : Array (Option Value)} {oc_L_figures kV_L_figures dc_L_figures pm_L_figures cd_L_figures ct_L_figures : Value}
    {od_L_shown an_L_shown : Option Addr} {sl_L_shown : Array (Option Value)} {oc_L_shown kV_L_shown dc_L_shown pm_L_shown cd_L_shown ct_L_shown : Value}
    {od_law an_law : Option Addr} {sl_law : Array (Option Value)} {oc_law kV_law dc_law pm_law cd_law ct_law : Value}
    {tk_FIGURES : Tok}
    {tk_MOST_FIGURES : Tok}
    {d_WORDS : Addr} {ep_WORDS : Nat} {hk_WORDS_0 : Int} {tk_WORDS_0 tv_WORDS_0 : Tok} {hk_WORDS_1 : Int} {tk_WORDS_1 tv_WORDS_1 : Tok} {hk_WORDS_2 : Int} {tk_WORDS_2 tv_WORDS_2 : Tok} {hk_WORDS_3 : Int} {tk_WORDS_3 tv_WORDS_3 : Tok} {hk_WORDS_4 : Int} {tk_WORDS_4 tv_WORDS_4 : Tok} {hk_WORDS_5 : Int} {tk_WORDS_5 tv_WORDS_5 : Tok} {hk_WORDS_6 : Int} {tk_WORDS_6 tv_WORDS_6 : Tok} {hk_WORDS_7 : Int} {tk_WORDS_7 tv_WORDS_7 : Tok} {hk_WORDS_8 : Int} {tk_WORDS_8 tv_WORDS_8 : Tok} {hk_WORDS_9 : Int} {tk_WORDS_9 tv_WORDS_9 : Tok} {hk_WORDS_10 : Int} {tk_WORDS_10 tv_WORDS_10 : Tok} {hk_WORDS_11 : Int} {tk_WORDS_11 tv_WORDS_11 : Tok} {hk_WORDS_12 : Int} {tk_WORDS_12 tv_WORDS_12 : Tok} {hk_WORDS_13 : Int} {tk_WORDS_13 tv_WORDS_13 : Tok}
    (aC_FrameError : PySem.W.nsIn K mainGlobals "FrameError" = some (some (.ref C_FrameError)))
    (aC_NoRow : PySem.W.nsIn K mainGlobals "NoRow" = some (some (.ref C_NoRow)))
    (a_read_number : PySem.W.nsIn K mainGlobals "read_number" = some (some (.ref f_read_number)))
    (l_read_number : K.lookup f_read_number = some ⟨oc_read_number, od_read_number, .func (PySem.W.fnOf "read_number" "read_number" (defArgs s_read_number) (defBody s_read_number) (defScope s_read_number) .none kV_read_number dc_read_number pm_read_number an_read_number cd_read_number ct_read_number), sl_read_number⟩)
    (c_read_number : PySem.W.codeIn K cd_read_number "read_number" = true)
    (k_read_number : PySem.W.keepIn K (.ref f_read_number) = true)
    (a_read_value : PySem.W.nsIn K mainGlobals "read_value" = some (some (.ref f_read_value)))
    (l_read_value : K.lookup f_read_value = some ⟨oc_read_value, od_read_value, .func (PySem.W.fnOf "read_value" "read_value" (defArgs s_read_value) (defBody s_read_value) (defScope s_read_value) .none kV_read_value dc_read_value pm_read_value an_read_value cd_read_value ct_read_value), sl_read_value⟩)
    (c_read_value : PySem.W.codeIn K cd_read_value "read_value" = true)
    (k_read_value : PySem.W.keepIn K (.ref f_read_value) = true)
    (a_read_rights : PySem.W.nsIn K mainGlobals "read_rights" = some (some (.ref f_read_rights)))
    (l_read_rights : K.lookup f_read_rights = some ⟨oc_read_rights, od_read_rights, .func (PySem.W.fnOf "read_rights" "read_rights" (defArgs s_read_rights) (defBody s_read_rights) (defScope s_read_rights) .none kV_read_rights dc_read_rights pm_read_rights an_read_rights cd_read_rights ct_read_rights), sl_read_rights⟩)
    (c_read_rights : PySem.W.codeIn K cd_read_rights "read_rights" = true)
    (k_read_rights : PySem.W.keepIn K (.ref f_read_rights) = true)
    (a_show_rights : PySem.W.nsIn K mainGlobals "show_rights" = some (some (.ref f_show_rights)))
    (l_show_rights : K.lookup f_show_rights = some ⟨oc_show_rights, od_show_rights, .func (PySem.W.fnOf "show_rights" "show_rights" (defArgs s_show_rights) (defBody s_show_rights) (defScope s_show_rights) .none kV_show_rights dc_show_rights pm_show_rights an_show_rights cd_show_rights ct_show_rights), sl_show_rights⟩)
    (c_show_rights : PySem.W.codeIn K cd_show_rights "show_rights" = true)
    (k_show_rights : PySem.W.keepIn K (.ref f_show_rights) = true)
    (a_read_row : PySem.W.nsIn K mainGlobals "read_row" = some (some (.ref f_read_row)))
    (l_read_row : K.lookup f_read_row = some ⟨oc_read_row, od_read_row, .func (PySem.W.fnOf "read_row" "read_row" (defArgs s_read_row) (defBody s_read_row) (defScope s_read_row) .none kV_read_row dc_read_row pm_read_row an_read_row cd_read_row ct_read_row), sl_read_row⟩)
    (c_read_row : PySem.W.codeIn K cd_read_row "read_row" = true)
    (k_read_row : PySem.W.keepIn K (.ref f_read_row) = true)
    (a_show_row : PySem.W.nsIn K mainGlobals "show_row" = some (some (.ref f_show_row)))
    (l_show_row : K.lookup f_show_row = some ⟨oc_show_row, od_show_row, .func (PySem.W.fnOf "show_row" "show_row" (defArgs s_show_row) (defBody s_show_row) (defScope s_show_row) .none kV_show_row dc_show_row pm_show_row an_show_row cd_show_row ct_show_row), sl_show_row⟩)
    (c_show_row : PySem.W.codeIn K cd_show_row "show_row" = true)
    (k_show_row : PySem.W.keepIn K (.ref f_show_row) = true)
    (a_L_cell_at : PySem.W.nsIn K mainGlobals "_law_cell_at" = some (some (.ref f_L_cell_at)))
    (l_L_cell_at : K.lookup f_L_cell_at = some ⟨oc_L_cell_at, od_L_cell_at, .func (PySem.W.fnOf "_law_cell_at" "_law_cell_at" (defArgs s_L_cell_at) (defBody s_L_cell_at) (defScope s_L_cell_at) .none kV_L_cell_at dc_L_cell_at pm_L_cell_at an_L_cell_at cd_L_cell_at ct_L_cell_at), sl_L_cell_at⟩)
    (c_L_cell_at : PySem.W.codeIn K cd_L_cell_at "_law_cell_at" = true)
    (k_L_cell_at : PySem.W.keepIn K (.ref f_L_cell_at) = true)
    (a_L_form : PySem.W.nsIn K mainGlobals "_law_form" = some (some (.ref f_L_form)))
    (l_L_form : K.lookup f_L_form = some ⟨oc_L_form, od_L_form, .func (PySem.W.fnOf "_law_form" "_law_form" (defArgs s_L_form) (defBody s_L_form) (defScope s_L_form) .none kV_L_form dc_L_form pm_L_form an_L_form cd_L_form ct_L_form), sl_L_form⟩)
    (c_L_form : PySem.W.codeIn K cd_L_form "_law_form" = true)
    (k_L_form : PySem.W.keepIn K (.ref f_L_form) = true)
    (a_L_number : PySem.W.nsIn K mainGlobals "_law_number" = some (some (.ref f_L_number)))
    (l_L_number : K.lookup f_L_number = some ⟨oc_L_number, od_L_number, .func (PySem.W.fnOf "_law_number" "_law_number" (defArgs s_L_number) (defBody s_L_number) (defScope s_L_number) .none kV_L_number dc_L_number pm_L_number an_L_number cd_L_number ct_L_number), sl_L_number⟩)
    (c_L_number : PySem.W.codeIn K cd_L_number "_law_number" = true)
    (k_L_number : PySem.W.keepIn K (.ref f_L_number) = true)
    (a_L_figures : PySem.W.nsIn K mainGlobals "_law_figures" = some (some (.ref f_L_figures)))
    (l_L_figures : K.lookup f_L_figures = some ⟨oc_L_figures, od_L_figures, .func (PySem.W.fnOf "_law_figures" "_law_figures" (defArgs s_L_figures) (defBody s_L_figures) (defScope s_L_figures) .none kV_L_figures dc_L_figures pm_L_figures an_L_figures cd_L_figures ct_L_figures), sl_L_figures⟩)
    (c_L_figures : PySem.W.codeIn K cd_L_figures "_law_figures" = true)
    (k_L_figures : PySem.W.keepIn K (.ref f_L_figures) = true)
    (a_L_shown : PySem.W.nsIn K mainGlobals "_law_shown" = some (some (.ref f_L_shown)))
    (l_L_shown : K.lookup f_L_shown = some ⟨oc_L_shown, od_L_shown, .func (PySem.W.fnOf "_law_shown" "_law_shown" (defArgs s_L_shown) (defBody s_L_shown) (defScope s_L_shown) .none kV_L_shown dc_L_shown pm_L_shown an_L_shown cd_L_shown ct_L_shown), sl_L_shown⟩)
    (c_L_shown : PySem.W.codeIn K cd_L_shown "_law_shown" = true)
    (k_L_shown : PySem.W.keepIn K (.ref f_L_shown) = true)
    (a_law : PySem.W.nsIn K mainGlobals "law" = some (some (.ref f_law)))
    (l_law : K.lookup f_law = some ⟨oc_law, od_law, .func (PySem.W.fnOf "law" "law" (defArgs s_law) (defBody s_law) (defScope s_law) .none kV_law dc_law pm_law an_law cd_law ct_law), sl_law⟩)
    (c_law : PySem.W.codeIn K cd_law "law" = true)
    (k_law : PySem.W.keepIn K (.ref f_law) = true)
    (xb_NoRow : PySem.W.subIn K (.ref C_NoRow) (.type "BaseException") = some true)
    (xt_NoRow : PySem.W.typeIn K (.ref C_NoRow) = some (.type "type"))
    (ed_NoRow : PySem.W.hasDictIn K C_NoRow = true)
    (xx_NoRow : PySem.W.excIn K C_NoRow [.type "ValueError", .type "Exception", .type "BaseException", .type "object"] "ValueError.__new__" = true)
    (xk_NoRow : PySem.W.keepIn K (.ref C_NoRow) = true)
    (z_abs : PySem.W.nsIn K mainGlobals "abs" = some none)
    (z_enumerate : PySem.W.nsIn K mainGlobals "enumerate" = some none)
    (z_int : PySem.W.nsIn K mainGlobals "int" = some none)
    (z_isinstance : PySem.W.nsIn K mainGlobals "isinstance" = some none)
    (z_len : PySem.W.nsIn K mainGlobals "len" = some none)
    (z_list : PySem.W.nsIn K mainGlobals "list" = some none)
    (z_min : PySem.W.nsIn K mainGlobals "min" = some none)
    (z_range : PySem.W.nsIn K mainGlobals "range" = some none)
    (z_str : PySem.W.nsIn K mainGlobals "str" = some none)
    (z_tuple : PySem.W.nsIn K mainGlobals "tuple" = some none)
    (z_zip : PySem.W.nsIn K mainGlobals "zip" = some none)
    (g_FIGURES : PySem.W.nsIn K mainGlobals "FIGURES" = some (some (.str "0123456789" tk_FIGURES)))
    (g_MOST_FIGURES : PySem.W.nsIn K mainGlobals "MOST_FIGURES" = some (some (.int 60 tk_MOST_FIGURES)))
    (ad_WORDS : PySem.W.nsIn K mainGlobals "WORDS" = some (some (.ref d_WORDS)))
    (ld_WORDS : K.lookup d_WORDS = some ⟨.type "dict", none, .dict (List.toArray [⟨hk_WORDS_0, .str "new" tk_WORDS_0, .str "" tv_WORDS_0⟩, ⟨hk_WORDS_1, .str "fork" tk_WORDS_1, .str "n" tv_WORDS_1⟩, ⟨hk_WORDS_2, .str "end" tk_WORDS_2, .str "n" tv_WORDS_2⟩, ⟨hk_WORDS_3, .str "bank" tk_WORDS_3, .str "n" tv_WORDS_3⟩, ⟨hk_WORDS_4, .str "drop" tk_WORDS_4, .str "n" tv_WORDS_4⟩, ⟨hk_WORDS_5, .str "lay" tk_WORDS_5, .str "nnnr" tv_WORDS_5⟩, ⟨hk_WORDS_6, .str "lift" tk_WORDS_6, .str "nnn" tv_WORDS_6⟩, ⟨hk_WORDS_7, .str "guard" tk_WORDS_7, .str "nnnr" tv_WORDS_7⟩, ⟨hk_WORDS_8, .str "read" tk_WORDS_8, .str "nn" tv_WORDS_8⟩, ⟨hk_WORDS_9, .str "write" tk_WORDS_9, .str "nnv" tv_WORDS_9⟩, ⟨hk_WORDS_10, .str "fold" tk_WORDS_10, .str "" tv_WORDS_10⟩, ⟨hk_WORDS_11, .str "see" tk_WORDS_11, .str "nn" tv_WORDS_11⟩, ⟨hk_WORDS_12, .str "laid" tk_WORDS_12, .str "n" tv_WORDS_12⟩, ⟨hk_WORDS_13, .str "live" tk_WORDS_13, .str "" tv_WORDS_13⟩]) ep_WORDS, #[]⟩)
    (hh_WORDS_0 : hk_WORDS_0 = hashStr w "new")
    (hh_WORDS_1 : hk_WORDS_1 = hashStr w "fork")
    (hh_WORDS_2 : hk_WORDS_2 = hashStr w "end")
    (hh_WORDS_3 : hk_WORDS_3 = hashStr w "bank")
    (hh_WORDS_4 : hk_WORDS_4 = hashStr w "drop")
    (hh_WORDS_5 : hk_WORDS_5 = hashStr w "lay")
    (hh_WORDS_6 : hk_WORDS_6 = hashStr w "lift")
    (hh_WORDS_7 : hk_WORDS_7 = hashStr w "guard")
    (hh_WORDS_8 : hk_WORDS_8 = hashStr w "read")
    (hh_WORDS_9 : hk_WORDS_9 = hashStr w "write")
    (hh_WORDS_10 : hk_WORDS_10 = hashStr w "fold")
    (hh_WORDS_11 : hk_WORDS_11 = hashStr w "see")
    (hh_WORDS_12 : hk_WORDS_12 = hashStr w "laid")
    (hh_WORDS_13 : hk_WORDS_13 = hashStr w "live")
    (ns_WORDS : (d_WORDS == sysModules) = false)
    : ∃ T : Txt w K mg, T.f_law = fa := by
  have e : f_law = fa := by
    have q : Value.ref f_law = Value.ref fa := Option.some.inj ((PySem.W.mg_of X G a_law).symm.trans hfa)
    injection q
  exact ⟨{
    mg_FrameError := (PySem.W.mg_of X G aC_FrameError),
    C_FrameError := C_FrameError,
    mg_NoRow := (PySem.W.mg_of X G aC_NoRow),
    C_NoRow := C_NoRow,
    f_read_number := f_read_number,
    fd_read_number := (PySem.W.fnOf "read_number" "read_number" (defArgs s_read_number) (defBody s_read_number) (defScope s_read_number) .none kV_read_number dc_read_number pm_read_number an_read_number cd_read_number ct_read_number),
    F_read_number := (fun_mk (st := s_read_number) l_read_number c_read_number k_read_number),
    kp_read_number := k_read_number,
    b_read_number_1 := (.all fun us hl => match us, hl with | [_], _ => rfl),
    mg_read_number := (PySem.W.mg_of X G a_read_number),
    f_read_value := f_read_value,
    fd_read_value := (PySem.W.fnOf "read_value" "read_value" (defArgs s_read_value) (defBody s_read_value) (defScope s_read_value) .none kV_read_value dc_read_value pm_read_value an_read_value cd_read_value ct_read_value),
    F_read_value := (fun_mk (st := s_read_value) l_read_value c_read_value k_read_value),
    kp_read_value := k_read_value,
    b_read_value_1 := (.all fun us hl => match us, hl with | [_], _ => rfl),
    mg_read_value := (PySem.W.mg_of X G a_read_value),
    f_read_rights := f_read_rights,
    fd_read_rights := (PySem.W.fnOf "read_rights" "read_rights" (defArgs s_read_rights) (defBody s_read_rights) (defScope s_read_rights) .none kV_read_rights dc_read_rights pm_read_rights an_read_rights cd_read_rights ct_read_rights),
    F_read_rights := (fun_mk (st := s_read_rights) l_read_rights c_read_rights k_read_rights),
    kp_read_rights := k_read_rights,
    b_read_rights_1 := (.all fun us hl => match us, hl with | [_], _ => rfl),
    mg_read_rights := (PySem.W.mg_of X G a_read_rights),
    f_show_rights := f_show_rights,
    fd_show_rights := (PySem.W.fnOf "show_rights" "show_rights" (defArgs s_show_rights) (defBody s_show_rights) (defScope s_show_rights) .none kV_show_rights dc_show_rights pm_show_rights an_show_rights cd_show_rights ct_show_rights),
    F_show_rights := (fun_mk (st := s_show_rights) l_show_rights c_show_rights k_show_rights),
    kp_show_rights := k_show_rights,
    b_show_rights_1 := (.all fun us hl => match us, hl with | [_], _ => rfl),
    mg_show_rights := (PySem.W.mg_of X G a_show_rights),
    f_read_row := f_read_row,
    fd_read_row := (PySem.W.fnOf "read_row" "read_row" (defArgs s_read_row) (defBody s_read_row) (defScope s_read_row) .none kV_read_row dc_read_row pm_read_row an_read_row cd_read_row ct_read_row),
    F_read_row := (fun_mk (st := s_read_row) l_read_row c_read_row k_read_row),
    kp_read_row := k_read_row,
    b_read_row_1 := (.all fun us hl => match us, hl with | [_], _ => rfl),
    mg_read_row := (PySem.W.mg_of X G a_read_row),
    f_show_row := f_show_row,
    fd_show_row := (PySem.W.fnOf "show_row" "show_row" (defArgs s_show_row) (defBody s_show_row) (defScope s_show_row) .none kV_show_row dc_show_row pm_show_row an_show_row cd_show_row ct_show_row),
    F_show_row := (fun_mk (st := s_show_row) l_show_row c_show_row k_show_row),
    kp_show_row := k_show_row,
    b_show_row_1 := (.all fun us hl => match us, hl with | [_], _ => rfl),
    mg_show_row := (PySem.W.mg_of X G a_show_row),
    f_L_cell_at := f_L_cell_at,
    fd_L_cell_at := (PySem.W.fnOf "_law_cell_at" "_law_cell_at" (defArgs s_L_cell_at) (defBody s_L_cell_at) (defScope s_L_cell_at) .none kV_L_cell_at dc_L_cell_at pm_L_cell_at an_L_cell_at cd_L_cell_at ct_L_cell_at),
    F_L_cell_at := (fun_mk (st := s_L_cell_at) l_L_cell_at c_L_cell_at k_L_cell_at),
    kp_L_cell_at := k_L_cell_at,
    b_L_cell_at_2 := (.all fun us hl => match us, hl with | [_, _], _ => rfl),
    mg_L_cell_at := (PySem.W.mg_of X G a_L_cell_at),
    f_L_form := f_L_form,
    fd_L_form := (PySem.W.fnOf "_law_form" "_law_form" (defArgs s_L_form) (defBody s_L_form) (defScope s_L_form) .none kV_L_form dc_L_form pm_L_form an_L_form cd_L_form ct_L_form),
    F_L_form := (fun_mk (st := s_L_form) l_L_form c_L_form k_L_form),
    kp_L_form := k_L_form,
    b_L_form_1 := (.all fun us hl => match us, hl with | [_], _ => rfl),
    mg_L_form := (PySem.W.mg_of X G a_L_form),
    f_L_number := f_L_number,
    fd_L_number := (PySem.W.fnOf "_law_number" "_law_number" (defArgs s_L_number) (defBody s_L_number) (defScope s_L_number) .none kV_L_number dc_L_number pm_L_number an_L_number cd_L_number ct_L_number),
    F_L_number := (fun_mk (st := s_L_number) l_L_number c_L_number k_L_number),
    kp_L_number := k_L_number,
    b_L_number_2 := (.all fun us hl => match us, hl with | [_, _], _ => rfl),
    mg_L_number := (PySem.W.mg_of X G a_L_number),
    f_L_figures := f_L_figures,
    fd_L_figures := (PySem.W.fnOf "_law_figures" "_law_figures" (defArgs s_L_figures) (defBody s_L_figures) (defScope s_L_figures) .none kV_L_figures dc_L_figures pm_L_figures an_L_figures cd_L_figures ct_L_figures),
    F_L_figures := (fun_mk (st := s_L_figures) l_L_figures c_L_figures k_L_figures),
    kp_L_figures := k_L_figures,
    b_L_figures_1 := (.all fun us hl => match us, hl with | [_], _ => rfl),
    mg_L_figures := (PySem.W.mg_of X G a_L_figures),
    f_L_shown := f_L_shown,
    fd_L_shown := (PySem.W.fnOf "_law_shown" "_law_shown" (defArgs s_L_shown) (defBody s_L_shown) (defScope s_L_shown) .none kV_L_shown dc_L_shown pm_L_shown an_L_shown cd_L_shown ct_L_shown),
    F_L_shown := (fun_mk (st := s_L_shown) l_L_shown c_L_shown k_L_shown),
    kp_L_shown := k_L_shown,
    b_L_shown_2 := (.all fun us hl => match us, hl with | [_, _], _ => rfl),
    mg_L_shown := (PySem.W.mg_of X G a_L_shown),
    f_law := f_law,
    fd_law := (PySem.W.fnOf "law" "law" (defArgs s_law) (defBody s_law) (defScope s_law) .none kV_law dc_law pm_law an_law cd_law ct_law),
    F_law := (fun_mk (st := s_law) l_law c_law k_law),
    kp_law := k_law,
    b_law_1 := (.all fun us hl => match us, hl with | [_], _ => rfl),
    mg_law := (PySem.W.mg_of X G a_law),
    bt_law := (fun s v => .of_eq rfl),
    xx_NoRow := xx_NoRow,
    xk_NoRow := xk_NoRow,
    xb_NoRow := xb_NoRow,
    xt_NoRow := xt_NoRow,
    z_abs := (PySem.W.mg_none_of X G z_abs),
    z_enumerate := (PySem.W.mg_none_of X G z_enumerate),
    z_int := (PySem.W.mg_none_of X G z_int),
    z_isinstance := (PySem.W.mg_none_of X G z_isinstance),
    z_len := (PySem.W.mg_none_of X G z_len),
    z_list := (PySem.W.mg_none_of X G z_list),
    z_min := (PySem.W.mg_none_of X G z_min),
    z_range := (PySem.W.mg_none_of X G z_range),
    z_str := (PySem.W.mg_none_of X G z_str),
    z_tuple := (PySem.W.mg_none_of X G z_tuple),
    z_zip := (PySem.W.mg_none_of X G z_zip),
    tk_FIGURES := tk_FIGURES,
    g_FIGURES := (PySem.W.mg_of X G g_FIGURES),
    tk_MOST_FIGURES := tk_MOST_FIGURES,
    g_MOST_FIGURES := (PySem.W.mg_of X G g_MOST_FIGURES),
    d_WORDS := d_WORDS,
    mgd_WORDS := (PySem.W.mg_of X G ad_WORDS),
    sd_WORDS := (L2.DX.statD_mk (w := w) ld_WORDS (.cons hh_WORDS_0 ⟨_, rfl⟩ (.cons hh_WORDS_1 ⟨_, rfl⟩ (.cons hh_WORDS_2 ⟨_, rfl⟩ (.cons hh_WORDS_3 ⟨_, rfl⟩ (.cons hh_WORDS_4 ⟨_, rfl⟩ (.cons hh_WORDS_5 ⟨_, rfl⟩ (.cons hh_WORDS_6 ⟨_, rfl⟩ (.cons hh_WORDS_7 ⟨_, rfl⟩ (.cons hh_WORDS_8 ⟨_, rfl⟩ (.cons hh_WORDS_9 ⟨_, rfl⟩ (.cons hh_WORDS_10 ⟨_, rfl⟩ (.cons hh_WORDS_11 ⟨_, rfl⟩ (.cons hh_WORDS_12 ⟨_, rfl⟩ (.cons hh_WORDS_13 ⟨_, rfl⟩ .nil)))))))))))))) (by decide +kernel) ns_WORDS) }, e⟩
theorem all_fin {l : PySem.W.OpenLaw} {w : World} {K : PySem.W.Frag} {h : Heap} {mg : Str → Option Value} {fa : Addr} (X : K.In h) (G : h.Ns mainGlobals mg) (hfa : mg "law" = some (.ref fa))
    {C_FrameError C_NoRow f_read_number f_read_value f_read_rights f_show_rights f_read_row f_show_row f_L_cell_at f_L_form f_L_number f_L_figures f_L_shown f_law : Addr}
    {od_read_number an_read_number : Option Addr} {sl_read_number : Array (Option Value)} {oc_read_number kV_read_number dc_read_number pm_read_number cd_read_number ct_read_number : Value}
    {od_read_value an_read_value : Option Addr} {sl_read_value : Array (Option Value)} {oc_read_value kV_read_value dc_read_value pm_read_value cd_read_value ct_read_value : Value}
    {od_read_rights an_read_rights : Option Addr} {sl_read_rights : Array (Option Value)} {oc_read_rights kV_read_rights dc_read_rights pm_read_rights cd_read_rights ct_read_rights : Value}
    {od_show_rights an_show_rights : Option Addr} {sl_show_rights : Array (Option Value)} {oc_show_rights kV_show_rights dc_show_rights pm_show_rights cd_show_rights ct_show_rights : Value}
    {od_read_row an_read_row : Option Addr} {sl_read_row : Array (Option Value)} {oc_read_row kV_read_row dc_read_row pm_read_row cd_read_row ct_read_row : Value}
    {od_show_row an_show_row : Option Addr} {sl_show_row : Array (Option Value)} {oc_show_row kV_show_row dc_show_row pm_show_row cd_show_row ct_show_row : Value}
    {od_L_cell_at an_L_cell_at : Option Addr} {sl_L_cell_at : Array (Option Value)} {oc_L_cell_at kV_L_cell_at dc_L_cell_at pm_L_cell_at cd_L_cell_at ct_L_cell_at : Value}
    {od_L_form an_L_form : Option Addr} {sl_L_form : Array (Option Value)} {oc_L_form kV_L_form dc_L_form pm_L_form cd_L_form ct_L_form : Value}
    {od_L_number an_L_number : Option Addr} {sl_L_number : Array (Option Value)} {oc_L_number kV_L_number dc_L_number pm_L_number cd_L_number ct_L_number : Value}
    {od_L_figures an_L_figures : Option Addr} {sl_L_figures : Array (Option Value)} {oc_L_figures kV_L_figures dc_L_figures pm_L_figures cd_L_figures ct_L_figures : Value}
    {od_L_shown an_L_shown : Option Addr} {sl_L_shown : Array (Option Value)} {oc_L_shown kV_L_shown dc_L_shown pm_L_shown cd_L_shown ct_L_shown : Value}
    {od_law an_law : Option Addr} {sl_law : Array (Option Value)} {oc_law kV_law dc_law pm_law cd_law ct_law : Value}
    {tk_FIGURES : Tok}
    {tk_MOST_FIGURES : Tok}
    {d_WORDS : Addr} {ep_WORDS : Nat} {hk_WORDS_0 : Int} {tk_WORDS_0 tv_WORDS_0 : Tok} {hk_WORDS_1 : Int} {tk_WORDS_1 tv_WORDS_1 : Tok} {hk_WORDS_2 : Int} {tk_WORDS_2 tv_WORDS_2 : Tok} {hk_WORDS_3 : Int} {tk_WORDS_3 tv_WORDS_3 : Tok} {hk_WORDS_4 : Int} {tk_WORDS_4 tv_WORDS_4 : Tok} {hk_WORDS_5 : Int} {tk_WORDS_5 tv_WORDS_5 : Tok} {hk_WORDS_6 : Int} {tk_WORDS_6 tv_WORDS_6 : Tok} {hk_WORDS_7 : Int} {tk_WORDS_7 tv_WORDS_7 : Tok} {hk_WORDS_8 : Int} {tk_WORDS_8 tv_WORDS_8 : Tok} {hk_WORDS_9 : Int} {tk_WORDS_9 tv_WORDS_9 : Tok} {hk_WORDS_10 : Int} {tk_WORDS_10 tv_WORDS_10 : Tok} {hk_WORDS_11 : Int} {tk_WORDS_11 tv_WORDS_11 : Tok} {hk_WORDS_12 : Int} {tk_WORDS_12 tv_WORDS_12 : Tok} {hk_WORDS_13 : Int} {tk_WORDS_13 tv_WORDS_13 : Tok}
    (aC_FrameError : PySem.W.nsIn K mainGlobals "FrameError" = some (some (.ref C_FrameError)))
    (aC_NoRow : PySem.W.nsIn K mainGlobals "NoRow" = some (some (.ref C_NoRow)))
    (a_read_number : PySem.W.nsIn K mainGlobals "read_number" = some (some (.ref f_read_number)))
    (l_read_number : K.lookup f_read_number = some ⟨oc_read_number, od_read_number, .func (PySem.W.fnOf "read_number" "read_number" (defArgs s_read_number) (defBody s_read_number) (defScope s_read_number) .none kV_read_number dc_read_number pm_read_number an_read_number cd_read_number ct_read_number), sl_read_number⟩)
    (c_read_number : PySem.W.codeIn K cd_read_number "read_number" = true)
    (k_read_number : PySem.W.keepIn K (.ref f_read_number) = true)
    (a_read_value : PySem.W.nsIn K mainGlobals "read_value" = some (some (.ref f_read_value)))
    (l_read_value : K.lookup f_read_value = some ⟨oc_read_value, od_read_value, .func (PySem.W.fnOf "read_value" "read_value" (defArgs s_read_value) (defBody s_read_value) (defScope s_read_value) .none kV_read_value dc_read_value pm_read_value an_read_value cd_read_value ct_read_value), sl_read_value⟩)
    (c_read_value : PySem.W.codeIn K cd_read_value "read_value" = true)
    (k_read_value : PySem.W.keepIn K (.ref f_read_value) = true)
    (a_read_rights : PySem.W.nsIn K mainGlobals "read_rights" = some (some (.ref f_read_rights)))
    (l_read_rights : K.lookup f_read_rights = some ⟨oc_read_rights, od_read_rights, .func (PySem.W.fnOf "read_rights" "read_rights" (defArgs s_read_rights) (defBody s_read_rights) (defScope s_read_rights) .none kV_read_rights dc_read_rights pm_read_rights an_read_rights cd_read_rights ct_read_rights), sl_read_rights⟩)
    (c_read_rights : PySem.W.codeIn K cd_read_rights "read_rights" = true)
    (k_read_rights : PySem.W.keepIn K (.ref f_read_rights) = true)
    (a_show_rights : PySem.W.nsIn K mainGlobals "show_rights" = some (some (.ref f_show_rights)))
    (l_show_rights : K.lookup f_show_rights = some ⟨oc_show_rights, od_show_rights, .func (PySem.W.fnOf "show_rights" "show_rights" (defArgs s_show_rights) (defBody s_show_rights) (defScope s_show_rights) .none kV_show_rights dc_show_rights pm_show_rights an_show_rights cd_show_rights ct_show_rights), sl_show_rights⟩)
    (c_show_rights : PySem.W.codeIn K cd_show_rights "show_rights" = true)
    (k_show_rights : PySem.W.keepIn K (.ref f_show_rights) = true)
    (a_read_row : PySem.W.nsIn K mainGlobals "read_row" = some (some (.ref f_read_row)))
    (l_read_row : K.lookup f_read_row = some ⟨oc_read_row, od_read_row, .func (PySem.W.fnOf "read_row" "read_row" (defArgs s_read_row) (defBody s_read_row) (defScope s_read_row) .none kV_read_row dc_read_row pm_read_row an_read_row cd_read_row ct_read_row), sl_read_row⟩)
    (c_read_row : PySem.W.codeIn K cd_read_row "read_row" = true)
    (k_read_row : PySem.W.keepIn K (.ref f_read_row) = true)
    (a_show_row : PySem.W.nsIn K mainGlobals "show_row" = some (some (.ref f_show_row)))
    (l_show_row : K.lookup f_show_row = some ⟨oc_show_row, od_show_row, .func (PySem.W.fnOf "show_row" "show_row" (defArgs s_show_row) (defBody s_show_row) (defScope s_show_row) .none kV_show_row dc_show_row pm_show_row an_show_row cd_show_row ct_show_row), sl_show_row⟩)
    (c_show_row : PySem.W.codeIn K cd_show_row "show_row" = true)
    (k_show_row : PySem.W.keepIn K (.ref f_show_row) = true)
    (a_L_cell_at : PySem.W.nsIn K mainGlobals "_law_cell_at" = some (some (.ref f_L_cell_at)))
    (l_L_cell_at : K.lookup f_L_cell_at = some ⟨oc_L_cell_at, od_L_cell_at, .func (PySem.W.fnOf "_law_cell_at" "_law_cell_at" (defArgs s_L_cell_at) (defBody s_L_cell_at) (defScope s_L_cell_at) .none kV_L_cell_at dc_L_cell_at pm_L_cell_at an_L_cell_at cd_L_cell_at ct_L_cell_at), sl_L_cell_at⟩)
    (c_L_cell_at : PySem.W.codeIn K cd_L_cell_at "_law_cell_at" = true)
    (k_L_cell_at : PySem.W.keepIn K (.ref f_L_cell_at) = true)
    (a_L_form : PySem.W.nsIn K mainGlobals "_law_form" = some (some (.ref f_L_form)))
    (l_L_form : K.lookup f_L_form = some ⟨oc_L_form, od_L_form, .func (PySem.W.fnOf "_law_form" "_law_form" (defArgs s_L_form) (defBody s_L_form) (defScope s_L_form) .none kV_L_form dc_L_form pm_L_form an_L_form cd_L_form ct_L_form), sl_L_form⟩)
    (c_L_form : PySem.W.codeIn K cd_L_form "_law_form" = true)
    (k_L_form : PySem.W.keepIn K (.ref f_L_form) = true)
    (a_L_number : PySem.W.nsIn K mainGlobals "_law_number" = some (some (.ref f_L_number)))
    (l_L_number : K.lookup f_L_number = some ⟨oc_L_number, od_L_number, .func (PySem.W.fnOf "_law_number" "_law_number" (defArgs s_L_number) (defBody s_L_number) (defScope s_L_number) .none kV_L_number dc_L_number pm_L_number an_L_number cd_L_number ct_L_number), sl_L_number⟩)
    (c_L_number : PySem.W.codeIn K cd_L_number "_law_number" = true)
    (k_L_number : PySem.W.keepIn K (.ref f_L_number) = true)
    (a_L_figures : PySem.W.nsIn K mainGlobals "_law_figures" = some (some (.ref f_L_figures)))
    (l_L_figures : K.lookup f_L_figures = some ⟨oc_L_figures, od_L_figures, .func (PySem.W.fnOf "_law_figures" "_law_figures" (defArgs s_L_figures) (defBody s_L_figures) (defScope s_L_figures) .none kV_L_figures dc_L_figures pm_L_figures an_L_figures cd_L_figures ct_L_figures), sl_L_figures⟩)
    (c_L_figures : PySem.W.codeIn K cd_L_figures "_law_figures" = true)
    (k_L_figures : PySem.W.keepIn K (.ref f_L_figures) = true)
    (a_L_shown : PySem.W.nsIn K mainGlobals "_law_shown" = some (some (.ref f_L_shown)))
    (l_L_shown : K.lookup f_L_shown = some ⟨oc_L_shown, od_L_shown, .func (PySem.W.fnOf "_law_shown" "_law_shown" (defArgs s_L_shown) (defBody s_L_shown) (defScope s_L_shown) .none kV_L_shown dc_L_shown pm_L_shown an_L_shown cd_L_shown ct_L_shown), sl_L_shown⟩)
    (c_L_shown : PySem.W.codeIn K cd_L_shown "_law_shown" = true)
    (k_L_shown : PySem.W.keepIn K (.ref f_L_shown) = true)
    (a_law : PySem.W.nsIn K mainGlobals "law" = some (some (.ref f_law)))
    (l_law : K.lookup f_law = some ⟨oc_law, od_law, .func (PySem.W.fnOf "law" "law" (defArgs s_law) (defBody s_law) (defScope s_law) .none kV_law dc_law pm_law an_law cd_law ct_law), sl_law⟩)
    (c_law : PySem.W.codeIn K cd_law "law" = true)
    (k_law : PySem.W.keepIn K (.ref f_law) = true)
    (xb_NoRow : PySem.W.subIn K (.ref C_NoRow) (.type "BaseException") = some true)
    (xt_NoRow : PySem.W.typeIn K (.ref C_NoRow) = some (.type "type"))
    (ed_NoRow : PySem.W.hasDictIn K C_NoRow = true)
    (xx_NoRow : PySem.W.excIn K C_NoRow [.type "ValueError", .type "Exception", .type "BaseException", .type "object"] "ValueError.__new__" = true)
    (xk_NoRow : PySem.W.keepIn K (.ref C_NoRow) = true)
    (z_abs : PySem.W.nsIn K mainGlobals "abs" = some none)
    (z_enumerate : PySem.W.nsIn K mainGlobals "enumerate" = some none)
    (z_int : PySem.W.nsIn K mainGlobals "int" = some none)
    (z_isinstance : PySem.W.nsIn K mainGlobals "isinstance" = some none)
    (z_len : PySem.W.nsIn K mainGlobals "len" = some none)
    (z_list : PySem.W.nsIn K mainGlobals "list" = some none)
    (z_min : PySem.W.nsIn K mainGlobals "min" = some none)
    (z_range : PySem.W.nsIn K mainGlobals "range" = some none)
    (z_str : PySem.W.nsIn K mainGlobals "str" = some none)
    (z_tuple : PySem.W.nsIn K mainGlobals "tuple" = some none)
    (z_zip : PySem.W.nsIn K mainGlobals "zip" = some none)
    (g_FIGURES : PySem.W.nsIn K mainGlobals "FIGURES" = some (some (.str "0123456789" tk_FIGURES)))
    (g_MOST_FIGURES : PySem.W.nsIn K mainGlobals "MOST_FIGURES" = some (some (.int 60 tk_MOST_FIGURES)))
    (ad_WORDS : PySem.W.nsIn K mainGlobals "WORDS" = some (some (.ref d_WORDS)))
    (ld_WORDS : K.lookup d_WORDS = some ⟨.type "dict", none, .dict (List.toArray [⟨hk_WORDS_0, .str "new" tk_WORDS_0, .str "" tv_WORDS_0⟩, ⟨hk_WORDS_1, .str "fork" tk_WORDS_1, .str "n" tv_WORDS_1⟩, ⟨hk_WORDS_2, .str "end" tk_WORDS_2, .str "n" tv_WORDS_2⟩, ⟨hk_WORDS_3, .str "bank" tk_WORDS_3, .str "n" tv_WORDS_3⟩, ⟨hk_WORDS_4, .str "drop" tk_WORDS_4, .str "n" tv_WORDS_4⟩, ⟨hk_WORDS_5, .str "lay" tk_WORDS_5, .str "nnnr" tv_WORDS_5⟩, ⟨hk_WORDS_6, .str "lift" tk_WORDS_6, .str "nnn" tv_WORDS_6⟩, ⟨hk_WORDS_7, .str "guard" tk_WORDS_7, .str "nnnr" tv_WORDS_7⟩, ⟨hk_WORDS_8, .str "read" tk_WORDS_8, .str "nn" tv_WORDS_8⟩, ⟨hk_WORDS_9, .str "write" tk_WORDS_9, .str "nnv" tv_WORDS_9⟩, ⟨hk_WORDS_10, .str "fold" tk_WORDS_10, .str "" tv_WORDS_10⟩, ⟨hk_WORDS_11, .str "see" tk_WORDS_11, .str "nn" tv_WORDS_11⟩, ⟨hk_WORDS_12, .str "laid" tk_WORDS_12, .str "n" tv_WORDS_12⟩, ⟨hk_WORDS_13, .str "live" tk_WORDS_13, .str "" tv_WORDS_13⟩]) ep_WORDS, #[]⟩)
    (hh_WORDS_0 : hk_WORDS_0 = hashStr w "new")
    (hh_WORDS_1 : hk_WORDS_1 = hashStr w "fork")
    (hh_WORDS_2 : hk_WORDS_2 = hashStr w "end")
    (hh_WORDS_3 : hk_WORDS_3 = hashStr w "bank")
    (hh_WORDS_4 : hk_WORDS_4 = hashStr w "drop")
    (hh_WORDS_5 : hk_WORDS_5 = hashStr w "lay")
    (hh_WORDS_6 : hk_WORDS_6 = hashStr w "lift")
    (hh_WORDS_7 : hk_WORDS_7 = hashStr w "guard")
    (hh_WORDS_8 : hk_WORDS_8 = hashStr w "read")
    (hh_WORDS_9 : hk_WORDS_9 = hashStr w "write")
    (hh_WORDS_10 : hk_WORDS_10 = hashStr w "fold")
    (hh_WORDS_11 : hk_WORDS_11 = hashStr w "see")
    (hh_WORDS_12 : hk_WORDS_12 = hashStr w "laid")
    (hh_WORDS_13 : hk_WORDS_13 = hashStr w "live")
    (ns_WORDS : (d_WORDS == sysModules) = false)
    : ∃ fd : FuncData, (∀ (s : Shared) (v : Value), BindsTo s fd ⟨[v], []⟩ [("_law_script", v)]) ∧ ∀ base : Heap, K.In base → base.Ns mainGlobals mg → FnOk l.prog w K mg base (L2.CX l.prog w) 4 fa fd ["_law_script"] (spLaw K) := by
  obtain ⟨T, rfl⟩ := all_mk (w := w) X G hfa aC_FrameError aC_NoRow a_read_number l_read_number c_read_number k_read_number a_read_value l_read_value c_read_value k_read_value a_read_rights l_read_rights c_read_rights k_read_rights a_show_rights l_show_rights c_show_rights k_show_rights a_read_row l_read_row c_read_row k_read_row a_show_row l_show_row c_show_row k_show_row a_L_cell_at l_L_cell_at c_L_cell_at k_L_cell_at a_L_form l_L_form c_L_form k_L_form a_L_number l_L_number c_L_number k_L_number a_L_figures l_L_figures c_L_figures k_L_figures a_L_shown l_L_shown c_L_shown k_L_shown a_law l_law c_law k_law xb_NoRow xt_NoRow ed_NoRow xx_NoRow xk_NoRow z_abs z_enumerate z_int z_isinstance z_len z_list z_min z_range z_str z_tuple z_zip g_FIGURES g_MOST_FIGURES ad_WORDS ld_WORDS hh_WORDS_0 hh_WORDS_1 hh_WORDS_2 hh_WORDS_3 hh_WORDS_4 hh_WORDS_5 hh_WORDS_6 hh_WORDS_7 hh_WORDS_8 hh_WORDS_9 hh_WORDS_10 hh_WORDS_11 hh_WORDS_12 hh_WORDS_13 ns_WORDS
  exact ⟨T.fd_law, T.bt_law, fun base _ _ => ok_law T⟩
theorem walk {l : PySem.W.OpenLaw} {q : Program} {loose : List Str} {XP : (Str → Option Value) → Heap → Prop} {YP : World → Heap → Prop} {d : DefRec} {K : Params → PySem.W.Frag} (hn : l.most = some 63) (hdf : d.params.defaults = [])
    (hY : ∀ (w : World) (h : Heap), YP w h → (K w.params).In h)
    (F : ∀ (w : World) (mg : Str → Option Value) (fa : Addr) (h : Heap), (K w.params).In h → h.Ns mainGlobals mg → mg d.name = some (.ref fa) →
      ∃ fd : FuncData, (∀ (s : Shared) (u : Value), BindsTo s fd ⟨[u], []⟩ [("_law_script", u)]) ∧ ∀ base : Heap, (K w.params).In base → base.Ns mainGlobals mg → FnOk l.prog w (K w.params) mg base (L2.CX l.prog w) 4 fa fd ["_law_script"] (spLaw (K w.params))) :
    PySem.W.WalkO q loose XP YP l.row.toRowW d [] (fun f vs => PySem.call f vs) :=
  L2.walk_ofB (n := 63) (k := 4) (x := "_law_script") (CX := fun w => L2.CX l.prog w) (sp := fun w => spLaw (K w.params)) hn (by decide) hdf ⟨rfl, by decide, by decide⟩ hY F (fun _ _ a ns hl hb _ hS => ⟨a, ns, rfl, Star.ofScr hS, hl, hb, fun _ => rfl⟩) fun _ _ _ _ _ z => by
    obtain ⟨_, _, _, _, _, _, _, _, _, _, _, _, z⟩ := z
    exact z.elim
end Fl
open PySem PySem.W PyProof.Rows
set_option maxRecDepth 100000 in
set_option maxHeartbeats 0 in
theorem PySem.Challenge.cw_frameland_k96_rows_shown_holds : PySem.Challenge.rw_frameland_k96_rows_shown.Holds := by
  w_on; o_law; k_head; (case hw => w_witness2)
  k_fill
  refine Fl.walk (l := PySem.Challenge.rw_frameland_k96_rows_shown) rfl rfl (fun w h Y => PySem.W.kIn_of Y) ?F
  case F =>
    intro w mg fa h KX G hmg
    refine' Fl.all_fin (l := PySem.Challenge.rw_frameland_k96_rows_shown) (w := w) KX G hmg ?aC_FrameError ?aC_NoRow ?a_read_number ?l_read_number ?c_read_number ?k_read_number ?a_read_value ?l_read_value ?c_read_value ?k_read_value ?a_read_rights ?l_read_rights ?c_read_rights ?k_read_rights ?a_show_rights ?l_show_rights ?c_show_rights ?k_show_rights ?a_read_row ?l_read_row ?c_read_row ?k_read_row ?a_show_row ?l_show_row ?c_show_row ?k_show_row ?a_L_cell_at ?l_L_cell_at ?c_L_cell_at ?k_L_cell_at ?a_L_form ?l_L_form ?c_L_form ?k_L_form ?a_L_number ?l_L_number ?c_L_number ?k_L_number ?a_L_figures ?l_L_figures ?c_L_figures ?k_L_figures ?a_L_shown ?l_L_shown ?c_L_shown ?k_L_shown ?a_law ?l_law ?c_law ?k_law ?xb_NoRow ?xt_NoRow ?ed_NoRow ?xx_NoRow ?xk_NoRow ?z_abs ?z_enumerate ?z_int ?z_isinstance ?z_len ?z_list ?z_min ?z_range ?z_str ?z_tuple ?z_zip ?g_FIGURES ?g_MOST_FIGURES ?ad_WORDS ?ld_WORDS ?hh_WORDS_0 ?hh_WORDS_1 ?hh_WORDS_2 ?hh_WORDS_3 ?hh_WORDS_4 ?hh_WORDS_5 ?hh_WORDS_6 ?hh_WORDS_7 ?hh_WORDS_8 ?hh_WORDS_9 ?hh_WORDS_10 ?hh_WORDS_11 ?hh_WORDS_12 ?hh_WORDS_13 ?ns_WORDS
    (case aC_FrameError => k_is)
    (case aC_NoRow => k_is)
    (case a_read_number => k_is)
    (case l_read_number => k_is)
    (case c_read_number => k_is)
    (case k_read_number => k_is)
    (case a_read_value => k_is)
    (case l_read_value => k_is)
    (case c_read_value => k_is)
    (case k_read_value => k_is)
    (case a_read_rights => k_is)
    (case l_read_rights => k_is)
    (case c_read_rights => k_is)
    (case k_read_rights => k_is)
    (case a_show_rights => k_is)
    (case l_show_rights => k_is)
    (case c_show_rights => k_is)
    (case k_show_rights => k_is)
    (case a_read_row => k_is)
    (case l_read_row => k_is)
    (case c_read_row => k_is)
    (case k_read_row => k_is)
    (case a_show_row => k_is)
    (case l_show_row => k_is)
    (case c_show_row => k_is)
    (case k_show_row => k_is)
    (case a_L_cell_at => k_is)
    (case l_L_cell_at => k_is)
    (case c_L_cell_at => k_is)
    (case k_L_cell_at => k_is)
    (case a_L_form => k_is)
    (case l_L_form => k_is)
    (case c_L_form => k_is)
    (case k_L_form => k_is)
    (case a_L_number => k_is)
    (case l_L_number => k_is)
    (case c_L_number => k_is)
    (case k_L_number => k_is)
    (case a_L_figures => k_is)
    (case l_L_figures => k_is)
    (case c_L_figures => k_is)
    (case k_L_figures => k_is)
    (case a_L_shown => k_is)
    (case l_L_shown => k_is)
    (case c_L_shown => k_is)
    (case k_L_shown => k_is)
    (case a_law => k_is)
    (case l_law => k_is)
    (case c_law => k_is)
    (case k_law => k_is)
    (case xb_NoRow => k_is)
    (case xt_NoRow => k_is)
    (case ed_NoRow => k_is)
    (case xx_NoRow => k_exc)
    (case xk_NoRow => k_is)
    (case z_abs => k_is)
    (case z_enumerate => k_is)
    (case z_int => k_is)
    (case z_isinstance => k_is)
    (case z_len => k_is)
    (case z_list => k_is)
    (case z_min => k_is)
    (case z_range => k_is)
    (case z_str => k_is)
    (case z_tuple => k_is)
    (case z_zip => k_is)
    (case g_FIGURES => k_is)
    (case g_MOST_FIGURES => k_is)
    (case ad_WORDS => k_is)
    (case ld_WORDS => k_is)
    (case hh_WORDS_0 => rfl)
    (case hh_WORDS_1 => rfl)
    (case hh_WORDS_2 => rfl)
    (case hh_WORDS_3 => rfl)
    (case hh_WORDS_4 => rfl)
    (case hh_WORDS_5 => rfl)
    (case hh_WORDS_6 => rfl)
    (case hh_WORDS_7 => rfl)
    (case hh_WORDS_8 => rfl)
    (case hh_WORDS_9 => rfl)
    (case hh_WORDS_10 => rfl)
    (case hh_WORDS_11 => rfl)
    (case hh_WORDS_12 => rfl)
    (case hh_WORDS_13 => rfl)
    (case ns_WORDS => rfl)
