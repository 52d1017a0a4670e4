import PyProof.Rows.All
import Wide.All
import OpenK.AllK
import Wide.FinOn
import PySem.Challenge.RW_no0185_01
set_option linter.all false
set_option maxRecDepth 100000
set_option Elab.async false
set_option genSizeOf false
set_option compiler.extract_closed false
set_option bootstrap.genMatcherCode false
section
namespace Mine
set_option genSizeOf false
set_option genInjectivity false
inductive NE | v (i : Nat) | l (n : Nat) | a (e f : NE) | m (k : Nat) (e : NE)
inductive IE | v (i : Nat) | l (n : Nat) | c (e : NE) | a (e f : IE) | s (e f : IE) | g (e : IE) | m (k : Nat) (e : IE)
inductive LP | L (e f : NE) | Q (e f : NE) | l (e f : IE) | q (e f : IE) | n (p : LP) | F | o (p q : LP) | w (p q : LP)
noncomputable abbrev NE.x0 : NE := .v 0
noncomputable abbrev NE.x1 : NE := .v 1
noncomputable abbrev NE.x2 : NE := .v 2
noncomputable abbrev NE.x3 : NE := .v 3
noncomputable abbrev NE.x4 : NE := .v 4
noncomputable abbrev NE.x5 : NE := .v 5
noncomputable abbrev IE.x0 : IE := .v 0
noncomputable abbrev IE.x1 : IE := .v 1
noncomputable abbrev IE.x2 : IE := .v 2
noncomputable abbrev IE.x3 : IE := .v 3
noncomputable abbrev IE.x4 : IE := .v 4
noncomputable abbrev IE.x5 : IE := .v 5
noncomputable abbrev NE.l0 : NE := .l 0
noncomputable abbrev NE.l1 : NE := .l 1
noncomputable abbrev IE.l0 : IE := .l 0
noncomputable abbrev IE.l1 : IE := .l 1
noncomputable abbrev LP.T (e f : NE) : LP := .L (.a e (.l 1)) f
noncomputable abbrev LP.t (e f : IE) : LP := .l (.a e (.l 1)) f
namespace La
noncomputable def nth {α : Type} (d : α) : List α->Nat->α
 | [],_ => d
 | x :: r,i => match i with
  | 0 => x
  | n + 1 => nth d r n
noncomputable def ev (x : List Nat) : NE->Nat
 | .v i => nth 0 x i
 | .l n => n
 | .a e f => ev x e + ev x f
 | .m k e => k * ev x e
noncomputable def ei (x : List Nat) (y : List Int) : IE->Int
 | .v i => nth 0 y i
 | .l n => (n : Int)
 | .c e => (ev x e : Int)
 | .a e f => ei x y e + ei x y f
 | .s e f => ei x y e - ei x y f
 | .g e => - ei x y e
 | .m k e => (k : Int) * ei x y e
noncomputable def holds (x : List Nat) (y : List Int) : LP->Prop
 | .L e f => ev x e<=ev x f
 | .Q e f => ev x e = ev x f
 | .l e f => ei x y e<=ei x y f
 | .q e f => ei x y e = ei x y f
 | .n p => ¬ holds x y p
 | .F => False
 | .o p q => holds x y p\/holds x y q
 | .w p q => holds x y p/\holds x y q
noncomputable abbrev Po := List Int × List Int
noncomputable def unit : Nat->List Int
 | 0 => [1]
 | k + 1 => 0 :: unit k
noncomputable def addL : List Int->List Int->List Int
 | [],m => m
 | a :: l,m => match m with
  | [] => a :: l
  | b :: m => (a + b) :: addL l m
noncomputable def dot : List Int->List Int->Int
 | [],_ => 0
 | a :: l,m => match m with
  | [] => 0
  | b :: m => a * b + dot l m
noncomputable def Po.add (p q : Po) : Po := (addL p.1 q.1,addL p.2 q.2)
noncomputable def Po.mul (k : Int) (p : Po) : Po := (p.1.map (k * ·),p.2.map (k * ·))
noncomputable def pn : NE->Po
 | .v i => (unit (i + 1),[])
 | .l n => ([(n : Int)],[])
 | .a e f => Po.add (pn e) (pn f)
 | .m k e => Po.mul k (pn e)
noncomputable def pj : IE->Po
 | .v i => ([],unit i)
 | .l n => ([(n : Int)],[])
 | .c e => pn e
 | .a e f => Po.add (pj e) (pj f)
 | .s e f => Po.add (pj e) (Po.mul (-1) (pj f))
 | .g e => Po.mul (-1) (pj e)
 | .m k e => Po.mul k (pj e)
noncomputable def le (p q : Po) : Po := Po.add q (Po.mul (-1) p)
noncomputable def lt (p q : Po) : Po := le (Po.add p ([1],[])) q
noncomputable def prod (b c : List (List Po)) : List (List Po) := b.flatMap λ x => c.map (x ++ ·)
noncomputable def rows : LP->List (List Po) × List (List Po)
 | .L e f => ([[le (pn e) (pn f)]],[[lt (pn f) (pn e)]])
 | .Q e f => ([[le (pn e) (pn f),le (pn f) (pn e)]],[[lt (pn e) (pn f)],[lt (pn f) (pn e)]])
 | .l e f => ([[le (pj e) (pj f)]],[[lt (pj f) (pj e)]])
 | .q e f => ([[le (pj e) (pj f),le (pj f) (pj e)]],[[lt (pj e) (pj f)],[lt (pj f) (pj e)]])
 | .n p => ((rows p).2,(rows p).1)
 | .F => ([],[[]])
 | .o p q => ((rows p).1 ++ (rows q).1,prod (rows p).2 (rows q).2)
 | .w p q => (prod (rows p).1 (rows q).1,(rows p).2 ++ (rows q).2)
noncomputable def prods : List LP->List (List Po)->List (List Po)
 | [],b => b
 | p :: r,b => prod (rows p).1 (prods r b)
noncomputable def comb : List Po->List Nat->Po
 | [],_ => ([],[])
 | p :: r,c => match c with
  | [] => ([],[])
  | k :: c => Po.add (Po.mul k p) (comb r c)
noncomputable def np : List Int->Bool
 | [] => true
 | a :: l => decide (a<=0) && np l
noncomputable def zr : List Int->Bool
 | [] => true
 | a :: l => decide (a = 0) && zr l
noncomputable def neg (p : Po) : Bool := match p.1 with
 | [] => false
 | c :: n => decide (c < 0) && (np n && zr p.2)
noncomputable def chks : List (List Po)->List (List Nat)->Bool
 | [],_ => true
 | b :: r,c => match c with
  | [] => false
  | c :: cs => neg (comb b c) && chks r cs
noncomputable def chk (ps : List LP) (g : LP) (c : List (List Nat)) : Bool := chks (prods ps (rows g).2) c
theorem dot_add (l m x : List Int) : dot (addL l m) x = dot l x + dot m x := by
 induction l generalizing m x with
 | nil => exact (Int.zero_add _).symm
 | cons a l ih => cases m with
  | nil => exact (Int.add_zero _).symm
  | cons b m => cases x with
   | nil => rfl
   | cons c x =>
    refine (congrArg ((a + b) * c + ·) (ih m x)).trans ?_
    rw [Int.add_mul,Int.add_assoc,Int.add_left_comm (b * c),<- Int.add_assoc]; rfl
theorem dot_mul (k : Int) (l x : List Int) : dot (l.map (k * ·)) x = k * dot l x := by
 induction l generalizing x with
 | nil => exact (Int.mul_zero k).symm
 | cons a l ih => cases x with
  | nil => exact (Int.mul_zero k).symm
  | cons c x => refine (congrArg (k * a * c + ·) (ih x)).trans ?_; rw [Int.mul_assoc,<- Int.mul_add]; rfl
theorem dot_unit (i : Nat) (x : List Int) : dot (unit i) x = nth 0 x i := by
 induction i generalizing x with
 | zero => cases x with
  | nil => rfl
  | cons c x => show 1 * c + 0 = c; rw [Int.one_mul,Int.add_zero]
 | succ i ih => cases x with
  | nil => rfl
  | cons c x => refine (congrArg (0 * c + ·) (ih x)).trans ?_; rw [Int.zero_mul,Int.zero_add]; rfl
noncomputable abbrev cs (x : List Nat) : List Int := x.map Nat.cast
theorem nth_cast (x : List Nat) (i : Nat) : nth 0 (cs x) i = (nth 0 x i : Nat) := by
 induction x generalizing i with
 | nil => rfl
 | cons a x ih => cases i with
  | zero => rfl
  | succ i => exact ih i
section
variable (x : List Nat) (y : List Int)
noncomputable def pe (p : Po) : Int := dot p.1 (1 :: cs x) + dot p.2 y
theorem pe_add (p q : Po) : pe x y (Po.add p q) = pe x y p + pe x y q := by
 show dot (addL _ _) _ + dot (addL _ _) _ = (_ + _) + (_ + _)
 rw [dot_add,dot_add,Int.add_assoc,Int.add_assoc,Int.add_left_comm (dot q.1 _)]
theorem pe_mul (k : Int) (p : Po) : pe x y (Po.mul k p) = k * pe x y p := by
 show dot (List.map _ _) _ + dot (List.map _ _) _ = _ * (_ + _)
 rw [dot_mul,dot_mul,<- Int.mul_add]
theorem pe_c (k : Int) : pe x y ([k],[]) = k := by
 show k * 1 + 0 + 0 = k
 rw [Int.mul_one,Int.add_zero,Int.add_zero]
theorem pn_ok (e : NE) : pe x y (pn e) = (ev x e : Int) := by
 induction e with
 | v i => exact (Int.add_zero _).trans ((dot_unit (i + 1) (1 :: cs x)).trans (nth_cast x i))
 | l n => exact pe_c x y n
 | a e f h k => exact (pe_add x y _ _).trans (by rw [h,k]; rfl)
 | m k e h => exact (pe_mul x y _ _).trans (by rw [h]; rfl)
theorem pj_ok (e : IE) : pe x y (pj e) = ei x y e := by
 induction e with
 | v i => exact (Int.zero_add _).trans (dot_unit i y)
 | l n => exact pe_c x y n
 | c e => exact pn_ok x y e
 | a e f h k => exact (pe_add x y _ _).trans (by rw [h,k]; rfl)
 | s e f h k => exact (pe_add x y _ _).trans (by rw [pe_mul,h,k,Int.neg_one_mul]; rfl)
 | g e h => exact (pe_mul x y _ _).trans (by rw [h,Int.neg_one_mul]; rfl)
 | m k e h => exact (pe_mul x y _ _).trans (by rw [h]; rfl)
theorem le_ok {p q : Po} (h : pe x y p<=pe x y q) : 0<=pe x y (le p q) := by
 rw [le,pe_add,pe_mul,Int.neg_one_mul]; exact Int.sub_nonneg_of_le h
theorem lt_ok {p q : Po} (h : ¬ pe x y q<=pe x y p) : 0<=pe x y (lt p q) :=
 le_ok x y (by rw [pe_add,pe_c]; exact Int.not_le.mp h)
noncomputable def Nn (l : List Po) : Prop := ∀ p ∈ l,0<=pe x y p
noncomputable def Ok (b : List (List Po)) : Prop := ∃ l ∈ b,Nn x y l
theorem nn1 {p : Po} (h : 0<=pe x y p) : Nn x y [p] := λ _ hq => List.mem_singleton.mp hq ▸ h
theorem ok1 {l : List Po} (h : Nn x y l) : Ok x y [l] := ⟨l,List.mem_singleton.mpr rfl,h⟩
theorem app_ok {b c : List (List Po)} (h : Ok x y b\/Ok x y c) : Ok x y (b ++ c) :=
 h.elim (λ ⟨l,hl,n⟩ => ⟨l,List.mem_append_left _ hl,n⟩) λ ⟨l,hl,n⟩ => ⟨l,List.mem_append_right _ hl,n⟩
theorem prod_ok {b c : List (List Po)} (h : Ok x y b) (h' : Ok x y c) : Ok x y (prod b c) :=
 h.elim λ l ⟨hl,nl⟩ => h'.elim λ m ⟨hm,nm⟩ => ⟨l ++ m,List.mem_flatMap.mpr ⟨l,hl,List.mem_map.mpr ⟨m,hm,rfl⟩⟩,λ p hp => (List.mem_append.mp hp).elim (nl p) (nm p)⟩
theorem Lk {p q : Po} : (pe x y p<=pe x y q->Ok x y [[le p q]])/\(¬ pe x y p<=pe x y q->Ok x y [[lt q p]]) :=
 ⟨λ h => ok1 x y (nn1 x y (le_ok x y h)),λ h => ok1 x y (nn1 x y (lt_ok x y h))⟩
theorem Qk {p q : Po} : (pe x y p = pe x y q->Ok x y [[le p q,le q p]])/\(¬ pe x y p = pe x y q->Ok x y [[lt p q],[lt q p]]) :=
 ⟨λ h => ok1 x y λ r hr => (List.mem_cons.mp hr).elim (λ e => e ▸ le_ok x y (Int.le_of_eq h)) (nn1 x y (le_ok x y (Int.le_of_eq h.symm)) r),
  λ h => app_ok x y (b := [[lt p q]]) (c := [[lt q p]]) ((Classical.em (pe x y q<=pe x y p)).elim (λ k => .inr (ok1 x y (nn1 x y (lt_ok x y λ k' => h (Int.le_antisymm k' k))))) λ k => .inl (ok1 x y (nn1 x y (lt_ok x y k))))⟩
theorem rows_ok (p : LP) : (holds x y p->Ok x y (rows p).1)/\(¬ holds x y p->Ok x y (rows p).2) := by
 induction p with
 | L e f => have := Lk x y (p := pn e) (q := pn f); rw [pn_ok,pn_ok] at this; exact ⟨λ h => this.1 (Int.ofNat_le.mpr h),λ h => this.2 λ k => h (Int.ofNat_le.mp k)⟩
 | Q e f => have := Qk x y (p := pn e) (q := pn f); rw [pn_ok,pn_ok] at this; exact ⟨λ h => this.1 (congrArg Nat.cast h),λ h => this.2 λ k => h (Int.ofNat.inj k)⟩
 | l e f => have := Lk x y (p := pj e) (q := pj f); rw [pj_ok,pj_ok] at this; exact this
 | q e f => have := Qk x y (p := pj e) (q := pj f); rw [pj_ok,pj_ok] at this; exact this
 | n p h => exact ⟨h.2,λ k => h.1 (Classical.byContradiction k)⟩
 | F => exact ⟨False.elim,λ _ => ok1 x y λ _ h => nomatch h⟩
 | o p q h k => exact ⟨λ c => app_ok x y (c.imp h.1 k.1),λ c => prod_ok x y (h.2 λ d => c (.inl d)) (k.2 λ d => c (.inr d))⟩
 | w p q h k => exact ⟨λ c => prod_ok x y (h.1 c.1) (k.1 c.2),λ c => app_ok x y ((Classical.em (holds x y p)).elim (λ d => .inr (k.2 λ d' => c ⟨d,d'⟩)) λ d => .inl (h.2 d))⟩
noncomputable def All : List LP->Prop
 | [] => True
 | p :: r => holds x y p/\All r
theorem prods_ok (ps : List LP) (b : List (List Po)) (h : All x y ps) (k : Ok x y b) : Ok x y (prods ps b) := by
 induction ps with
 | nil => exact k
 | cons p r ih => exact prod_ok x y ((rows_ok x y p).1 h.1) (ih h.2)
theorem comb_ok (l : List Po) (c : List Nat) (h : Nn x y l) : 0<=pe x y (comb l c) := by
 induction l generalizing c with
 | nil => exact Int.le_refl 0
 | cons p l ih => cases c with
  | nil => exact Int.le_refl 0
  | cons k c =>
   show 0<=pe x y (Po.add (Po.mul k p) (comb l c))
   rw [pe_add,pe_mul]
   exact Int.add_nonneg (Int.mul_nonneg (Int.natCast_nonneg k) (h _ List.mem_cons_self)) (ih c λ q hq => h q (List.mem_cons_of_mem _ hq))
theorem np_ok (l : List Int) (x : List Nat) (h : np l = true) : dot l (cs x)<=0 := by
 induction l generalizing x with
 | nil => exact Int.le_refl 0
 | cons a l ih => cases x with
  | nil => exact Int.le_refl 0
  | cons b x =>
   have h := Bool.and_eq_true_iff.mp h
   exact Int.add_nonpos (Int.mul_nonpos_of_nonpos_of_nonneg (of_decide_eq_true h.1) (Int.natCast_nonneg b)) (ih x h.2)
theorem zr_ok (l : List Int) (h : zr l = true) : dot l y = 0 := by
 induction l generalizing y with
 | nil => rfl
 | cons a l ih => cases y with
  | nil => rfl
  | cons b y =>
   have h := Bool.and_eq_true_iff.mp h
   show a * b + dot l y = 0
   rw [ih y h.2,of_decide_eq_true h.1,Int.zero_mul]; rfl
theorem neg_ok (p : Po) (h : neg p = true) : pe x y p < 0 := by
 obtain ⟨l,i⟩ := p
 cases l with
 | nil => cases h
 | cons c n =>
  have h := Bool.and_eq_true_iff.mp h
  have k := Bool.and_eq_true_iff.mp h.2
  show c * 1 + dot n (cs x) + dot i y < 0
  rw [zr_ok y i k.2,Int.add_zero,Int.mul_one]
  exact Int.lt_of_le_of_lt (Int.add_le_add_left (np_ok n x k.1) c) (by rw [Int.add_zero]; exact of_decide_eq_true h.1)
theorem chks_ok (bs : List (List Po)) (c : List (List Nat)) (h : chks bs c = true) : ¬ Ok x y bs := by
 induction bs generalizing c with
 | nil => exact λ ⟨_,k,_⟩ => nomatch k
 | cons b r ih => cases c with
  | nil => cases h
  | cons c cs =>
   have h := Bool.and_eq_true_iff.mp h
   exact λ ⟨l,hl,n⟩ => (List.mem_cons.mp hl).elim (λ e => absurd (comb_ok x y l c n) (Int.not_le.mpr (neg_ok x y _ (e ▸ h.1)))) λ hl => ih cs h.2 ⟨l,hl,n⟩
end
theorem la (ps : List LP) (g : LP) (c : List (List Nat)) (ok : chk ps g c = true) (x : List Nat) (y : List Int) (h : All x y ps) : holds x y g :=
 Classical.byContradiction λ ng => chks_ok x y _ c ok (prods_ok x y ps _ h ((rows_ok x y g).2 ng))
theorem l0 (g : LP) (c : List (List Nat)) (ok : chk [] g c = true) (x : List Nat) (y : List Int) : holds x y g := la [] g c ok x y trivial
theorem l1 (p g : LP) (c : List (List Nat)) (ok : chk [p] g c = true) (x : List Nat) (y : List Int) (h : holds x y p) : holds x y g := la [p] g c ok x y ⟨h,trivial⟩
theorem l2 (p q g : LP) (c : List (List Nat)) (ok : chk [p,q] g c = true) (x : List Nat) (y : List Int) (h : holds x y p) (h' : holds x y q) : holds x y g := la [p,q] g c ok x y ⟨h,h',trivial⟩
theorem l3 (p q r g : LP) (c : List (List Nat)) (ok : chk [p,q,r] g c = true) (x : List Nat) (y : List Int) (h : holds x y p) (h' : holds x y q) (h'' : holds x y r) : holds x y g := la [p,q,r] g c ok x y ⟨h,h',h'',trivial⟩
theorem sb (a b : Nat) : b<=a/\a - b + b = a\/a < b/\a - b = 0 := (Nat.lt_or_ge a b).elim (λ h => .inr ⟨h,Nat.sub_eq_zero_of_le (Nat.le_of_lt h)⟩) λ h => .inl ⟨h,Nat.sub_add_cancel h⟩
theorem mi (a b : Nat) : a<=b/\min a b = a\/b < a/\min a b = b := (Nat.lt_or_ge b a).elim (λ h => .inr ⟨h,Nat.min_eq_right (Nat.le_of_lt h)⟩) λ h => .inl ⟨h,Nat.min_eq_left h⟩
theorem mx (a b : Nat) : a<=b/\max a b = b\/b < a/\max a b = a := (Nat.lt_or_ge b a).elim (λ h => .inr ⟨h,Nat.max_eq_left (Nat.le_of_lt h)⟩) λ h => .inl ⟨h,Nat.max_eq_right h⟩
theorem mI (a b : Int) : a<=b/\min a b = a\/b < a/\min a b = b := (Int.lt_or_le b a).elim (λ h => .inr ⟨h,Int.min_eq_right (Int.le_of_lt h)⟩) λ h => .inl ⟨h,Int.min_eq_left h⟩
theorem xI (a b : Int) : a<=b/\max a b = b\/b < a/\max a b = a := (Int.lt_or_le b a).elim (λ h => .inr ⟨h,Int.max_eq_left (Int.le_of_lt h)⟩) λ h => .inl ⟨h,Int.max_eq_right h⟩
theorem tn (z : Int) : 0<=z/\(z.toNat : Int) = z\/z < 0/\z.toNat = 0 := (Int.lt_or_le z 0).elim (λ h => .inr ⟨h,Int.toNat_of_nonpos (Int.le_of_lt h)⟩) λ h => .inl ⟨h,Int.toNat_of_nonneg h⟩
theorem p63 : (1000000 : Int) < 2 ^ 63 := by decide
theorem ne {α : Type} (f : α->Nat) {a b : α} (h : Nat.beq (f a) (f b) = false) : a ≠ b := λ e => Bool.noConfusion ((e ▸ Nat.beq_refl (f a) : Nat.beq (f a) (f b) = true).symm.trans h)
theorem nd {p : Prop} [d : Decidable p] (h : decide p = false) : ¬ p := of_decide_eq_false h
theorem bn {b c : Bool} (h : (b == c) = false) : ¬ b = c := λ e => by rw [e,beq_self_eq_true] at h; cases h
theorem c2 {p1 p2 : Prop} {P : Prop} (h : p1/\p2) (k : p1->p2->P) : P := k h.1 h.2
theorem k2 {p1 p2 : Prop} {P : Prop} (k : p1->p2->P) (h : p1/\p2) : P := c2 h k
theorem c3 {p1 p2 p3 : Prop} {P : Prop} (h : p1/\p2/\p3) (k : p1->p2->p3->P) : P := k h.1 h.2.1 h.2.2
theorem k3 {p1 p2 p3 : Prop} {P : Prop} (k : p1->p2->p3->P) (h : p1/\p2/\p3) : P := c3 h k
theorem c4 {p1 p2 p3 p4 : Prop} {P : Prop} (h : p1/\p2/\p3/\p4) (k : p1->p2->p3->p4->P) : P := k h.1 h.2.1 h.2.2.1 h.2.2.2
theorem k4 {p1 p2 p3 p4 : Prop} {P : Prop} (k : p1->p2->p3->p4->P) (h : p1/\p2/\p3/\p4) : P := c4 h k
theorem c5 {p1 p2 p3 p4 p5 : Prop} {P : Prop} (h : p1/\p2/\p3/\p4/\p5) (k : p1->p2->p3->p4->p5->P) : P := k h.1 h.2.1 h.2.2.1 h.2.2.2.1 h.2.2.2.2
theorem k5 {p1 p2 p3 p4 p5 : Prop} {P : Prop} (k : p1->p2->p3->p4->p5->P) (h : p1/\p2/\p3/\p4/\p5) : P := c5 h k
theorem c6 {p1 p2 p3 p4 p5 p6 : Prop} {P : Prop} (h : p1/\p2/\p3/\p4/\p5/\p6) (k : p1->p2->p3->p4->p5->p6->P) : P := k h.1 h.2.1 h.2.2.1 h.2.2.2.1 h.2.2.2.2.1 h.2.2.2.2.2
theorem c7 {p1 p2 p3 p4 p5 p6 p7 : Prop} {P : Prop} (h : p1/\p2/\p3/\p4/\p5/\p6/\p7) (k : p1->p2->p3->p4->p5->p6->p7->P) : P := k h.1 h.2.1 h.2.2.1 h.2.2.2.1 h.2.2.2.2.1 h.2.2.2.2.2.1 h.2.2.2.2.2.2
theorem x1_1 {A : Type} {p1 : A->Prop} {P : Prop} (h : ∃ x,p1 x) (k : ∀ x,p1 x->P) : P := h.elim λ x h => k x h
theorem y1_1 {A : Type} {p1 : A->Prop} {P : Prop} (k : ∀ x,p1 x->P) (h : ∃ x,p1 x) : P := x1_1 h k
theorem x1_2 {A : Type} {p1 p2 : A->Prop} {P : Prop} (h : ∃ x,p1 x/\p2 x) (k : ∀ x,p1 x->p2 x->P) : P := h.elim λ x h => k x h.1 h.2
theorem y1_2 {A : Type} {p1 p2 : A->Prop} {P : Prop} (k : ∀ x,p1 x->p2 x->P) (h : ∃ x,p1 x/\p2 x) : P := x1_2 h k
theorem x1_3 {A : Type} {p1 p2 p3 : A->Prop} {P : Prop} (h : ∃ x,p1 x/\p2 x/\p3 x) (k : ∀ x,p1 x->p2 x->p3 x->P) : P := h.elim λ x h => k x h.1 h.2.1 h.2.2
theorem y1_3 {A : Type} {p1 p2 p3 : A->Prop} {P : Prop} (k : ∀ x,p1 x->p2 x->p3 x->P) (h : ∃ x,p1 x/\p2 x/\p3 x) : P := x1_3 h k
theorem x1_4 {A : Type} {p1 p2 p3 p4 : A->Prop} {P : Prop} (h : ∃ x,p1 x/\p2 x/\p3 x/\p4 x) (k : ∀ x,p1 x->p2 x->p3 x->p4 x->P) : P := h.elim λ x h => k x h.1 h.2.1 h.2.2.1 h.2.2.2
theorem x1_5 {A : Type} {p1 p2 p3 p4 p5 : A->Prop} {P : Prop} (h : ∃ x,p1 x/\p2 x/\p3 x/\p4 x/\p5 x) (k : ∀ x,p1 x->p2 x->p3 x->p4 x->p5 x->P) : P := h.elim λ x h => k x h.1 h.2.1 h.2.2.1 h.2.2.2.1 h.2.2.2.2
theorem x1_8 {A : Type} {p1 p2 p3 p4 p5 p6 p7 p8 : A->Prop} {P : Prop} (h : ∃ x,p1 x/\p2 x/\p3 x/\p4 x/\p5 x/\p6 x/\p7 x/\p8 x) (k : ∀ x,p1 x->p2 x->p3 x->p4 x->p5 x->p6 x->p7 x->p8 x->P) : P := h.elim λ x h => k x h.1 h.2.1 h.2.2.1 h.2.2.2.1 h.2.2.2.2.1 h.2.2.2.2.2.1 h.2.2.2.2.2.2.1 h.2.2.2.2.2.2.2
theorem x1_10 {A : Type} {p1 p2 p3 p4 p5 p6 p7 p8 p9 p10 : A->Prop} {P : Prop} (h : ∃ x,p1 x/\p2 x/\p3 x/\p4 x/\p5 x/\p6 x/\p7 x/\p8 x/\p9 x/\p10 x) (k : ∀ x,p1 x->p2 x->p3 x->p4 x->p5 x->p6 x->p7 x->p8 x->p9 x->p10 x->P) : P := h.elim λ x h => k x h.1 h.2.1 h.2.2.1 h.2.2.2.1 h.2.2.2.2.1 h.2.2.2.2.2.1 h.2.2.2.2.2.2.1 h.2.2.2.2.2.2.2.1 h.2.2.2.2.2.2.2.2.1 h.2.2.2.2.2.2.2.2.2
theorem x2_1 {A B : Type} {p1 : A->B->Prop} {P : Prop} (h : ∃ x y,p1 x y) (k : ∀ x y,p1 x y->P) : P := h.elim λ x h => h.elim λ y h => k x y h
theorem x2_2 {A B : Type} {p1 p2 : A->B->Prop} {P : Prop} (h : ∃ x y,p1 x y/\p2 x y) (k : ∀ x y,p1 x y->p2 x y->P) : P := h.elim λ x h => h.elim λ y h => k x y h.1 h.2
theorem y2_2 {A B : Type} {p1 p2 : A->B->Prop} {P : Prop} (k : ∀ x y,p1 x y->p2 x y->P) (h : ∃ x y,p1 x y/\p2 x y) : P := x2_2 h k
theorem x2_3 {A B : Type} {p1 p2 p3 : A->B->Prop} {P : Prop} (h : ∃ x y,p1 x y/\p2 x y/\p3 x y) (k : ∀ x y,p1 x y->p2 x y->p3 x y->P) : P := h.elim λ x h => h.elim λ y h => k x y h.1 h.2.1 h.2.2
theorem y2_3 {A B : Type} {p1 p2 p3 : A->B->Prop} {P : Prop} (k : ∀ x y,p1 x y->p2 x y->p3 x y->P) (h : ∃ x y,p1 x y/\p2 x y/\p3 x y) : P := x2_3 h k
theorem x2_4 {A B : Type} {p1 p2 p3 p4 : A->B->Prop} {P : Prop} (h : ∃ x y,p1 x y/\p2 x y/\p3 x y/\p4 x y) (k : ∀ x y,p1 x y->p2 x y->p3 x y->p4 x y->P) : P := h.elim λ x h => h.elim λ y h => k x y h.1 h.2.1 h.2.2.1 h.2.2.2
theorem y2_4 {A B : Type} {p1 p2 p3 p4 : A->B->Prop} {P : Prop} (k : ∀ x y,p1 x y->p2 x y->p3 x y->p4 x y->P) (h : ∃ x y,p1 x y/\p2 x y/\p3 x y/\p4 x y) : P := x2_4 h k
theorem x2_5 {A B : Type} {p1 p2 p3 p4 p5 : A->B->Prop} {P : Prop} (h : ∃ x y,p1 x y/\p2 x y/\p3 x y/\p4 x y/\p5 x y) (k : ∀ x y,p1 x y->p2 x y->p3 x y->p4 x y->p5 x y->P) : P := h.elim λ x h => h.elim λ y h => k x y h.1 h.2.1 h.2.2.1 h.2.2.2.1 h.2.2.2.2
theorem y2_7 {A B : Type} {p1 p2 p3 p4 p5 p6 p7 : A->B->Prop} {P : Prop} (k : ∀ x y,p1 x y->p2 x y->p3 x y->p4 x y->p5 x y->p6 x y->p7 x y->P) (h : ∃ x y,p1 x y/\p2 x y/\p3 x y/\p4 x y/\p5 x y/\p6 x y/\p7 x y) : P := h.elim λ x h => h.elim λ y h => k x y h.1 h.2.1 h.2.2.1 h.2.2.2.1 h.2.2.2.2.1 h.2.2.2.2.2.1 h.2.2.2.2.2.2
theorem x2_17 {A B : Type} {p1 p2 p3 p4 p5 p6 p7 p8 p9 p10 p11 p12 p13 p14 p15 p16 p17 : A->B->Prop} {P : Prop} (h : ∃ x y,p1 x y/\p2 x y/\p3 x y/\p4 x y/\p5 x y/\p6 x y/\p7 x y/\p8 x y/\p9 x y/\p10 x y/\p11 x y/\p12 x y/\p13 x y/\p14 x y/\p15 x y/\p16 x y/\p17 x y) (k : ∀ x y,p1 x y->p2 x y->p3 x y->p4 x y->p5 x y->p6 x y->p7 x y->p8 x y->p9 x y->p10 x y->p11 x y->p12 x y->p13 x y->p14 x y->p15 x y->p16 x y->p17 x y->P) : P := h.elim λ x h => h.elim λ y h => k x y h.1 h.2.1 h.2.2.1 h.2.2.2.1 h.2.2.2.2.1 h.2.2.2.2.2.1 h.2.2.2.2.2.2.1 h.2.2.2.2.2.2.2.1 h.2.2.2.2.2.2.2.2.1 h.2.2.2.2.2.2.2.2.2.1 h.2.2.2.2.2.2.2.2.2.2.1 h.2.2.2.2.2.2.2.2.2.2.2.1 h.2.2.2.2.2.2.2.2.2.2.2.2.1 h.2.2.2.2.2.2.2.2.2.2.2.2.2.1 h.2.2.2.2.2.2.2.2.2.2.2.2.2.2.1 h.2.2.2.2.2.2.2.2.2.2.2.2.2.2.2.1 h.2.2.2.2.2.2.2.2.2.2.2.2.2.2.2.2
theorem x3_1 {A B C : Type} {p1 : A->B->C->Prop} {P : Prop} (h : ∃ x y z,p1 x y z) (k : ∀ x y z,p1 x y z->P) : P := h.elim λ x h => h.elim λ y h => h.elim λ z h => k x y z h
theorem x3_2 {A B C : Type} {p1 p2 : A->B->C->Prop} {P : Prop} (h : ∃ x y z,p1 x y z/\p2 x y z) (k : ∀ x y z,p1 x y z->p2 x y z->P) : P := h.elim λ x h => h.elim λ y h => h.elim λ z h => k x y z h.1 h.2
theorem y3_2 {A B C : Type} {p1 p2 : A->B->C->Prop} {P : Prop} (k : ∀ x y z,p1 x y z->p2 x y z->P) (h : ∃ x y z,p1 x y z/\p2 x y z) : P := x3_2 h k
theorem x3_3 {A B C : Type} {p1 p2 p3 : A->B->C->Prop} {P : Prop} (h : ∃ x y z,p1 x y z/\p2 x y z/\p3 x y z) (k : ∀ x y z,p1 x y z->p2 x y z->p3 x y z->P) : P := h.elim λ x h => h.elim λ y h => h.elim λ z h => k x y z h.1 h.2.1 h.2.2
theorem y3_3 {A B C : Type} {p1 p2 p3 : A->B->C->Prop} {P : Prop} (k : ∀ x y z,p1 x y z->p2 x y z->p3 x y z->P) (h : ∃ x y z,p1 x y z/\p2 x y z/\p3 x y z) : P := x3_3 h k
theorem x3_4 {A B C : Type} {p1 p2 p3 p4 : A->B->C->Prop} {P : Prop} (h : ∃ x y z,p1 x y z/\p2 x y z/\p3 x y z/\p4 x y z) (k : ∀ x y z,p1 x y z->p2 x y z->p3 x y z->p4 x y z->P) : P := h.elim λ x h => h.elim λ y h => h.elim λ z h => k x y z h.1 h.2.1 h.2.2.1 h.2.2.2
theorem y3_4 {A B C : Type} {p1 p2 p3 p4 : A->B->C->Prop} {P : Prop} (k : ∀ x y z,p1 x y z->p2 x y z->p3 x y z->p4 x y z->P) (h : ∃ x y z,p1 x y z/\p2 x y z/\p3 x y z/\p4 x y z) : P := x3_4 h k
theorem x3_5 {A B C : Type} {p1 p2 p3 p4 p5 : A->B->C->Prop} {P : Prop} (h : ∃ x y z,p1 x y z/\p2 x y z/\p3 x y z/\p4 x y z/\p5 x y z) (k : ∀ x y z,p1 x y z->p2 x y z->p3 x y z->p4 x y z->p5 x y z->P) : P := h.elim λ x h => h.elim λ y h => h.elim λ z h => k x y z h.1 h.2.1 h.2.2.1 h.2.2.2.1 h.2.2.2.2
theorem y3_5 {A B C : Type} {p1 p2 p3 p4 p5 : A->B->C->Prop} {P : Prop} (k : ∀ x y z,p1 x y z->p2 x y z->p3 x y z->p4 x y z->p5 x y z->P) (h : ∃ x y z,p1 x y z/\p2 x y z/\p3 x y z/\p4 x y z/\p5 x y z) : P := x3_5 h k
theorem x3_6 {A B C : Type} {p1 p2 p3 p4 p5 p6 : A->B->C->Prop} {P : Prop} (h : ∃ x y z,p1 x y z/\p2 x y z/\p3 x y z/\p4 x y z/\p5 x y z/\p6 x y z) (k : ∀ x y z,p1 x y z->p2 x y z->p3 x y z->p4 x y z->p5 x y z->p6 x y z->P) : P := h.elim λ x h => h.elim λ y h => h.elim λ z h => k x y z h.1 h.2.1 h.2.2.1 h.2.2.2.1 h.2.2.2.2.1 h.2.2.2.2.2
theorem x3_7 {A B C : Type} {p1 p2 p3 p4 p5 p6 p7 : A->B->C->Prop} {P : Prop} (h : ∃ x y z,p1 x y z/\p2 x y z/\p3 x y z/\p4 x y z/\p5 x y z/\p6 x y z/\p7 x y z) (k : ∀ x y z,p1 x y z->p2 x y z->p3 x y z->p4 x y z->p5 x y z->p6 x y z->p7 x y z->P) : P := h.elim λ x h => h.elim λ y h => h.elim λ z h => k x y z h.1 h.2.1 h.2.2.1 h.2.2.2.1 h.2.2.2.2.1 h.2.2.2.2.2.1 h.2.2.2.2.2.2
theorem x3_11 {A B C : Type} {p1 p2 p3 p4 p5 p6 p7 p8 p9 p10 p11 : A->B->C->Prop} {P : Prop} (h : ∃ x y z,p1 x y z/\p2 x y z/\p3 x y z/\p4 x y z/\p5 x y z/\p6 x y z/\p7 x y z/\p8 x y z/\p9 x y z/\p10 x y z/\p11 x y z) (k : ∀ x y z,p1 x y z->p2 x y z->p3 x y z->p4 x y z->p5 x y z->p6 x y z->p7 x y z->p8 x y z->p9 x y z->p10 x y z->p11 x y z->P) : P := h.elim λ x h => h.elim λ y h => h.elim λ z h => k x y z h.1 h.2.1 h.2.2.1 h.2.2.2.1 h.2.2.2.2.1 h.2.2.2.2.2.1 h.2.2.2.2.2.2.1 h.2.2.2.2.2.2.2.1 h.2.2.2.2.2.2.2.2.1 h.2.2.2.2.2.2.2.2.2.1 h.2.2.2.2.2.2.2.2.2.2
theorem y3_11 {A B C : Type} {p1 p2 p3 p4 p5 p6 p7 p8 p9 p10 p11 : A->B->C->Prop} {P : Prop} (k : ∀ x y z,p1 x y z->p2 x y z->p3 x y z->p4 x y z->p5 x y z->p6 x y z->p7 x y z->p8 x y z->p9 x y z->p10 x y z->p11 x y z->P) (h : ∃ x y z,p1 x y z/\p2 x y z/\p3 x y z/\p4 x y z/\p5 x y z/\p6 x y z/\p7 x y z/\p8 x y z/\p9 x y z/\p10 x y z/\p11 x y z) : P := x3_11 h k
theorem x4_2 {A B C D : Type} {p1 p2 : A->B->C->D->Prop} {P : Prop} (h : ∃ x y z u,p1 x y z u/\p2 x y z u) (k : ∀ x y z u,p1 x y z u->p2 x y z u->P) : P := h.elim λ x h => h.elim λ y h => h.elim λ z h => h.elim λ u h => k x y z u h.1 h.2
theorem y4_2 {A B C D : Type} {p1 p2 : A->B->C->D->Prop} {P : Prop} (k : ∀ x y z u,p1 x y z u->p2 x y z u->P) (h : ∃ x y z u,p1 x y z u/\p2 x y z u) : P := x4_2 h k
theorem x4_3 {A B C D : Type} {p1 p2 p3 : A->B->C->D->Prop} {P : Prop} (h : ∃ x y z u,p1 x y z u/\p2 x y z u/\p3 x y z u) (k : ∀ x y z u,p1 x y z u->p2 x y z u->p3 x y z u->P) : P := h.elim λ x h => h.elim λ y h => h.elim λ z h => h.elim λ u h => k x y z u h.1 h.2.1 h.2.2
theorem x4_6 {A B C D : Type} {p1 p2 p3 p4 p5 p6 : A->B->C->D->Prop} {P : Prop} (h : ∃ x y z u,p1 x y z u/\p2 x y z u/\p3 x y z u/\p4 x y z u/\p5 x y z u/\p6 x y z u) (k : ∀ x y z u,p1 x y z u->p2 x y z u->p3 x y z u->p4 x y z u->p5 x y z u->p6 x y z u->P) : P := h.elim λ x h => h.elim λ y h => h.elim λ z h => h.elim λ u h => k x y z u h.1 h.2.1 h.2.2.1 h.2.2.2.1 h.2.2.2.2.1 h.2.2.2.2.2
theorem y4_6 {A B C D : Type} {p1 p2 p3 p4 p5 p6 : A->B->C->D->Prop} {P : Prop} (k : ∀ x y z u,p1 x y z u->p2 x y z u->p3 x y z u->p4 x y z u->p5 x y z u->p6 x y z u->P) (h : ∃ x y z u,p1 x y z u/\p2 x y z u/\p3 x y z u/\p4 x y z u/\p5 x y z u/\p6 x y z u) : P := x4_6 h k
theorem x4_8 {A B C D : Type} {p1 p2 p3 p4 p5 p6 p7 p8 : A->B->C->D->Prop} {P : Prop} (h : ∃ x y z u,p1 x y z u/\p2 x y z u/\p3 x y z u/\p4 x y z u/\p5 x y z u/\p6 x y z u/\p7 x y z u/\p8 x y z u) (k : ∀ x y z u,p1 x y z u->p2 x y z u->p3 x y z u->p4 x y z u->p5 x y z u->p6 x y z u->p7 x y z u->p8 x y z u->P) : P := h.elim λ x h => h.elim λ y h => h.elim λ z h => h.elim λ u h => k x y z u h.1 h.2.1 h.2.2.1 h.2.2.2.1 h.2.2.2.2.1 h.2.2.2.2.2.1 h.2.2.2.2.2.2.1 h.2.2.2.2.2.2.2
theorem x4_9 {A B C D : Type} {p1 p2 p3 p4 p5 p6 p7 p8 p9 : A->B->C->D->Prop} {P : Prop} (h : ∃ x y z u,p1 x y z u/\p2 x y z u/\p3 x y z u/\p4 x y z u/\p5 x y z u/\p6 x y z u/\p7 x y z u/\p8 x y z u/\p9 x y z u) (k : ∀ x y z u,p1 x y z u->p2 x y z u->p3 x y z u->p4 x y z u->p5 x y z u->p6 x y z u->p7 x y z u->p8 x y z u->p9 x y z u->P) : P := h.elim λ x h => h.elim λ y h => h.elim λ z h => h.elim λ u h => k x y z u h.1 h.2.1 h.2.2.1 h.2.2.2.1 h.2.2.2.2.1 h.2.2.2.2.2.1 h.2.2.2.2.2.2.1 h.2.2.2.2.2.2.2.1 h.2.2.2.2.2.2.2.2
theorem x5_1 {A B C D E : Type} {p1 : A->B->C->D->E->Prop} {P : Prop} (h : ∃ x y z u v,p1 x y z u v) (k : ∀ x y z u v,p1 x y z u v->P) : P := h.elim λ x h => h.elim λ y h => h.elim λ z h => h.elim λ u h => h.elim λ v h => k x y z u v h
theorem x5_7 {A B C D E : Type} {p1 p2 p3 p4 p5 p6 p7 : A->B->C->D->E->Prop} {P : Prop} (h : ∃ x y z u v,p1 x y z u v/\p2 x y z u v/\p3 x y z u v/\p4 x y z u v/\p5 x y z u v/\p6 x y z u v/\p7 x y z u v) (k : ∀ x y z u v,p1 x y z u v->p2 x y z u v->p3 x y z u v->p4 x y z u v->p5 x y z u v->p6 x y z u v->p7 x y z u v->P) : P := h.elim λ x h => h.elim λ y h => h.elim λ z h => h.elim λ u h => h.elim λ v h => k x y z u v h.1 h.2.1 h.2.2.1 h.2.2.2.1 h.2.2.2.2.1 h.2.2.2.2.2.1 h.2.2.2.2.2.2
theorem x6_1 {A B C D E F : Type} {p1 : A->B->C->D->E->F->Prop} {P : Prop} (h : ∃ x y z u v w,p1 x y z u v w) (k : ∀ x y z u v w,p1 x y z u v w->P) : P := h.elim λ x h => h.elim λ y h => h.elim λ z h => h.elim λ u h => h.elim λ v h => h.elim λ w h => k x y z u v w h
theorem x6_4 {A B C D E F : Type} {p1 p2 p3 p4 : A->B->C->D->E->F->Prop} {P : Prop} (h : ∃ x y z u v w,p1 x y z u v w/\p2 x y z u v w/\p3 x y z u v w/\p4 x y z u v w) (k : ∀ x y z u v w,p1 x y z u v w->p2 x y z u v w->p3 x y z u v w->p4 x y z u v w->P) : P := h.elim λ x h => h.elim λ y h => h.elim λ z h => h.elim λ u h => h.elim λ v h => h.elim λ w h => k x y z u v w h.1 h.2.1 h.2.2.1 h.2.2.2
theorem y6_7 {A B C D E F : Type} {p1 p2 p3 p4 p5 p6 p7 : A->B->C->D->E->F->Prop} {P : Prop} (k : ∀ x y z u v w,p1 x y z u v w->p2 x y z u v w->p3 x y z u v w->p4 x y z u v w->p5 x y z u v w->p6 x y z u v w->p7 x y z u v w->P) (h : ∃ x y z u v w,p1 x y z u v w/\p2 x y z u v w/\p3 x y z u v w/\p4 x y z u v w/\p5 x y z u v w/\p6 x y z u v w/\p7 x y z u v w) : P := h.elim λ x h => h.elim λ y h => h.elim λ z h => h.elim λ u h => h.elim λ v h => h.elim λ w h => k x y z u v w h.1 h.2.1 h.2.2.1 h.2.2.2.1 h.2.2.2.2.1 h.2.2.2.2.2.1 h.2.2.2.2.2.2
theorem x10_2 {A B C D E F G H I J : Type} {p1 p2 : A->B->C->D->E->F->G->H->I->J->Prop} {P : Prop} (h : ∃ x y z u v w s t x1 y1,p1 x y z u v w s t x1 y1/\p2 x y z u v w s t x1 y1) (k : ∀ x y z u v w s t x1 y1,p1 x y z u v w s t x1 y1->p2 x y z u v w s t x1 y1->P) : P := h.elim λ x h => h.elim λ y h => h.elim λ z h => h.elim λ u h => h.elim λ v h => h.elim λ w h => h.elim λ s h => h.elim λ t h => h.elim λ x1 h => h.elim λ y1 h => k x y z u v w s t x1 y1 h.1 h.2
theorem z1 {a : Nat} (h : a<=31) : a < 1000 := l1 (.L .x0 (.l 31)) (.T .x0 (.l 1000)) [[1,1]] rfl [a] [] h
theorem z2 {a : Nat} (h : a < 900) : a < 1000 := l1 (.T .x0 (.l 900)) (.T .x0 (.l 1000)) [[1,1]] rfl [a] [] h
theorem z3 {a b : Nat} (h : a<=b) : a<=b + 1 := l1 (.L .x0 .x1) (.L .x0 (.a .x1 .l1)) [[1,1]] rfl [a,b] [] h
theorem z4 {a b : Nat} (h : a + 1 < b) : a < b := l1 (.T (.a .x0 .l1) .x1) (.T .x0 .x1) [[1,1]] rfl [a,b] [] h
theorem z5 {a : Nat} (h : a < 90000) : a < 100000 := l1 (.T .x0 (.l 90000)) (.T .x0 (.l 100000)) [[1,1]] rfl [a] [] h
theorem z6 {a b : Nat} (h : a + 3 * b + 3<=50000) : a < 90000 := l1 (.L (.a (.a .x0 (.m 3 .x1)) (.l 3)) (.l 50000)) (.T .x0 (.l 90000)) [[1,1]] rfl [a,b] [] h
theorem z7 {a : Nat} : 0<=(a : Int) := l0  (.l .l0 (.c .x0)) [[1]] rfl [a] []
theorem z8 {i : Int} (h : i < 3) (h1 : 4 < i) : False := l2 (.t .x0 (.l 3)) (.t (.l 4) .x0) .F [[1,1]] rfl [] [i] h h1
theorem z9 {a b : Nat} (h : a + 1<=b) : a<=b := l1 (.L (.a .x0 .l1) .x1) (.L .x0 .x1) [[1,1]] rfl [a,b] [] h
theorem z10 {a b c : Nat} (h : a<=b) (h1 : c<=400) (h2 : b + 1<=c) : a < 4000 := l3 (.L .x0 .x1) (.L .x2 (.l 400)) (.L (.a .x1 .l1) .x2) (.T .x0 (.l 4000)) [[1,1,1,1]] rfl [a,b,c] [] h h1 h2
theorem z11 {a b : Nat} (h : a + 1<=1 + 2 * b) : a<=1 + 2 * (b + 1) := l1 (.L (.a .x0 .l1) (.a .l1 (.m 2 .x1))) (.L .x0 (.a .l1 (.m 2 (.a .x1 .l1)))) [[1,1]] rfl [a,b] [] h
theorem z12 {a : Nat} : a < a + 1 := l0  (.T .x0 (.a .x0 .l1)) [[1]] rfl [a] []
theorem z13 {a b c : Nat} (h : a + 1<=1 + 2 * b) (h1 : c<=400) (h2 : b<=c) : a < 100000 := l3 (.L (.a .x0 .l1) (.a .l1 (.m 2 .x1))) (.L .x2 (.l 400)) (.L .x1 .x2) (.T .x0 (.l 100000)) [[1,2,2,1]] rfl [a,b,c] [] h h1 h2
theorem z14 {a b : Nat} (h : a + 1<=1 + 2 * b) : a<=1 + 2 * b := l1 (.L (.a .x0 .l1) (.a .l1 (.m 2 .x1))) (.L .x0 (.a .l1 (.m 2 .x1))) [[1,1]] rfl [a,b] [] h
theorem z15 {a b c : Nat} (h : a + 1<=1 + 2 * b) (h1 : c<=400) (h2 : b + 1<=c) : a < 100000 := l3 (.L (.a .x0 .l1) (.a .l1 (.m 2 .x1))) (.L .x2 (.l 400)) (.L (.a .x1 .l1) .x2) (.T .x0 (.l 100000)) [[1,2,2,1]] rfl [a,b,c] [] h h1 h2
theorem z16 {a b c : Nat} (h : a + 1<=1 + 2 * b) (h1 : c<=2) : c + a<=1 + 2 * (b + 1) := l2 (.L (.a .x0 .l1) (.a .l1 (.m 2 .x1))) (.L .x2 (.l 2)) (.L (.a .x2 .x0) (.a .l1 (.m 2 (.a .x1 .l1)))) [[1,1,1]] rfl [a,b,c] [] h h1
theorem z17 {a : Nat} : ((a + 1 : Nat) : Int) - 1 = (a : Int) := l0  (.q (.s (.c (.a .x0 .l1)) .l1) (.c .x0)) [[1],[1]] rfl [a] []
theorem z18 {a : Nat} (h : a < 1000) : a < 100000 := l1 (.T .x0 (.l 1000)) (.T .x0 (.l 100000)) [[1,1]] rfl [a] [] h
theorem z19 {a b : Nat} (h : a < 100000) (h1 : a = b) : b<=16777216 := l2 (.T .x0 (.l 100000)) (.Q .x0 .x1) (.L .x1 (.l 16777216)) [[1,0,1,1]] rfl [a,b] [] h h1
theorem z20 {a b c : Nat} (h : a + 1<=1 + 2 * b) (h1 : c<=400) (h2 : b<=c) : a + 1 < 1000000 := l3 (.L (.a .x0 .l1) (.a .l1 (.m 2 .x1))) (.L .x2 (.l 400)) (.L .x1 .x2) (.T (.a .x0 .l1) (.l 1000000)) [[1,2,2,1]] rfl [a,b,c] [] h h1 h2
theorem z21 {a b c : Nat} (h : a + 1<=1 + 2 * b) (h1 : c<=400) (h2 : b + 1<=c) : a + 1 < 1000000 := l3 (.L (.a .x0 .l1) (.a .l1 (.m 2 .x1))) (.L .x2 (.l 400)) (.L (.a .x1 .l1) .x2) (.T (.a .x0 .l1) (.l 1000000)) [[1,2,2,1]] rfl [a,b,c] [] h h1 h2
theorem z22 {a b c : Nat} (h : a + 1<=1 + 2 * b) (h1 : c<=400) (h2 : b + 1<=c) : a < 1000 := l3 (.L (.a .x0 .l1) (.a .l1 (.m 2 .x1))) (.L .x2 (.l 400)) (.L (.a .x1 .l1) .x2) (.T .x0 (.l 1000)) [[1,2,2,1]] rfl [a,b,c] [] h h1 h2
theorem z23 {a : Nat} (h : a < 1000) : a < 1000000 := l1 (.T .x0 (.l 1000)) (.T .x0 (.l 1000000)) [[1,1]] rfl [a] [] h
theorem z24 {a b : Nat} (h : a<=100000) (h1 : a = b) : b<=16777216 := l2 (.L .x0 (.l 100000)) (.Q .x0 .x1) (.L .x1 (.l 16777216)) [[1,0,1,1]] rfl [a,b] [] h h1
theorem z25 {a b c d : Nat} (h : a = b + 1) (h1 : c + 2 * a < d) : c + 1 + 2 * b < d := l2 (.Q .x0 (.a .x1 .l1)) (.T (.a .x2 (.m 2 .x0)) .x3) (.T (.a (.a .x2 .l1) (.m 2 .x1)) .x3) [[0,2,1,1]] rfl [a,b,c,d] [] h h1
theorem z26 {a b : Nat} (h : a < 100000) (h1 : b = a) : b<=16777216 := l2 (.T .x0 (.l 100000)) (.Q .x1 .x0) (.L .x1 (.l 16777216)) [[1,1,0,1]] rfl [a,b] [] h h1
theorem z27 {a : Nat} (h : 13 < a) : 12 < a := l1 (.T (.l 13) .x0) (.T (.l 12) .x0) [[1,1]] rfl [a] [] h
theorem z28 {a b c d : Nat} (h : a + b<=c) (h1 : d + 1<=b) : a + d < c := l2 (.L (.a .x0 .x1) .x2) (.L (.a .x3 .l1) .x1) (.T (.a .x0 .x3) .x2) [[1,1,1]] rfl [a,b,c,d] [] h h1
theorem z29 {a : Nat} : 0<=(a : Int) + 1 := l0  (.l .l0 (.a (.c .x0) .l1)) [[1]] rfl [a] []
theorem z30 {i : Int} (h : i < 3) (h1 : i = 4) : False := l2 (.t .x0 (.l 3)) (.q .x0 (.l 4)) .F [[1,0,1]] rfl [] [i] h h1
theorem z31 {a b : Nat} : 0<=((a + b : Nat) : Int) := l0  (.l .l0 (.c (.a .x0 .x1))) [[1]] rfl [a,b] []
theorem z32 {a : Nat} (h : a < 900) : 3 * a<=49997 := l1 (.T .x0 (.l 900)) (.L (.m 3 .x0) (.l 49997)) [[3,1]] rfl [a] [] h
theorem z33 {a b : Nat} (h : a + 1 + b = 4) : (b : Int) < 4 := l1 (.Q (.a (.a .x0 .l1) .x1) (.l 4)) (.t (.c .x1) (.l 4)) [[1,0,1]] rfl [a,b] [] h
theorem z34 {a b : Nat} (h : a<=31) (h1 : b = a) : b < 1000 := l2 (.L .x0 (.l 31)) (.Q .x1 .x0) (.T .x1 (.l 1000)) [[1,1,0,1]] rfl [a,b] [] h h1
theorem z35 {a : Nat} : ¬(a : Int) < 0 := l0  (.n (.t (.c .x0) .l0)) [[1]] rfl [a] []
theorem z36 {a b c : Nat} (h : a<=b) (h1 : b = c) : a<=c := l2 (.L .x0 .x1) (.Q .x1 .x2) (.L .x0 .x2) [[1,1,0,1]] rfl [a,b,c] [] h h1
theorem z37 {a b : Nat} (h : 0 + a = b) : a = b := l1 (.Q (.a .l0 .x0) .x1) (.Q .x0 .x1) [[0,1,1],[1,0,1]] rfl [a,b] [] h
theorem z38 {a b c : Nat} (h : a + 1 + b = c) : b < c := l1 (.Q (.a (.a .x0 .l1) .x1) .x2) (.T .x1 .x2) [[1,0,1]] rfl [a,b,c] [] h
theorem z39 {a b c : Nat} (h : a + 1 + b = c) : a + (b + 1) = c := l1 (.Q (.a (.a .x0 .l1) .x1) .x2) (.Q (.a .x0 (.a .x1 .l1)) .x2) [[0,1,1],[1,0,1]] rfl [a,b,c] [] h
theorem z40 {i : Int} (h : -10000 < i) (h1 : i < 10000) : -9223372036854775808<=i/\i < 9223372036854775808 := l2 (.t (.g (.l 10000)) .x0) (.t .x0 (.l 10000)) (.w (.l (.g (.l 9223372036854775808)) .x0) (.t .x0 (.l 9223372036854775808))) [[1,0,1],[0,1,1]] rfl [] [i] h h1
theorem z41 {a : Nat} : -10000 < (a : Int) := l0  (.t (.g (.l 10000)) (.c .x0)) [[1]] rfl [a] []
theorem z42 {a b : Nat} (h : a + 2 < b) : a < b := l1 (.T (.a .x0 (.l 2)) .x1) (.T .x0 .x1) [[1,1]] rfl [a,b] [] h
theorem z43 {a : Nat} : -1000000 < (a : Int) - 1 := l0  (.t (.g (.l 1000000)) (.s (.c .x0) .l1)) [[1]] rfl [a] []
theorem z44 {a : Nat} (h : a<=2) : (a : Int) - 1 < 1000000 := l1 (.L .x0 (.l 2)) (.t (.s (.c .x0) .l1) (.l 1000000)) [[1,1]] rfl [a] [] h
theorem z45 {a : Nat} (h : a<=2) : a < 1000 := l1 (.L .x0 (.l 2)) (.T .x0 (.l 1000)) [[1,1]] rfl [a] [] h
theorem z46 {a b : Nat} (h : a + 1<=b) : a < b := l1 (.L (.a .x0 .l1) .x1) (.T .x0 .x1) [[1,1]] rfl [a,b] [] h
theorem z47 {a b c : Nat} (h : a = b) (h1 : c + 1<=b) : c < a := l2 (.Q .x0 .x1) (.L (.a .x2 .l1) .x1) (.T .x2 .x0) [[0,1,1,1]] rfl [a,b,c] [] h h1
theorem z48 {a b c : Nat} (h : a<=b) (h1 : c<=400) (h2 : b + 1<=c) : a < 100000 := l3 (.L .x0 .x1) (.L .x2 (.l 400)) (.L (.a .x1 .l1) .x2) (.T .x0 (.l 100000)) [[1,1,1,1]] rfl [a,b,c] [] h h1 h2
theorem z49 {a b : Nat} (h : a<=400) (h1 : b + 1<=a) : b < 100000 := l2 (.L .x0 (.l 400)) (.L (.a .x1 .l1) .x0) (.T .x1 (.l 100000)) [[1,1,1]] rfl [a,b] [] h h1
theorem z50 {a b : Nat} (h : a < b) : a + 1<=b := l1 (.T .x0 .x1) (.L (.a .x0 .l1) .x1) [[1,1]] rfl [a,b] [] h
theorem z51 {a b : Nat} : a<=a + b := l0  (.L .x0 (.a .x0 .x1)) [[1]] rfl [a,b] []
theorem z52 {a b : Nat} : a + 1 + b = a + (b + 1) := l0  (.Q (.a (.a .x0 .l1) .x1) (.a .x0 (.a .x1 .l1))) [[1],[1]] rfl [a,b] []
theorem z53 {a b c d e f : Nat} (h : a<=100) (h1 : b<=9) (h2 : c + d + (e + f)<=a + b) : c < 100000 := l3 (.L .x0 (.l 100)) (.L .x1 (.l 9)) (.L (.a (.a .x2 .x3) (.a .x4 .x5)) (.a .x0 .x1)) (.T .x2 (.l 100000)) [[1,1,1,1]] rfl [a,b,c,d,e,f] [] h h1 h2
theorem z54 {a : Nat} (h : a < 100) : a < 1000 := l1 (.T .x0 (.l 100)) (.T .x0 (.l 1000)) [[1,1]] rfl [a] [] h
theorem z55 {a b c : Nat} (h : a + (b + 1) + 3 * c + 3<=50000) : a + b + 3 * c<=49997 := l1 (.L (.a (.a (.a .x0 (.a .x1 .l1)) (.m 3 .x2)) (.l 3)) (.l 50000)) (.L (.a (.a .x0 .x1) (.m 3 .x2)) (.l 49997)) [[1,1]] rfl [a,b,c] [] h
theorem z56 {a b c : Nat} (h : a + (b + 1) + 3 * c + 3<=50000) : a + 3 * c + 3<=50000 := l1 (.L (.a (.a (.a .x0 (.a .x1 .l1)) (.m 3 .x2)) (.l 3)) (.l 50000)) (.L (.a (.a .x0 (.m 3 .x2)) (.l 3)) (.l 50000)) [[1,1]] rfl [a,b,c] [] h
theorem z57 {a : Nat} (h : a<=31) : a < 900 := l1 (.L .x0 (.l 31)) (.T .x0 (.l 900)) [[1,1]] rfl [a] [] h
theorem z58 {a b : Nat} (h : a<=31) (h1 : b<=a + 1) : b<=400 := l2 (.L .x0 (.l 31)) (.L .x1 (.a .x0 .l1)) (.L .x1 (.l 400)) [[1,1,1]] rfl [a,b] [] h h1
theorem z59 {a b : Nat} (h : a + 1 + b = 4) : a + (b + 1) = 4 := l1 (.Q (.a (.a .x0 .l1) .x1) (.l 4)) (.Q (.a .x0 (.a .x1 .l1)) (.l 4)) [[0,1,1],[1,0,1]] rfl [a,b] [] h
theorem z60 {a b c : Nat} (h : a + 12 * b + 400 < c) : a + 64 < c := l1 (.T (.a (.a .x0 (.m 12 .x1)) (.l 400)) .x2) (.T (.a .x0 (.l 64)) .x2) [[1,1]] rfl [a,b,c] [] h
theorem z61 {a : Nat} (h : a < 20) : a < 30 := l1 (.T .x0 (.l 20)) (.T .x0 (.l 30)) [[1,1]] rfl [a] [] h
theorem z62 {a b c : Nat} (h : a + 2 * b < c) : a < c := l1 (.T (.a .x0 (.m 2 .x1)) .x2) (.T .x0 .x2) [[1,1]] rfl [a,b,c] [] h
theorem z63 {a b c d : Nat} (h : a = b + 1) (h1 : c + 12 * a + 400 < d) : c + 3 + 12 * b + 400 < d := l2 (.Q .x0 (.a .x1 .l1)) (.T (.a (.a .x2 (.m 12 .x0)) (.l 400)) .x3) (.T (.a (.a (.a .x2 (.l 3)) (.m 12 .x1)) (.l 400)) .x3) [[0,12,1,1]] rfl [a,b,c,d] [] h h1
theorem z64 {a b : Nat} (h : a < 100000) (h1 : a + 1 = b) : b<=16777216 := l2 (.T .x0 (.l 100000)) (.Q (.a .x0 .l1) .x1) (.L .x1 (.l 16777216)) [[1,0,1,1]] rfl [a,b] [] h h1
theorem z65 {a b c : Nat} (h : a = b) (h1 : c < a) : c < b := l2 (.Q .x0 .x1) (.T .x2 .x0) (.T .x2 .x1) [[1,0,1,1]] rfl [a,b,c] [] h h1
theorem z66 {a b c : Nat} (h : a<=b) (h1 : a = c) : c<=b := l2 (.L .x0 .x1) (.Q .x0 .x2) (.L .x2 .x1) [[1,0,1,1]] rfl [a,b,c] [] h h1
theorem z67 {a b c : Nat} (h : a + 12 * b + 400 < c) : a + 1 < c := l1 (.T (.a (.a .x0 (.m 12 .x1)) (.l 400)) .x2) (.T (.a .x0 .l1) .x2) [[1,1]] rfl [a,b,c] [] h
theorem z68 {a : Nat} : ¬a + 1 < a := l0  (.n (.T (.a .x0 .l1) .x0)) [[1]] rfl [a] []
theorem z69 {a b c d : Nat} (h : a = b + 1) (h1 : c + 12 * a + 400 < d) : c + 1 + 12 * b + 400 < d := l2 (.Q .x0 (.a .x1 .l1)) (.T (.a (.a .x2 (.m 12 .x0)) (.l 400)) .x3) (.T (.a (.a (.a .x2 .l1) (.m 12 .x1)) (.l 400)) .x3) [[0,12,1,1]] rfl [a,b,c,d] [] h h1
theorem z70 {a b c : Nat} (h : a + 1<=b + 1) (h1 : (c : Int)<=(a : Int)) (h2 : ¬c = a) : c + 1<=b := l3 (.L (.a .x0 .l1) (.a .x1 .l1)) (.l (.c .x2) (.c .x0)) (.n (.Q .x2 .x0)) (.L (.a .x2 .l1) .x1) [[1,0,1,1],[0,1,1,0]] rfl [a,b,c] [] h h1 h2
theorem z71 {a : Nat} : 0 < (a : Int) + 1 := l0  (.t .l0 (.a (.c .x0) .l1)) [[1]] rfl [a] []
theorem z72 {a : Nat} : (a : Int) + 1 - 1 = (a : Int) := l0  (.q (.s (.a (.c .x0) .l1) .l1) (.c .x0)) [[1],[1]] rfl [a] []
theorem z73 {a b : Nat} (h : 0 + a = b) : b<=a := l1 (.Q (.a .l0 .x0) .x1) (.L .x1 .x0) [[0,1,1]] rfl [a,b] [] h
theorem z74 {a : Nat} (h : a < 1000) : (a : Int) < 10000 := l1 (.T .x0 (.l 1000)) (.t (.c .x0) (.l 10000)) [[1,1]] rfl [a] [] h
theorem z75 {a : Nat} (h : a = 2) : a<=2 := l1 (.Q .x0 (.l 2)) (.L .x0 (.l 2)) [[1,0,1]] rfl [a] [] h
theorem z76 {a b : Nat} (h : a = 2) (h1 : b < a) : b = 0\/b = 1 := l2 (.Q .x0 (.l 2)) (.T .x1 .x0) (.o (.Q .x1 .l0) (.Q .x1 .l1)) [[0,0,0,1,0],[0,0,0,1,1],[0,0,0,1,1],[1,0,1,0,1]] rfl [a,b] [] h h1
theorem z77  : (2 : Nat)<=2 := l0  (.L (.l 2) (.l 2)) [[1]] rfl [] []
theorem z78  : (0 : Nat)<=2 := l0  (.L .l0 (.l 2)) [[1]] rfl [] []
theorem z79 {a b c d : Nat} (h : a + b<=c) (h1 : d < b) : a + d < c := l2 (.L (.a .x0 .x1) .x2) (.T .x3 .x1) (.T (.a .x0 .x3) .x2) [[1,1,1]] rfl [a,b,c,d] [] h h1
theorem z80 {a : Nat} (h : a < 1000) : (a : Int) + 1 < 1000000 := l1 (.T .x0 (.l 1000)) (.t (.a (.c .x0) .l1) (.l 1000000)) [[1,1]] rfl [a] [] h
theorem z81 {a : Nat} {i : Int} (h : a < 1000) (h1 : 0<=i/\i < (a : Int)) : i < 1000000 := l2 (.T .x0 (.l 1000)) (.w (.l .l0 .x0) (.t .x0 (.c .x0))) (.t .x0 (.l 1000000)) [[1,0,1,1]] rfl [a] [i] h h1
theorem z82 {a b : Nat} (h : (a : Int) = (b : Int)) : a = b := l1 (.q (.c .x0) (.c .x1)) (.Q .x0 .x1) [[0,1,1],[1,0,1]] rfl [a,b] [] h
theorem z83 {i : Int} (h : 0<=i) (h1 : i < 2) : i = 0\/i = 1 := l2 (.l .l0 .x0) (.t .x0 (.l 2)) (.o (.q .x0 .l0) (.q .x0 .l1)) [[1,0,1,0],[1,0,1,0],[0,0,1,1],[0,1,0,1]] rfl [] [i] h h1
theorem z84  : (-10000 : Int) < 0 := l0  (.t (.g (.l 10000)) .l0) [[1]] rfl [] []
theorem z85  : (0 : Int) < 10000 := l0  (.t .l0 (.l 10000)) [[1]] rfl [] []
theorem z86  : (-10000 : Int) < 1 := l0  (.t (.g (.l 10000)) .l1) [[1]] rfl [] []
theorem z87  : (1 : Int) < 10000 := l0  (.t .l1 (.l 10000)) [[1]] rfl [] []
theorem z88 {a : Nat} : -10000 < (a : Int) + (1 - 1) := l0  (.t (.g (.l 10000)) (.a (.c .x0) (.s .l1 .l1))) [[1]] rfl [a] []
theorem z89 {a : Nat} (h : a < 2) : a = 0\/a = 1 := l1 (.T .x0 (.l 2)) (.o (.Q .x0 .l0) (.Q .x0 .l1)) [[0,1,0],[1,0,1],[0,1,1],[1,0,1]] rfl [a] [] h
theorem z90 {a b : Nat} (h : 4<=a) (h1 : 0<=(b : Int)/\(b : Int) < 4) : b < a := l2 (.L (.l 4) .x0) (.w (.l .l0 (.c .x1)) (.t (.c .x1) (.l 4))) (.T .x1 .x0) [[1,0,1,1]] rfl [a,b] [] h h1
theorem z91 {a : Nat} (h : 0<=(a : Int)/\(a : Int) < 4) : a < 4 := l1 (.w (.l .l0 (.c .x0)) (.t (.c .x0) (.l 4))) (.T .x0 (.l 4)) [[0,1,1]] rfl [a] [] h
theorem z92 {a : Nat} (h : a < 30) : a + 1<=30 := l1 (.T .x0 (.l 30)) (.L (.a .x0 .l1) (.l 30)) [[1,1]] rfl [a] [] h
theorem z93 {a b : Nat} (h : a < 900) (h1 : b<=a) : b < 1000000 := l2 (.T .x0 (.l 900)) (.L .x1 .x0) (.T .x1 (.l 1000000)) [[1,1,1]] rfl [a,b] [] h h1
theorem z94 {a b : Nat} (h : a < 900) (h1 : b<=a) : b < 100000 := l2 (.T .x0 (.l 900)) (.L .x1 .x0) (.T .x1 (.l 100000)) [[1,1,1]] rfl [a,b] [] h h1
theorem z95 {a b c d : Nat} (h : a + b<=c) (h1 : c<=d) : b<=d := l2 (.L (.a .x0 .x1) .x2) (.L .x2 .x3) (.L .x1 .x3) [[1,1,1]] rfl [a,b,c,d] [] h h1
theorem z96 {a b : Nat} (h : a<=400) (h1 : b<=a) : b < 100000 := l2 (.L .x0 (.l 400)) (.L .x1 .x0) (.T .x1 (.l 100000)) [[1,1,1]] rfl [a,b] [] h h1
theorem z97 {a : Nat} (h : a < 90000) : a + 1 < 1000000 := l1 (.T .x0 (.l 90000)) (.T (.a .x0 .l1) (.l 1000000)) [[1,1]] rfl [a] [] h
theorem z98 {a b c d e : Nat} (h : a < 90000) (h1 : b = c) (h2 : d < 900) (h3 : e + c<=d) : a + b<=100000 := la [.T .x0 (.l 90000),.Q .x1 .x2,.T .x3 (.l 900),.L (.a .x4 .x2) .x3] (.L (.a .x0 .x1) (.l 100000)) [[1,1,0,1,1,1]] rfl [a,b,c,d,e] [] ⟨h,h1,h2,h3,trivial⟩
theorem z99 {a b c : Nat} (h : a < 900) (h1 : b = c + 1) (h2 : b<=a) : c < 90000 := l3 (.T .x0 (.l 900)) (.Q .x1 (.a .x2 .l1)) (.L .x1 .x0) (.T .x2 (.l 90000)) [[1,0,1,1,1]] rfl [a,b,c] [] h h1 h2
theorem z100 {a b : Nat} (h : a<=31) (h1 : b<=a) : b<=400 := l2 (.L .x0 (.l 31)) (.L .x1 .x0) (.L .x1 (.l 400)) [[1,1,1]] rfl [a,b] [] h h1
theorem z101 {a : Nat} (h : 0 + a = 4) : a = 4 := l1 (.Q (.a .l0 .x0) (.l 4)) (.Q .x0 (.l 4)) [[0,1,1],[1,0,1]] rfl [a] [] h
theorem z102 {a : Nat} : 0 < ((a + 1 : Nat) : Int) := l0  (.t .l0 (.c (.a .x0 .l1))) [[1]] rfl [a] []
theorem z103 {a b : Nat} (h : a < 100) (h1 : b<=a + 1) : b < 1000 := l2 (.T .x0 (.l 100)) (.L .x1 (.a .x0 .l1)) (.T .x1 (.l 1000)) [[1,1,1]] rfl [a,b] [] h h1
theorem z104 {a : Nat} (h : a < 200) : a < 900 := l1 (.T .x0 (.l 200)) (.T .x0 (.l 900)) [[1,1]] rfl [a] [] h
theorem z105 {a : Nat} {i : Int} (h : i < 2) (h1 : 2 + i = (a : Int)) : a < 1000 := l2 (.t .x0 (.l 2)) (.q (.a (.l 2) .x0) (.c .x0)) (.T .x0 (.l 1000)) [[1,0,1,1]] rfl [a] [i] h h1
theorem z106 {a b c d : Nat} {i : Int} (h : a + b + 1<=c/\¬i = 6) (h1 : 0<=(a : Int) + (b : Int)/\(d : Int) = (a : Int) + (b : Int)\/(a : Int) + (b : Int) + 1<=0/\d = 0) : d + 1<=c := l2 (.w (.L (.a (.a .x0 .x1) .l1) .x2) (.n (.q .x0 (.l 6)))) (.o (.w (.l .l0 (.a (.c .x0) (.c .x1))) (.q (.c .x3) (.a (.c .x0) (.c .x1)))) (.w (.l (.a (.a (.c .x0) (.c .x1)) .l1) .l0) (.Q .x3 .l0))) (.L (.a .x3 .l1) .x2) [[1,0,0,1,0,1],[0,0,1,0,0,0],[1,0,0,1,0,1],[0,0,1,0,0,0]] rfl [a,b,c,d] [i] h h1
theorem z107 {a b c d e f : Nat} (h : a<=64) (h1 : b + 12 * c + 400 + 1<=d) (h2 : e<=a/\f = e\/a + 1<=e/\f = a) : b + 1 + f + 1<=d := l3 (.L .x0 (.l 64)) (.L (.a (.a (.a .x1 (.m 12 .x2)) (.l 400)) .l1) .x3) (.o (.w (.L .x4 .x0) (.Q .x5 .x4)) (.w (.L (.a .x0 .l1) .x4) (.Q .x5 .x0))) (.L (.a (.a (.a .x1 .l1) .x5) .l1) .x3) [[1,1,1,1,0,1],[1,1,0,1,0,1]] rfl [a,b,c,d,e,f] [] h h1 h2
theorem z108 {a b c d : Nat} (h : c = d + 1) (h1 : b<=a/\c + b = a\/a + 1<=b/\c = 0) : b + 1<=a := l2 (.Q .x2 (.a .x3 .l1)) (.o (.w (.L .x1 .x0) (.Q (.a .x2 .x1) .x0)) (.w (.L (.a .x0 .l1) .x1) (.Q .x2 .l0))) (.L (.a .x1 .l1) .x0) [[0,1,0,1,0,1],[0,1,0,1,0,0]] rfl [a,b,c,d] [] h h1
theorem z109 {a b c : Nat} (h : a + 1<=b) (h1 : 1<=b/\c + 1 = b\/b + 1<=1/\c = 0) : b = c + 1 := l2 (.L (.a .x0 .l1) .x1) (.o (.w (.L .l1 .x1) (.Q (.a .x2 .l1) .x1)) (.w (.L (.a .x1 .l1) .l1) (.Q .x2 .l0))) (.Q .x1 (.a .x2 .l1)) [[0,0,1,0,1],[0,0,0,1,1],[1,1,0,0,0],[1,1,0,0,0]] rfl [a,b,c] [] h h1
theorem z110 {a b c d e : Nat} (h : a + 1<=1000) (h1 : b<=2) (h2 : c = b) (h3 : d + 1<=c/\e + (d + 1) = c\/c + 1<=d + 1/\e = 0) : a + e + 1<=100000 := la [.L (.a .x0 .l1) (.l 1000),.L .x1 (.l 2),.Q .x2 .x1,.o (.w (.L (.a .x3 .l1) .x2) (.Q (.a .x4 (.a .x3 .l1)) .x2)) (.w (.L (.a .x2 .l1) (.a .x3 .l1)) (.Q .x4 .l0))] (.L (.a (.a .x0 .x4) .l1) (.l 100000)) [[1,1,1,0,0,1,0,1],[1,0,0,0,0,1,0,1]] rfl [a,b,c,d,e] [] ⟨h,h1,h2,h3,trivial⟩
theorem z111 {a b : Nat} (h : ¬a = 0) (h1 : 1<=a/\b + 1 = a\/a + 1<=1/\b = 0) : a = b + 1 := l2 (.n (.Q .x0 .l0)) (.o (.w (.L .l1 .x0) (.Q (.a .x1 .l1) .x0)) (.w (.L (.a .x0 .l1) .l1) (.Q .x1 .l0))) (.Q .x0 (.a .x1 .l1)) [[0,0,1,0,1],[0,0,0,1,1],[1,0,0,0,0],[1,0,0,0,0],[0,0,1,0,1],[0,0,0,1,1],[1,1,0,0,0],[1,1,0,0,0]] rfl [a,b] [] h h1
theorem z112 {a b : Nat} (h : 0<=(a : Int)/\(b : Int) = (a : Int)\/(a : Int) + 1<=0/\b = 0) : b = a := l1 (.o (.w (.l .l0 (.c .x0)) (.q (.c .x1) (.c .x0))) (.w (.l (.a (.c .x0) .l1) .l0) (.Q .x1 .l0))) (.Q .x1 .x0) [[0,0,1,1],[0,1,0,1],[1,0,0,0],[1,0,0,0]] rfl [a,b] [] h
theorem z113 {a b c : Nat} (h : a<=a + b/\c + a = a + b\/a + b + 1<=a/\c = 0) : c = b := l1 (.o (.w (.L .x0 (.a .x0 .x1)) (.Q (.a .x2 .x0) (.a .x0 .x1))) (.w (.L (.a (.a .x0 .x1) .l1) .x0) (.Q .x2 .l0))) (.Q .x2 .x1) [[0,0,1,1],[0,1,0,1],[1,0,0,0],[1,0,0,0]] rfl [a,b,c] [] h
theorem z114 {a b c d : Nat} (h : a<=400) (h1 : b<=d) (h2 : c<=a/\d = c\/a + 1<=c/\d = a) : b + 1<=100000 := l3 (.L .x0 (.l 400)) (.L .x1 .x3) (.o (.w (.L .x2 .x0) (.Q .x3 .x2)) (.w (.L (.a .x0 .l1) .x2) (.Q .x3 .x0))) (.L (.a .x1 .l1) (.l 100000)) [[1,1,1,1,0,1],[1,1,0,1,0,1]] rfl [a,b,c,d] [] h h1 h2
theorem z115 {a b c d e f u : Nat} (h : a + (b + 1) + 3 * e + 3<=50000) (h1 : d<=f) (h2 : d<=c/\e + d = c\/c + 1<=d/\e = 0) (h3 : f<=c/\u + f = c\/c + 1<=f/\u = 0) : a + b + 3 * u + 3<=50000 := la [.L (.a (.a (.a .x0 (.a .x1 .l1)) (.m 3 .x4)) (.l 3)) (.l 50000),.L .x3 .x5,.o (.w (.L .x3 .x2) (.Q (.a .x4 .x3) .x2)) (.w (.L (.a .x2 .l1) .x3) (.Q .x4 .l0)),.o (.w (.L .x5 .x2) (.Q (.a (.v 6) .x5) .x2)) (.w (.L (.a .x2 .l1) .x5) (.Q (.v 6) .l0))] (.L (.a (.a (.a .x0 .x1) (.m 3 (.v 6))) (.l 3)) (.l 50000)) [[1,3,0,0,3,0,3,0,1],[1,0,0,0,0,0,3,0,1],[0,1,1,0,0,1,0,0,0],[1,0,0,0,3,0,3,0,1]] rfl [a,b,c,d,e,f,u] [] ⟨h,h1,h2,h3,trivial⟩
theorem z116 {a b c d e f u : Nat} (h : a + (b + 1) + 3 * e + 3<=50000) (h1 : d<=f) (h2 : d<=c/\e + d = c\/c + 1<=d/\e = 0) (h3 : f<=c/\u + f = c\/c + 1<=f/\u = 0) : a + 1 + b + 3 * u<=49997 := la [.L (.a (.a (.a .x0 (.a .x1 .l1)) (.m 3 .x4)) (.l 3)) (.l 50000),.L .x3 .x5,.o (.w (.L .x3 .x2) (.Q (.a .x4 .x3) .x2)) (.w (.L (.a .x2 .l1) .x3) (.Q .x4 .l0)),.o (.w (.L .x5 .x2) (.Q (.a (.v 6) .x5) .x2)) (.w (.L (.a .x2 .l1) .x5) (.Q (.v 6) .l0))] (.L (.a (.a (.a .x0 .l1) .x1) (.m 3 (.v 6))) (.l 49997)) [[1,3,0,0,3,0,3,0,1],[1,0,0,0,0,0,3,0,1],[0,1,1,0,0,1,0,0,0],[1,0,0,0,3,0,3,0,1]] rfl [a,b,c,d,e,f,u] [] ⟨h,h1,h2,h3,trivial⟩
theorem z117 {a b c d e f u : Nat} (h : a + 3 * d + 3<=50000) (h1 : e = c + 1) (h2 : e<=b) (h3 : f<=2) (h4 : c<=b/\d + c = b\/b + 1<=c/\d = 0) (h5 : c + 1<=b/\u + (c + 1) = b\/b + 1<=c + 1/\u = 0) : a + 1 + f + 3 * u<=49997 := la [.L (.a (.a .x0 (.m 3 .x3)) (.l 3)) (.l 50000),.Q .x4 (.a .x2 .l1),.L .x4 .x1,.L .x5 (.l 2),.o (.w (.L .x2 .x1) (.Q (.a .x3 .x2) .x1)) (.w (.L (.a .x1 .l1) .x2) (.Q .x3 .l0)),.o (.w (.L (.a .x2 .l1) .x1) (.Q (.a (.v 6) (.a .x2 .l1)) .x1)) (.w (.L (.a .x1 .l1) (.a .x2 .l1)) (.Q (.v 6) .l0))] (.L (.a (.a (.a .x0 .l1) .x5) (.m 3 (.v 6))) (.l 49997)) [[1,0,0,0,1,0,0,3,0,3,0,1],[0,0,1,1,0,0,0,0,1,0,0,0],[0,0,0,0,0,1,0,0,1,0,0,0],[0,0,1,1,0,1,0,0,0,0,0,0]] rfl [a,b,c,d,e,f,u] [] ⟨h,h1,h2,h3,h4,h5,trivial⟩
theorem z118 {a b c d e f u : Nat} (h : a + 3 * d + 3<=50000) (h1 : e = c + 1) (h2 : e<=b) (h3 : f<=2) (h4 : c<=b/\d + c = b\/b + 1<=c/\d = 0) (h5 : c + 1<=b/\u + (c + 1) = b\/b + 1<=c + 1/\u = 0) : a + f + 3 * u + 3<=50000 := la [.L (.a (.a .x0 (.m 3 .x3)) (.l 3)) (.l 50000),.Q .x4 (.a .x2 .l1),.L .x4 .x1,.L .x5 (.l 2),.o (.w (.L .x2 .x1) (.Q (.a .x3 .x2) .x1)) (.w (.L (.a .x1 .l1) .x2) (.Q .x3 .l0)),.o (.w (.L (.a .x2 .l1) .x1) (.Q (.a (.v 6) (.a .x2 .l1)) .x1)) (.w (.L (.a .x1 .l1) (.a .x2 .l1)) (.Q (.v 6) .l0))] (.L (.a (.a (.a .x0 .x5) (.m 3 (.v 6))) (.l 3)) (.l 50000)) [[1,0,0,0,1,0,0,3,0,3,0,1],[0,0,1,1,0,0,0,0,1,0,0,0],[0,0,0,0,0,1,0,0,1,0,0,0],[0,0,1,1,0,1,0,0,0,0,0,0]] rfl [a,b,c,d,e,f,u] [] ⟨h,h1,h2,h3,h4,h5,trivial⟩
theorem z119 {a b c : Nat} (h : a + 1 + 1<=b) (h1 : 1<=b/\c + 1 = b\/b + 1<=1/\c = 0) : a + 1<=c := l2 (.L (.a (.a .x0 .l1) .l1) .x1) (.o (.w (.L .l1 .x1) (.Q (.a .x2 .l1) .x1)) (.w (.L (.a .x1 .l1) .l1) (.Q .x2 .l0))) (.L (.a .x0 .l1) .x2) [[1,0,0,1,1],[1,1,0,0,0]] rfl [a,b,c] [] h h1
end La
end Mine
end
section
open PySem PySem.W PySem.Calls PyProof.Rows
namespace Mine
inductive PV where
 | none
 | bool (b : Bool)
 | int (i : Int)
 | str (s : Str)
 | tup (l : List PV)
 | ref (a : Addr)
 | any (v : Value)
noncomputable abbrev tupO (vs : Array Value) (n : Nat) : Obj := { cls := .type "tuple",dict := none,data := .seq vs n,slots := #[] }
noncomputable abbrev listO (vs : Array Value) (n : Nat) : Obj := { cls := .type "list",dict := none,data := .seq vs n,slots := #[] }
mutual
noncomputable def Rel (h : Heap) : PV->Value->Prop
 | .none,v => v = .none
 | .bool b,v => v = .bool b
 | .int i,v => ∃ t,v = .int i t
 | .str s,v => ∃ t,v = .str s t
 | .tup l,v => ∃ a items n,v = .ref a/\h.get? a = some (tupO items n)/\Rels h l items.toList
 | .ref a,v => v = .ref a
 | .any x,v => v = x
noncomputable def Rels (h : Heap) : List PV->List Value->Prop
 | [],vs => vs = []
 | V :: l,vs => ∃ v r,vs = v :: r/\Rel h V v/\Rels h l r
end
mutual
theorem Rel.mono {h h' : Heap} (hk : ∀ a vs n,h.get? a = some (tupO vs n)->h'.get? a = some (tupO vs n)) : ∀ {V : PV} {v : Value},Rel h V v->Rel h' V v
 | .none,_,x => x
 | .bool _,_,x => x
 | .int _,_,x => x
 | .str _,_,x => x
 | .tup l,v,x => by
  unfold Rel at x ⊢
  refine La.x3_3 x λ a items n e g r => ?_; clear x
  exact ⟨a,items,n,e,hk _ _ _ g,Rels.mono hk r⟩
 | .ref _,_,x => x
 | .any _,_,x => x
theorem Rels.mono {h h' : Heap} (hk : ∀ a vs n,h.get? a = some (tupO vs n)->h'.get? a = some (tupO vs n)) : ∀ {l : List PV} {vs : List Value},Rels h l vs->Rels h' l vs
 | [],_,x => x
 | V :: l,vs,x => by
  unfold Rels at x ⊢
  refine La.x2_3 x λ v r e p q => ?_; clear x
  exact ⟨v,r,e,Rel.mono hk p,Rels.mono hk q⟩
end
theorem Rels.nil {h : Heap} : Rels h [] [] := by unfold Rels; rfl
theorem Rels.cons {h : Heap} {V : PV} {l : List PV} {v : Value} {vs : List Value} (a : Rel h V v) (b : Rels h l vs) : Rels h (V :: l) (v :: vs) := by
 unfold Rels; exact ⟨v,vs,rfl,a,b⟩
theorem Rels.nil_inv {h : Heap} {vs : List Value} (x : Rels h [] vs) : vs = [] := by unfold Rels at x; exact x
theorem Rels.cons_inv {h : Heap} {V : PV} {l : List PV} {vs : List Value} (x : Rels h (V :: l) vs) : ∃ v r,vs = v :: r/\Rel h V v/\Rels h l r := by unfold Rels at x; exact x
theorem Rels.length {h : Heap} : ∀ {l : List PV} {vs : List Value},Rels h l vs->l.length = vs.length
 | [],_,x => by rw [x.nil_inv]; rfl
 | _ :: _,_,x => by refine La.x2_3 (x.cons_inv) λ v r h'1 _ q => ?_; subst h'1; simp [q.length]
theorem Rels.append {h : Heap} : ∀ {l l' : List PV} {vs vs' : List Value},Rels h l vs->Rels h l' vs'->Rels h (l ++ l') (vs ++ vs')
 | [],_,_,_,x,y => by rw [x.nil_inv]; exact y
 | _ :: _,_,_,_,x,y => by refine La.x2_3 (x.cons_inv) λ v r h'1 p q => ?_; subst h'1; exact .cons p (q.append y)
theorem Rels.append_inv {h : Heap} : ∀ {l l' : List PV} {vs : List Value},Rels h (l ++ l') vs->∃ vs₁ vs₂,vs = vs₁ ++ vs₂/\Rels h l vs₁/\Rels h l' vs₂
 | [],_,vs,x => ⟨[],vs,rfl,.nil,x⟩
 | _ :: l,l',_,x => by
  refine La.x2_3 (Rels.cons_inv (l := l ++ l') x) λ v r h'1 p q => ?_; subst h'1
  refine La.x2_3 (q.append_inv) λ a b h'1 c d => ?_; subst h'1
  exact ⟨v :: a,b,rfl,.cons p c,d⟩
theorem Rels.get {h : Heap} : ∀ {l : List PV} {vs : List Value},Rels h l vs->∀ {i : Nat} {V : PV},l[i]? = some V->∃ v,vs[i]? = some v/\Rel h V v
 | [],_,_,_,_,e => by simp at e
 | _ :: _,_,x,i,V,e => by
  refine La.x2_3 (x.cons_inv) λ v r h'1 p q => ?_; subst h'1
  cases i with
  | zero => simp at e; subst e; exact ⟨v,rfl,p⟩
  | succ i => simp at e; simpa using q.get e
theorem Rels.set {h : Heap} : ∀ {l : List PV} {vs : List Value},Rels h l vs->∀ (i : Nat) {V : PV} {v : Value},Rel h V v->Rels h (l.set i V) (vs.set i v)
 | [],_,x,_,_,_,_ => by rw [x.nil_inv]; exact .nil
 | _ :: _,_,x,i,V,v,e => by
  refine La.x2_3 (x.cons_inv) λ v r h'1 p q => ?_; subst h'1
  cases i with
  | zero => exact .cons e q
  | succ i => exact .cons p (q.set i e)
theorem Rels.take {h : Heap} : ∀ {l : List PV} {vs : List Value},Rels h l vs->∀ (i : Nat),Rels h (l.take i) (vs.take i)
 | [],_,x,_ => by rw [x.nil_inv]; simp; exact .nil
 | _ :: _,_,x,i => by
  refine La.x2_3 (x.cons_inv) λ v r h'1 p q => ?_; subst h'1
  cases i with
  | zero => exact .nil
  | succ i => exact .cons p (q.take i)
theorem Rels.drop {h : Heap} : ∀ {l : List PV} {vs : List Value},Rels h l vs->∀ (i : Nat),Rels h (l.drop i) (vs.drop i)
 | [],_,x,_ => by rw [x.nil_inv]; simp; exact .nil
 | _ :: _,_,x,i => by
  refine La.x2_3 (x.cons_inv) λ v r h'1 p q => ?_; subst h'1
  cases i with
  | zero => exact .cons p q
  | succ i => exact q.drop i
theorem Rels.reverse {h : Heap} : ∀ {l : List PV} {vs : List Value},Rels h l vs->Rels h l.reverse vs.reverse
 | [],_,x => by rw [x.nil_inv]; exact .nil
 | _ :: _,_,x => by
  refine La.x2_3 (x.cons_inv) λ v r h'1 p q => ?_; subst h'1
  rw [List.reverse_cons,List.reverse_cons]
  exact q.reverse.append (.cons p .nil)
theorem Rels.eraseIdx {h : Heap} : ∀ {l : List PV} {vs : List Value},Rels h l vs->∀ (i : Nat),Rels h (l.eraseIdx i) (vs.eraseIdx i)
 | [],_,x,_ => by rw [x.nil_inv]; simp; exact .nil
 | _ :: _,_,x,i => by
  refine La.x2_3 (x.cons_inv) λ v r h'1 p q => ?_; subst h'1
  cases i with
  | zero => exact q
  | succ i => exact .cons p (q.eraseIdx i)
inductive MO where
 | list (l : List PV)
 | dictI (l : List (Int × PV))
 | dictS (l : List (Str × PV))
 | dictT (l : List (List Int × PV))
 | set (S : Int->Bool) (n : Nat)
 | inst (C dx : Addr)
 | ns (fs : List (Str × PV))
 | itL (a : Addr) (i : Nat)
 | itT (l : List PV) (i : Nat)
 | itR (x left step : Int)
 | rng (x y step : Int)
 | exc (C : Addr) (d : Option Addr) (tb : Value)
 | trb (fl : Value)
noncomputable abbrev CH := Addr->Option MO
noncomputable def upd (σ : CH) (a : Addr) (m : MO) : CH := λ b => if b = a then some m else σ b
theorem up' {σ : CH} {a : Addr} {m : MO} : upd σ a m a = some m := by simp [upd]
theorem un' {σ : CH} {a b : Addr} {m : MO} (h : b ≠ a) : upd σ a m b = σ b := by simp [upd,h]
inductive NsR (h : Heap) : List (Str × PV)->List DictEntry->Prop
 | nil : NsR h [] []
 | cons {n : Str} {V : PV} {fs : List (Str × PV)} {hs : Int} {t : Tok} {v : Value} {es : List DictEntry} : Rel h V v->NsR h fs es->NsR h ((n,V) :: fs) (⟨hs,.str n t,v⟩ :: es)
section
variable (prog : Program) (w : World)
noncomputable def ORel (h : Heap) (a : Addr) : MO->Prop
 | .list l => ∃ items n,h.get? a = some (listO items n)/\Rels h l items.toList
 | .dictI l => ∃ kvs,h.DictOf (intKind prog w) a kvs/\kvs.map (·.1) = l.map (·.1)/\Rels h (l.map (·.2)) (kvs.map (·.2))
 | .dictS l => ∃ kvs,h.DictOf (strKind prog w) a kvs/\kvs.map (·.1) = l.map (·.1)/\Rels h (l.map (·.2)) (kvs.map (·.2))
 | .dictT l => ∃ xs,h.DictOfH (tupleKind (intKind prog w)) a xs/\xs.map (·.1) = l.map (·.1)/\Rels h (l.map (·.2)) (xs.map (·.2.2))
 | .set S n => h.SetOf (intKind prog w) a S n
 | .inst C dx => h.get? a = some (instObj C dx)
 | .ns fs => ∃ es n,h.get? a = some (dictOf es n)/\NsR h fs es
 | .itL l i => h.IsListIter a l i
 | .itT l i => ∃ t items n,h.IsTupleIter a t i/\h.get? t = some (tupO items n)/\Rels h l items.toList
 | .itR x left step => IsRangeIter h a x left step
 | .rng x y step => ∃ t u v,IsRange h a x y step t u v
 | .exc C d tb => ∃ vs,h.get? a = some { cls := .ref C,dict := d,data := .fields vs,slots := #[] }/\vs[1]? = some tb
 | .trb fl => ∃ o ts,h.get? a = some o/\o.cls = .type "traceback"/\o.data = .fields ts/\ts[3]? = some fl
noncomputable def HRel (σ : CH) (h : Heap) : Prop := ∀ a m,σ a = some m->ORel prog w h a m
noncomputable def Inv (b : Heap) (σ : CH) (h : Heap) : Prop := HRel prog w σ h/\∀ a o,b.get? a = some o->h.get? a = some o/\σ a = none
end
noncomputable def Kp (h : Heap) (a : Addr) (o : Obj) : Prop := h.get? a = some o\/((∀ vs n,o.data ≠ .seq vs n)/\(∀ vs,o.data ≠ .fields vs)/\∃ sl,h.get? a = some { o with slots := sl })
theorem Kp.ex {h : Heap} {a : Addr} {o : Obj} (k : Kp h a o) : ∃ sl,h.get? a = some { o with slots := sl } := by
 rcases k with e | ⟨_,_,e⟩
 ·exact ⟨o.slots,e⟩
 ·exact e
theorem Kp.seq {h : Heap} {a : Addr} {o : Obj} (k : Kp h a o) {vs : Array Value} {n : Nat} (hd : o.data = .seq vs n) : h.get? a = some o := by
 rcases k with e | ⟨q,_,_⟩
 ·exact e
 ·exact absurd hd (q _ _)
structure Step (O : List Addr) (σ : CH) (s s' : Shared) (σ' : CH) : Prop where
 keep : ∀ a o,s.heap.get? a = some o->σ a = none->a ∉ O->Kp s'.heap a o
 new : ∀ a o,s.heap.get? a = some o->σ a = none->a ∉ O->σ' a = none
 gens : s'.gens = s.gens
 os : s'.os = s.os
theorem Step.refl {O : List Addr} {σ : CH} {s : Shared} : Step O σ s s σ := ⟨λ _ _ h _ _ => .inl h,λ _ _ _ h _ => h,rfl,rfl⟩
theorem Step.trans {O : List Addr} {σ σ₁ σ₂ : CH} {s s₁ s₂ : Shared} (x : Step O σ s s₁ σ₁) (y : Step O σ₁ s₁ s₂ σ₂) : Step O σ s s₂ σ₂ :=
 ⟨λ a o h n m => by
  rcases x.keep a o h n m with e | ⟨q1,q2,sl,e⟩
  ·exact y.keep a o e (x.new a o h n m) m
  ·refine La.x1_1 ((y.keep a _ e (x.new a o h n m) m).ex) λ sl' e' => ?_
   exact .inr ⟨q1,q2,sl',e'⟩,λ a o h n m => by
  refine La.x1_1 ((x.keep a o h n m).ex) λ sl e => ?_
  exact y.new a _ e (x.new a o h n m) m,y.gens.trans x.gens,y.os.trans x.os⟩
theorem Step.wider {O O' : List Addr} {σ σ' : CH} {s s' : Shared} (x : Step O σ s s' σ') (h : ∀ a ∈ O,a ∈ O') : Step O' σ s s' σ' :=
 ⟨λ a o g n m => x.keep a o g n λ q => m (h a q),λ a o g n m => x.new a o g n λ q => m (h a q),x.gens,x.os⟩
theorem Step.less {O : List Addr} {σ σ' σ'' : CH} {s s' : Shared} (x : Step O σ s s' σ') (h : ∀ a,σ' a = none->σ'' a = none) : Step O σ s s' σ'' :=
 ⟨x.keep,λ a o g n m => h a (x.new a o g n m),x.gens,x.os⟩
end Mine
end
section
open PySem PySem.W PySem.Calls PyProof.Rows
namespace Mine
noncomputable def TupLike (o : Obj) : Prop := o.cls = .type "tuple"/\∃ vs n,o.data = .seq vs n
theorem tupLike_tupO {vs : Array Value} {n : Nat} : TupLike (tupO vs n) := ⟨rfl,vs,n,rfl⟩
noncomputable def KeepT (h h' : Heap) : Prop := ∀ a o,h.get? a = some o->TupLike o->h'.get? a = some o
theorem KeepT.rel {h h' : Heap} (k : KeepT h h') {V : PV} {v : Value} (x : Rel h V v) : Rel h' V v := Rel.mono (λ _ _ _ e => k _ _ e tupLike_tupO) x
theorem KeepT.rels {h h' : Heap} (k : KeepT h h') {l : List PV} {vs : List Value} (x : Rels h l vs) : Rels h' l vs := Rels.mono (λ _ _ _ e => k _ _ e tupLike_tupO) x
theorem KeepT.nsR {h h' : Heap} (k : KeepT h h') {fs : List (Str × PV)} {es : List DictEntry} (x : NsR h fs es) : NsR h' fs es := by
 induction x with
 | nil => exact .nil
 | cons a _ ih => exact .cons (k.rel a) ih
section
variable {prog : Program} {w : World}
theorem ORel.ex {h : Heap} {a : Addr} {m : MO} (x : ORel prog w h a m) : ∃ o,h.get? a = some o := by
 cases m with
 | list l => refine La.x2_2 x λ _ _ e _ => ?_; clear x; exact ⟨_,e⟩
 | dictI l => refine La.x1_2 x λ _ h'1 _ => ?_; clear x; refine La.x3_2 h'1 λ o _ _ e _ => ?_; clear h'1; exact ⟨_,e⟩
 | dictS l => refine La.x1_2 x λ _ h'1 _ => ?_; clear x; refine La.x3_2 h'1 λ o _ _ e _ => ?_; clear h'1; exact ⟨_,e⟩
 | dictT l => refine La.x1_2 x λ _ h'1 _ => ?_; clear x; refine La.x3_2 h'1 λ o _ _ e _ => ?_; clear h'1; exact ⟨_,e⟩
 | set S n => refine La.x4_2 x λ o _ _ _ e _ => ?_; clear x; exact ⟨_,e⟩
 | inst C dx => exact ⟨_,x⟩
 | ns fs => refine La.x2_2 x λ _ _ e _ => ?_; clear x; exact ⟨_,e⟩
 | itL l i => refine La.x1_2 x λ o e _ => ?_; clear x; exact ⟨_,e⟩
 | itT l i => refine La.x3_2 x λ _ _ _ h'1 _ => ?_; clear x; refine La.x1_2 h'1 λ o e _ => ?_; clear h'1; exact ⟨_,e⟩
 | itR a1 a2 a3 => exact ⟨_,x⟩
 | rng a1 a2 a3 => refine La.x3_1 x λ _ _ _ y => ?_; clear x; exact ⟨_,y⟩
 | exc C d tb => refine La.x1_2 x λ _ e _ => ?_; clear x; exact ⟨_,e⟩
 | trb fl => refine La.x2_2 x λ o _ e _ => ?_; clear x; exact ⟨o,e⟩
theorem ORel.notTup {h : Heap} {a : Addr} {m : MO} (x : ORel prog w h a m) {o : Obj} (e : h.get? a = some o) : ¬ TupLike o := by
 refine La.k2 λ c h'1 => ?_; refine La.x2_1 h'1 λ vs k d => ?_; clear h'1
 cases m with
 | list l => refine La.x2_2 x λ _ _ e' _ => ?_; clear x; rw [e] at e'; cases e'; simp at c
 | dictI l => refine La.x1_2 x λ _ h'1 _ => ?_; clear x; refine La.x3_3 h'1 λ o _ _ e' q _ => ?_; clear h'1; rw [e] at e'; cases e'; rw [q.1] at c; simp at c
 | dictS l => refine La.x1_2 x λ _ h'1 _ => ?_; clear x; refine La.x3_3 h'1 λ o _ _ e' q _ => ?_; clear h'1; rw [e] at e'; cases e'; rw [q.1] at c; simp at c
 | dictT l => refine La.x1_2 x λ _ h'1 _ => ?_; clear x; refine La.x3_3 h'1 λ o _ _ e' q _ => ?_; clear h'1; rw [e] at e'; cases e'; rw [q.1] at c; simp at c
 | set S n => refine La.x4_3 x λ o _ _ _ e' q _ => ?_; clear x; rw [e] at e'; cases e'; rw [q.1] at c; simp at c
 | inst C dx => rw [show h.get? a = _ from x] at e; cases e; cases c
 | ns fs => refine La.x2_2 x λ _ _ e' _ => ?_; clear x; rw [e] at e'; cases e'; simp at c
 | itL l i => refine La.x1_3 x λ o e' q _ => ?_; clear x; rw [e] at e'; cases e'; rw [q] at c; simp at c
 | itT l i => refine La.x3_2 x λ _ _ _ h'1 _ => ?_; clear x; refine La.x1_3 h'1 λ o e' q _ => ?_; clear h'1; rw [e] at e'; cases e'; rw [q] at c; simp at c
 | itR a1 a2 a3 => rw [show h.get? a = _ from x] at e; cases e; simp at c
 | rng a1 a2 a3 => refine La.x3_1 x λ _ _ _ y => ?_; clear x; rw [show h.get? a = _ from y] at e; cases e; simp at c
 | exc C d' tb => refine La.x1_2 x λ _ e' _ => ?_; clear x; rw [e] at e'; cases e'; simp at c
 | trb fl => refine La.x2_3 x λ o' _ e' q _ => ?_; clear x; rw [e] at e'; cases e'; rw [q] at c; simp at c
theorem ORel.mono {h h' : Heap} {a : Addr} {m : MO} (x : ORel prog w h a m) (ha : ∀ o,h.get? a = some o->h'.get? a = some o) (k : KeepT h h') : ORel prog w h' a m := by
 cases m with
 | list l => refine La.x2_2 x λ _ _ e r => ?_; clear x; exact ⟨_,_,ha _ e,k.rels r⟩
 | dictI l => refine La.x1_3 x λ _ h'1 q r' => ?_; clear x; refine La.x3_2 h'1 λ o es ep e r => ?_; clear h'1; exact ⟨_,⟨o,es,ep,ha _ e,r⟩,q,k.rels r'⟩
 | dictS l => refine La.x1_3 x λ _ h'1 q r' => ?_; clear x; refine La.x3_2 h'1 λ o es ep e r => ?_; clear h'1; exact ⟨_,⟨o,es,ep,ha _ e,r⟩,q,k.rels r'⟩
 | dictT l =>
  refine La.x1_3 x λ xs h'1 q r' => ?_; clear x; refine La.x3_6 h'1 λ o es ep e r1 r2 r3 r4 r5 => ?_; clear h'1
  refine ⟨xs,⟨o,es,ep,ha _ e,r1,r2,r3,λ y hy => ?_,r5⟩,q,k.rels r'⟩
  refine La.x3_4 (r4 y hy) λ o' items n g c d i => ?_
  exact ⟨o',items,n,k _ _ g ⟨c,_,_,d⟩,c,d,i⟩
 | set S n => refine La.x4_2 x λ o es ep t e r => ?_; clear x; exact ⟨o,es,ep,t,ha _ e,r⟩
 | inst C dx => exact ha _ x
 | ns fs => refine La.x2_2 x λ _ _ e r => ?_; clear x; exact ⟨_,_,ha _ e,k.nsR r⟩
 | itL l i => refine La.x1_2 x λ o e r => ?_; clear x; exact ⟨o,ha _ e,r⟩
 | itT l i => refine La.x3_3 x λ t items n h'1 g r' => ?_; clear x; refine La.x1_2 h'1 λ o e r => ?_; clear h'1; exact ⟨t,items,n,⟨o,ha _ e,r⟩,k _ _ g tupLike_tupO,k.rels r'⟩
 | itR a1 a2 a3 => exact ha _ x
 | rng a1 a2 a3 => refine La.x3_1 x λ t u v y => ?_; clear x; exact ⟨t,u,v,ha _ y⟩
 | exc C d tb => refine La.x1_2 x λ vs e r => ?_; clear x; exact ⟨vs,ha _ e,r⟩
 | trb fl => refine La.x2_2 x λ o ts e r => ?_; clear x; exact ⟨o,ts,ha _ e,r⟩
theorem HRel.tup {σ : CH} {h : Heap} (x : HRel prog w σ h) {a : Addr} {o : Obj} (e : h.get? a = .some o) (t : TupLike o) : σ a = none := by
 cases q : σ a with
 | none => rfl
 | some m => exact absurd t (ORel.notTup (x a m q) e)
variable {b : Heap} {σ : CH}
theorem Inv.grow {s : Shared} {h' : Heap} {t : Nat} (I : Inv prog w b σ s.heap) (hk : ∀ a o,s.heap.get? a = some o->h'.get? a = some o) (O : List Addr) :
  Inv prog w b σ h'/\Step O σ s { s with heap := h',toks := t } σ :=
 ⟨⟨λ a m e => ORel.mono (I.1 a m e) (hk a) λ a o e _ => hk a o e,λ a o e => ⟨hk _ _ (I.2 a o e).1,(I.2 a o e).2⟩⟩,
  λ a o e _ _ => .inl (hk a o e),λ _ _ _ e _ => e,rfl,rfl⟩
theorem Inv.put {s : Shared} {h' : Heap} {t : Nat} {x : Addr} {m : MO} (I : Inv prog w b σ s.heap) (hx : σ x ≠ none\/s.heap.get? x = none) (hs : Heap.ExtBut x s.heap h') (ho : ORel prog w h' x m) (O : List Addr) :
  Inv prog w b (upd σ x m) h'/\Step O σ s { s with heap := h',toks := t } (upd σ x m) := by
 have nt : ∀ o,s.heap.get? x = some o->¬ TupLike o := λ o e t => by
  rcases hx with q | q
  ·exact q (I.1.tup e t)
  ·rw [q] at e; cases e
 have kt : KeepT s.heap h' := λ a o e t => hs a o (λ q => nt o (q ▸ e) t) e
 have nx : ∀ a o,s.heap.get? a = some o->σ a = none->a ≠ x := λ a o e n q => by
  subst q
  rcases hx with q | q
  ·exact q n
  ·rw [q] at e; cases e
 refine ⟨⟨λ a m' e => ?_,λ a o e => ?_⟩,λ a o e n _ => .inl (hs a o (nx a o e n) e),λ a o e n _ => by rw [un' (nx a o e n)]; exact n,rfl,rfl⟩
 ·by_cases q : a = x
  ·subst q; rw [up'] at e; cases e; exact ho
  ·rw [un' q] at e; exact ORel.mono (I.1 a m' e) (λ o g => hs a o q g) kt
 ·have q : a ≠ x := λ z => by
   subst z
   rcases hx with q | q
   ·exact q (I.2 a o e).2
   ·rw [(I.2 a o e).1] at q; cases q
  exact ⟨hs a o q (I.2 a o e).1,by rw [un' q]; exact (I.2 a o e).2⟩
theorem Inv.alloc {s : Shared} {o : Obj} {t : Nat} {m : MO} (I : Inv prog w b σ s.heap) (ho : ORel prog w (s.heap.push o) s.heap.objs.size m) (O : List Addr) :
  Inv prog w b (upd σ s.heap.objs.size m) (s.heap.push o)/\Step O σ s { s with heap := s.heap.push o,toks := t } (upd σ s.heap.objs.size m) :=
 I.put (.inr (by
  cases q : s.heap.get? s.heap.objs.size with
  | none => rfl
  | some o => exact absurd (Heap.lt_size q) (Nat.lt_irrefl _))) (λ a o _ e => Heap.get?_push_of_some _ e) ho O
theorem Inv.less {h : Heap} {σ' : CH} (I : Inv prog w b σ h) (hl : ∀ a m,σ' a = some m->σ a = some m) : Inv prog w b σ' h :=
 ⟨λ a m e => I.1 a m (hl a m e),λ a o e => ⟨(I.2 a o e).1,by
  cases q : σ' a with
  | none => rfl
  | some m => have := hl a m q; rw [(I.2 a o e).2] at this; cases this⟩⟩
theorem Inv.own {s : Shared} {h' : Heap} {t : Nat} {x : Addr} {O : List Addr} (I : Inv prog w b σ s.heap) (hx : x ∈ O) (hn : σ x = none) (hb : b.get? x = none) (hd : ∀ o,s.heap.get? x = some o->¬ TupLike o)
  (hs : Heap.ExtBut x s.heap h') : Inv prog w b σ h'/\Step O σ s { s with heap := h',toks := t } σ := by
 have kt : KeepT s.heap h' := λ a o e t => hs a o (λ q => hd o (q ▸ e) t) e
 refine ⟨⟨λ a m' e => ?_,λ a o e => ?_⟩,λ a o e n q => ?_,λ a o _ e _ => e,rfl,rfl⟩
 ·refine ORel.mono (I.1 a m' e) (λ o g => hs a o (λ q => ?_) g) kt
  subst q; rw [hn] at e; cases e
 ·refine ⟨hs a o (λ q => ?_) (I.2 a o e).1,(I.2 a o e).2⟩
  subst q; rw [hb] at e; cases e
 ·exact .inl (hs a o (λ z => q (z ▸ hx)) e)
end
theorem Step.keepT {prog : Program} {w : World} {σ σ' : CH} {s s' : Shared} {O : List Addr} (x : Step O σ s s' σ') (H : HRel prog w σ s.heap) (hO : ∀ a ∈ O,∀ o,s.heap.get? a = some o->¬ TupLike o) : KeepT s.heap s'.heap :=
 λ a o e t => by
  refine La.c2 (id t) λ _ h'1 => ?_; refine La.x2_1 h'1 λ vs n hd => ?_; clear h'1
  exact (x.keep a o e (H.tup e t) λ q => hO a q o e t).seq hd
noncomputable def lk (x : Str) : List (Str × PV)->Option PV
 | [] => none
 | (y,v) :: r => if x = y then some v else lk x r
structure Loc (env : Env) (ρ : List (Str × PV)) (h : Heap) : Prop where
 ns : ∃ m,h.Ns env.locals m/\∀ x V,lk x ρ = some V->env.kindOf x = some .local->∃ v,m x = some v/\Rel h V v
 cell : ∀ x V,lk x ρ = some V->env.kindOf x = some .cell\/env.kindOf x = some .free->∃ c v,env.cells.lookup x = some c/\h.IsCell c (some v)/\Rel h V v
 slot : ∀ x,env.kindOf x = some .cell->∃ c v,env.cells.lookup x = some c/\h.IsCell c v
structure FE (env : Env) (O : List Addr) (b : Heap) : Prop where
 kind : env.scope.kind = .function
 glob : env.globals = mainGlobals
 bi : env.builtins = builtinsNs
 locO : env.locals ∈ O
 cellO : ∀ x c,env.kindOf x = some .cell->env.cells.lookup x = some c->c ∈ O
 inj : ∀ x y c,env.cells.lookup x = some c->env.cells.lookup y = some c->x = y
 ownB : ∀ a ∈ O,b.get? a = none
structure Cx where
 prog : Program
 w : World
 b : Heap
 K : Frag
 fl : List Env
 env : Env
 O : List Addr
 n : Nat
 X : Value->CH->Shared->Prop
noncomputable def Frm (o : Obj) : Prop := (∀ vs,o.data ≠ .fields vs)/\∀ vs n,o.data ≠ .seq vs n
theorem Frm.of {o : Obj} {es n} (h : o.data = .dict es n) : Frm o := ⟨λ _ q => by rw [h] at q; exact absurd q (by simp),λ _ _ q => by rw [h] at q; exact absurd q (by simp)⟩
noncomputable def FrOk (b : Heap) (σ : CH) (h : Heap) (l : List Env) : Prop :=
 ∀ e ∈ l,e.scope.kind ≠ .module/\∃ L o,e.frame = some L/\b.get? L = none/\h.get? L = some o/\Frm o/\σ L = none
structure GA (C : Cx) (A : Around) : Prop where
 depth : A.depth + 2 * C.n < recursionLimit
 units : A.units + 12 * C.n + 400 < cLine
 handled : A.handled = none
 frames : A.frames = some C.fl
structure St (C : Cx) (ρ : List (Str × PV)) (σ : CH) (h : Heap) : Prop where
 inv : Inv C.prog C.w C.b σ h
 fe : FE C.env C.O C.b
 loc : Loc C.env ρ h
 own : ∀ a ∈ C.O,σ a = none/\∃ o,h.get? a = some o/\∀ vs n,o.data ≠ .seq vs n
 free : ∀ x c,C.env.cells.lookup x = some c->σ c = none/\∃ o,h.get? c = some o
 fr : FrOk C.b σ h C.fl
 frO : ∀ e ∈ C.fl,∀ a,e.frame = some a->a ∈ C.O->∃ m,h.Ns a m
noncomputable def PQ (C : Cx) (Q : PV->CH->Prop) (σ : CH) (s : Shared) : Value->Shared->Prop := λ v s' =>
 ∃ V σ',Q V σ'/\Rel s'.heap V v/\Inv C.prog C.w C.b σ' s'.heap/\Step [] σ s s' σ'
noncomputable def PX (C : Cx) (σ : CH) (s : Shared) : Value->Shared->Prop := λ e s' =>
 ∃ σ',C.X e σ' s'/\Inv C.prog C.w C.b σ' s'.heap/\Step C.O σ s s' σ'
theorem FrOk.step {b : Heap} {σ σ' : CH} {s s' : Shared} {l : List Env} {O : List Addr} (x : FrOk b σ s.heap l) (y : Step O σ s s' σ') (hO : ∀ e ∈ l,∀ a,e.frame = some a->a ∈ O->σ' a = none/\∃ o,s'.heap.get? a = some o/\Frm o) : FrOk b σ' s'.heap l := by
 intro e he
 refine La.c2 (x e he) λ hk h'1 => ?_; refine La.x2_5 h'1 λ L o f g h d n => ?_; clear h'1
 by_cases m : L ∈ O
 ·refine La.c2 (hO e he L f m) λ n' h'1 => ?_; refine La.x1_2 h'1 λ o' h' d' => ?_; clear h'1
  exact ⟨hk,L,o',f,g,h',d',n'⟩
 ·refine La.x1_1 ((y.keep L o h n m).ex) λ sl e => ?_
  exact ⟨hk,L,_,f,g,e,d,y.new L o h n m⟩
theorem Ns.keep1 {h h' : Heap} {a : Addr} {m} (x : h.Ns a m) (k : ∀ o,h.get? a = some o->h'.get? a = some o) : h'.Ns a m := let ⟨o,es,ep,e,r⟩ := x; ⟨o,es,ep,k _ e,r⟩
theorem IsCell.keep1 {h h' : Heap} {a : Addr} {v} (x : h.IsCell a v) (k : ∀ o,h.get? a = some o->h'.get? a = some o) : h'.IsCell a v := let ⟨o,e,r⟩ := x; ⟨o,k _ e,r⟩
theorem Ns.keepS {h h' : Heap} {a : Addr} {m} (x : h.Ns a m) (k : ∀ o,h.get? a = some o->Kp h' a o) : h'.Ns a m := by
 refine La.x3_2 x λ o es ep e r => ?_; clear x
 refine La.x1_1 ((k _ e).ex) λ sl e' => ?_
 exact ⟨_,es,ep,e',r⟩
theorem IsCell.keepS {h h' : Heap} {a : Addr} {v} (x : h.IsCell a v) (k : ∀ o,h.get? a = some o->Kp h' a o) : h'.IsCell a v := by
 refine La.x1_2 x λ o e r => ?_; clear x
 refine La.x1_1 ((k _ e).ex) λ sl e' => ?_
 exact ⟨_,e',r⟩
theorem St.noTup {C : Cx} {ρ : List (Str × PV)} {σ : CH} {h : Heap} (S : St C ρ σ h) : ∀ a ∈ C.O,∀ o,h.get? a = some o->¬ TupLike o := λ a ha o e t => by
 refine La.c2 (S.own a ha) λ _ h'1 => ?_; refine La.x1_2 h'1 λ o' e' d => ?_; clear h'1
 refine La.c2 t λ _ h'1 => ?_; clear t; refine La.x2_1 h'1 λ vs n q => ?_; clear h'1
 rw [e] at e'; cases e'
 exact d vs n q
theorem St.step {C : Cx} {ρ : List (Str × PV)} {σ σ' : CH} {s s' : Shared} (S : St C ρ σ s.heap) (I : Inv C.prog C.w C.b σ' s'.heap) (y : Step [] σ s s' σ') : St C ρ σ' s'.heap := by
 have k : ∀ a o,s.heap.get? a = some o->σ a = none->Kp s'.heap a o := λ a o e n => y.keep a o e n (by simp)
 have n' : ∀ a o,s.heap.get? a = some o->σ a = none->σ' a = none := λ a o h n => y.new a o h n (by simp)
 have kt : KeepT s.heap s'.heap := y.keepT S.inv.1 (by simp)
 obtain ⟨inv,fe,loc,own,free,fr,frO⟩ := S
 refine ⟨I,fe,⟨?_,?_,?_⟩,?_,?_,?_,?_⟩
 ·refine La.x1_2 (loc.ns) λ m hm hx => ?_
  refine ⟨m,Ns.keepS hm λ o e => k _ _ e (own _ fe.locO).1,λ x V e f => ?_⟩
  refine La.x1_2 (hx x V e f) λ v a r => ?_
  exact ⟨v,a,kt.rel r⟩
 ·intro x V e f
  refine La.x2_3 (loc.cell x V e f) λ c v a q r => ?_
  exact ⟨c,v,a,IsCell.keepS q λ o e => k _ _ e (free _ _ a).1,kt.rel r⟩
 ·intro x f
  refine La.x2_2 (loc.slot x f) λ c v a q => ?_
  exact ⟨c,v,a,IsCell.keepS q λ o e => k _ _ e (free _ _ a).1⟩
 ·intro a ha
  refine La.c2 (own a ha) λ q h'1 => ?_; refine La.x1_2 h'1 λ o e d => ?_; clear h'1
  refine La.x1_1 ((k a o e q).ex) λ sl e' => ?_
  exact ⟨n' a o e q,_,e',d⟩
 ·intro x c e
  refine La.c2 (free x c e) λ q h'1 => ?_; refine La.x1_1 h'1 λ o g => ?_; clear h'1
  refine La.x1_1 ((k c o g q).ex) λ sl e' => ?_
  exact ⟨n' c o g q,_,e'⟩
 ·exact fr.step y (by simp)
 ·intro e he a f g
  refine La.x1_1 (frO e he a f g) λ m hm => ?_
  exact ⟨m,Ns.keepS hm λ o e => k _ _ e (own _ g).1⟩
end Mine
end
section
open PySem PySem.W PySem.Calls PyProof.Rows
namespace Mine
section
variable {C : Cx} {ρ : List (Str × PV)} {σ : CH} {α β γ : Type}
noncomputable def PG (C : Cx) (R : Heap->β->α->Prop) (Q : β->CH->Prop) (σ : CH) (s : Shared) : α->Shared->Prop := λ a s' =>
 ∃ V σ',Q V σ'/\R s'.heap V a/\Inv C.prog C.w C.b σ' s'.heap/\Step [] σ s s' σ'
noncomputable abbrev md (C : Cx) : Model := model C.prog C.w
noncomputable def TG (C : Cx) (R : Heap->β->α->Prop) (t : Sem α) (ρ : List (Str × PV)) (σ : CH) (Q : β->CH->Prop) : Prop :=
 ∀ A s,GA C A->St C ρ σ s.heap->wpAny (md C) A t (PG C R Q σ s) (PX C σ s) s
noncomputable abbrev EqR (_ : Heap) (a b : α) : Prop := b = a
noncomputable abbrev EV (C : Cx) (e : Expr) := TG C Rel (eval e C.env)
noncomputable abbrev ET (C : Cx) (e : Expr) := TG C (EqR (α := Bool)) (isTrue e C.env (eval e C.env))
noncomputable abbrev EA (C : Cx) (op : BoolOp) (es : List Expr) := TG C (EqR (α := Bool)) (allTrue op es C.env)
noncomputable abbrev EL (C : Cx) (pos : Pos) (es : List Expr) := TG C Rels (spliced (backTo pos (starEach es C.env)))
noncomputable def O1 (C : Cx) (R : Heap->β->α->Prop) (f : Value->Sem α) (V : PV) (ρ : List (Str × PV)) (σ : CH) (Q : β->CH->Prop) : Prop :=
 ∀ A s v,GA C A->St C ρ σ s.heap->Rel s.heap V v->wpAny (md C) A (f v) (PG C R Q σ s) (PX C σ s) s
noncomputable def O2 (C : Cx) (R : Heap->β->α->Prop) (f : Value->Value->Sem α) (V W : PV) (ρ : List (Str × PV)) (σ : CH) (Q : β->CH->Prop) : Prop :=
 ∀ A s v w,GA C A->St C ρ σ s.heap->Rel s.heap V v->Rel s.heap W w->wpAny (md C) A (f v w) (PG C R Q σ s) (PX C σ s) s
noncomputable def O3 (C : Cx) (R : Heap->β->α->Prop) (f : Value->Value->Value->Sem α) (V W U : PV) (ρ : List (Str × PV)) (σ : CH) (Q : β->CH->Prop) : Prop :=
 ∀ A s v w u,GA C A->St C ρ σ s.heap->Rel s.heap V v->Rel s.heap W w->Rel s.heap U u->wpAny (md C) A (f v w u) (PG C R Q σ s) (PX C σ s) s
theorem PX.up {σ σ₁ : CH} {s s₁ : Shared} (st : Step [] σ s s₁ σ₁) {e : Value} {s' : Shared} (x : PX C σ₁ s₁ e s') : PX C σ s e s' := by
 refine La.x1_3 x λ σ' a b c => ?_; clear x
 exact ⟨σ',a,b,(st.wider (by simp)).trans c⟩
theorem PG.up {R : Heap->β->α->Prop} {Q : β->CH->Prop} {σ σ₁ : CH} {s s₁ : Shared} (st : Step [] σ s s₁ σ₁) {a : α} {s' : Shared} (x : PG C R Q σ₁ s₁ a s') : PG C R Q σ s a s' := by
 refine La.x2_4 x λ V σ' q r i y => ?_; clear x
 exact ⟨V,σ',q,r,i,st.trans y⟩
theorem up {A : Around} {t : Sem α} {R : Heap->β->α->Prop} {Q : β->CH->Prop} {σ σ₁ : CH} {s s₁ : Shared} (st : Step [] σ s s₁ σ₁)
  (h : wpAny (md C) A t (PG C R Q σ₁ s₁) (PX C σ₁ s₁) s₁) : wpAny (md C) A t (PG C R Q σ s) (PX C σ s) s₁ :=
 wpAny_mono h (λ _ _ x => PG.up st x) λ _ _ x => PX.up st x
theorem TG.seq {R : Heap->β->α->Prop} {t : Sem α} {Q : β->CH->Prop} (h : TG C R t ρ σ Q) {A : Around} {s : Shared} (G : GA C A) (S : St C ρ σ s.heap) {k : α->Shared->Prop}
  (hk : ∀ V a σ₁ s₁,Q V σ₁->R s₁.heap V a->St C ρ σ₁ s₁.heap->Step [] σ s s₁ σ₁->KeepT s.heap s₁.heap->k a s₁) : wpAny (md C) A t k (PX C σ s) s :=
 wpAny_mono (h A s G S) (λ a s₁ => La.y2_4 λ V σ₁ q r i y => hk V a σ₁ s₁ q r (S.step i y) y (y.keepT S.inv.1 (by simp))) λ _ _ x => x
theorem TG.seqE {R : Heap->β->α->Prop} {t : Sem α} {Q : β->CH->Prop} (h : TG C R t ρ σ Q) {A : Around} {s : Shared} (G : GA C A) (S : St C ρ σ s.heap) {k : α->Shared->Prop} {E : Value->Shared->Prop}
  (hX : ∀ e s',PX C σ s e s'->E e s')
  (hk : ∀ V a σ₁ s₁,Q V σ₁->R s₁.heap V a->St C ρ σ₁ s₁.heap->Step [] σ s s₁ σ₁->KeepT s.heap s₁.heap->k a s₁) : wpAny (md C) A t k E s :=
 wpAny_mono (h.seq G S hk) (λ _ _ x => x) hX
theorem TG.mono {R : Heap->β->α->Prop} {t : Sem α} {Q Q' : β->CH->Prop} (h : TG C R t ρ σ Q) (hq : ∀ V σ',Q V σ'->Q' V σ') : TG C R t ρ σ Q' :=
 λ A s G S => wpAny_mono (h A s G S) (λ _ _ => La.y2_2 λ V σ₁ q r => ⟨V,σ₁,hq V σ₁ q,r⟩) λ _ _ x => x
theorem PG.now {R : Heap->β->α->Prop} {Q : β->CH->Prop} {s : Shared} {V : β} {a : α} {t : Nat} (S : St C ρ σ s.heap) (q : Q V σ) (r : R s.heap V a) : PG C R Q σ s a { s with toks := t } :=
 ⟨V,σ,q,r,S.inv,(S.inv.grow (λ _ _ e => e) []).2⟩
theorem PG.now' {R : Heap->β->α->Prop} {Q : β->CH->Prop} {s : Shared} {V : β} {a : α} (S : St C ρ σ s.heap) (q : Q V σ) (r : R s.heap V a) : PG C R Q σ s a s :=
 ⟨V,σ,q,r,S.inv,Step.refl⟩
theorem PG.grown {R : Heap->β->α->Prop} {Q : β->CH->Prop} {s : Shared} {V : β} {a : α} {h' : Heap} {t : Nat} (S : St C ρ σ s.heap) (hk : ∀ a o,s.heap.get? a = some o->h'.get? a = some o) (q : Q V σ) (r : R h' V a) : PG C R Q σ s a { s with heap := h',toks := t } :=
 ⟨V,σ,q,r,(S.inv.grow (t := t) hk []).1,(S.inv.grow hk []).2⟩
theorem EV.int {i : Int} {k : Nat} {pos : Pos} {Q : PV->CH->Prop} (q : Q (.int i) σ) : EV C (.Constant (.int i) k pos) ρ σ Q :=
 λ _ s _ S => wpAny_Constant_int (PG.now S q ⟨_,rfl⟩)
theorem EV.str {i : Str} {k : Nat} {pos : Pos} {Q : PV->CH->Prop} (q : Q (.str i) σ) : EV C (.Constant (.str i) k pos) ρ σ Q :=
 λ _ s _ S => Constant_str (PG.now S q ⟨_,rfl⟩)
theorem EV.cnone {k : Nat} {pos : Pos} {Q : PV->CH->Prop} (q : Q .none σ) : EV C (.Constant .none k pos) ρ σ Q :=
 λ _ s _ S => wpAny_Constant_none (PG.now' S q rfl)
theorem EV.bool {b : Bool} {k : Nat} {pos : Pos} {Q : PV->CH->Prop} (q : Q (.bool b) σ) : EV C (.Constant (.bool b) k pos) ρ σ Q :=
 λ _ s _ S => wpAny_Constant_bool (PG.now' S q rfl)
theorem EV.loc {x : Str} {pos : Pos} {V : PV} {Q : PV->CH->Prop} (hk : C.env.kindOf x = some .local) (hl : lk x ρ = some V) (q : Q V σ) (hd : (x == ("__debug__" : Str)) = false := by decide) :
  EV C (.Name x pos) ρ σ Q := λ _ s _ S => by
 refine La.x1_2 (S.loc.ns) λ m hm hx => ?_
 refine La.x1_2 (hx x V hl hk) λ v hv r => ?_
 exact wpAny_Name (wpAny_loadName_local S.fe.kind hk hm hv (PG.now' S q r)) hd
theorem EV.cell {x : Str} {pos : Pos} {V : PV} {Q : PV->CH->Prop} (hk : C.env.kindOf x = some .cell) (hl : lk x ρ = some V) (q : Q V σ) (hd : (x == ("__debug__" : Str)) = false := by decide) :
  EV C (.Name x pos) ρ σ Q := λ _ s _ S => by
 refine La.x2_3 (S.loc.cell x V hl (.inl hk)) λ c v hc hv r => ?_
 exact wpAny_Name (wpAny_loadName_cell S.fe.kind hk hc hv (PG.now' S q r)) hd
theorem EV.free {x : Str} {pos : Pos} {V : PV} {Q : PV->CH->Prop} (hk : C.env.kindOf x = some .free) (hl : lk x ρ = some V) (q : Q V σ) (hd : (x == ("__debug__" : Str)) = false := by decide) (hn : (x == ("__classdict__" : Str)) = false := by decide) :
  EV C (.Name x pos) ρ σ Q := λ _ s _ S => by
 refine La.x2_3 (S.loc.cell x V hl (.inr hk)) λ c v hc hv r => ?_
 exact wpAny_Name (wpAny_loadName_free S.fe.kind hk hc hv (PG.now' S q r) hn) hd
structure Bs (C : Cx) (mg : Str->Option Value) : Prop where
 K : C.K.In C.b
 g : C.b.Ns mainGlobals mg
 bi : ∃ mb,C.b.Ns builtinsNs mb/\∀ x : Str,x ≠ "__name__"->mb x = bootBuiltins x
 nl : C.b.NoLimit
noncomputable def GV (mg : Str->Option Value) (x : Str) (V : PV) : Prop := ∃ v,mg x = some v/\∀ h,Rel h V v
theorem Inv.K {prog : Program} {w : World} {b h : Heap} {σ : CH} {K : Frag} (I : Inv prog w b σ h) (x : K.In b) : K.In h := λ a o e => (I.2 a o (x a o e)).1
theorem EV.glob {mg : Str->Option Value} (B : Bs C mg) {x : Str} {pos : Pos} {V : PV} {Q : PV->CH->Prop} (hk : C.env.kindOf x = some .globalImplicit) (hg : GV mg x V) (q : Q V σ) (hd : (x == ("__debug__" : Str)) = false := by decide) :
  EV C (.Name x pos) ρ σ Q := λ _ s _ S => by
 refine La.x1_2 hg λ v hv r => ?_; clear hg
 refine Name_function_global S.fe.kind hk (loadGlobal_global (mg := mg) ?_ hv (PG.now' S q (r _))) hd
 rw [S.fe.glob]
 exact Ns.keep1 B.g λ o e => (S.inv.2 _ _ e).1
theorem EV.builtin {mg : Str->Option Value} (B : Bs C mg) {x : Str} {pos : Pos} {v : Value} {Q : PV->CH->Prop} (hk : C.env.kindOf x = some .globalImplicit) (hg : mg x = none) (hb : bootBuiltins x = some v)
  (q : Q (.any v) σ) (hn : x ≠ "__name__" := by decide) (hd : (x == ("__debug__" : Str)) = false := by decide) :
  EV C (.Name x pos) ρ σ Q := λ _ s _ S => by
 refine La.x1_2 (B.bi) λ mb hm hx => ?_
 refine Name_function_global S.fe.kind hk (loadGlobal_builtin (mg := mg) (mb := mb) ?_ hg ?_ ((hx x hn).trans hb) (PG.now' S q rfl)) hd
 ·rw [S.fe.glob]; exact Ns.keep1 B.g λ o e => (S.inv.2 _ _ e).1
 ·rw [S.fe.bi]; exact Ns.keep1 hm λ o e => (S.inv.2 _ _ e).1
theorem EL.nil {pos : Pos} {Q : List PV->CH->Prop} (q : Q [] σ) : EL C pos [] ρ σ Q := λ _ s _ S => args_nil (PG.now' S q .nil)
theorem EL.cons {e : Expr} {rest : List Expr} {pos : Pos} {Q : List PV->CH->Prop}
  (h : EV C e ρ σ λ V σ₁ => EL C pos rest ρ σ₁ λ l σ₂ => Q (V :: l) σ₂) (he : starEach (e :: rest) C.env = (false,eval e C.env) :: starEach rest C.env := by rfl) : EL C pos (e :: rest) ρ σ Q :=
 λ A s G S => args_cons (h.seq G S λ V a σ₁ s₁ h₁ r₁ S₁ st₁ _ => h₁.seqE G S₁ (λ _ _ x => PX.up st₁ x) λ l vs σ₂ s₂ q r₂ S₂ st₂ k₂ =>
  ⟨V :: l,σ₂,q,Rels.cons (k₂.rel r₁) r₂,S₂.inv,st₁.trans st₂⟩) he
theorem EV.tup {es : List Expr} {k : Nat} {pos : Pos} {Q : PV->CH->Prop} (h : EL C pos es ρ σ λ l σ₁ => l.length<=1000/\Q (.tup l) σ₁) : EV C (.Tuple es k pos) ρ σ Q :=
 λ A s G S => Tuple_ (h.seq G S λ l vs σ₁ s₁ q r S₁ st₁ _ => up st₁ (wpAny_newTuple (PG.grown (t := s₁.toks) S₁ (λ a o e => Heap.get?_push_of_some _ e) q.2 (by
  refine ⟨_,vs.toArray,0,rfl,Heap.get?_push_size _ rfl,?_⟩
  exact KeepT.rels (λ a o e _ => Heap.get?_push_of_some _ e) r)) (by have := r.length; have := q.1; rw [sizeLine_eq]; omega)))
theorem fresh_none {h : Heap} : h.get? h.objs.size = Option.none := by
 cases q : h.get? h.objs.size with
 | none => rfl
 | some o => exact absurd (Heap.lt_size q) (Nat.lt_irrefl _)
theorem St.freshσ {s : Shared} (S : St C ρ σ s.heap) : σ s.heap.objs.size = Option.none := by
 cases q : σ s.heap.objs.size with
 | none => rfl
 | some m => refine La.x1_1 (ORel.ex (S.inv.1 _ _ q)) λ o e => ?_; rw [fresh_none] at e; cases e
theorem PG.made {Q : PV->CH->Prop} {s : Shared} {o : Obj} {t : Nat} {m : MO} (S : St C ρ σ s.heap) (ho : ORel C.prog C.w (s.heap.push o) s.heap.objs.size m)
  (q : ∀ a,σ a = .none->Q (.ref a) (upd σ a m)) : PG C Rel Q σ s (.ref s.heap.objs.size) { s with heap := s.heap.push o,toks := t } :=
 ⟨.ref s.heap.objs.size,_,q _ S.freshσ,rfl,(S.inv.alloc (t := t) ho []).1,(S.inv.alloc ho []).2⟩
theorem orel_newList {h : Heap} {l : List PV} {vs : List Value} (r : Rels h l vs) : ORel C.prog C.w (h.push { cls := .type "list",data := .seq vs.toArray }) h.objs.size (.list l) :=
 ⟨vs.toArray,0,Heap.get?_push_size _ rfl,KeepT.rels (λ _ _ e _ => Heap.get?_push_of_some _ e) r⟩
theorem EV.list {es : List Expr} {pos : Pos} {Q : PV->CH->Prop} (h : EL C pos es ρ σ λ l σ₁ => l.length<=1000/\∀ a,σ₁ a = .none->Q (.ref a) (upd σ₁ a (.list l))) : EV C (.List es pos) ρ σ Q :=
 λ A s G S => List_ (h.seq G S λ l vs σ₁ s₁ q r S₁ st₁ _ => up st₁ (wpAny_newList (PG.made (t := s₁.toks) S₁ (orel_newList r) q.2) (by have := r.length; have := q.1; rw [sizeLine_eq]; omega)))
theorem EV.dict0 {pos : Pos} {Q : PV->CH->Prop} (q : ∀ a,σ a = .none->Q (.ref a) (upd σ a (.dictI []))) : EV C (.Dict [] [] pos) ρ σ Q :=
 λ A s G S => wpAny_Dict_empty (PG.made (t := s.toks) (m := .dictI []) S ⟨[],Heap.DictOf.new _,rfl,.nil⟩ q)
theorem EV.dict0S {pos : Pos} {Q : PV->CH->Prop} (q : ∀ a,σ a = .none->Q (.ref a) (upd σ a (.dictS []))) : EV C (.Dict [] [] pos) ρ σ Q :=
 λ A s G S => wpAny_Dict_empty (PG.made (t := s.toks) (m := .dictS []) S ⟨[],Heap.DictOf.new _,rfl,.nil⟩ q)
theorem EV.dict0T {pos : Pos} {Q : PV->CH->Prop} (q : ∀ a,σ a = .none->Q (.ref a) (upd σ a (.dictT []))) : EV C (.Dict [] [] pos) ρ σ Q :=
 λ A s G S => wpAny_Dict_empty (PG.made (t := s.toks) (m := .dictT []) S ⟨[],Heap.DictOfH.new _,rfl,.nil⟩ q)
theorem EV.bin {l r : Expr} {op : Operator} {pos : Pos} {Q : PV->CH->Prop} (h : EV C l ρ σ λ V σ₁ => EV C r ρ σ₁ λ W σ₂ => O2 C Rel (binaryOp op) V W ρ σ₂ Q) : EV C (.BinOp l op r pos) ρ σ Q :=
 λ A s G S => wpAny_BinOp (h.seq G S λ V a σ₁ s₁ h₁ r₁ S₁ st₁ _ => h₁.seqE G S₁ (λ _ _ x => PX.up st₁ x) (λ W b σ₂ s₂ h₂ r₂ S₂ st₂ k₂ => up (st₁.trans st₂) (h₂ A s₂ a b G S₂ (k₂.rel r₁) r₂)))
theorem EV.cmp {l r : Expr} {op : CmpOp} {pos : Pos} {Q : PV->CH->Prop} (h : EV C l ρ σ λ V σ₁ => EV C r ρ σ₁ λ W σ₂ => O2 C Rel (compareOp op) V W ρ σ₂ Q)
  (hm : behindInMarks op r = false := by with_unfolding_all rfl) : EV C (.Compare l [op] [r] pos) ρ σ Q :=
 λ A s G S => wpAny_Compare1 (h.seq G S λ V a σ₁ s₁ h₁ r₁ S₁ st₁ _ => h₁.seqE G S₁ (λ _ _ x => PX.up st₁ x) (λ W b σ₂ s₂ h₂ r₂ S₂ st₂ k₂ => up (st₁.trans st₂) (h₂ A s₂ a b G S₂ (k₂.rel r₁) r₂))) hm
theorem EV.un {x : Expr} {op : UnaryOp} {pos : Pos} {Q : PV->CH->Prop} (h : EV C x ρ σ λ V σ₁ => O1 C Rel (unaryOp op) V ρ σ₁ Q) : EV C (.UnaryOp op x pos) ρ σ Q :=
 λ A s G S => wpAny_UnaryOp (h.seq G S λ V a σ₁ s₁ h₁ r₁ S₁ st₁ _ => up st₁ (h₁ A s₁ a G S₁ r₁))
theorem EV.ife {t x y : Expr} {pos : Pos} {Q : PV->CH->Prop} (h : ET C t ρ σ λ b σ₁ => if b then EV C x ρ σ₁ Q else EV C y ρ σ₁ Q) : EV C (.IfExp t x y pos) ρ σ Q :=
 λ A s G S => wpAny_IfExp (h.seq G S λ b c σ₁ s₁ h₁ r₁ S₁ st₁ _ => by
  cases r₁
  cases b
  ·exact up st₁ (h₁ A s₁ G S₁)
  ·exact up st₁ (h₁ A s₁ G S₁))
theorem EV.and {x y : Expr} {pos : Pos} {rest : List Expr} {Q : PV->CH->Prop} (h : EV C x ρ σ λ V σ₁ => ∃ b,V = .bool b/\if b then EV C (.BoolOp .And (y :: rest) pos) ρ σ₁ Q else Q (.bool false) σ₁) : EV C (.BoolOp .And (x :: y :: rest) pos) ρ σ Q :=
 λ A s G S => BoolOp_and (h.seq G S λ V a σ₁ s₁ h₁ r₁ S₁ st₁ _ => by
  revert h₁; refine La.y1_2 λ b h'1 h₁ => ?_; subst h'1
  cases r₁
  refine wpAny_truthy_bool ?_
  cases b
  ·exact PG.up st₁ (PG.now' S₁ h₁ rfl)
  ·exact up st₁ (h₁ A s₁ G S₁))
theorem EV.or {x y : Expr} {pos : Pos} {rest : List Expr} {Q : PV->CH->Prop} (h : EV C x ρ σ λ V σ₁ => ∃ b,V = .bool b/\if b then Q (.bool true) σ₁ else EV C (.BoolOp .Or (y :: rest) pos) ρ σ₁ Q) : EV C (.BoolOp .Or (x :: y :: rest) pos) ρ σ Q :=
 λ A s G S => BoolOp_or (h.seq G S λ V a σ₁ s₁ h₁ r₁ S₁ st₁ _ => by
  revert h₁; refine La.y1_2 λ b h'1 h₁ => ?_; subst h'1
  cases r₁
  refine wpAny_truthy_bool ?_
  cases b
  ·exact up st₁ (h₁ A s₁ G S₁)
  ·exact PG.up st₁ (PG.now' S₁ h₁ rfl))
theorem EV.one {x : Expr} {op : BoolOp} {pos : Pos} {Q : PV->CH->Prop} (h : EV C x ρ σ Q) : EV C (.BoolOp op [x] pos) ρ σ Q := λ A s G S => BoolOp_one (h A s G S)
theorem ET.cmp {l r : Expr} {op : CmpOp} {pos : Pos} {Q : Bool->CH->Prop} (h : EV C l ρ σ λ V σ₁ => EV C r ρ σ₁ λ W σ₂ => O2 C Rel (compareOp op) V W ρ σ₂ λ U σ₃ => ∃ b,U = .bool b/\Q b σ₃)
  (hm : behindInMarks op r = false := by with_unfolding_all rfl) : ET C (.Compare l [op] [r] pos) ρ σ Q :=
 λ A s G S => wpAny_isTrue_Compare1 (h.seq G S λ V a σ₁ s₁ h₁ r₁ S₁ st₁ _ => h₁.seqE G S₁ (λ _ _ x => PX.up st₁ x) (λ W b σ₂ s₂ h₂ r₂ S₂ st₂ k₂ => wpAny_mono (h₂ A s₂ a b G S₂ (k₂.rel r₁) r₂)
  (λ v s₃ => La.y2_4 λ U σ₃ hc r₃ i₃ st₃ => La.x1_2 hc λ c e q => by
   subst e
   cases r₃
   exact wpAny_truthy_bool ⟨c,σ₃,q,rfl,i₃,(st₁.trans st₂).trans st₃⟩) λ _ _ x => PX.up (st₁.trans st₂) x)) hm
theorem ET.not {x : Expr} {pos : Pos} {Q : Bool->CH->Prop} (h : ET C x ρ σ λ b σ₁ => Q (!b) σ₁) : ET C (.UnaryOp .Not x pos) ρ σ Q :=
 λ A s G S => wpAny_isTrue_Not (h.seq G S λ b c σ₁ s₁ q r₁ S₁ st₁ _ => show PG C (EqR (α := Bool)) Q σ s _ _ from ⟨!b,σ₁,q,by rw [r₁],S₁.inv,st₁⟩)
theorem ET.op {op : BoolOp} {es : List Expr} {pos : Pos} {Q : Bool->CH->Prop} (h : EA C op es ρ σ Q) : ET C (.BoolOp op es pos) ρ σ Q := λ A s G S => wpAny_isTrue_BoolOp (h A s G S)
theorem EA.and {x : Expr} {rest : List Expr} {Q : Bool->CH->Prop} (h : ET C x ρ σ λ b σ₁ => if b then EA C .And rest ρ σ₁ Q else Q false σ₁) : EA C .And (x :: rest) ρ σ Q :=
 λ A s G S => wpAny_allTrue_And_cons (h.seq G S λ b c σ₁ s₁ q r₁ S₁ st₁ _ => by
  cases r₁
  cases b
  ·exact PG.up st₁ (PG.now' S₁ q rfl)
  ·exact up st₁ (q A s₁ G S₁))
theorem EA.or {x : Expr} {rest : List Expr} {Q : Bool->CH->Prop} (h : ET C x ρ σ λ b σ₁ => if b then Q true σ₁ else EA C .Or rest ρ σ₁ Q) : EA C .Or (x :: rest) ρ σ Q :=
 λ A s G S => wpAny_allTrue_Or_cons (h.seq G S λ b c σ₁ s₁ q r₁ S₁ st₁ _ => by
  cases r₁
  cases b
  ·exact up st₁ (q A s₁ G S₁)
  ·exact PG.up st₁ (PG.now' S₁ q rfl))
theorem EA.andN {Q : Bool->CH->Prop} (q : Q true σ) : EA C .And [] ρ σ Q := λ A s G S => wpAny_allTrue_And_nil (PG.now' S q rfl)
theorem EA.orN {Q : Bool->CH->Prop} (q : Q false σ) : EA C .Or [] ρ σ Q := λ A s G S => wpAny_allTrue_Or_nil (PG.now' S q rfl)
theorem ET.val {e : Expr} {Q : Bool->CH->Prop} (h : EV C e ρ σ λ V σ₁ => ∃ b,V = .bool b/\Q b σ₁) (he : isTrue e C.env (eval e C.env) = (do let v <- eval e C.env; standAt e.pos; holding [v] (truthy v)) := by rfl) : ET C e ρ σ Q :=
 λ A s G S => wpAny_isTrue_value (h.seq G S λ V a σ₁ s₁ hb r₁ S₁ st₁ _ => La.x1_2 hb λ b e q => by
  subst e
  cases r₁
  exact wpAny_truthy_bool (PG.up st₁ (PG.now' S₁ q rfl))) he
end
end Mine
end
section
open PySem PySem.W PySem.Calls PyProof.Rows PySem.Spec PySem.SeqAt
namespace Mine
inductive DR (σ : CH) : List PV->List PyData->Prop
 | nil : DR σ [] []
 | none {l ds} : DR σ l ds->DR σ (.none :: l) (.none :: ds)
 | int {i l ds} : DR σ l ds->DR σ (.int i :: l) (.int i :: ds)
 | str {x l ds} : PyData.strOk x = true->DR σ l ds->DR σ (.str x :: l) (.str x :: ds)
 | tup {m es l ds} : DR σ m es->DR σ l ds->DR σ (.tup m :: l) (.tuple es :: ds)
 | list {a m es l ds} : σ a = some (.list m)->DR σ m es->DR σ l ds->DR σ (.ref a :: l) (.list es :: ds)
theorem DR.reads {prog : Program} {w : World} {σ : CH} {h : Heap} (H : HRel prog w σ h) {l : List PV} {ds : List PyData} (x : DR σ l ds) : ∀ {vs : List Value},Rels h l vs->∃ as,ReadsAll h vs ds as := by
 induction x with
 | nil => intro vs r; rw [r.nil_inv]; exact ⟨_,.nil⟩
 | none _ ih =>
  intro vs r
  refine La.x2_3 (r.cons_inv) λ v rs h'1 p q => ?_; subst h'1
  refine La.x1_1 (ih q) λ as y => ?_
  cases (show v = .none from p)
  exact ⟨_,.cons .none y⟩
 | int _ ih =>
  intro vs r
  refine La.x2_3 (r.cons_inv) λ v rs h'1 p q => ?_; subst h'1
  refine La.x1_1 (ih q) λ as y => ?_
  refine La.x1_1 p λ t h'1 => ?_; clear p; subst h'1
  exact ⟨_,.cons (.int _ _) y⟩
 | str _ _ ih =>
  intro vs r
  refine La.x2_3 (r.cons_inv) λ v rs h'1 p q => ?_; subst h'1
  refine La.x1_1 (ih q) λ as y => ?_
  refine La.x1_1 p λ t h'1 => ?_; clear p; subst h'1
  exact ⟨_,.cons (.str _ _) y⟩
 | tup _ _ ih1 ih2 =>
  intro vs r
  refine La.x2_3 (r.cons_inv) λ v rs h'1 p q => ?_; subst h'1
  refine La.x1_1 (ih2 q) λ as y => ?_
  unfold Rel at p
  refine La.x3_3 p λ a items n h'1 g z => ?_; clear p; subst h'1
  refine La.x1_1 (ih1 z) λ bs u => ?_
  exact ⟨_,.cons (.tuple g rfl rfl u) y⟩
 | list e _ _ ih1 ih2 =>
  intro vs r
  refine La.x2_3 (r.cons_inv) λ v rs h'1 p q => ?_; subst h'1
  refine La.x1_1 (ih2 q) λ as y => ?_
  cases (show v = .ref _ from p)
  refine La.x2_2 (H _ _ e) λ items n g z => ?_
  refine La.x1_1 (ih1 z) λ bs u => ?_
  exact ⟨_,.cons (.list g rfl rfl u) y⟩
theorem DR.read1 {prog : Program} {w : World} {σ : CH} {h : Heap} (H : HRel prog w σ h) {V : PV} {d : PyData} (x : DR σ [V] [d]) {v : Value} (r : Rel h V v) : ∃ as,Reads h v d as := by
 refine La.x1_1 (x.reads H (Rels.cons r .nil)) λ as y => ?_
 cases y with
 | cons a b => exact ⟨_,a⟩
theorem DR.lay {σ : CH} {l : List PV} {ds : List PyData} (x : DR σ l ds) : PyData.canLayAll0 ds = true := by
 induction x with
 | nil => rfl
 | none _ ih => simpa [PyData.canLayAll0,PyData.canLay0] using ih
 | int _ ih => simpa [PyData.canLayAll0,PyData.canLay0] using ih
 | str o _ ih => simp [PyData.canLayAll0,PyData.canLay0,ih,o]
 | tup _ _ ih1 ih2 => simp [PyData.canLayAll0,PyData.canLay0,ih1,ih2]
 | list _ _ _ ih1 ih2 => simp [PyData.canLayAll0,PyData.canLay0,ih1,ih2]
theorem DR.noMix {σ σ' : CH} {l l' : List PV} {ds ds' : List PyData} (x : DR σ l ds) : DR σ' l' ds'->noMixAll ds ds' = true := by
 intro y
 induction x generalizing l' ds' with
 | nil => cases ds' <;> unfold noMixAll <;> rfl
 | none _ ih => cases y <;> simp_all [noMixAll,SeqAt.noMix] <;> exact ih (by assumption)
 | int _ ih => cases y <;> simp_all [noMixAll,SeqAt.noMix] <;> exact ih (by assumption)
 | str o _ ih => cases y <;> simp_all [noMixAll,SeqAt.noMix] <;> exact ih (by assumption)
 | tup _ _ ih1 ih2 => cases y <;> simp_all [noMixAll,SeqAt.noMix] <;> first | exact ih2 (by assumption) | exact ⟨ih1 (by assumption),ih2 (by assumption)⟩
 | list _ _ _ ih1 ih2 => cases y <;> simp_all [noMixAll,SeqAt.noMix] <;> first | exact ih2 (by assumption) | exact ⟨ih1 (by assumption),ih2 (by assumption)⟩
section
variable {C : Cx} {ρ : List (Str × PV)} {σ : CH}
noncomputable def Dp (d : PyData) : Prop := PyData.depth d<=64
theorem op_eq {V W : PV} {d d' : PyData} {b : Bool} {Q : PV->CH->Prop} (x : DR σ [V] [d]) (y : DR σ [W] [d']) (hd : Dp d) (hd' : Dp d') (hb : b = true ↔ d = d') (q : Q (.bool b) σ) : O2 C Rel (compareOp .Eq) V W ρ σ Q := by
 intro A s v w G S rv rw'
 refine La.x1_1 (x.read1 S.inv.1 rv) λ as r1 => ?_
 refine La.x1_1 (y.read1 S.inv.1 rw') λ bs r2 => ?_
 have hm : noMix d d' = true := by have := x.noMix y; simpa [noMixAll] using this
 have l1 : PyData.canLay0 d = true := by have := x.lay; simpa [PyData.canLayAll0] using this
 have l2 : PyData.canLay0 d' = true := by have := y.lay; simpa [PyData.canLayAll0] using this
 refine eq_dataH_same r1 r2 (by unfold shaped; simp [l1]; exact hd) (by unfold shaped; simp [l2]; exact hd') (by have := G.units; exact La.z60 this) hm ?_
 have : Spec.same d d' = b := by
  cases b with
  | true => rw [PyProof.Rows.same_iff]; exact hb.mp rfl
  | false => cases e : Spec.same d d' with
   | false => rfl
   | true => exact absurd (hb.mpr (PyProof.Rows.same_iff.mp e)) (by simp)
 rw [this]
 exact PG.now' S q rfl
theorem op_ne {V W : PV} {d d' : PyData} {b : Bool} {Q : PV->CH->Prop} (x : DR σ [V] [d]) (y : DR σ [W] [d']) (hd : Dp d) (hd' : Dp d') (hb : b = true ↔ d ≠ d') (q : Q (.bool b) σ) : O2 C Rel (compareOp .NotEq) V W ρ σ Q := by
 intro A s v w G S rv rw'
 refine La.x1_1 (x.read1 S.inv.1 rv) λ as r1 => ?_
 refine La.x1_1 (y.read1 S.inv.1 rw') λ bs r2 => ?_
 have hm : noMix d d' = true := by have := x.noMix y; simpa [noMixAll] using this
 have l1 : PyData.canLay0 d = true := by have := x.lay; simpa [PyData.canLayAll0] using this
 have l2 : PyData.canLay0 d' = true := by have := y.lay; simpa [PyData.canLayAll0] using this
 refine ne_dataH_same r1 r2 (by unfold shaped; simp [l1]; exact hd) (by unfold shaped; simp [l2]; exact hd') (by have := G.units; exact La.z60 this) hm ?_
 have : (!Spec.same d d') = b := by
  cases b with
  | true => cases e : Spec.same d d' with
   | false => rfl
   | true => exact absurd (PyProof.Rows.same_iff.mp e) (hb.mp rfl)
  | false => cases e : Spec.same d d' with
   | true => rfl
   | false => exact absurd (hb.mpr λ z => by rw [PyProof.Rows.same_iff.mpr z] at e; cases e) (by simp)
 rw [this]
 exact PG.now' S q rfl
set_option backward.match.sparseCases false in
mutual
noncomputable def dat : PV->PyData
 | .int i => .int i
 | .str x => .str x
 | .tup l => .tuple (dats l)
 | _ => .none
noncomputable def dats : List PV->List PyData
 | [] => []
 | V :: l => dat V :: dats l
end
set_option backward.match.sparseCases false in
mutual
noncomputable def Pl : PV->Bool
 | .none => true
 | .int _ => true
 | .str x => PyData.strOk x
 | .tup l => Pls l
 | _ => false
noncomputable def Pls : List PV->Bool
 | [] => true
 | V :: l => Pl V && Pls l
end
mutual
noncomputable def un : PyData->PV
 | .int i => .int i
 | .str x => .str x
 | .tuple l => .tup (uns l)
 | _ => .none
noncomputable def uns : List PyData->List PV
 | [] => []
 | d :: l => un d :: uns l
end
mutual
theorem un_dat : ∀ {V : PV},Pl V = true->un (dat V) = V
 | .none,_ => rfl
 | .int _,_ => rfl
 | .str _,_ => rfl
 | .tup _,a => congrArg PV.tup (uns_dats a)
theorem uns_dats : ∀ {l : List PV},Pls l = true->uns (dats l) = l
 | [],_ => rfl
 | _ :: _,a => congr (congrArg List.cons (un_dat (Bool.and_eq_true_iff.mp a).1)) (uns_dats (Bool.and_eq_true_iff.mp a).2)
end
theorem dats_inj {l m : List PV} (a : Pls l = true) (b : Pls m = true) : dats l = dats m ↔ l = m := ⟨λ h => (uns_dats a).symm.trans ((congrArg uns h).trans (uns_dats b)),congrArg dats⟩
theorem dat_inj {V W : PV} (a : Pl V = true) (b : Pl W = true) : dat V = dat W ↔ V = W := ⟨λ h => (un_dat a).symm.trans ((congrArg un h).trans (un_dat b)),congrArg dat⟩
mutual
theorem DR.ofPl : ∀ {V : PV} {l ds},Pl V = true->DR σ l ds->DR σ (V :: l) (dat V :: ds)
 | .none,_,_,_,r => by unfold dat; exact .none r
 | .int _,_,_,_,r => by unfold dat; exact .int r
 | .str _,_,_,a,r => by unfold dat; exact .str (by simpa [Pl] using a) r
 | .tup m,_,_,a,r => by unfold dat; exact .tup (DR.ofPls (by simpa [Pl] using a)) r
theorem DR.ofPls : ∀ {l : List PV},Pls l = true->DR σ l (dats l)
 | [],_ => by unfold dats; exact .nil
 | V :: l,a => by simp [Pls] at a; unfold dats; exact DR.ofPl a.1 (DR.ofPls a.2)
end
theorem op_eqP {V W : PV} {b : Bool} {Q : PV->CH->Prop} (x : Pl V = true) (y : Pl W = true) (hd : Dp (dat V)) (hd' : Dp (dat W)) (hb : b = true ↔ V = W) (q : Q (.bool b) σ) : O2 C Rel (compareOp .Eq) V W ρ σ Q :=
 op_eq (DR.ofPl x .nil) (DR.ofPl y .nil) hd hd' (by rw [hb,dat_inj x y]) q
theorem op_neP {V W : PV} {b : Bool} {Q : PV->CH->Prop} (x : Pl V = true) (y : Pl W = true) (hd : Dp (dat V)) (hd' : Dp (dat W)) (hb : b = true ↔ V ≠ W) (q : Q (.bool b) σ) : O2 C Rel (compareOp .NotEq) V W ρ σ Q :=
 op_ne (DR.ofPl x .nil) (DR.ofPl y .nil) hd hd' (by rw [hb,ne_eq,ne_eq,dat_inj x y]) q
theorem op_eqL {a c : Addr} {l m : List PV} {b : Bool} {Q : PV->CH->Prop} (ha : σ a = some (.list l)) (hc : σ c = some (.list m)) (x : Pls l = true) (y : Pls m = true) (hd : PyData.depthAll (dats l)<=63) (hd' : PyData.depthAll (dats m)<=63)
  (hb : b = true ↔ l = m) (q : Q (.bool b) σ) : O2 C Rel (compareOp .Eq) (.ref a) (.ref c) ρ σ Q :=
 op_eq (.list ha (DR.ofPls x) .nil) (.list hc (DR.ofPls y) .nil) (by unfold Dp; simp [PyData.depth]; assumption) (by unfold Dp; simp [PyData.depth]; assumption) (by rw [hb]; simp [dats_inj x y]) q
theorem op_neL {a c : Addr} {l m : List PV} {b : Bool} {Q : PV->CH->Prop} (ha : σ a = some (.list l)) (hc : σ c = some (.list m)) (x : Pls l = true) (y : Pls m = true) (hd : PyData.depthAll (dats l)<=63) (hd' : PyData.depthAll (dats m)<=63)
  (hb : b = true ↔ l ≠ m) (q : Q (.bool b) σ) : O2 C Rel (compareOp .NotEq) (.ref a) (.ref c) ρ σ Q :=
 op_ne (.list ha (DR.ofPls x) .nil) (.list hc (DR.ofPls y) .nil) (by unfold Dp; simp [PyData.depth]; assumption) (by unfold Dp; simp [PyData.depth]; assumption) (by rw [hb]; simp [dats_inj x y]) q
theorem op_add {i j : Int} {Q : PV->CH->Prop} (q : Q (.int (i + j)) σ) : O2 C Rel (binaryOp .Add) (.int i) (.int j) ρ σ Q := by
 intro A s v w G S h'1 h'2; refine La.x1_1 h'1 λ t h'3 => ?_; clear h'1; subst h'3; refine La.x1_1 h'2 λ u h'4 => ?_; clear h'2; subst h'4; exact wpAny_add_int (PG.now S q ⟨_,rfl⟩)
theorem op_sub {i j : Int} {Q : PV->CH->Prop} (q : Q (.int (i - j)) σ) : O2 C Rel (binaryOp .Sub) (.int i) (.int j) ρ σ Q := by
 intro A s v w G S h'1 h'2; refine La.x1_1 h'1 λ t h'3 => ?_; clear h'1; subst h'3; refine La.x1_1 h'2 λ u h'4 => ?_; clear h'2; subst h'4; exact PyProof.Rows.sub_int (PG.now S q ⟨_,rfl⟩)
theorem op_mod {i j : Int} {Q : PV->CH->Prop} (hj : j ≠ 0) (q : Q (.int (i.fmod j)) σ) : O2 C Rel (binaryOp .Mod) (.int i) (.int j) ρ σ Q := by
 intro A s v w G S h'1 h'2; refine La.x1_1 h'1 λ t h'3 => ?_; clear h'1; subst h'3; refine La.x1_1 h'2 λ u h'4 => ?_; clear h'2; subst h'4; exact mod_int' hj (PG.now S q ⟨_,rfl⟩)
theorem op_div1013 {i : Int} {Q : PV->CH->Prop} (q : Q (.int (i.fdiv 1013)) σ) : O2 C Rel (binaryOp .FloorDiv) (.int i) (.int 1013) ρ σ Q := by
 intro A s v w G S h'1 h'2; refine La.x1_1 h'1 λ t h'3 => ?_; clear h'1; subst h'3; refine La.x1_1 h'2 λ u h'4 => ?_; clear h'2; subst h'4; exact floordiv_int (by decide) (PG.now S q ⟨_,rfl⟩)
theorem op_mul {i j : Int} {Q : PV->CH->Prop} (h1 : 0<=i) (h2 : i < 1000000) (h3 : 0<=j) (h4 : j < 1000000) (q : Q (.int (i * j)) σ) : O2 C Rel (binaryOp .Mult) (.int i) (.int j) ρ σ Q := by
 intro A s v w G S h'1 h'2; refine La.x1_1 h'1 λ t h'3 => ?_; clear h'1; subst h'3; refine La.x1_1 h'2 λ u h'4 => ?_; clear h'2; subst h'4; exact PyProof.Rows.mul_int (PG.now S q ⟨_,rfl⟩)
theorem op_neg {i : Int} {Q : PV->CH->Prop} (q : Q (.int (-i)) σ) : O1 C Rel (unaryOp .USub) (.int i) ρ σ Q := by
 intro A s v G S; refine La.y1_1 λ t h'1 => ?_; subst h'1; exact neg_int (PG.now S q ⟨_,rfl⟩)
theorem op_eqI {i j : Int} {Q : PV->CH->Prop} (q : Q (.bool (i == j)) σ) : O2 C Rel (compareOp .Eq) (.int i) (.int j) ρ σ Q := by
 intro A s v w G S h'1 h'2; refine La.x1_1 h'1 λ t h'3 => ?_; clear h'1; subst h'3; refine La.x1_1 h'2 λ u h'4 => ?_; clear h'2; subst h'4; exact PyProof.Rows.eq_int (PG.now' S q rfl)
theorem op_neI {i j : Int} {Q : PV->CH->Prop} (q : Q (.bool (i != j)) σ) : O2 C Rel (compareOp .NotEq) (.int i) (.int j) ρ σ Q := by
 intro A s v w G S h'1 h'2; refine La.x1_1 h'1 λ t h'3 => ?_; clear h'1; subst h'3; refine La.x1_1 h'2 λ u h'4 => ?_; clear h'2; subst h'4; exact PyProof.Rows.ne_int (PG.now' S q rfl)
theorem op_ltI {i j : Int} {Q : PV->CH->Prop} (q : Q (.bool (decide (i < j))) σ) : O2 C Rel (compareOp .Lt) (.int i) (.int j) ρ σ Q := by
 intro A s v w G S h'1 h'2; refine La.x1_1 h'1 λ t h'3 => ?_; clear h'1; subst h'3; refine La.x1_1 h'2 λ u h'4 => ?_; clear h'2; subst h'4; exact PyProof.Rows.lt_int (PG.now' S q rfl)
theorem op_gtI {i j : Int} {Q : PV->CH->Prop} (q : Q (.bool (decide (j < i))) σ) : O2 C Rel (compareOp .Gt) (.int i) (.int j) ρ σ Q := by
 intro A s v w G S h'1 h'2; refine La.x1_1 h'1 λ t h'3 => ?_; clear h'1; subst h'3; refine La.x1_1 h'2 λ u h'4 => ?_; clear h'2; subst h'4; exact PyProof.Rows.gt_int (PG.now' S q rfl)
theorem op_geI {i j : Int} {Q : PV->CH->Prop} (q : Q (.bool (decide (j<=i))) σ) : O2 C Rel (compareOp .GtE) (.int i) (.int j) ρ σ Q := by
 intro A s v w G S h'1 h'2; refine La.x1_1 h'1 λ t h'3 => ?_; clear h'1; subst h'3; refine La.x1_1 h'2 λ u h'4 => ?_; clear h'2; subst h'4; exact PyProof.Rows.ge_int (PG.now' S q rfl)
end
end Mine
end
section
open PySem PySem.W PySem.Calls PyProof.Rows PySem.Spec PySem.SeqAt
namespace Mine
theorem DR.ofLists {σ : CH} {l : List PV} {ds : List PyData} (x : DR σ l ds) : ds.length = l.length := by
 induction x <;> simp_all
theorem eqv_dat {V W : PV} (a : Pl V = true) (b : Pl W = true) : PyData.eqv (dat V) (dat W) = true ↔ V = W := by
 have hm : noMix (dat V) (dat W) = true := by
  have := (DR.ofPl (σ := λ _ => none) a .nil).noMix (DR.ofPl (σ := λ _ => none) b .nil)
  simpa [noMixAll] using this
 rw [<- same_eq_eqv _ _ hm,PyProof.Rows.same_iff,dat_inj a b]
theorem dats_map : ∀ l : List PV,dats l = l.map dat
 | [] => by unfold dats; rfl
 | V :: l => by unfold dats; rw [dats_map l]; rfl
theorem Pls_iff : ∀ {l : List PV},Pls l = true ↔ ∀ V ∈ l,Pl V = true
 | [] => by simp [Pls]
 | V :: l => by simp [Pls,Pls_iff (l := l)]
theorem any_dat {l : List PV} {V : PV} (a : Pls l = true) (b : Pl V = true) : ((dats l).any λ y => PyData.eqv y (dat V)) = true ↔ V ∈ l := by
 rw [dats_map,List.any_map,List.any_eq_true]
 constructor
 ·refine La.y1_2 λ W m e => ?_
  exact ((eqv_dat (Pls_iff.mp a W m) b).mp e) ▸ m
 ·exact λ m => ⟨V,m,(eqv_dat b b).mpr rfl⟩
theorem canLay0_dat {V : PV} (a : Pl V = true) : PyData.canLay0 (dat V) = true := by
 have := (DR.ofPl (σ := λ _ => none) a .nil).lay; simpa [PyData.canLayAll0] using this
theorem canLayAll0_dats {l : List PV} (a : Pls l = true) : PyData.canLayAll0 (dats l) = true := (DR.ofPls (σ := λ _ => none) a).lay
section
variable {C : Cx} {ρ : List (Str × PV)} {σ : CH}
theorem op_in_core {A : Around} {s : Shared} {v w : Value} {V : PV} {l : List PV} {b : Bool} {k : Value->Shared->Prop} {E : Value->Shared->Prop} (G : GA C A) {as bs : List Addr}
  (r1 : Reads s.heap w (.list (dats l)) as) (r2 : Reads s.heap v (dat V) bs) (hV : Pl V = true) (hl : Pls l = true) (hd : Dp (dat V)) (hb : b = true ↔ V ∈ l) :
  (k (.bool b) s->wpAny (md C) A (compareOp .In v w) k E s)/\(k (.bool (!b)) s->wpAny (md C) A (compareOp .NotIn v w) k E s) := by
 have e : ((dats l).any λ y => PyData.eqv y (dat V)) = b := by
  cases b with
  | true => exact (any_dat hl hV).mpr (hb.mp rfl)
  | false => cases q : (dats l).any λ y => PyData.eqv y (dat V) with
   | false => rfl
   | true => exact absurd (hb.mpr ((any_dat hl hV).mp q)) (by simp)
 have hu : A.units + 1 + min (PyData.depthAll (dats l)) (dat V).depth < cLine := by have := G.units; unfold Dp at hd; exact La.z107 hd this (La.mi _ _)
 exact ⟨λ q => in_list_reads r1 r2 (canLayAll0_dats hl) (canLay0_dat hV) hu (by rw [e]; exact q),λ q => notIn_list_reads r1 r2 (canLayAll0_dats hl) (canLay0_dat hV) hu (by rw [e]; exact q)⟩
theorem op_inL {a : Addr} {V : PV} {l : List PV} {b : Bool} {Q : PV->CH->Prop} (ha : σ a = some (.list l)) (hV : Pl V = true) (hl : Pls l = true) (hd : Dp (dat V)) (hb : b = true ↔ V ∈ l) (q : Q (.bool b) σ) :
  O2 C Rel (compareOp .In) V (.ref a) ρ σ Q := λ A s v w G S rv rw' => by
 refine La.x1_1 ((DR.ofPl hV .nil).read1 S.inv.1 rv) λ as r2 => ?_
 refine La.x1_1 ((DR.list ha (DR.ofPls hl) .nil).read1 S.inv.1 rw') λ bs r1 => ?_
 exact (op_in_core G r1 r2 hV hl hd hb).1 (PG.now' S q rfl)
theorem op_ninL {a : Addr} {V : PV} {l : List PV} {b : Bool} {Q : PV->CH->Prop} (ha : σ a = some (.list l)) (hV : Pl V = true) (hl : Pls l = true) (hd : Dp (dat V)) (hb : b = true ↔ V ∈ l) (q : Q (.bool (!b)) σ) :
  O2 C Rel (compareOp .NotIn) V (.ref a) ρ σ Q := λ A s v w G S rv rw' => by
 refine La.x1_1 ((DR.ofPl hV .nil).read1 S.inv.1 rv) λ as r2 => ?_
 refine La.x1_1 ((DR.list ha (DR.ofPls hl) .nil).read1 S.inv.1 rw') λ bs r1 => ?_
 exact (op_in_core G r1 r2 hV hl hd hb).2 (PG.now' S q rfl)
theorem op_inT {V : PV} {l : List PV} {b : Bool} {Q : PV->CH->Prop} (hV : Pl V = true) (hl : Pls l = true) (hd : Dp (dat V)) (hb : b = true ↔ V ∈ l) (q : Q (.bool b) σ) :
  O2 C Rel (compareOp .In) V (.tup l) ρ σ Q := λ A s v w G S rv rw' => by
 refine La.x1_1 ((DR.ofPl hV .nil).read1 S.inv.1 rv) λ as r2 => ?_
 refine La.x1_1 ((DR.tup (DR.ofPls hl) .nil).read1 S.inv.1 rw') λ bs r1 => ?_
 have e : ((dats l).any λ y => PyData.eqv y (dat V)) = b := by
  cases b with
  | true => exact (any_dat hl hV).mpr (hb.mp rfl)
  | false => cases q : (dats l).any λ y => PyData.eqv y (dat V) with
   | false => rfl
   | true => exact absurd (hb.mpr ((any_dat hl hV).mp q)) (by simp)
 exact in_tuple_reads r1 r2 (canLayAll0_dats hl) (canLay0_dat hV) (by have := G.units; unfold Dp at hd; exact La.z107 hd this (La.mi _ _)) (by rw [e]; exact PG.now' S q rfl)
theorem notSys {h : Heap} {a : Addr} {m : MO} (B : (∃ o,C.b.get? sysModules = some o)) (I : Inv C.prog C.w C.b σ h) (ha : σ a = some m) : (a == sysModules) = false := by
 cases q : a == sysModules with
 | false => rfl
 | true =>
  refine La.x1_1 B λ o e => ?_; clear B
  have := (I.2 _ _ e).2
  rw [<- (beq_iff_eq.mp q),ha] at this; cases this
theorem isInt_of {i : Int} {t : Tok} : (intKind C.prog C.w).is i (.int i t) = true := by show Value.isInt i (.int i t) = true; simp [Value.isInt]
theorem isStr_of {x : Str} {t : Tok} : (PySem.strKind C.prog C.w).is x (.str x t) = true := by show Value.isStrOf x (.str x t) = true; simp [Value.isStrOf]
noncomputable def at? {α : Type} [DecidableEq α] (k : α) : List (α × PV)->Option PV
 | [] => none
 | (x,v) :: r => if x = k then some v else at? k r
theorem at?_rel {α : Type} [DecidableEq α] {h : Heap} {k : α} : ∀ {l : List (α × PV)} {kvs : List (α × Value)},kvs.map (·.1) = l.map (·.1)->Rels h (l.map (·.2)) (kvs.map (·.2)) ->
  (match at? k l with | some V => ∃ v,valueAt kvs k = some v/\Rel h V v | none => valueAt kvs k = none)
 | [],[],_,_ => by simp [at?,valueAt]
 | [],_ :: _,e,_ => by simp at e
 | _ :: _,[],e,_ => by simp at e
 | (x,V) :: l,(y,v) :: kvs,e,r => by
  simp at e
  revert e; refine La.k2 λ h'1 e => ?_; subst h'1
  refine La.x2_3 (Rels.cons_inv r) λ v' r' e' p q => ?_
  simp at e'
  refine La.c2 e' λ h'1 h'2 => ?_; clear e'; subst h'1; subst h'2
  unfold at?
  by_cases hk : y = k
  ·simp [hk,valueAt]; exact p
  ·simp only [hk,if_false]
   have := at?_rel (k := k) e q
   have e2 : valueAt ((y,v) :: kvs) k = valueAt kvs k := by simp [valueAt,List.find?_cons,hk]
   rw [e2]; exact this
theorem op_inD {a : Addr} {i : Int} {l : List (Int × PV)} {Q : PV->CH->Prop} (B : ∃ o,C.b.get? sysModules = some o) (ha : σ a = some (.dictI l)) (q : Q (.bool (at? i l).isSome) σ) : O2 C Rel (compareOp .In) (.int i) (.ref a) ρ σ Q := by
 intro A s v w G S h'1 h'2; refine La.x1_1 h'1 λ t h'3 => ?_; clear h'1; subst h'3; subst h'2
 refine La.x1_3 (S.inv.1 _ _ ha) λ kvs hd e r => ?_
 have hx := at?_rel (k := i) e r
 refine wpAny_in_of (knd := intKind C.prog C.w) (k := i) isInt_of (notSys B S.inv ha) hd.mapOf ?_
 have : (valueAt kvs i).isSome = (at? i l).isSome := by
  cases z : at? i l with
  | none => rw [z] at hx; rw [show valueAt kvs i = none from hx]; rfl
  | some V => rw [z] at hx; refine La.x1_2 hx λ v e _ => ?_; clear hx; rw [e]; rfl
 first
  | (rw [this]; exact PG.now S q rfl)
  | (rw [this]; exact PG.now' S q rfl)
theorem op_ninD {a : Addr} {i : Int} {l : List (Int × PV)} {Q : PV->CH->Prop} (B : ∃ o,C.b.get? sysModules = some o) (ha : σ a = some (.dictI l)) (q : Q (.bool (!(at? i l).isSome)) σ) : O2 C Rel (compareOp .NotIn) (.int i) (.ref a) ρ σ Q := by
 intro A s v w G S h'1 h'2; refine La.x1_1 h'1 λ t h'3 => ?_; clear h'1; subst h'3; subst h'2
 refine La.x1_3 (S.inv.1 _ _ ha) λ kvs hd e r => ?_
 have hx := at?_rel (k := i) e r
 refine wpAny_notIn_of (knd := intKind C.prog C.w) (k := i) isInt_of (notSys B S.inv ha) hd.mapOf ?_
 have : (valueAt kvs i).isSome = (at? i l).isSome := by
  cases z : at? i l with
  | none => rw [z] at hx; rw [show valueAt kvs i = none from hx]; rfl
  | some V => rw [z] at hx; refine La.x1_2 hx λ v e _ => ?_; clear hx; rw [e]; rfl
 first
  | (rw [this]; exact PG.now S q rfl)
  | (rw [this]; exact PG.now' S q rfl)
theorem op_inS {a : Addr} {i : Int} {M : Int->Bool} {n : Nat} {Q : PV->CH->Prop} (ha : σ a = some (.set M n)) (q : Q (.bool (M i)) σ) : O2 C Rel (compareOp .In) (.int i) (.ref a) ρ σ Q := by
 intro A s v w G S h'1 h'2; refine La.x1_1 h'1 λ t h'3 => ?_; clear h'1; subst h'3; subst h'2
 exact wpAny_inSet_of (knd := intKind C.prog C.w) (k := i) isInt_of rfl (S.inv.1 _ _ ha) (PG.now S q rfl)
theorem op_ninS {a : Addr} {i : Int} {M : Int->Bool} {n : Nat} {Q : PV->CH->Prop} (ha : σ a = some (.set M n)) (q : Q (.bool (!M i)) σ) : O2 C Rel (compareOp .NotIn) (.int i) (.ref a) ρ σ Q := by
 intro A s v w G S h'1 h'2; refine La.x1_1 h'1 λ t h'3 => ?_; clear h'1; subst h'3; subst h'2
 exact wpAny_notInSet_of (knd := intKind C.prog C.w) (k := i) isInt_of rfl (S.inv.1 _ _ ha) (PG.now S q rfl)
theorem op_isNone {V : PV} {b : Bool} {Q : PV->CH->Prop} (hb : (V = .none/\b = true)\/(∃ l,V = .tup l/\b = false)) (q : Q (.bool b) σ) : O2 C Rel (compareOp .Is) V .none ρ σ Q := by
 rintro A s v w G S rv rfl
 rcases hb with ⟨rfl,rfl⟩ | ⟨l,rfl,rfl⟩
 ·cases (show v = .none from rv)
  exact wpAny_is_self rfl (PG.now' S q rfl)
 ·unfold Rel at rv
  refine La.x3_2 rv λ a items n h'1 _ => ?_; clear rv; subst h'1
  exact wpAny_is_other rfl (by simp) (PG.now' S q rfl)
theorem op_addL {a c : Addr} {l m : List PV} {Q : PV->CH->Prop} (ha : σ a = some (.list l)) (hc : σ c = some (.list m)) (hsz : l.length + m.length<=100000) (q : ∀ x,σ x = none->Q (.ref x) (upd σ x (.list (l ++ m)))) :
  O2 C Rel (binaryOp .Add) (.ref a) (.ref c) ρ σ Q := by
 rintro A s v w G S rfl rfl
 refine La.x2_2 (S.inv.1 _ _ ha) λ i1 n1 g1 r1 => ?_
 refine La.x2_2 (S.inv.1 _ _ hc) λ i2 n2 g2 r2 => ?_
 have e1 := r1.length
 have e2 := r2.length
 simp at e1 e2
 refine P.add_list g1 g2 (PG.made (t := s.toks) S ?_ q) (by rw [sizeLine_eq]; exact La.l3 (.L (.a .x0 .x1) (.l 100000)) (.Q .x0 .x2) (.Q .x1 .x3) (.L (.a .x2 .x3) (.l 16777216)) [[1,0,1,0,1,1]] rfl [_,_,_,_] [] hsz e1 e2)
 exact ⟨_,0,Heap.get?_push_size _ rfl,by simpa using KeepT.rels (λ _ _ e _ => Heap.get?_push_of_some _ e) (r1.append r2)⟩
theorem EV.sub {value slice : Expr} {pos : Pos} {Q : PV->CH->Prop} (h : EV C value ρ σ λ V σ₁ => EV C slice ρ σ₁ λ W σ₂ => O2 C Rel (subscriptTail value slice) V W ρ σ₂ Q) : EV C (.Subscript value slice pos) ρ σ Q :=
 λ A s G S => Subscript_ (h.seq G S λ V a σ₁ s₁ h₁ r₁ S₁ st₁ _ => h₁.seqE G S₁ (λ _ _ x => PX.up st₁ x) (λ W b σ₂ s₂ h₂ r₂ S₂ st₂ k₂ => up (st₁.trans st₂) (h₂ A s₂ a b G S₂ (k₂.rel r₁) r₂)))
theorem subTail {A : Around} {s : Shared} {value slice : Expr} {o i : Value} {T id : String} {ops : List Value} {Q E : Value->Shared->Prop} (hT : s.TypeIs o T) (hl : typeLookup (.type T) "__getitem__" = pure (some (.builtin id)))
  (hs : subscripted slice false o i = operate ops (getItem o i)) (h : wpAny (md C) A (getItem o i) Q E s) : wpAny (md C) A (subscriptTail value slice o i) Q E s := by
 unfold subscriptTail
 refine wpAny_bind ?_
 rw [getitemInPython_of_ne hT.not_modules]
 refine wpAny_bind (wpAny_specialOf hT hl ?_)
 have fin : wpAny (md C) A (subscripted slice false o i) (λ r s₃ => wpAny (md C) A (letTemporaryGo value o r >>= λ _ => pure r) Q E s₃) E s := by
  rw [hs]
  exact wpAny_operating (wpAny_mono h (λ r s₃ h₃ => wpAny_bind (wpAny_letTemporaryGo (wpAny_pure h₃))) λ _ _ x => x)
 first
  | exact wpAny_pure (wpAny_bind fin)
  | exact wpAny_bind (wpAny_pure (wpAny_bind fin))
  | exact wpAny_bind fin
theorem op_subL {value slice : Expr} {a : Addr} {l : List PV} {i : Int} {V : PV} {Q : PV->CH->Prop} (ha : σ a = some (.list l)) (h0 : 0<=i) (hV : l[i.toNat]? = some V) (hsz : i < 1000000) (q : Q V σ)
  (hs : ∀ o j,subscripted slice false o j = operate [o,j] (getItem o j) := by intro _ _; rfl) : O2 C Rel (subscriptTail value slice) (.ref a) (.int i) ρ σ Q := by
 intro A s v w G S h'1 h'2; subst h'1; refine La.x1_1 h'2 λ t h'3 => ?_; clear h'2; subst h'3
 refine La.x2_2 (S.inv.1 _ _ ha) λ i1 n1 g1 r1 => ?_
 refine La.x1_2 (r1.get hV) λ x e r => ?_
 exact subTail (T := "list") ⟨_,g1,rfl⟩ slot_list_getitem.lookup (hs _ _) (wpAny_getItem_list ⟨_,g1,rfl,_,rfl⟩ h0 (by omega) (by simpa using e) (PG.now' S q r))
theorem op_subT {value slice : Expr} {l : List PV} {i : Int} {V : PV} {Q : PV->CH->Prop} (h0 : 0<=i) (hV : l[i.toNat]? = some V) (hsz : i < 1000000) (q : Q V σ)
  (hs : ∀ o j,subscripted slice false o j = operate [o,j] (getItem o j) := by intro _ _; rfl) : O2 C Rel (subscriptTail value slice) (.tup l) (.int i) ρ σ Q := by
 intro A s v w G S rv; refine La.y1_1 λ t h'1 => ?_; subst h'1
 unfold Rel at rv
 refine La.x3_3 rv λ a items n h'1 g1 r1 => ?_; clear rv; subst h'1
 refine La.x1_2 (r1.get hV) λ x e r => ?_
 have hlt : i.toNat < items.size := by
  have := (List.getElem?_eq_some_iff.mp e).1; simpa using this
 have hj : seqIndex? i items.size = some i.toNat := by
  have h1 : ¬ i < 0 := by exact La.l1 (.l .l0 .x0) (.n (.t .x0 .l0)) [[1,1]] rfl [] [_] h0
  have h2 : i < (items.size : Int) := by exact La.l2 (.L (.a .x0 .l1) .x1) (.o (.w (.l .l0 .x0) (.q (.c .x0) .x0)) (.w (.l (.a .x0 .l1) .l0) (.Q .x0 .l0))) (.l (.a .x0 .l1) (.c .x1)) [[1,0,0,1,1],[0,1,0,0,1]] rfl [_,_] [_] hlt (La.tn _)
  simp [seqIndex?,h1,h0,h2]
 exact subTail (T := "tuple") ⟨_,g1,rfl⟩ slot_tuple_getitem.lookup (hs _ _) (getItem_tuple (j := i.toNat) ⟨_,g1,rfl,_,rfl⟩ (by omega) (by omega) hj (by simpa using e) (PG.now' S q r))
theorem op_subD {value slice : Expr} {a : Addr} {l : List (Int × PV)} {i : Int} {V : PV} {Q : PV->CH->Prop} (ha : σ a = some (.dictI l)) (hV : at? i l = some V) (q : Q V σ)
  (hs : ∀ o j,subscripted slice false o j = operate [o,j] (getItem o j) := by intro _ _; rfl) : O2 C Rel (subscriptTail value slice) (.ref a) (.int i) ρ σ Q := by
 intro A s v w G S h'1 h'2; subst h'1; refine La.x1_1 h'2 λ t h'3 => ?_; clear h'2; subst h'3
 refine La.x1_3 (S.inv.1 _ _ ha) λ kvs hd e r => ?_
 have hx := at?_rel (k := i) e r
 rw [hV] at hx
 refine La.x1_2 hx λ v ev rv => ?_; clear hx
 refine subTail (T := "dict") hd.typeIs F.slot_dict_getitem.lookup (hs _ _) (wpAny_getItem_of (knd := intKind C.prog C.w) (k := i) isInt_of hd.mapOf ev ?_)
 first | exact PG.now' S q rv | exact PG.now S q rv
theorem slicePick_upto' (items : Array Value) (k : Nat) : slicePick items none (some k) none = (items.toList.take k).toArray := by
 by_cases h : k<=items.size
 ·exact slicePick_upto items k h
 ·have : slicePick items none (some (k : Int)) none = slicePick items none (some (items.size : Int)) none := by
   unfold slicePick sliceBounds
   simp
   have h1 : ¬ (k : Int) < 0 := by exact La.z35
   have h2 : ¬ (items.size : Int) < 0 := by exact La.z35
   simp [h1,h2]
   rw [show min (k : Int) (items.size : Int) = (items.size : Int) by exact La.l2 (.n (.L .x0 .x1)) (.o (.w (.l (.c .x0) (.c .x1)) (.q .x0 (.c .x0))) (.w (.l (.a (.c .x1) .l1) (.c .x0)) (.q .x0 (.c .x1)))) (.q .x0 (.c .x1)) [[1,1,0,0,0],[1,1,0,0,0],[0,0,0,1,1],[0,0,1,0,1]] rfl [_,_] [_] h (La.mI _ _)]
   try simp
  rw [this,slicePick_upto items _ (Nat.le_refl _)]
  rw [List.take_of_length_le (by simp),List.take_of_length_le (by simp; exact La.l1 (.n (.L .x0 .x1)) (.L .x1 .x0) [[1,1]] rfl [_,_] [] h)]
theorem EV.sliceHi {value hi : Expr} {p pos : Pos} {Q : PV->CH->Prop} (h : EV C value ρ σ λ V σ₁ => EV C hi ρ σ₁ λ W σ₂ => ∃ a l,∃ k : Nat,V = .ref a/\W = .int k/\σ₂ a = some (.list l)/\l.length<=100000/\∀ c,σ₂ c = .none->Q (.ref c) (upd σ₂ c (.list (l.take k)))) :
  EV C (.Subscript value (.Slice none (some hi) none p) pos) ρ σ Q :=
 λ A s G S => Subscript_ (h.seq G S λ V a σ₁ s₁ h₁ r₁ S₁ st₁ _ => wpAny_Slice (wpAny_evalPart_none (wpAny_evalPart_some (h₁.seqE G S₁ (λ _ _ x => PX.up st₁ x) (λ W b σ₂ s₂ h₂ r₂ S₂ st₂ k₂ => wpAny_evalPart_none (by
  refine La.x3_5 h₂ λ x l k h'1 h'2 e hsz q => ?_; clear h₂; subst h'1; subst h'2
  have r₁' := k₂.rel r₁
  cases r₁'
  refine La.x1_1 r₂ λ t h'1 => ?_; clear r₂; subst h'1
  refine La.x2_2 (S₂.inv.1 _ _ e) λ i1 n1 g1 r1 => ?_
  have el := r1.length
  simp at el
  have I₂ := S₂.inv.grow (s := s₂) (t := s₂.toks) (h' := s₂.heap.push { cls := .type "slice",data := .fields #[.none,.int k t,.none] }) (λ a o e => Heap.get?_push_of_some _ e) []
  have S₃ := S₂.step I₂.1 I₂.2
  refine up ((st₁.trans st₂).trans I₂.2) ?_
  have g1' : (s₂.heap.push { cls := .type "slice",data := .fields #[.none,.int k t,.none] }).get? x = some (listO i1 n1) := Heap.get?_push_of_some _ g1
  refine subTail (s := { s₂ with heap := s₂.heap.push { cls := .type "slice",data := .fields #[.none,.int k t,.none] } }) (T := "list") (ops := [.ref s₂.heap.objs.size,.ref x]) ⟨_,g1',rfl⟩ slot_list_getitem.lookup rfl ?_
  refine wpAny_getItem_list_slice (lo := none) (hi := some (k : Int)) (st := none) ⟨_,g1',rfl,_,rfl⟩ (Heap.IsSliceOf.new ..) .none (.int _ _) .none (by simp) ?_ (by rw [sizeLine_eq]; exact La.z24 hsz el)
  refine PG.made (t := s₂.toks) S₃ ?_ q
  refine ⟨_,0,Heap.get?_push_size _ rfl,?_⟩
  rw [slicePick_upto']
  exact KeepT.rels (λ _ _ e _ => Heap.get?_push_of_some _ e) (KeepT.rels (λ _ _ e _ => Heap.get?_push_of_some _ e) (r1.take k))))))))
theorem EV.sliceLo {value lo : Expr} {p pos : Pos} {Q : PV->CH->Prop} (h : EV C value ρ σ λ V σ₁ => EV C lo ρ σ₁ λ W σ₂ => ∃ a l,∃ k : Nat,V = .ref a/\W = .int k/\σ₂ a = some (.list l)/\k<=l.length/\l.length<=100000/\∀ c,σ₂ c = .none->Q (.ref c) (upd σ₂ c (.list (l.drop k)))) :
  EV C (.Subscript value (.Slice (some lo) none none p) pos) ρ σ Q :=
 λ A s G S => Subscript_ (h.seq G S λ V a σ₁ s₁ h₁ r₁ S₁ st₁ _ => wpAny_Slice (wpAny_evalPart_some (h₁.seqE G S₁ (λ _ _ x => PX.up st₁ x) (λ W b σ₂ s₂ h₂ r₂ S₂ st₂ k₂ => wpAny_evalPart_none (wpAny_evalPart_none (by
  refine La.x3_6 h₂ λ x l k h'1 h'2 e hk hsz q => ?_; clear h₂; subst h'1; subst h'2
  have r₁' := k₂.rel r₁
  cases r₁'
  refine La.x1_1 r₂ λ t h'1 => ?_; clear r₂; subst h'1
  refine La.x2_2 (S₂.inv.1 _ _ e) λ i1 n1 g1 r1 => ?_
  have el := r1.length
  simp at el
  have I₂ := S₂.inv.grow (s := s₂) (t := s₂.toks) (h' := s₂.heap.push { cls := .type "slice",data := .fields #[.int k t,.none,.none] }) (λ a o e => Heap.get?_push_of_some _ e) []
  have S₃ := S₂.step I₂.1 I₂.2
  refine up ((st₁.trans st₂).trans I₂.2) ?_
  have g1' : (s₂.heap.push { cls := .type "slice",data := .fields #[.int k t,.none,.none] }).get? x = some (listO i1 n1) := Heap.get?_push_of_some _ g1
  refine subTail (s := { s₂ with heap := s₂.heap.push { cls := .type "slice",data := .fields #[.int k t,.none,.none] } }) (T := "list") (ops := [.ref s₂.heap.objs.size,.ref x]) ⟨_,g1',rfl⟩ slot_list_getitem.lookup rfl ?_
  refine wpAny_getItem_list_slice (lo := some (k : Int)) (hi := none) (st := none) ⟨_,g1',rfl,_,rfl⟩ (Heap.IsSliceOf.new ..) (.int _ _) .none .none (by simp) ?_ (by rw [sizeLine_eq]; exact La.z24 hsz el)
  refine PG.made (t := s₂.toks) S₃ ?_ q
  refine ⟨_,0,Heap.get?_push_size _ rfl,?_⟩
  rw [slicePick_from _ _ (by exact La.z36 hk el)]
  exact KeepT.rels (λ _ _ e _ => Heap.get?_push_of_some _ e) (KeepT.rels (λ _ _ e _ => Heap.get?_push_of_some _ e) (r1.drop k))))))))
theorem EV.sliceLH {value lo hi : Expr} {p pos : Pos} {Q : PV->CH->Prop} (h : EV C value ρ σ λ V σ₁ => EV C lo ρ σ₁ λ W σ₂ => EV C hi ρ σ₂ λ U σ₃ => ∃ a l,∃ j k : Nat,V = .ref a/\W = .int j/\U = .int k/\σ₃ a = some (.list l)/\j<=k/\k<=l.length/\l.length<=100000/\∀ c,σ₃ c = .none->Q (.ref c) (upd σ₃ c (.list ((l.drop j).take (k - j))))) :
  EV C (.Subscript value (.Slice (some lo) (some hi) none p) pos) ρ σ Q :=
 λ A s G S => Subscript_ (h.seq G S λ V a σ₁ s₁ h₁ r₁ S₁ st₁ _ => wpAny_Slice (wpAny_evalPart_some (h₁.seqE G S₁ (λ _ _ x => PX.up st₁ x) (λ W b σ₂ s₂ h₂ r₂ S₂ st₂ k₂ => wpAny_evalPart_some (h₂.seqE G S₂ (λ _ _ x => PX.up (st₁.trans st₂) x) (λ U c σ₃ s₃ h₃ r₃ S₃ st₃ k₃ => wpAny_evalPart_none (by
  refine La.x4_8 h₃ λ x l j k h'1 h'2 h'3 e hj hk hsz q => ?_; clear h₃; subst h'1; subst h'2; subst h'3
  have r₁' := k₃.rel (k₂.rel r₁)
  cases r₁'
  refine La.x1_1 (k₃.rel r₂) λ u h'1 => ?_; subst h'1
  refine La.x1_1 r₃ λ t h'1 => ?_; clear r₃; subst h'1
  refine La.x2_2 (S₃.inv.1 _ _ e) λ i1 n1 g1 r1 => ?_
  have el := r1.length
  simp at el
  have I₂ := S₃.inv.grow (s := s₃) (t := s₃.toks) (h' := s₃.heap.push { cls := .type "slice",data := .fields #[.int j u,.int k t,.none] }) (λ a o e => Heap.get?_push_of_some _ e) []
  have S₄ := S₃.step I₂.1 I₂.2
  refine up (((st₁.trans st₂).trans st₃).trans I₂.2) ?_
  have g1' : (s₃.heap.push { cls := .type "slice",data := .fields #[.int j u,.int k t,.none] }).get? x = some (listO i1 n1) := Heap.get?_push_of_some _ g1
  refine subTail (s := { s₃ with heap := s₃.heap.push { cls := .type "slice",data := .fields #[.int j u,.int k t,.none] } }) (T := "list") (ops := [.ref s₃.heap.objs.size,.ref x]) ⟨_,g1',rfl⟩ slot_list_getitem.lookup rfl ?_
  refine wpAny_getItem_list_slice (lo := some (j : Int)) (hi := some (k : Int)) (st := none) ⟨_,g1',rfl,_,rfl⟩ (Heap.IsSliceOf.new ..) (.int _ _) (.int _ _) .none (by simp) ?_ (by rw [sizeLine_eq]; exact La.z24 hsz el)
  refine PG.made (t := s₃.toks) S₄ ?_ q
  refine ⟨_,0,Heap.get?_push_size _ rfl,?_⟩
  rw [slicePick_run _ _ _ (by exact La.z36 hk el) hj]
  exact KeepT.rels (λ _ _ e _ => Heap.get?_push_of_some _ e) (KeepT.rels (λ _ _ e _ => Heap.get?_push_of_some _ e) ((r1.drop j).take (k - j))))))))))
end
end Mine
end
section
open PySem PySem.W PySem.Calls PyProof.Rows PySem.Spec PySem.SeqAt
namespace Mine
inductive Fl where
 | next | brk | cont
 | ret (V : PV)
noncomputable def FlR (h : Heap) : Fl->Flow->Prop
 | .next,f => f = .next
 | .brk,f => f = .brk
 | .cont,f => f = .cont
 | .ret V,f => ∃ v,f = .ret v/\Rel h V v
noncomputable abbrev Loc' := List (Str × PV)
noncomputable def PS (C : Cx) (Q : Fl->Loc'->CH->Prop) (σ : CH) (s : Shared) : Flow->Shared->Prop := λ f s' =>
 ∃ fl ρ' σ',Q fl ρ' σ'/\FlR s'.heap fl f/\St C ρ' σ' s'.heap/\Step C.O σ s s' σ'
section
variable {C : Cx} {ρ : Loc'} {σ : CH}
noncomputable def EX (C : Cx) (stmts : List Stmt) (ρ : Loc') (σ : CH) (Q : Fl->Loc'->CH->Prop) : Prop :=
 ∀ A s,GA C A->St C ρ σ s.heap->wpAny (md C) A (execs stmts C.env) (PS C Q σ s) (PX C σ s) s
noncomputable def ES (C : Cx) (st : Stmt) (ρ : Loc') (σ : CH) (Q : Fl->Loc'->CH->Prop) : Prop :=
 ∀ A s,GA C A->St C ρ σ s.heap->wpAny (md C) A (exec st C.env) (PS C Q σ s) (PX C σ s) s
theorem PX.upO {σ σ₁ : CH} {s s₁ : Shared} (st : Step C.O σ s s₁ σ₁) {e : Value} {s' : Shared} (x : PX C σ₁ s₁ e s') : PX C σ s e s' := by
 refine La.x1_3 x λ σ' a b c => ?_; clear x
 exact ⟨σ',a,b,st.trans c⟩
theorem PS.upO {Q : Fl->Loc'->CH->Prop} {σ σ₁ : CH} {s s₁ : Shared} (st : Step C.O σ s s₁ σ₁) {f : Flow} {s' : Shared} (x : PS C Q σ₁ s₁ f s') : PS C Q σ s f s' := by
 refine La.x3_4 x λ fl ρ' σ' q r i y => ?_; clear x
 exact ⟨fl,ρ',σ',q,r,i,st.trans y⟩
theorem upS {A : Around} {α : Type} {t : Sem α} {k : α->Flow} {Q : Fl->Loc'->CH->Prop} {σ σ₁ : CH} {s s₁ : Shared} (st : Step C.O σ s s₁ σ₁)
  (h : wpAny (md C) A t (λ a => PS C Q σ₁ s₁ (k a)) (PX C σ₁ s₁) s₁) : wpAny (md C) A t (λ a => PS C Q σ s (k a)) (PX C σ s) s₁ :=
 wpAny_mono h (λ _ _ x => PS.upO st x) λ _ _ x => PX.upO st x
theorem Step.O {σ σ₁ : CH} {s s₁ : Shared} (st : Step [] σ s s₁ σ₁) : Step C.O σ s s₁ σ₁ := st.wider (by simp)
theorem PS.now {Q : Fl->Loc'->CH->Prop} {s : Shared} {fl : Fl} {f : Flow} (S : St C ρ σ s.heap) (q : Q fl ρ σ) (r : FlR s.heap fl f) : PS C Q σ s f s := ⟨fl,ρ,σ,q,r,S,Step.refl⟩
theorem EX.nil {Q : Fl->Loc'->CH->Prop} (q : Q .next ρ σ) : EX C [] ρ σ Q := λ A s G S => wpAny_execs_nil (PS.now S q rfl)
theorem EX.cons {st : Stmt} {rest : List Stmt} {Q : Fl->Loc'->CH->Prop} (h : ES C st ρ σ λ fl ρ' σ' => match fl with | .next => EX C rest ρ' σ' Q | f => Q f ρ' σ') : EX C (st :: rest) ρ σ Q :=
 λ A s G S => wpAny_execs_cons (wpAny_mono (h A s G S) (λ f s₁ x => by
  refine La.x3_4 x λ fl ρ' σ' q r i y => ?_; clear x
  cases fl with
  | next => cases r; exact upS (k := id) y (q A s₁ G i)
  | brk => cases r; exact ⟨_,_,_,q,rfl,i,y⟩
  | cont => cases r; exact ⟨_,_,_,q,rfl,i,y⟩
  | ret V => revert r; refine La.y1_2 λ v h'1 r => ?_; subst h'1; exact ⟨_,_,_,q,⟨v,rfl,r⟩,i,y⟩) λ _ _ x => x)
theorem EX.mono {l : List Stmt} {Q Q' : Fl->Loc'->CH->Prop} (h : EX C l ρ σ Q) (hq : ∀ f ρ' σ',Q f ρ' σ'->Q' f ρ' σ') : EX C l ρ σ Q' :=
 λ A s G S => wpAny_mono (h A s G S) (λ _ _ => La.y3_2 λ fl ρ' σ' q r => ⟨fl,ρ',σ',hq _ _ _ q,r⟩) λ _ _ x => x
theorem ns_noTup {h : Heap} {a : Addr} {m} (x : h.Ns a m) : ∀ o,h.get? a = some o->¬ TupLike o := by
 refine La.x3_3 x λ o es ep e d _ => ?_; clear x
 intro o' e'; refine La.k2 λ _ h'1 => ?_; refine La.x2_1 h'1 λ vs n q => ?_; clear h'1
 rw [e] at e'; cases e'; rw [d] at q; cases q
theorem cell_noTup {h : Heap} {a : Addr} {v} (x : h.IsCell a v) : ∀ o,h.get? a = some o->¬ TupLike o := by
 refine La.x1_2 x λ o e d => ?_; clear x
 intro o' e'; refine La.k2 λ _ h'1 => ?_; refine La.x2_1 h'1 λ vs n q => ?_; clear h'1
 rw [e] at e'; cases e'; rw [d] at q; cases q
theorem ns_ne_cell {h : Heap} {a c : Addr} {m v} (x : h.Ns a m) (y : h.IsCell c v) : c ≠ a := by
 rintro rfl
 refine La.x3_3 x λ o es ep e d _ => ?_; clear x
 refine La.x1_2 y λ o' e' d' => ?_; clear y
 rw [e] at e'; cases e'; rw [d] at d'; cases d'
theorem St.storeL {s : Shared} {h' : Heap} {t : Nat} {x : Str} {V : PV} {v : Value} {m : Str->Option Value} (S : St C ρ σ s.heap) (r : Rel s.heap V v) (hk : C.env.kindOf x = some .local)
  (hm0 : s.heap.Ns C.env.locals m) (hm : ∀ y V,lk y ρ = some V->C.env.kindOf y = some .local->∃ v,m y = some v/\Rel s.heap V v)
  (hn : h'.Ns C.env.locals (λ y => if y = x then some v else m y)) (hs : Heap.SameBut C.env.locals s.heap h') :
  St C ((x,V) :: ρ) σ h'/\Step C.O σ s { s with heap := h',toks := t } σ/\KeepT s.heap h' := by
 have ex := Heap.SameBut.extBut hs
 refine La.c2 (S.inv.own (t := t) S.fe.locO (S.own _ S.fe.locO).1 (S.fe.ownB _ S.fe.locO) (ns_noTup hm0) ex) λ I st => ?_
 have kt : KeepT s.heap h' := λ a o e t => ex a o (λ q => ns_noTup hm0 o (q ▸ e) t) e
 obtain ⟨inv,fe,loc,own,free,fr,frO⟩ := S
 refine ⟨⟨I,fe,⟨⟨_,hn,λ y W e f => ?_⟩,λ y W e f => ?_,λ y f => ?_⟩,λ a ha => ?_,λ y c e => ?_,?_,λ e he a f g => ?_⟩,st,kt⟩
 ·unfold lk at e
  by_cases hy : y = x
  ·simp only [hy,if_true] at e ⊢; cases e; exact ⟨v,rfl,kt.rel r⟩
  ·simp only [hy,if_false] at e ⊢
   refine La.x1_2 (hm y W e f) λ u a b => ?_
   exact ⟨u,a,kt.rel b⟩
 ·have hy : y ≠ x := λ q => by subst q; rw [hk] at f; rcases f with f | f <;> cases f
  simp only [lk,hy,if_false] at e
  refine La.x2_3 (loc.cell y W e f) λ c u a b d => ?_
  exact ⟨c,u,a,IsCell.keep1 b λ o g => ex c o (ns_ne_cell hm0 b) g,kt.rel d⟩
 ·refine La.x2_2 (loc.slot y f) λ c u a b => ?_
  exact ⟨c,u,a,IsCell.keep1 b λ o g => ex c o (ns_ne_cell hm0 b) g⟩
 ·refine La.c2 (own a ha) λ q h'1 => ?_; refine La.x1_2 h'1 λ o e d => ?_; clear h'1
  refine ⟨q,?_⟩
  by_cases z : a = C.env.locals
  ·subst z
   refine La.x3_3 hn λ o es ep e d _ => ?_; clear hn
   exact ⟨o,e,λ vs n q => by rw [d] at q; cases q⟩
  ·exact ⟨o,ex a o z e,d⟩
 ·refine La.c2 (free y c e) λ q h'1 => ?_; refine La.x1_1 h'1 λ o g => ?_; clear h'1
  by_cases z : c = C.env.locals
  ·subst z; refine La.x3_2 hn λ o _ _ e _ => ?_; clear hn; exact ⟨q,o,e⟩
  ·exact ⟨q,o,ex c o z g⟩
 ·refine FrOk.step (s' := { s with heap := h',toks := t }) fr st λ e he a f g => ?_
  refine La.x1_1 (frO e he a f g) λ m' hm' => ?_
  by_cases z : a = C.env.locals
  ·subst z; refine La.x3_3 hn λ o es ep e d _ => ?_; clear hn; exact ⟨(own _ g).1,o,e,Frm.of d⟩
  ·refine La.x3_3 hm' λ o es ep e d _ => ?_; clear hm'; exact ⟨(own _ g).1,o,ex a o z e,Frm.of d⟩
 ·refine La.x1_1 (frO e he a f g) λ m' hm' => ?_
  by_cases z : a = C.env.locals
  ·subst z; exact ⟨_,hn⟩
  ·exact ⟨m',Ns.keep1 hm' λ o q => ex a o z q⟩
theorem St.storeC {s : Shared} {h' : Heap} {t : Nat} {x : Str} {c : Addr} {V : PV} {v : Value} {v₀ : Option Value} (S : St C ρ σ s.heap) (r : Rel s.heap V v) (hk : C.env.kindOf x = some .cell)
  (hc : C.env.cells.lookup x = some c) (hv : s.heap.IsCell c v₀) (hn : h'.IsCell c (some v)) (hs : Heap.SameBut c s.heap h') :
  St C ((x,V) :: ρ) σ h'/\Step C.O σ s { s with heap := h',toks := t } σ/\KeepT s.heap h' := by
 have ex := Heap.SameBut.extBut hs
 have cO := S.fe.cellO x c hk hc
 refine La.c2 (S.inv.own (t := t) cO (S.own _ cO).1 (S.fe.ownB _ cO) (cell_noTup hv) ex) λ I st => ?_
 have kt : KeepT s.heap h' := λ a o e t => ex a o (λ q => cell_noTup hv o (q ▸ e) t) e
 obtain ⟨inv,fe,loc,own,free,fr,frO⟩ := S
 refine La.x1_2 (loc.ns) λ m hm0 hm => ?_
 have Lc : C.env.locals ≠ c := λ q => ns_ne_cell hm0 hv q.symm
 refine ⟨⟨I,fe,⟨⟨m,Ns.keep1 hm0 λ o e => ex _ o Lc e,λ y W e f => ?_⟩,λ y W e f => ?_,λ y f => ?_⟩,λ a ha => ?_,λ y d e => ?_,?_,λ e he a f g => ?_⟩,st,kt⟩
 ·have hy : y ≠ x := λ q => by subst q; rw [hk] at f; cases f
  simp only [lk,hy,if_false] at e
  refine La.x1_2 (hm y W e f) λ u a b => ?_
  exact ⟨u,a,kt.rel b⟩
 ·unfold lk at e
  by_cases hy : y = x
  ·subst hy; simp only [if_true] at e; cases e; exact ⟨c,v,hc,hn,kt.rel r⟩
  ·simp only [hy,if_false] at e
   refine La.x2_3 (loc.cell y W e f) λ d u a b z => ?_
   exact ⟨d,u,a,IsCell.keep1 b λ o g => ex d o (λ q => hy (fe.inj y x c (q ▸ a) hc)) g,kt.rel z⟩
 ·by_cases hy : y = x
  ·subst hy; exact ⟨c,_,hc,hn⟩
  ·refine La.x2_2 (loc.slot y f) λ d u a b => ?_
   exact ⟨d,u,a,IsCell.keep1 b λ o g => ex d o (λ q => hy (fe.inj y x c (q ▸ a) hc)) g⟩
 ·refine La.c2 (own a ha) λ q h'1 => ?_; refine La.x1_2 h'1 λ o e d => ?_; clear h'1
  refine ⟨q,?_⟩
  by_cases z : a = c
  ·subst z
   refine La.x1_2 hn λ o e d => ?_; clear hn
   exact ⟨o,e,λ vs n q => by rw [d] at q; cases q⟩
  ·exact ⟨o,ex a o z e,d⟩
 ·refine La.c2 (free y d e) λ q h'1 => ?_; refine La.x1_1 h'1 λ o g => ?_; clear h'1
  by_cases z : d = c
  ·subst z; refine La.x1_2 hn λ o e _ => ?_; clear hn; exact ⟨q,o,e⟩
  ·exact ⟨q,o,ex d o z g⟩
 ·refine FrOk.step (s' := { s with heap := h',toks := t }) fr st λ e he a f g => ?_
  refine La.x1_1 (frO e he a f g) λ m' hm' => ?_
  have z : a ≠ c := λ q => ns_ne_cell hm' hv q.symm
  refine La.x3_3 hm' λ o es ep e d _ => ?_; clear hm'; exact ⟨(own _ g).1,o,ex a o z e,Frm.of d⟩
 ·refine La.x1_1 (frO e he a f g) λ m' hm' => ?_
  have z : a ≠ c := λ q => ns_ne_cell hm' hv q.symm
  exact ⟨m',Ns.keep1 hm' λ o q => ex a o z q⟩
theorem storeN {A : Around} {s : Shared} {x : Str} {V : PV} {v : Value} {k : Shared->Prop} {E : Value->Shared->Prop} (S : St C ρ σ s.heap) (r : Rel s.heap V v) (hk : C.env.kindOf x = some .local\/C.env.kindOf x = some .cell)
  (h : ∀ s',St C ((x,V) :: ρ) σ s'.heap->Step C.O σ s s' σ->KeepT s.heap s'.heap->k s') : wpAny (md C) A (storeName C.env x v) (λ _ s' => k s') E s := by
 rcases hk with hk | hk
 ·refine La.x1_2 (S.loc.ns) λ m hm0 hm => ?_
  refine wpAny_storeName_local hk hm0 (λ h' hn hs => ?_) (by rw [S.fe.kind]; rfl)
  refine La.c3 (S.storeL (t := s.toks + 1) r hk hm0 hm hn hs) λ a b c => ?_
  exact h _ a b c
 ·refine La.x2_2 (S.loc.slot x hk) λ c v₀ hc hv => ?_
  refine wpAny_storeName_cell S.fe.kind hk hc hv λ h' hn hs => ?_
  refine La.c3 (S.storeC (t := s.toks) r hk hc hv hn hs) λ a b d => ?_
  exact h _ a b d
theorem ES.assign {x : Str} {pos' pos : Pos} {value : Expr} {Q : Fl->Loc'->CH->Prop} (h : EV C value ρ σ λ V σ₁ => Q .next ((x,V) :: ρ) σ₁) (hk : C.env.kindOf x = some .local\/C.env.kindOf x = some .cell)
  (hs : swapsWith value (some (.Name x pos')) pos.line C.env = pure false := by rfl) : ES C (.Assign [.Name x pos'] value pos) ρ σ Q :=
 λ A s G S => wpAny_Assign_Name (h.seqE G S (λ _ _ x => x) λ V v σ₁ s₁ q r S₁ st₁ _ => storeN S₁ r hk λ s₂ S₂ st₂ _ => ⟨.next,_,_,q,rfl,S₂,st₁.O.trans st₂⟩) hs
theorem ES.ret {e : Expr} {pos : Pos} {Q : Fl->Loc'->CH->Prop} (h : EV C e ρ σ λ V σ₁ => Q (.ret V) ρ σ₁) : ES C (.Return (some e) pos) ρ σ Q :=
 λ A s G S => wpAny_Return_some (h.seqE G S (λ _ _ x => x) λ V v σ₁ s₁ q r S₁ st₁ _ => ⟨.ret V,_,_,q,⟨v,rfl,r⟩,S₁,st₁.O⟩)
theorem ES.retN {pos : Pos} {Q : Fl->Loc'->CH->Prop} (q : Q (.ret .none) ρ σ) : ES C (.Return none pos) ρ σ Q :=
 λ A s G S => wpAny_Return_none ⟨.ret .none,_,_,q,⟨.none,rfl,rfl⟩,S,Step.refl⟩
theorem ES.cont {pos : Pos} {Q : Fl->Loc'->CH->Prop} (q : Q .cont ρ σ) : ES C (.Continue pos) ρ σ Q := λ A s G S => wpAny_Continue (PS.now S q rfl)
theorem ES.expr {e : Expr} {pos : Pos} {Q : Fl->Loc'->CH->Prop} (h : EV C e ρ σ λ _ σ₁ => Q .next ρ σ₁) (hs : swapsWith e none pos.line C.env = pure false := by rfl) : ES C (.Expr e pos) ρ σ Q :=
 λ A s G S => wpAny_Expr_any (h.seqE G S (λ _ _ x => x) λ V v σ₁ s₁ q r S₁ st₁ _ => ⟨.next,_,_,q,rfl,S₁,st₁.O⟩) (by unfold interactive; rw [S.fe.kind]; rfl) hs
theorem ES.ite {t : Expr} {a b : List Stmt} {pos : Pos} {Q : Fl->Loc'->CH->Prop} (h : ET C t ρ σ λ c σ₁ => if c then EX C a ρ σ₁ Q else EX C b ρ σ₁ Q) : ES C (.If t a b pos) ρ σ Q :=
 λ A s G S => wpAny_If (h.seqE G S (λ _ _ x => x) λ c d σ₁ s₁ q r S₁ st₁ _ => by
  cases r
  cases c
  ·exact upS (k := id) st₁.O (q A s₁ G S₁)
  ·exact upS (k := id) st₁.O (q A s₁ G S₁))
theorem ES.assign2 {x y : Str} {k : Nat} {p1 p2 p3 pos : Pos} {value : Expr} {Q : Fl->Loc'->CH->Prop} (h : EV C value ρ σ λ V σ₁ => ∃ V1 V2,V = .tup [V1,V2]/\Q .next ((y,V2) :: (x,V1) :: ρ) σ₁)
  (hx : C.env.kindOf x = some .local\/C.env.kindOf x = some .cell) (hy : C.env.kindOf y = some .local\/C.env.kindOf y = some .cell)
  (hs : swapsWithSole [.Tuple [.Name x p1,.Name y p2] k p3] value pos.line C.env = pure false := by rfl) (hw : swappedStores [.Tuple [.Name x p1,.Name y p2] k p3] value C.env = pure none := by rfl) :
  ES C (.Assign [.Tuple [.Name x p1,.Name y p2] k p3] value pos) ρ σ Q :=
 λ A s G S => wpAny_Assign_stores (h.seqE G S (λ _ _ x => x) λ V v σ₁ s₁ h₁ r S₁ st₁ _ => by
  refine La.x2_2 h₁ λ V1 V2 h'1 q => ?_; clear h₁; subst h'1
  unfold Rel at r
  revert r; refine La.y3_3 λ a items n h'1 g r => ?_; subst h'1
  refine La.x2_3 (r.cons_inv) λ u1 l1 e1 r1 r2 => ?_
  refine La.x2_3 (r2.cons_inv) λ u2 l2 e2 ru2 r3 => ?_
  have e3 := r3.nil_inv
  subst e3 e2
  have hsz : items.size = 2 := by have := congrArg List.length e1; simpa using this
  show wpAny _ _ (PySem.assign (.Tuple [.Name x p1,.Name y p2] k p3) C.env (.ref a)) _ _ _
  refine wpAny_assign_Tuple G.handled ⟨_,g,rfl,n,rfl⟩ (by rw [hsz]; rfl) rfl λ h' he => ?_
  rw [e1]
  have hg : ∀ b o,s₁.heap.get? b = some o->h'.get? b = some o := λ b o e => he b o (Nat.ne_of_lt (Heap.lt_size e)) e
  refine La.c2 (S₁.inv.grow (s := s₁) (t := s₁.toks) hg []) λ I₂ st₂ => ?_
  have S₂ := S₁.step I₂ st₂
  have kt : KeepT s₁.heap h' := λ a o e _ => hg a o e
  show wpAny _ _ (do holding [u2] (PySem.assign (.Name x p1) C.env u1); assignInOrder [PySem.assign (.Name y p2) C.env] [u2]) _ _ _
  refine wpAny_bind (wpAny_holding (wpAny_assign_Name (storeN S₂ (kt.rel r1) hx λ s₃ S₃ st₃ k₃ => ?_)))
  show wpAny _ _ (do holding [] (PySem.assign (.Name y p2) C.env u2); assignInOrder [] []) _ _ _
  refine wpAny_bind (wpAny_holding (wpAny_assign_Name (storeN S₃ (k₃.rel (kt.rel ru2)) hy λ s₄ S₄ st₄ k₄ => ?_)))
  exact wpAny_pure ⟨.next,_,_,q,rfl,S₄,((st₁.O.trans st₂.O).trans st₃).trans st₄⟩) hs hw
noncomputable def Noted (e : Value) (h : Heap) : Prop := ∃ a oe vs T oT ts,e = .ref a/\h.get? a = some oe/\oe.data = .fields vs/\vs[1]? = some (.ref T)/\h.get? T = some oT/\oT.data = .fields ts/\3 < ts.size
noncomputable def PassX (C : Cx) : Prop := ∀ A σ s e s',GA C A->PX C σ s e s'->(Noted e s'.heap->cameBackBy (md C) A C.env (PX C σ s) e s')/\notedBy (md C) A C.env (λ e s' => PX C σ s e s'/\Noted e s'.heap) e s'
theorem PassX.none (h : ∀ e σ s,¬ C.X e σ s) : PassX C := λ A σ s e s' _ ⟨σ',x,_⟩ => absurd x (h _ _ _)
noncomputable def PR (C : Cx) (Q : Fl->Loc'->CH->Prop) (σ : CH) (s : Shared) : Result->Shared->Prop := λ r s' => match r with | .ok f => PS C Q σ s f s' | .error e => PX C σ s e s'/\Noted e s'.heap
theorem PR.upO {Q : Fl->Loc'->CH->Prop} {σ σ₁ : CH} {s s₁ : Shared} (st : Step C.O σ s s₁ σ₁) {r : Result} {s' : Shared} (x : PR C Q σ₁ s₁ r s') : PR C Q σ s r s' := by
 cases r with
 | ok f => exact PS.upO st x
 | error e => exact ⟨PX.upO st x.1,x.2⟩
noncomputable def WH (C : Cx) (test : Expr) (body : List Stmt) (ρ : Loc') (σ : CH) (Q : Fl->Loc'->CH->Prop) : Prop :=
 ∀ A s,GA C A->St C ρ σ s.heap->codeAny (md C) A (.whileLoop test body [] C.env) (PR C Q σ s) s
noncomputable def afterTurn (again : Loc'->CH->Prop) (Q : Fl->Loc'->CH->Prop) : Fl->Loc'->CH->Prop := λ fl ρ σ => match fl with
 | .next => again ρ σ | .cont => again ρ σ | .brk => Q .next ρ σ | .ret V => Q (.ret V) ρ σ
theorem mark_none (A : Around) : A.mark none = A := rfl
theorem ES.while {test : Expr} {body : List Stmt} {pos : Pos} {Q : Fl->Loc'->CH->Prop} (hp : PassX C) (h : WH C test body ρ σ Q) : ES C (.While test body [] pos) ρ σ Q :=
 λ A s G S => wpAny_While (codeAny_mono (h A s G S) λ r s' x => by
  cases r with
  | ok f => exact x
  | error e => exact (hp A σ s e s' G x.1).1 x.2)
theorem WH.turn {test : Expr} {body : List Stmt} {Q : Fl->Loc'->CH->Prop} (hp : PassX C)
  (h : ET C test ρ σ λ b σ₁ => if b then EX C body ρ σ₁ (afterTurn (λ ρ₂ σ₂ => WH C test body ρ₂ σ₂ Q) Q) else Q .next ρ σ₁) : WH C test body ρ σ Q := by
 intro A s G S
 refine codeAny_of_tree ?_
 show wpAny _ A ((whileTurn test body [] C.env).onRaise (λ x => do noteFrame x C.env; theTreesLotGoes x)) _ _ s
 refine wpAny_noted ?_
 simp only [whileTurn]
 have hx : ∀ e s',PX C σ s e s'->notedBy (md C) A C.env (λ e s' => PR C Q σ s (.error e) s') e s' := λ e s' x => (hp A σ s e s' G x).2
 refine wpAny_bind (h.seqE G S hx λ b c σ₁ s₁ q r S₁ st₁ _ => ?_)
 cases r
 cases b with
 | false => exact wpAny_bind (wpAny_execs_nil (wpAny_pure ⟨.next,_,_,q,rfl,S₁,st₁.O⟩))
 | true =>
  refine wpAny_bind (wpAny_mono (q A s₁ G S₁) (λ f s₂ x => ?_) λ e s' x => hx e s' (PX.upO st₁.O x))
  refine La.x3_4 x λ fl ρ₂ σ₂ q₂ r₂ S₂ st₂ => ?_; clear x
  have st := st₁.O.trans st₂
  cases fl with
  | next => cases r₂; exact wpAny_pure ⟨rfl,codeAny_mono (q₂ A s₂ G S₂) λ r s' x => PR.upO st x⟩
  | cont => cases r₂; exact wpAny_pure ⟨rfl,codeAny_mono (q₂ A s₂ G S₂) λ r s' x => PR.upO st x⟩
  | brk => cases r₂; exact wpAny_pure ⟨.next,_,_,q₂,rfl,S₂,st⟩
  | ret V => refine La.x1_2 r₂ λ v h'1 rv => ?_; clear r₂; subst h'1; exact wpAny_pure ⟨.ret V,_,_,q₂,⟨v,rfl,rv⟩,S₂,st⟩
noncomputable def del (σ : CH) (a : Addr) : CH := λ b => if b = a then none else σ b
theorem Inv.delE {prog : Program} {w : World} {b : Heap} {s : Shared} {h' : Heap} {t : Nat} {x : Addr} (I : Inv prog w b σ s.heap) (hx : σ x ≠ none) (hs : Heap.ExtBut x s.heap h') (O : List Addr) :
  Inv prog w b (del σ x) h'/\Step O σ s { s with heap := h',toks := t } (del σ x) := by
 have nt : ∀ o,s.heap.get? x = some o->¬ TupLike o := λ o e t => hx (I.1.tup e t)
 have kt : KeepT s.heap h' := λ a o e t => hs a o (λ q => nt o (q ▸ e) t) e
 refine ⟨⟨λ a m' e => ?_,λ a o e => ?_⟩,λ a o e n _ => ?_,λ a o e n _ => ?_,rfl,rfl⟩
 ·unfold del at e
  by_cases q : a = x
  ·simp [q] at e
  ·rw [if_neg q] at e; exact ORel.mono (I.1 a m' e) (λ o g => hs a o q g) kt
 ·have q : a ≠ x := λ z => by subst z; exact hx (I.2 a o e).2
  exact ⟨hs a o q (I.2 a o e).1,by unfold del; rw [if_neg q]; exact (I.2 a o e).2⟩
 ·exact .inl (hs a o (λ q => by subst q; exact hx n) e)
 ·unfold del; split
  ·rfl
  ·exact n
noncomputable def FL (C : Cx) (target : Expr) (it : Addr) (body : List Stmt) (ρ : Loc') (σ : CH) (Q : Fl->Loc'->CH->Prop) : Prop :=
 ∀ A s,GA C A->St C ρ σ s.heap->codeAny (md C) A (.forLoop target (.ref it) body [] C.env) (PR C Q σ s) s
noncomputable def NX (C : Cx) (it : Addr) (ρ : Loc') (σ : CH) (Q : Option PV->CH->Prop) : Prop := TG C (λ h (V : Option PV) (v : Option Value) => match V,v with | some V,some v => Rel h V v | none,none => True | _,_ => False) (pyNext (.ref it)) ρ σ Q
theorem ES.for {target iter : Expr} {body : List Stmt} {pos : Pos} {Q : Fl->Loc'->CH->Prop} (hp : PassX C) (h : EV C iter ρ σ λ V σ₁ => O1 C Rel (λ v => pyIter v) V ρ σ₁ λ W σ₂ => ∃ it,W = .ref it/\FL C target it body ρ σ₂ Q)
  (hs : ∀ x,foldedSetIterable iter C.env x = pure x := by intro _; rfl) : ES C (.For target iter body [] pos) ρ σ Q :=
 λ A s G S => wpAny_For (h.seqE G S (λ _ _ x => x) λ V v σ₁ s₁ h₁ r S₁ st₁ _ => wpAny_mono (h₁ A s₁ v G S₁ r) (λ u s₂ x => by
  refine La.x2_4 x λ W σ₂ h'1 ru i₂ st₂ => ?_; clear x; refine La.x1_2 h'1 λ it h'2 h₂ => ?_; clear h'1; subst h'2
  cases ru
  have S₂ := S₁.step i₂ st₂
  refine codeAny_mono (h₂ A s₂ G S₂) λ r s' x => ?_
  have x := PR.upO (st₁.trans st₂).O x
  cases r with
  | ok f => exact x
  | error e => exact (hp A σ s e s' G x.1).1 x.2) λ e s' x => PX.upO st₁.O x) hs
theorem FL.turn {x : Str} {px : Pos} {it : Addr} {body : List Stmt} {Q : Fl->Loc'->CH->Prop} (hp : PassX C) (hx : C.env.kindOf x = some .local\/C.env.kindOf x = some .cell)
  (h : NX C it ρ σ λ V σ₁ => match V with
   | some V => EX C body ((x,V) :: ρ) σ₁ (afterTurn (λ ρ₂ σ₂ => FL C (.Name x px) it body ρ₂ σ₂ Q) Q)
   | none => Q .next ρ σ₁) : FL C (.Name x px) it body ρ σ Q := by
 intro A s G S
 refine codeAny_of_tree ?_
 show wpAny _ A ((forTurn (.Name x px) (.ref it) body [] C.env).onRaise (λ x => do noteFrame x C.env; theTreesLotGoes x)) _ _ s
 refine wpAny_noted ?_
 simp only [forTurn]
 have hX : ∀ e s',PX C σ s e s'->notedBy (md C) A C.env (λ e s' => PR C Q σ s (.error e) s') e s' := λ e s' x => (hp A σ s e s' G x).2
 refine wpAny_bind (wpAny_standAt (wpAny_bind (wpAny_onRaise (h.seqE G S (λ e s' x => wpAny_standAt (hX e s' x)) λ V v σ₁ s₁ q r S₁ st₁ _ => ?_))))
 cases V with
 | none =>
  cases v with
  | some v => exact r.elim
  | none => exact wpAny_pure ⟨rfl,codeAny_block (wpAny_execs_nil ⟨.next,_,_,q,rfl,S₁,st₁.O⟩)⟩
 | some V =>
  cases v with
  | none => exact r.elim
  | some v =>
   refine wpAny_bind (wpAny_of_eq (a := ()) rfl ?_)
   refine wpAny_bind (wpAny_assign_Name (storeN S₁ r hx λ s₂ S₂ st₂ _ => ?_))
   refine wpAny_bind (wpAny_mono (q A s₂ G S₂) (λ f s₃ y => ?_) λ e s' x => hX e s' (PX.upO (st₁.O.trans st₂) x))
   refine La.x3_4 y λ fl ρ₂ σ₂ q₂ r₂ S₃ st₃ => ?_; clear y
   have st := (st₁.O.trans st₂).trans st₃
   cases fl with
   | next => cases r₂; exact wpAny_pure ⟨rfl,codeAny_mono (q₂ A s₃ G S₃) λ r s' x => PR.upO st x⟩
   | cont => cases r₂; exact wpAny_pure ⟨rfl,codeAny_mono (q₂ A s₃ G S₃) λ r s' x => PR.upO st x⟩
   | brk => cases r₂; exact wpAny_pure ⟨.next,_,_,q₂,rfl,S₃,st⟩
   | ret V => refine La.x1_2 r₂ λ v h'1 rv => ?_; clear r₂; subst h'1; exact wpAny_pure ⟨.ret V,_,_,q₂,⟨v,rfl,rv⟩,S₃,st⟩
end
end Mine
end
section
open PySem PySem.W PySem.Calls PyProof.Rows PySem.Spec PySem.SeqAt
namespace Mine
theorem isStr_eq {x y : Str} {t : Tok} : Value.isStr (.str x t) y = decide (x = y) := by
 show (x == y) = _
 by_cases h : x = y
 ·subst h; simp
 ·simp [h]
theorem NsR.get {h : Heap} {name : Str} : ∀ {fs : List (Str × PV)} {es : List DictEntry},NsR h fs es ->
  (match lk name fs with | some V => ∃ v,getL name es = some (some v)/\Rel h V v | none => getL name es = some none) := by
 intro fs es x
 have noRef : ∀ {fs : List (Str × PV)} {es : List DictEntry},NsR h fs es->es.any (·.refKey) = false := by
  intro fs es x
  induction x with
  | nil => rfl
  | cons _ _ ih => rw [List.any_cons,ih]; rfl
 induction x with
 | nil => rfl
 | @cons n V fs hs t v es r x ih =>
  unfold lk
  by_cases e : name = n
  ·subst e
   simp only [if_true]
   refine ⟨v,?_,r⟩
   unfold getL
   rw [List.find?_cons]
   have : (Value.isStr (.str name t) name) = true := by rw [isStr_eq]; simp
   simp only [this]
  ·simp only [e,if_false]
   have e' : (Value.isStr (.str n t) name) = false := by rw [isStr_eq]; simp [Ne.symm e]
   have g : getL name (⟨hs,.str n t,v⟩ :: es) = getL name es := by
    unfold getL
    rw [List.find?_cons]
    simp only [e']
    rw [List.any_cons]
    rfl
   rw [g]; exact ih
noncomputable def putF (name : Str) (V : PV) : List (Str × PV)->List (Str × PV)
 | [] => [(name,V)]
 | (n,W) :: r => if n = name then (n,V) :: r else (n,W) :: putF name V r
theorem NsR.put {h : Heap} {name : Str} {V : PV} {v : Value} {hs : Int} {t : Tok} (r : Rel h V v) : ∀ {fs : List (Str × PV)} {es : List DictEntry},NsR h fs es->NsR h (putF name V fs) (putL name hs (.str name t) v es)
 | _,_,.nil => .cons r .nil
 | _,_,.cons (n := n) (t := t') a b => by
  have e : (Value.isStr (.str n t') name) = decide (n = name) := isStr_eq
  by_cases q : n = name
  ·subst q
   have e2 : (Value.isStr (.str n t') n) = true := by rw [e]; simp
   simp only [putF,putL,if_true]; rw [if_pos e2]; exact .cons r b
  ·have e2 : (Value.isStr (.str n t') name) = false := by rw [e]; simp [q]
   simp only [putF,putL,e2,q,if_false,Bool.false_eq_true]; exact .cons a (NsR.put r b)
theorem NsR.length {h : Heap} {fs : List (Str × PV)} {es : List DictEntry} (x : NsR h fs es) : es.length = fs.length := by
 induction x with
 | nil => rfl
 | cons _ _ ih => simp [ih]
theorem putF_length {name : Str} {V : PV} : ∀ fs : List (Str × PV),(putF name V fs).length<=fs.length + 1
 | [] => by simp [putF]
 | (n,W) :: r => by unfold putF; split <;> simp <;> have := putF_length (name := name) (V := V) r <;> assumption
noncomputable def AttrOk (K : Frag) (Cl : Addr) (n : Str) : Prop := plainGet K Cl n = true/\hasDictIn K Cl = true/\∃ x,findIn K (.ref Cl) n = some x/\noGet K x = true
noncomputable def MethOk (K : Frag) (Cl : Addr) (n : Str) (f : Addr) : Prop := plainGet K Cl n = true/\findIn K (.ref Cl) n = some (some (.ref f))/\isFn K (.ref f) = true
noncomputable def SetOk (K : Frag) (Cl : Addr) (n : Str) : Prop := findIn K (.ref Cl) "__setattr__" = some (some (.builtin "object.__setattr__"))/\plainOver K Cl = true/\takerIn K Cl n = some none/\hasDictIn K Cl = true
section
variable {C : Cx} {ρ : Loc'} {σ : CH}
theorem St.inst {h : Heap} {a Cl dx : Addr} {fs : List (Str × PV)} (S : St C ρ σ h) (ha : σ a = some (.inst Cl dx)) (hx : σ dx = some (.ns fs)) :
  ∃ es n,h.get? dx = some (dictOf es n)/\NsR h fs es/\InstAt h a (instObj Cl dx) Cl (some (dictOf es n)) := by
 refine La.x2_2 (S.inv.1 _ _ hx) λ es n g r => ?_
 exact ⟨es,n,g,r,⟨S.inv.1 _ _ ha,rfl,rfl,g⟩⟩
theorem EV.attr {o : Expr} {name : Str} {pos : Pos} {Q : PV->CH->Prop} {mg : Str->Option Value} (B : Bs C mg)
  (h : EV C o ρ σ λ V σ₁ => ∃ a Cl dx fs W,V = .ref a/\σ₁ a = some (.inst Cl dx)/\σ₁ dx = some (.ns fs)/\lk name fs = some W/\(∀ x,W ≠ .any x)/\AttrOk C.K Cl name/\Q W σ₁)
  (hb : attributeBase o name C.env (eval o C.env) = eval o C.env := by rfl) : EV C (.Attribute o name pos) ρ σ Q := λ A s G S => by
 show wpAny _ _ (do
  let v <- attributeBase o name C.env (eval o C.env)
  standAt pos.atName
  let r <- holding [v] (getAttr v name true)
  letTemporaryGo o v r
  pure r) _ _ _
 rw [hb]
 refine wpAny_bind (h.seq G S λ V v σ₁ s₁ h₁ r S₁ st₁ _ => ?_)
 refine La.x5_7 h₁ λ a Cl dx fs W h'1 ha hx hl hW h'2 q => ?_; clear h₁; subst h'1; refine La.c3 h'2 λ h1 h2 h'3 => ?_; clear h'2; refine La.x1_2 h'3 λ x h3 h4 => ?_; clear h'3
 cases r
 refine La.x2_3 (S₁.inst ha hx) λ es n g rn I => ?_
 have z := rn.get (name := name)
 rw [hl] at z
 refine La.x1_2 z λ u gu ru => ?_; clear z
 have hh : handedIn u = true := by
  cases W with
  | any x => exact absurd rfl (hW x)
  | none => cases ru; rfl
  | bool b => cases ru; rfl
  | int i => refine La.x1_1 ru λ t h'1 => ?_; clear ru; subst h'1; rfl
  | str i => refine La.x1_1 ru λ t h'1 => ?_; clear ru; subst h'1; rfl
  | tup l => unfold Rel at ru; refine La.x3_2 ru λ _ _ _ h'1 _ => ?_; clear ru; subst h'1; rfl
  | ref a => cases ru; rfl
 refine up st₁ (wpAny_bind (wpAny_standAt (wpAny_bind (wpAny_holding (get_value (S₁.inv.K B.K) I (plainGet_of h1).1 (findObj_own h2 h3 h4 gu) hh ?_)))))
 exact wpAny_bind (wpAny_letTemporaryGo (wpAny_pure (PG.now S₁ q ru)))
theorem osa_ns {A : Around} {R : Result->Shared->Prop} {s : Shared} {K : Frag} {Cl : Addr} {prog : Program} {w : World} {ox : Obj} {x dx : Addr} {name : Str} {tk : Tok} {v : Value} {es : List DictEntry} {n : Nat} (X : K.In s.heap) (I : InstAt s.heap x ox Cl (some (dictOf es n))) (hd : ox.dict = some dx)
  (hs : SetOk K Cl name) (hl : (getL name es).isSome = true) (hz : (putL name (PyData.keyHash w.params name) (.str name s.toks) v es).length<=1000)
  (h : ∀ h',h'.get? dx = some (dictOf (putL name (PyData.keyHash w.params name) (.str name s.toks) v es) (putN name es n))->Heap.ExtBut dx s.heap h'->R (.ok (.ret .none)) { s with heap := h',toks := s.toks + 1 }) :
  codeAny (model prog w) A (.call (.builtin "object.__setattr__") ⟨[.ref x,.str name tk,v],[]⟩) R s := by
 refine La.c4 hs λ h1 hp ht hh => ?_; clear hs
 refine osa_open X I hp ht λ b => ?_
 refine La.x1_2 (any_some hh) λ cd hc hd' => ?_
 obtain ⟨hx,hcl,hn,hdd⟩ := I
 obtain ⟨oc,odi,oda,osl⟩ := ox
 dsimp only at hcl hd
 subst hcl hd
 have D : s.heap.get? dx = some (dictOf es n) := hdd
 have e := putName_dict name (PyData.keyHash w.params name) (.str name s.toks) v es n
 have D' : (s.heap.update dx (Obj.putName name (PyData.keyHash w.params name) (.str name s.toks) v)).get? dx = some (dictOf (putL name (PyData.keyHash w.params name) (.str name s.toks) v es) (putN name es n)) := by
  rw [<- e]; exact Heap.get?_update_self _ D (by rw [e]; rfl)
 refine wpAny_bind (wpAny_pure (wpAny_bind (wpAny_bind (wpAny_loadPart hx (wpAny_bind ((looks_clsIn X hc).here ?_))))))
 rw [hd']
 refine wpAny_pure (a := some dx) (wpAny_bind (wpAny_pure (wpAny_bind ?_)))
 unfold nsSet
 refine wpAny_bind (wpAny_bind (wpAny_askSetting (wpAny_pure (wpAny_bind (wpAny_mkText (wpAny_bind (wpAny_loadPart D ?_)))))))
 dsimp only
 have c : (!es.toArray.any (·.key.isStr name) && es.toArray.any (·.refKey)) = false := by
  rw [<- Array.any_toList,<- Array.any_toList]
  unfold getL at hl
  split at hl
  ·rename_i en he
   rw [List.any_eq_true.mpr ⟨en,List.mem_of_find?_eq_some he,List.find?_some he⟩]; rfl
  ·split at hl
   ·cases hl
   ·rename_i z; rw [Bool.not_eq_true] at z; rw [z,Bool.and_false]
 rw [aRefKeyMayBeTheName_at,c]
 refine wpAny_updatePart D ?_
 refine wpAny_bind (wpAny_lookBehind D' (pastItsLine_dict (by rw [List.size_toArray,sizeLine_eq]; exact La.l1 (.L .x0 (.l 1000)) (.L .x0 (.a (.l 16777216) .l1)) [[1,1]] rfl [_] [] hz)) ?_)
 exact wpAny_pure (h _ D' (Heap.SameBut.update ..).extBut)
theorem set_ns {A : Around} {E : Value->Shared->Prop} {s : Shared} {K : Frag} {Cl : Addr} {prog : Program} {w : World} {ox : Obj} {x dx : Addr} {name : Str} {v : Value} {es : List DictEntry} {n : Nat} {Q : Unit->Shared->Prop} (X : K.In s.heap) (I : InstAt s.heap x ox Cl (some (dictOf es n))) (hd : ox.dict = some dx)
  (hs : SetOk K Cl name) (hl : (getL name es).isSome = true) (hz : (putL name (PyData.keyHash w.params name) (.str name (s.toks + 1)) v es).length<=1000)
  (h : ∀ h',h'.get? dx = some (dictOf (putL name (PyData.keyHash w.params name) (.str name (s.toks + 1)) v es) (putN name es n))->Heap.ExtBut dx s.heap h'->Q () { s with heap := h',toks := s.toks + 2 }) :
  wpAny (model prog w) A (setAttr (.ref x) name v) Q E s :=
 set_plain X I hs.1 (osa_ns (s := { s with toks := s.toks + 1 }) X I hd hs hl hz h)
theorem ES.setattr {o value : Expr} {name : Str} {p pos : Pos} {Q : Fl->Loc'->CH->Prop} {mg : Str->Option Value} (B : Bs C mg)
  (h : EV C value ρ σ λ V σ₁ => EV C o ρ σ₁ λ W σ₂ => ∃ a Cl dx fs,W = .ref a/\σ₂ a = some (.inst Cl dx)/\σ₂ dx = some (.ns fs)/\fs.length<=900/\SetOk C.K Cl name/\Q .next ρ (upd σ₂ dx (.ns (putF name V fs))))
  (hs : swapsWith value (some (.Attribute o name p)) pos.line C.env = pure false := by rfl) : ES C (.Assign [.Attribute o name p] value pos) ρ σ Q :=
 λ A s G S => plainObj_wpAny_Assign_Attribute (h.seqE G S (λ _ _ x => x) λ V v σ₁ s₁ h₁ r S₁ st₁ _ => h₁.seqE G S₁ (λ _ _ x => PX.up st₁ x) λ W u σ₂ s₂ h₂ r₂ S₂ st₂ k₂ => by
  refine La.x4_6 h₂ λ a Cl dx fs h'1 ha hx hlen hok q => ?_; clear h₂; subst h'1
  cases r₂
  refine La.x2_3 (S₂.inst ha hx) λ es n g rn I => ?_
  refine set_ns (S₂.inv.K B.K) I rfl hok ?_ ?_ λ h' hg he => ?_
  ·have z := rn.get (name := name)
   cases e : lk name fs with
   | none => rw [e] at z; rw [show getL name es = some none from z]; rfl
   | some V => rw [e] at z; revert z; refine La.y1_2 λ v z _ => ?_; rw [z]; rfl
  ·have := (NsR.put (name := name) (hs := PyData.keyHash C.w.params name) (t := s₂.toks + 1) (k₂.rel r) rn).length
   have := putF_length (name := name) (V := V) fs
   exact La.l3 (.L .x0 (.l 900)) (.Q .x1 .x2) (.L .x2 (.a .x0 .l1)) (.L .x1 (.l 1000)) [[1,1,0,1,1]] rfl [_,_,_] [] hlen (by assumption) this
  ·have kt : KeepT s₂.heap h' := λ b o e t => he b o (λ q => by
    subst q
    exact S₂.inv.1 _ _ hx |> λ z => ORel.notTup z e t) e
   refine La.c2 (S₂.inv.put (t := s₂.toks + 2) (m := .ns (putF name V fs)) (.inl (by rw [hx]; simp)) he ⟨_,_,hg,NsR.put (kt.rel (k₂.rel r)) (kt.nsR rn)⟩ []) λ I' st' => ?_
   exact ⟨.next,ρ,_,q,rfl,S₂.step I' st',((st₁.trans st₂).trans st').O⟩) hs
noncomputable def FC (C : Cx) (f : Value) (vs : List PV) (σ : CH) (Q : PV->CH->Prop) : Prop :=
 ∀ A s vals,GA C A->Inv C.prog C.w C.b σ s.heap->FrOk C.b σ s.heap C.fl->Rels s.heap vs vals ->
  wpAny (md C) A (call f vals) (PG C Rel Q σ s) (λ e s' => ∃ σ',C.X e σ' s'/\Inv C.prog C.w C.b σ' s'.heap/\Step [] σ s s' σ') s
theorem FC.at {f : Value} {vs : List PV} {Q : PV->CH->Prop} (h : FC C f vs σ Q) {A : Around} {s : Shared} {vals : List Value} (G : GA C A) (S : St C ρ σ s.heap) (r : Rels s.heap vs vals) :
  wpAny (md C) A (call f vals) (PG C Rel Q σ s) (PX C σ s) s :=
 wpAny_mono (h A s vals G S.inv S.fr r) (λ _ _ x => x) λ e s' => La.y1_3 λ σ' a b c => ⟨σ',a,b,c.O⟩
theorem FC.mono {f : Value} {vs : List PV} {Q Q' : PV->CH->Prop} (h : FC C f vs σ Q) (hq : ∀ V σ',Q V σ'->Q' V σ') : FC C f vs σ Q' :=
 λ A s vals G I F r => wpAny_mono (h A s vals G I F r) (λ _ _ => La.y2_2 λ V σ₁ q r => ⟨V,σ₁,hq V σ₁ q,r⟩) λ _ _ x => x
theorem backTo_plain {pos : Pos} {es : List Expr} {env : Env} (he : starEach es env = es.map λ e => (false,eval e env)) : (backTo pos (starEach es env)).any (·.1) = false := by
 rw [he]; unfold backTo; simp
theorem callWithF {A : Around} {s : Shared} {pos : Pos} {fv : Value} {first : List Value} {fV : List PV} {es : List Expr} {Q : PV->CH->Prop} {mg : Str->Option Value} (B : Bs C mg) (G : GA C A) (S : St C ρ σ s.heap)
  (hk : (∃ id,fv = .builtin id)\/(∃ T,fv = .type T)\/keepIn C.K fv = true) (rf : Rels s.heap fV first)
  (h : EL C pos es ρ σ λ vs σ₁ => FC C fv (fV ++ vs) σ₁ Q) (he : starEach es C.env = es.map λ e => (false,eval e C.env)) (hne : es ≠ []) :
  wpAny (md C) A (callWith pos fv first (backTo pos (starEach es C.env)) []) (PG C Rel Q σ s) (PX C σ s) s := by
 have hp := backTo_plain (pos := pos) he
 have main : wpAny (md C) A (spliced (backTo pos (starEach es C.env))) (λ vs s₁ => C.K.In s₁.heap/\wpAny (md C) A (call fv (first ++ vs)) (PG C Rel Q σ s) (PX C σ s) s₁) (PX C σ s) s :=
  h.seq G S λ vs vals σ₁ s₁ q r S₁ st₁ k₁ => ⟨S₁.inv.K B.K,up st₁ (q.at G S₁ ((k₁.rels rf).append r))⟩
 have ev : wpAny (md C) A (evalArgs fv true (backTo pos (starEach es C.env)) []) (λ a s₁ => C.K.In s₁.heap/\wpAny (md C) A (call fv (first ++ a.pos) a.kw) (PG C Rel Q σ s) (PX C σ s) s₁) (PX C σ s) s := by
  cases es with
  | nil => exact absurd rfl hne
  | cons e rest =>
   rw [he] at main ⊢
   exact evalArgs_plain main
 rcases hk with ⟨id,rfl⟩ | ⟨T,rfl⟩ | hk
 ·exact callWith_builtin hp (wpAny_mono ev (λ _ _ x => x.2) λ _ _ x => x)
 ·exact PyProof.Rows.callWith_type hp (wpAny_mono ev (λ _ _ x => x.2) λ _ _ x => x)
 ·exact callWith_of (P := λ h => C.K.In h) (by rw [hp]; rfl) (λ h x => keeps_K hk h x) ev
theorem callWithF0 {A : Around} {s : Shared} {pos : Pos} {fv : Value} {first : List Value} {fV : List PV} {Q : PV->CH->Prop} {mg : Str->Option Value} (B : Bs C mg) (G : GA C A) (S : St C ρ σ s.heap)
  (hk : (∃ id,fv = .builtin id)\/(∃ T,fv = .type T)\/keepIn C.K fv = true) (rf : Rels s.heap fV first) (h : FC C fv fV σ Q) :
  wpAny (md C) A (callWith pos fv first (backTo pos (starEach [] C.env)) []) (PG C Rel Q σ s) (PX C σ s) s := by
 have ev : wpAny (md C) A (evalArgs fv true (backTo pos (starEach [] C.env)) []) (λ a s₁ => C.K.In s₁.heap/\wpAny (md C) A (call fv (first ++ a.pos) a.kw) (PG C Rel Q σ s) (PX C σ s) s₁) (PX C σ s) s :=
  PyProof.Rows.evalArgs_none ⟨S.inv.K B.K,by rw [List.append_nil]; exact h.at G S rf⟩
 rcases hk with ⟨id,rfl⟩ | ⟨T,rfl⟩ | hk
 ·exact callWith_builtin rfl (wpAny_mono ev (λ _ _ x => x.2) λ _ _ x => x)
 ·exact PyProof.Rows.callWith_type rfl (wpAny_mono ev (λ _ _ x => x.2) λ _ _ x => x)
 ·exact callWith_of (P := λ h => C.K.In h) rfl (λ h x => keeps_K hk h x) ev
theorem EV.call {f : Expr} {es : List Expr} {pos : Pos} {Q : PV->CH->Prop} {mg : Str->Option Value} (B : Bs C mg)
  (h : EV C f ρ σ λ V σ₁ => ∃ fv,V = .any fv/\((∃ id,fv = .builtin id)\/(∃ T,fv = .type T)\/keepIn C.K fv = true)/\EL C pos es ρ σ₁ λ vs σ₂ => FC C fv vs σ₂ Q)
  (hne : es ≠ [] := by simp) (hs : starEach es C.env = es.map λ e => (false,eval e C.env) := by rfl)
  (he : eval (.Call f es [] pos) C.env = (do callWith pos (<- eval f C.env) [] (backTo pos (starEach es C.env)) (backToKw pos (keywordEach [] C.env))) := by rfl) : EV C (.Call f es [] pos) ρ σ Q :=
 λ A s G S => Call_ (h.seq G S λ V v σ₁ s₁ h₁ r S₁ st₁ _ => by
  revert h₁; refine La.y1_3 λ fv h'1 hk h₁ => ?_; subst h'1
  cases r
  exact up st₁ (callWithF (fV := []) B G S₁ hk .nil h₁ hs hne)) he
theorem EV.call0 {f : Expr} {pos : Pos} {Q : PV->CH->Prop} {mg : Str->Option Value} (B : Bs C mg)
  (h : EV C f ρ σ λ V σ₁ => ∃ fv,V = .any fv/\((∃ id,fv = .builtin id)\/(∃ T,fv = .type T)\/keepIn C.K fv = true)/\FC C fv [] σ₁ Q)
  (he : eval (.Call f [] [] pos) C.env = (do callWith pos (<- eval f C.env) [] (backTo pos (starEach [] C.env)) (backToKw pos (keywordEach [] C.env))) := by rfl) : EV C (.Call f [] [] pos) ρ σ Q :=
 λ A s G S => Call_ (h.seq G S λ V v σ₁ s₁ h₁ r S₁ st₁ _ => by
  revert h₁; refine La.y1_3 λ fv h'1 hk h₁ => ?_; subst h'1
  cases r
  exact up st₁ (callWithF0 (fV := []) B G S₁ hk .nil h₁)) he
noncomputable def GM (C : Cx) (V : PV) (name : Str) (σ : CH) (fv : Value) : Prop :=
 ∀ A s v (pl : Sem Bool) (E : Value->Shared->Prop) (k : Value × List Value->Shared->Prop) (ρ : Loc'),St C ρ σ s.heap->Rel s.heap V v->k (fv,[v]) s->wpAny (md C) A (getMethod v name pl) k E s
theorem methodCall_of {A : Around} {s : Shared} {o : Expr} {name : Str} {apos pos : Pos} {args : List (Bool × Sem Value)} {ov fv : Value} {n : Nat} {k E : Value->Shared->Prop} (hm : methodCallForm n args [] = true) (hl : apos.endLine == pos.line)
  (hg : ∀ k' pl,k' (fv,[ov]) s->wpAny (md C) A (getMethod ov name pl) k' E s) (h : wpAny (md C) A (callWith pos fv [ov] args []) k E s) : wpAny (md C) A (methodCall o name apos pos C.env ov n args []) k E s := by
 unfold methodCall
 rw [hm]
 refine wpAny_bind (wpAny_holding (hg _ _ ?_))
 have hp : methodCallPos true o C.env apos pos = pure pos := by unfold methodCallPos; simp [hl]
 exact wpAny_bind (wpAny_of_eq hp h)
theorem EV.meth {o : Expr} {name : Str} {es : List Expr} {apos pos : Pos} {Q : PV->CH->Prop} {mg : Str->Option Value} (B : Bs C mg)
  (h : EV C o ρ σ λ V σ₁ => ∃ fv,GM C V name σ₁ fv/\((∃ id,fv = .builtin id)\/(∃ T,fv = .type T)\/keepIn C.K fv = true)/\EL C pos es ρ σ₁ λ vs σ₂ => FC C fv (V :: vs) σ₂ Q)
  (hne : es ≠ [] := by simp) (hs : starEach es C.env = es.map λ e => (false,eval e C.env) := by rfl) (hl : (apos.endLine == pos.line) = true := by rfl) (hf : es.length < 20 := by simp)
  (hb : attributeBase o name C.env (eval o C.env) = eval o C.env := by rfl) : EV C (.Call (.Attribute o name apos) es [] pos) ρ σ Q := λ A s G S => by
 rw [arm_eval_Call,hb]
 refine wpAny_bind (h.seq G S λ V v σ₁ s₁ h₁ r S₁ st₁ _ => wpAny_bind (wpAny_standAt ?_))
 revert h₁; refine La.y1_3 λ fv hg hk h₁ => ?_
 have hp := backTo_plain (pos := pos) hs
 have hm : methodCallForm (es.length + ([] : List Keyword).length) (backTo pos (starEach es C.env)) [] = true := by
  unfold methodCallForm
  have : (backTo pos (starEach es C.env)).all (λ x => !x.1) = true := by
   rw [List.all_eq_true]; intro x hx
   cases e : x.1 with
   | false => rfl
   | true => rw [List.any_eq_false] at hp; exact absurd e (hp x hx)
  simp [this]; exact La.z61 hf
 refine up st₁ (methodCall_of hm hl (λ k' pl hk' => hg _ _ _ _ _ _ _ S₁ r hk') ?_)
 exact callWithF (fV := [V]) B G S₁ hk (.cons r .nil) h₁ hs hne
theorem EV.meth0 {o : Expr} {name : Str} {apos pos : Pos} {Q : PV->CH->Prop} {mg : Str->Option Value} (B : Bs C mg)
  (h : EV C o ρ σ λ V σ₁ => ∃ fv,GM C V name σ₁ fv/\((∃ id,fv = .builtin id)\/(∃ T,fv = .type T)\/keepIn C.K fv = true)/\FC C fv [V] σ₁ Q)
  (hl : (apos.endLine == pos.line) = true := by rfl) (hb : attributeBase o name C.env (eval o C.env) = eval o C.env := by rfl) : EV C (.Call (.Attribute o name apos) [] [] pos) ρ σ Q := λ A s G S => by
 rw [arm_eval_Call,hb]
 refine wpAny_bind (h.seq G S λ V v σ₁ s₁ h₁ r S₁ st₁ _ => wpAny_bind (wpAny_standAt ?_))
 revert h₁; refine La.y1_3 λ fv hg hk h₁ => ?_
 refine up st₁ (methodCall_of rfl hl (λ k' pl hk' => hg _ _ _ _ _ _ _ S₁ r hk') ?_)
 exact callWithF0 (fV := [V]) B G S₁ hk (.cons r .nil) h₁
theorem GM.inst {mg : Str->Option Value} (B : Bs C mg) {a Cl dx f : Addr} {fs : List (Str × PV)} {name : Str} (ha : σ a = some (.inst Cl dx)) (hx : σ dx = some (.ns fs)) (hl : lk name fs = none) (hm : MethOk C.K Cl name f) : GM C (.ref a) name σ (.ref f) := by
 rintro A s v pl E k ρ S rfl hk
 refine La.x2_3 (S.inst ha hx) λ es n g rn I => ?_
 have z := rn.get (name := name)
 rw [hl] at z
 refine La.c3 hm λ h1 h2 h3 => ?_; clear hm
 exact method_fn (S.inv.K B.K) I (plainGet_of h1).1 (plainGet_of h1).2 h2 (beq_iff_eq.mp h3) (by show (lookIn name (dictOf es n)).map _ = _; rw [lookIn_dict,show getL name es = some none from z]; rfl) hk
theorem GM.list {a : Addr} {l : List PV} {name : Str} {id : String} (ha : σ a = some (.list l)) (slot : Slot "list" name id) (hty : typeOf (.builtin id) = pure (.type "method_descriptor")) : GM C (.ref a) name σ (.builtin id) := by
 rintro A s v pl E k ρ S rfl hk
 refine La.x2_2 (S.inv.1 _ _ ha) λ i n g r => ?_
 exact getMethod_builtin (T := "list") ⟨_,g,rfl⟩ PySem.F.plainAttrs_list slot hty (λ b e => by cases e; exact ⟨_,g,rfl⟩) hk
theorem GM.set {a : Addr} {M : Int->Bool} {n : Nat} (ha : σ a = some (.set M n)) : GM C (.ref a) "add" σ (.builtin "set.add") := by
 rintro A s v pl E k ρ S rfl hk
 exact getMethod_set_add (knd := intKind C.prog C.w) (S.inv.1 _ _ ha) hk
end
end Mine
end
section
open PySem PySem.W PySem.Calls PyProof.Rows PySem.Spec PySem.SeqAt
namespace Mine
noncomputable def FnAt (b : Heap) (f : Addr) (qual : Str) (params : Arguments) (body : List Stmt) (scope : Scope) (dV : Value) : Prop :=
 ∃ oc od osl nm kV doc pm an cdv ct,b.get? f = some ⟨oc,od,.func (fnX nm qual params body scope [] dV kV doc pm an cdv ct),osl⟩/\b.CodeRec cdv qual
noncomputable def HB (b : Heap) (qual : Str) (params : Arguments) (body : List Stmt) (scope : Scope) (dV : Value) (names : List Str) (vs vs' : List PV) : Prop :=
 ∀ nm kV doc pm an cdv ct (s : Shared) (vals : List Value),(∀ a o,b.get? a = some o->s.heap.get? a = some o)->Rels s.heap vs vals ->
  ∃ vals',BindsTo s (fnX nm qual params body scope [] dV kV doc pm an cdv ct) ⟨vals,[]⟩ (names.zip vals')/\Rels s.heap vs' vals'
theorem HB.one {b : Heap} {qual : Str} {params : Arguments} {body : List Stmt} {scope : Scope} {dV : Value} {x : Str} {V : PV}
  (h : ∀ nm kV doc pm an cdv ct v,bindArgs (fnX nm qual params body scope [] dV kV doc pm an cdv ct) ⟨[v],[]⟩ = pure [(x,v)]) : HB b qual params body scope dV [x] [V] [V] :=
 λ nm kV doc pm an cdv ct s vals _ r => by
  refine La.x2_3 (r.cons_inv) λ v l h'1 p q => ?_; subst h'1
  cases q.nil_inv
  exact ⟨[v],.of_eq (h _ _ _ _ _ _ _ v),r⟩
theorem HB.zero {b : Heap} {qual : Str} {params : Arguments} {body : List Stmt} {scope : Scope} {dV : Value}
  (h : ∀ nm kV doc pm an cdv ct,bindArgs (fnX nm qual params body scope [] dV kV doc pm an cdv ct) ⟨[],[]⟩ = pure []) : HB b qual params body scope dV [] [] [] :=
 λ nm kV doc pm an cdv ct s vals _ r => by
  cases r.nil_inv
  exact ⟨[],.of_eq (h _ _ _ _ _ _ _),r⟩
theorem HB.two {b : Heap} {qual : Str} {params : Arguments} {body : List Stmt} {scope : Scope} {dV : Value} {x y : Str} {V W : PV}
  (h : ∀ nm kV doc pm an cdv ct v w,bindArgs (fnX nm qual params body scope [] dV kV doc pm an cdv ct) ⟨[v,w],[]⟩ = pure [(x,v),(y,w)]) : HB b qual params body scope dV [x,y] [V,W] [V,W] :=
 λ nm kV doc pm an cdv ct s vals _ r => by
  obtain ⟨v,l,rfl,p,q⟩ := r.cons_inv
  obtain ⟨w,l,rfl,p,q⟩ := q.cons_inv
  cases q.nil_inv
  exact ⟨[v,w],.of_eq (h _ _ _ _ _ _ _ v w),r⟩
theorem HB.three {b : Heap} {qual : Str} {params : Arguments} {body : List Stmt} {scope : Scope} {dV : Value} {x y z : Str} {V W U : PV}
  (h : ∀ nm kV doc pm an cdv ct v w u,bindArgs (fnX nm qual params body scope [] dV kV doc pm an cdv ct) ⟨[v,w,u],[]⟩ = pure [(x,v),(y,w),(z,u)]) : HB b qual params body scope dV [x,y,z] [V,W,U] [V,W,U] :=
 λ nm kV doc pm an cdv ct s vals _ r => by
  obtain ⟨v,l,rfl,p,q⟩ := r.cons_inv
  obtain ⟨w,l,rfl,p,q⟩ := q.cons_inv
  obtain ⟨u,l,rfl,p,q⟩ := q.cons_inv
  cases q.nil_inv
  exact ⟨[v,w,u],.of_eq (h _ _ _ _ _ _ _ v w u),r⟩
theorem HB.four {b : Heap} {qual : Str} {params : Arguments} {body : List Stmt} {scope : Scope} {dV : Value} {x y z t : Str} {V W U T : PV}
  (h : ∀ nm kV doc pm an cdv ct v w u r,bindArgs (fnX nm qual params body scope [] dV kV doc pm an cdv ct) ⟨[v,w,u,r],[]⟩ = pure [(x,v),(y,w),(z,u),(t,r)]) : HB b qual params body scope dV [x,y,z,t] [V,W,U,T] [V,W,U,T] :=
 λ nm kV doc pm an cdv ct s vals _ r => by
  obtain ⟨v,l,rfl,p,q⟩ := r.cons_inv
  obtain ⟨w,l,rfl,p,q⟩ := q.cons_inv
  obtain ⟨u,l,rfl,p,q⟩ := q.cons_inv
  obtain ⟨c,l,rfl,p,q⟩ := q.cons_inv
  cases q.nil_inv
  exact ⟨[v,w,u,c],.of_eq (h _ _ _ _ _ _ _ v w u c),r⟩
structure Fits (C C' : Cx) (scope : Scope) (n : Nat) : Prop where
 b : C'.b = C.b
 K : C'.K = C.K
 sc : C'.env.scope = scope
 n : C'.n = n
theorem bindL_out {k : Str->Option NameKind} {x : Str} : ∀ {names : List Str} {vals : List Value} {m : Str->Option Value},x ∉ names->bindL k (names.zip vals) m x = m x
 | [],_,_,_ => rfl
 | _ :: _,[],_,_ => rfl
 | y :: ns,v :: vs,m,h => by
  simp only [List.zip_cons_cons,bindL]
  rw [bindL_out λ q => h (List.mem_cons_of_mem _ q)]
  split
  ·have : x ≠ y := λ q => h (q ▸ List.mem_cons_self)
   simp [this]
  ·rfl
theorem bindL_in {h : Heap} {k : Str->Option NameKind} {x : Str} (hk : k x = some .local) : ∀ {names : List Str} {vs : List PV} {vals : List Value} {m : Str->Option Value} {V : PV},names.Nodup->Rels h vs vals->lk x (names.zip vs) = some V ->
  ∃ v,bindL k (names.zip vals) m x = some v/\Rel h V v
 | [],_,_,_,_,_,_,e => by simp [lk] at e
 | _ :: _,[],_,_,_,_,r,e => by simp [lk] at e
 | y :: ns,W :: vs,vals,m,V,hn,r,e => by
  refine La.x2_3 (r.cons_inv) λ v l h'1 p q => ?_; subst h'1
  refine La.c2 (List.nodup_cons.mp hn) λ h1 h2 => ?_
  simp only [List.zip_cons_cons,lk] at e
  simp only [List.zip_cons_cons,bindL]
  by_cases hx : x = y
  ·subst hx
   simp only [if_true] at e
   cases e
   rw [bindL_out h1,if_pos hk]
   exact ⟨v,by simp,p⟩
  ·rw [if_neg hx] at e
   exact bindL_in hk h2 q e
theorem bindC_out {k : Str->Option NameKind} {x : Str} : ∀ {names : List Str} {vals : List Value} {m : Str->Option Value},x ∉ names->bindC k (names.zip vals) m x = m x
 | [],_,_,_ => rfl
 | _ :: _,[],_,_ => rfl
 | y :: ns,v :: vs,m,h => by
  simp only [List.zip_cons_cons,bindC]
  rw [bindC_out λ q => h (List.mem_cons_of_mem _ q)]
  split
  ·rfl
  ·have : x ≠ y := λ q => h (q ▸ List.mem_cons_self)
   simp [this]
theorem bindC_in {h : Heap} {k : Str->Option NameKind} {x : Str} (hk : k x ≠ some .local) : ∀ {names : List Str} {vs : List PV} {vals : List Value} {m : Str->Option Value} {V : PV},names.Nodup->Rels h vs vals->lk x (names.zip vs) = some V ->
  ∃ v,bindC k (names.zip vals) m x = some v/\Rel h V v
 | [],_,_,_,_,_,_,e => by simp [lk] at e
 | _ :: _,[],_,_,_,_,r,e => by simp [lk] at e
 | y :: ns,W :: vs,vals,m,V,hn,r,e => by
  refine La.x2_3 (r.cons_inv) λ v l h'1 p q => ?_; subst h'1
  refine La.c2 (List.nodup_cons.mp hn) λ h1 h2 => ?_
  simp only [List.zip_cons_cons,lk] at e
  simp only [List.zip_cons_cons,bindC]
  by_cases hx : x = y
  ·subst hx
   simp only [if_true] at e
   cases e
   rw [bindC_out h1,if_neg hk]
   exact ⟨v,by simp,p⟩
  ·rw [if_neg hx] at e
   exact bindC_in hk h2 q e
theorem lk_mem {x : Str} : ∀ {names : List Str} {vs : List PV} {V : PV},lk x (names.zip vs) = some V->x ∈ names
 | [],_,_,e => by simp [lk] at e
 | _ :: _,[],_,e => by simp [lk] at e
 | y :: ns,W :: vs,V,e => by
  simp only [List.zip_cons_cons,lk] at e
  by_cases hx : x = y
  ·exact hx ▸ List.mem_cons_self
  ·rw [if_neg hx] at e; exact List.mem_cons_of_mem _ (lk_mem e)
noncomputable def retV : Fl->PV
 | .ret V => V
 | _ => .none
noncomputable def ownOf' (env : Env) : List Addr := env.locals :: env.cells.filterMap λ p => if env.cells.lookup p.1 = some p.2 then some p.2 else none
theorem enter {C : Cx} {σ : CH} {s s' : Shared} {scope : Scope} {f : Addr} {nm qual : Str} {params : Arguments} {body : List Stmt} {dV kV doc pm cdv ct : Value} {an : Option Addr} {names : List Str} {vs' : List PV} {vals' : List Value} {n : Nat} {X : Value->CH->Shared->Prop}
  (I : Inv C.prog C.w C.b σ s.heap) (F : FrOk C.b σ s.heap C.fl) (hk : scope.kind = .function) (hnd : names.Nodup) (hfk : ∀ y ∈ names,scope.names.lookup y = some .local\/scope.names.lookup y = some .cell) (r' : Rels s.heap vs' vals')
  {env : Env} (he : env = callEnvC (fnX nm qual params body scope [] dV kV doc pm an cdv ct) s.heap.objs.size f)
  (x : InCallC s env.locals (bindL env.kindOf (names.zip vals') λ _ => none) env.cells (bindC env.kindOf (names.zip vals') λ _ => none) s') :
  St { C with env := env,O := ownOf' env,fl := env :: C.fl,n := n,X := X } (names.zip vs') σ s'.heap/\Step [] σ s s' σ := by
 have keep := x.toInCall.keep
 refine La.x2_1 (x.toInCall.same) λ hp tk es => ?_
 have hL : env.locals = s.heap.objs.size := by rw [he]; rfl
 refine La.c2 (I.grow (s := s) (h' := s'.heap) (t := tk) keep []) λ I' st => ?_
 have st' : Step [] σ s s' σ := by
  have : s' = { s with heap := s'.heap,toks := tk } := by rw [es]
  rw [this]; exact st
 have kt : KeepT s.heap s'.heap := λ a o e _ => keep a o e
 have hsc : env.scope = scope := by rw [he]; rfl
 have fresh : ∀ a,s.heap.objs.size<=a->s.heap.get? a = none := λ a h => by
  cases q : s.heap.get? a with
  | none => rfl
  | some o => exact absurd (Heap.lt_size q) (Nat.not_lt.mpr h)
 have σn : ∀ a,s.heap.objs.size<=a->σ a = none := λ a h => by
  cases q : σ a with
  | none => rfl
  | some m => refine La.x1_1 (ORel.ex (I.1 _ _ q)) λ o e => ?_; rw [fresh a h] at e; cases e
 have bn : ∀ a,s.heap.objs.size<=a->C.b.get? a = none := λ a h => by
  cases q : C.b.get? a with
  | none => rfl
  | some o => have := (I.2 _ _ q).1; rw [fresh a h] at this; cases this
 have cge : ∀ y c,env.cells.lookup y = some c->s.heap.objs.size<=c := λ y c e => by have := x.above y c (mem_of_lookup e); rw [hL] at this; exact Nat.le_of_lt this
 have slot : ∀ y,env.kindOf y = some .cell->∃ c v,env.cells.lookup y = some c/\s'.heap.IsCell c v := λ y e => by
  have : (env.cells.lookup y).isSome = true := by
   have e2 : scope.names.lookup y = some .cell := by rw [<- hsc]; exact e
   have e3 : env.cells = cellsFrom (s.heap.objs.size + 1) scope.names [] := by rw [he]; rfl
   rw [e3]; exact cellsFrom_some _ _ _ (.inl e2)
  refine La.x1_1 (Option.isSome_iff_exists.mp this) λ c hc => ?_
  exact ⟨c,_,hc,x.cell y c hc⟩
 refine ⟨⟨I',⟨by show env.scope.kind = _; rw [hsc]; exact hk,by show env.globals = _; rw [he]; rfl,by show env.builtins = _; rw [he]; rfl,List.mem_cons_self,λ y c _ e => List.mem_cons_of_mem _ (List.mem_filterMap.mpr ⟨(y,c),mem_of_lookup e,if_pos e⟩),λ y z c a b => name_of_addr x.apart (mem_of_lookup a) (mem_of_lookup b),λ a ha => ?_⟩,⟨⟨_,x.toInCall.ns,λ y V e f => ?_⟩,λ y V e f => ?_,slot⟩,λ a ha => ?_,λ y c e => ?_,λ e' he' => ?_,λ e' he' a f g => ?_⟩,st'⟩
 ·rcases List.mem_cons.mp ha with rfl | ha
  ·exact bn _ (by rw [hL]; exact Nat.le_refl _)
  ·refine La.x1_2 (List.mem_filterMap.mp ha) λ h'1 m e => ?_; rcases h'1 with ⟨y,c⟩
   split at e
   ·cases e; exact bn _ (by have := x.above y c m; rw [hL] at this; exact Nat.le_of_lt this)
   ·cases e
 ·refine La.x1_2 (bindL_in (h := s.heap) (k := env.kindOf) (m := λ _ => none) f hnd r' e) λ v a b => ?_
  exact ⟨v,a,kt.rel b⟩
 ·have hne : env.kindOf y ≠ some .local := λ q => by
   change env.kindOf y = some .cell\/env.kindOf y = some .free at f
   rw [q] at f; rcases f with f | f <;> cases f
  refine La.x1_2 (bindC_in (h := s.heap) (k := env.kindOf) (m := λ _ => none) hne hnd r' e) λ v a b => ?_
  rcases f with f | f
  ·refine La.x2_2 (slot y f) λ c v' hc hv => ?_
   have z := x.cell y c hc
   rw [a] at z
   exact ⟨c,v,hc,z,kt.rel b⟩
  ·
   exfalso
   have z := hfk y (lk_mem e)
   have f : scope.names.lookup y = some .free := by rw [<- hsc]; exact f
   rw [f] at z; rcases z with z | z <;> cases z
 ·rcases List.mem_cons.mp ha with rfl | ha
  ·refine La.x3_3 (x.toInCall.ns) λ o es ep e d _ => ?_
   exact ⟨σn _ (by rw [hL]; exact Nat.le_refl _),o,e,λ vs n q => by rw [d] at q; cases q⟩
  ·refine La.x1_2 (List.mem_filterMap.mp ha) λ h'1 m e => ?_; rcases h'1 with ⟨y,c⟩
   split at e
   ·rename_i q
    cases e
    refine La.x1_2 (x.cell y c q) λ o g d => ?_
    exact ⟨σn _ (cge y c q),o,g,λ vs n q => by rw [d] at q; cases q⟩
   ·cases e
 ·refine La.x1_2 (x.cell y c e) λ o g _ => ?_
  exact ⟨σn _ (cge y c e),o,g⟩
 ·rcases List.mem_cons.mp he' with rfl | he'
  ·refine La.x3_3 (x.toInCall.ns) λ o es ep e d _ => ?_
   refine ⟨by rw [hsc,hk]; simp,e'.locals,o,by rw [he]; rfl,bn _ (by rw [hL]; exact Nat.le_refl _),e,Frm.of d,σn _ (by rw [hL]; exact Nat.le_refl _)⟩
  ·refine La.c2 (F e' he') λ a h'1 => ?_; refine La.x2_5 h'1 λ L o b c d e g => ?_; clear h'1
   exact ⟨a,L,o,b,c,keep _ _ d,e,g⟩
 ·rcases List.mem_cons.mp he' with rfl | he'
  ·have : a = e'.locals := by
    have : e'.frame = some e'.locals := by rw [he]; rfl
    rw [this] at f; exact (Option.some.inj f).symm
   subst this
   exact ⟨_,x.toInCall.ns⟩
  ·exfalso
   refine La.c2 (F e' he') λ _ h'1 => ?_; refine La.x2_4 h'1 λ L o b c d _ => ?_; clear h'1
   rw [b] at f; cases f
   have hlt := Heap.lt_size d
   rcases List.mem_cons.mp g with q | q
   ·rw [q,hL] at hlt; exact absurd hlt (Nat.lt_irrefl _)
   ·refine La.x1_2 (List.mem_filterMap.mp q) λ h'1 m q => ?_; rcases h'1 with ⟨y,c⟩
    split at q
    ·cases q
     have := x.above y _ m
     rw [hL] at this; exact absurd (Nat.lt_trans this hlt) (Nat.lt_irrefl _)
    ·cases q
noncomputable def FCc (C : Cx) (f : Value) (vs : List PV) (σ : CH) (Q : PV->CH->Prop) : Prop :=
 ∀ A s vals,GA C A->Inv C.prog C.w C.b σ s.heap->FrOk C.b σ s.heap C.fl->Rels s.heap vs vals ->
  codeAny (md C) A (.call f ⟨vals,[]⟩) (λ r s' => match r with | .ok (.ret v) => PG C Rel Q σ s v s' | .ok _ => False | .error e => ∃ σ',C.X e σ' s'/\Inv C.prog C.w C.b σ' s'.heap/\Step [] σ s s' σ') s
theorem FCc.fc {C : Cx} {f : Value} {vs : List PV} {σ : CH} {Q : PV->CH->Prop} (h : FCc C f vs σ Q) : FC C f vs σ Q := λ A s vals G I F r => wpAny_call (codeAny_mono (h A s vals G I F r) λ r s' x => by
 cases r with
 | error e => exact x
 | ok f => cases f <;> first | exact x | exact x.elim)
theorem FCc.fn {C : Cx} {σ : CH} {n : Nat} {f : Addr} {qual : Str} {params : Arguments} {body : List Stmt} {scope : Scope} {dV : Value} {names : List Str} {vs vs' : List PV} {Q : PV->CH->Prop} {mg : Str->Option Value}
  (hn : C.n = n + 1) (B : Bs C mg) (fa : FnAt C.b f qual params body scope dV) (hb : HB C.b qual params body scope dV names vs vs')
  (hk : scope.kind = .function) (hco : scope.isCoroutine = false) (hgen : scope.isGenerator = false) (hnd : names.Nodup) (hfk : ∀ y ∈ names,scope.names.lookup y = some .local\/scope.names.lookup y = some .cell)
  (h : ∀ C',Fits C C' scope n->(∀ e σ s,¬ C'.X e σ s)->EX C' body (names.zip vs') σ λ fl _ σ' => Q (retV fl) σ') : FCc C (.ref f) vs σ Q := by
 intro A s vals G I F r
 refine La.x10_2 fa λ oc od osl nm kV doc pm an cdv ct g hcd => ?_; clear fa
 refine La.x1_2 (hb nm kV doc pm an cdv ct s vals (λ a o e => (I.2 a o e).1) r) λ vals' hbind r' => ?_
 refine codeAny_call_function (by have := G.depth; exact La.z62 this) (I.2 _ _ g).1 rfl hco hgen rfl (hcd.keeps λ a o e => (I.2 a o e).1) ?_
 refine hbind _ _ _ _ ?_
 refine wpAny_newFunctionEnv_cells hk (λ x hx => ?_) λ env he s' x => ?_
 ·have := hfk x.1 (List.of_mem_zip hx).1
  rcases this with e | e
  ·exact .inl e
  ·exact .inr ⟨e,cellsFrom_some _ _ _ (.inl e)⟩
 refine La.c2 (enter (n := n) (X := λ _ _ _ => False) (nm := nm) (qual := qual) (params := params) (body := body) (dV := dV) (kV := kV) (doc := doc) (pm := pm) (an := an) (cdv := cdv) (ct := ct) (f := f) I F hk hnd hfk r' he x) λ S' st => ?_
 refine ⟨B.nl.keeps λ a o e => (S'.inv.2 a o e).1,codeAny_func ?_⟩
 have G' : GA { C with env := env,O := ownOf' env,fl := env :: C.fl,n := n,X := λ _ _ _ => False } (A.deeper env) :=
  ⟨by have := G.depth; show A.depth + 1 + 2 * n < _; exact La.z25 hn this,by have := G.units; show A.units + 3 + 12 * n + 400 < _; exact La.z63 hn this,G.handled,by show A.frames.map _ = _; rw [G.frames]; rfl⟩
 have hsc : env.scope = scope := by rw [he]; rfl
 refine wpAny_mono (h { C with env := env,O := ownOf' env,fl := env :: C.fl,n := n,X := λ _ _ _ => False } ⟨rfl,rfl,hsc,rfl⟩ (λ _ _ _ x => x) (A.deeper env) s' G' S') (λ fl s'' y => ?_) λ e s'' ⟨σ',q,_⟩ => q.elim
 refine La.x3_4 y λ fl' ρ' σ' q rf S'' st' => ?_; clear y
 have own : ∀ a o,s.heap.get? a = some o->a ∉ ownOf' env := λ a o e m => by
  have hlt := Heap.lt_size e
  have hL : env.locals = s.heap.objs.size := by rw [he]; rfl
  rcases List.mem_cons.mp m with q | q
  ·rw [q,hL] at hlt; exact absurd hlt (Nat.lt_irrefl _)
  ·refine La.x1_2 (List.mem_filterMap.mp q) λ h'1 mm q => ?_; rcases h'1 with ⟨y,c⟩
   split at q
   ·cases q
    have := x.above y _ mm
    rw [hL] at this; exact absurd (Nat.lt_trans this hlt) (Nat.lt_irrefl _)
   ·cases q
 have st2 : Step [] σ s s'' σ' := by
  have t := (st.wider (O' := ownOf' env) (by simp)).trans st'
  exact ⟨λ a o e n _ => t.keep a o e n (own a o e),λ a o e n _ => t.new a o e n (own a o e),t.gens,t.os⟩
 have fin : ∀ v,Rel s''.heap (retV fl') v->PG C Rel Q σ s v s'' := λ v r => ⟨_,_,q,r,S''.inv,st2⟩
 cases fl' with
 | next => cases rf; exact fin _ rfl
 | brk => cases rf; exact fin _ rfl
 | cont => cases rf; exact fin _ rfl
 | ret V => refine La.x1_2 rf λ v h'1 r => ?_; clear rf; subst h'1; exact fin _ r
theorem FC.fn {C : Cx} {σ : CH} {n : Nat} {f : Addr} {qual : Str} {params : Arguments} {body : List Stmt} {scope : Scope} {dV : Value} {names : List Str} {vs vs' : List PV} {Q : PV->CH->Prop} {mg : Str->Option Value}
  (hn : C.n = n + 1) (B : Bs C mg) (fa : FnAt C.b f qual params body scope dV) (hb : HB C.b qual params body scope dV names vs vs')
  (hk : scope.kind = .function) (hco : scope.isCoroutine = false) (hgen : scope.isGenerator = false) (hnd : names.Nodup) (hfk : ∀ y ∈ names,scope.names.lookup y = some .local\/scope.names.lookup y = some .cell)
  (h : ∀ C',Fits C C' scope n->(∀ e σ s,¬ C'.X e σ s)->EX C' body (names.zip vs') σ λ fl _ σ' => Q (retV fl) σ') : FC C (.ref f) vs σ Q := (FCc.fn hn B fa hb hk hco hgen hnd hfk h).fc
end Mine
end
section
open PySem PySem.W PySem.Calls PyProof.Rows PySem.Spec PySem.SeqAt
namespace Mine
section
variable {C : Cx} {ρ : Loc'} {σ : CH}
theorem PGI.now {α β : Type} {R : Heap->β->α->Prop} {Q : β->CH->Prop} {s : Shared} {V : β} {a : α} {t : Nat} (I : Inv C.prog C.w C.b σ s.heap) (q : Q V σ) (r : R s.heap V a) : PG C R Q σ s a { s with toks := t } :=
 ⟨V,σ,q,r,I,(I.grow (λ _ _ e => e) []).2⟩
theorem PGI.grown {α β : Type} {R : Heap->β->α->Prop} {Q : β->CH->Prop} {s : Shared} {V : β} {a : α} {h' : Heap} {t : Nat} (I : Inv C.prog C.w C.b σ s.heap) (hk : ∀ a o,s.heap.get? a = some o->h'.get? a = some o) (q : Q V σ) (r : R h' V a) : PG C R Q σ s a { s with heap := h',toks := t } :=
 ⟨V,σ,q,r,(I.grow (t := t) hk []).1,(I.grow hk []).2⟩
theorem Inv.freshσ {prog : Program} {w : World} {b h : Heap} (I : Inv prog w b σ h) : σ h.objs.size = Option.none := by
 cases q : σ h.objs.size with
 | none => rfl
 | some m => refine La.x1_1 (ORel.ex (I.1 _ _ q)) λ o e => ?_; rw [fresh_none] at e; cases e
theorem PGI.made {Q : PV->CH->Prop} {s : Shared} {o : Obj} {t : Nat} {m : MO} (I : Inv C.prog C.w C.b σ s.heap) (ho : ORel C.prog C.w (s.heap.push o) s.heap.objs.size m)
  (q : ∀ a,σ a = .none->Q (.ref a) (upd σ a m)) : PG C Rel Q σ s (.ref s.heap.objs.size) { s with heap := s.heap.push o,toks := t } :=
 ⟨.ref s.heap.objs.size,_,q _ I.freshσ,rfl,(I.alloc (t := t) ho []).1,(I.alloc ho []).2⟩
theorem PGI.put {α β : Type} {R : Heap->β->α->Prop} {Q : β->CH->Prop} {s : Shared} {V : β} {v : α} {h' : Heap} {t : Nat} {a : Addr} {m m' : MO} (I : Inv C.prog C.w C.b σ s.heap) (ha : σ a = some m) (hs : Heap.ExtBut a s.heap h')
  (ho : ORel C.prog C.w h' a m') (q : Q V (upd σ a m')) (r : R h' V v) : PG C R Q σ s v { s with heap := h',toks := t } :=
 ⟨V,_,q,r,(I.put (t := t) (.inl (by rw [ha]; simp)) hs ho []).1,(I.put (.inl (by rw [ha]; simp)) hs ho []).2⟩
theorem Inv.kt {prog : Program} {w : World} {b h h' : Heap} {a : Addr} {m : MO} (I : Inv prog w b σ h) (ha : σ a = some m) (hs : Heap.ExtBut a h h') : KeepT h h' := λ c o e t => hs c o (λ q => by
 subst q; exact ORel.notTup (I.1 _ _ ha) e t) e
theorem PGI.putL {Q : PV->CH->Prop} {s : Shared} {V : PV} {v : Value} {t : Nat} {a : Addr} {l0 l : List PV} {items : Array Value} {n : Nat} {f : Array Value->Array Value} (I : Inv C.prog C.w C.b σ s.heap) (ha : σ a = some (.list l0)) (g : IsL s.heap a items n)
  (hr : Rels s.heap l (f items).toList) (q : Q V (upd σ a (.list l))) (r : Rel s.heap V v) : PG C Rel Q σ s v { s with heap := s.heap.update a (Obj.mapSeq f),toks := t } := by
 have ex : Heap.ExtBut a s.heap (s.heap.update a (Obj.mapSeq f)) := (Heap.SameBut.update ..).extBut
 have kt := Inv.kt I ha ex
 exact PGI.put (m' := .list l) I ha ex ⟨_,_,IsL.update g _,kt.rels hr⟩ q (kt.rel r)
theorem fc_append {a : Addr} {l : List PV} {V : PV} {Q : PV->CH->Prop} (ha : σ a = some (.list l)) (hsz : l.length < 100000) (q : Q .none (upd σ a (.list (l ++ [V])))) : FC C (.builtin "list.append") [.ref a,V] σ Q := by
 intro A s vals G I F r
 refine La.x2_3 (r.cons_inv) λ _ r1 h'1 h'2 r₂ => ?_; subst h'1; subst h'2
 refine La.x2_3 (r₂.cons_inv) λ w r1 h'1 rw' r₃ => ?_; subst h'1
 cases r₃.nil_inv
 refine La.x2_2 (I.1 _ _ ha) λ items n g rl => ?_
 have el := rl.length
 simp at el
 refine call_meets PySem.F.slot_list_append ⟨_,g,rfl⟩ PySem.F.entry_list_append (PySem.F.args_list_append_2 _ _) (list_append a items n w (by rw [sizeLine_eq]; exact La.z19 hsz el)) ⟨g,?_⟩
 refine PGI.putL I ha g ?_ q rfl
 rw [Array.toList_push]
 exact rl.append (.cons rw' .nil)
theorem fc_pop {a : Addr} {l : List PV} {V : PV} {Q : PV->CH->Prop} (ha : σ a = some (.list (l ++ [V]))) (hsz : l.length < 100000) (q : Q V (upd σ a (.list l))) : FC C (.builtin "list.pop") [.ref a] σ Q := by
 intro A s vals G I F r
 refine La.x2_3 (r.cons_inv) λ _ r1 h'1 h'2 r₂ => ?_; subst h'1; subst h'2
 cases r₂.nil_inv
 refine La.x2_2 (I.1 _ _ ha) λ items n g rl => ?_
 have el := rl.length
 simp at el
 refine La.x2_3 (rl.append_inv) λ vs us e p q' => ?_
 refine La.x2_3 (q'.cons_inv) λ u r1 h'1 ru r₄ => ?_; subst h'1
 cases r₄.nil_inv
 have hy : items[items.size - 1]? = some u := by
  rw [<- Array.getElem?_toList,e,<- el]
  have := p.length
  simp [this]
 refine call_meets PySem.F.slot_list_pop ⟨_,g,rfl⟩ PySem.F.entry_list_pop (PySem.F.args_list_pop_1 _) (MeetsSeq.list_pop_last a items n u hy (by rw [sizeLine_eq]; exact La.z64 hsz el)) ⟨g,?_⟩
 refine PGI.putL I ha g ?_ q ru
 have : (items.eraseIdxIfInBounds (items.size - 1)).toList = vs := by
  rw [Array.toList_eraseIdxIfInBounds,e,<- el]
  have := p.length
  rw [List.eraseIdx_append_of_length_le (by exact La.l2 (.Q .x0 .x1) (.o (.w (.L .l1 (.a .x0 .l1)) (.Q (.a .x2 .l1) (.a .x0 .l1))) (.w (.L (.a (.a .x0 .l1) .l1) .l1) (.Q .x2 .l0))) (.L .x1 .x2) [[0,1,0,0,1,1],[0,0,1,0,0,0]] rfl [_,_,_] [] this (La.sb _ _))]
  simp [this]
 rw [this]
 exact p
theorem fc_pop0 {a : Addr} {l : List PV} {V : PV} {Q : PV->CH->Prop} (ha : σ a = some (.list (V :: l))) (hsz : l.length < 100000) (q : Q V (upd σ a (.list l))) : FC C (.builtin "list.pop") [.ref a,.int 0] σ Q := by
 intro A s vals G I F r
 refine La.x2_3 (r.cons_inv) λ _ r1 h'1 h'2 r₂ => ?_; subst h'1; subst h'2
 refine La.x2_3 (r₂.cons_inv) λ _ r1 h'1 h'2 r₃ => ?_; subst h'1; refine La.x1_1 h'2 λ t h'3 => ?_; clear h'2; subst h'3
 cases r₃.nil_inv
 refine La.x2_2 (I.1 _ _ ha) λ items n g rl => ?_
 have el := rl.length
 simp at el
 refine La.x2_3 (rl.cons_inv) λ u us e ru p => ?_
 have hy : items[0]? = some u := by rw [<- Array.getElem?_toList,e]; rfl
 have hk : seqIndex? 0 items.size = some 0 := by
  exact seqIndex?_zero (by exact La.l1 (.Q (.a .x0 .l1) .x1) (.T .l0 .x1) [[1,0,1]] rfl [_,_] [] el)
 refine call_meets PySem.F.slot_list_pop ⟨_,g,rfl⟩ PySem.F.entry_list_pop (PySem.F.args_list_pop_2 _ _) (MeetsSeq.list_pop_at a items n 0 t 0 u (by decide) hk hy (by rw [sizeLine_eq]; exact La.z64 hsz el)) ⟨g,?_⟩
 refine PGI.putL I ha g ?_ q ru
 have : (items.eraseIdxIfInBounds 0).toList = us := by rw [Array.toList_eraseIdxIfInBounds,e]; rfl
 rw [this]
 exact p
theorem fc_reverse {a : Addr} {l : List PV} {Q : PV->CH->Prop} (ha : σ a = some (.list l)) (hsz : l.length < 100000) (q : Q .none (upd σ a (.list l.reverse))) : FC C (.builtin "list.reverse") [.ref a] σ Q := by
 intro A s vals G I F r
 refine La.x2_3 (r.cons_inv) λ _ r1 h'1 h'2 r₂ => ?_; subst h'1; subst h'2
 cases r₂.nil_inv
 refine La.x2_2 (I.1 _ _ ha) λ items n g rl => ?_
 have el := rl.length
 simp at el
 refine call_meets PySem.F.slot_list_reverse ⟨_,g,rfl⟩ PySem.F.entry_list_reverse (PySem.F.args_list_reverse_1 _) (AutoSeq1.list_reverse_list_0 a items n (by rw [sizeLine_eq]; exact La.z19 hsz el)) ⟨g,?_⟩
 refine PGI.putL I ha g ?_ q rfl
 rw [Array.toList_reverse]
 exact rl.reverse
theorem remove_loopAt (l : Addr) (items : Array Value) (n : Nat) (x : Value) (e : Value->Bool) (j : Nat) (hj : j < items.size) (hit : e items[j] = true) (k : Nat) (hs1 : items.size<=sizeLine) :
  ∀ i : Nat,j - i = k->i<=j->(∀ m (hm : m < items.size),i<=m->m < j->e items[m] = false)->Meets (Builtin.«list.remove.loop» ⟨[.ref l,x,rawInt i],[]⟩)
   (λ A R s => s.heap.get? l = some { cls := .type "list",dict := none,data := .seq items n,slots := #[] }/\(∀ y,y ∈ items->EqAt A.in1 s y x (e y))/\R (.ok (.ret .none)) { s with heap := s.heap.update l (Obj.mapSeq λ xs => xs.eraseIdxIfInBounds j) }) := by
 induction k with
 | zero =>
  intro i hk hij hno prog w A R s h
  obtain ⟨hp,g,d,tk,os⟩ := s; revert h; refine La.k3 λ hl he h => ?_
  have hij' : i = j := by exact La.l3 (.Q .x2 .l0) (.L .x1 .x0) (.o (.w (.L .x1 .x0) (.Q (.a .x2 .x1) .x0)) (.w (.L (.a .x0 .l1) .x1) (.Q .x2 .l0))) (.Q .x1 .x0) [[1,0,0,0,0,1,1],[0,0,1,0,0,0,1],[0,0,1,1,0,0,0],[0,0,1,1,0,0,0]] rfl [_,_,_] [] hk hij (La.sb _ _)
  subst hij'
  wp_walk using AutoSeq1.wpAny_loadPart' hl
  have hi : items[((i : Nat) : Int).toNat]? = some items[i] := by simp [hj]
  rw [hi]
  refine wpAny_bind (he _ (Array.getElem_mem hj) prog w _ _ ?_)
  rw [hit]
  have hz' : (items.eraseIdxIfInBounds i).size<=sizeLine + 1 := Nat.le_trans (by rw [<- Array.length_toList,Array.toList_eraseIdxIfInBounds,List.length_eraseIdx,Array.length_toList]; split <;> (first | exact False.elim (La.l2 (.T .x0 .x1) (.n (.T .x0 .x1)) .F [[1,1]] rfl [_,_] [] hj (by assumption)) | exact La.l1 (.o (.w (.L .l1 .x0) (.Q (.a .x1 .l1) .x0)) (.w (.L (.a .x0 .l1) .l1) (.Q .x1 .l0))) (.L .x1 .x0) [[0,1,0,1],[0,1,0,1]] rfl [_,_] [] (La.sb _ _))) (Nat.le_succ_of_le hs1)
  wp_walk using (wpAny_updateSeq hl rfl (hz := hs1) (_hz' := hz')),AutoSeq1.wpAny_loadPart' hl
  simpa using h
 | succ k ih =>
  intro i hk hij hno prog w A R s h
  obtain ⟨hp,g,d,tk,os⟩ := s; revert h; refine La.k3 λ hl he h => ?_
  have hlt : i < items.size := by exact La.l2 (.T .x0 .x1) (.L .x2 .x0) (.T .x2 .x1) [[1,1,1]] rfl [_,_,_] [] hj hij
  wp_walk using AutoSeq1.wpAny_loadPart' hl
  have hi : items[((i : Nat) : Int).toNat]? = some items[i] := by simp [hlt]
  have hc : ((i : Int) + 1) = ((i + 1 : Nat) : Int) := by push_cast; rfl
  rw [hi]
  refine wpAny_bind (he _ (Array.getElem_mem hlt) prog w _ _ ?_)
  rw [hno i hlt (Nat.le_refl _) (by exact La.z108 hk (La.sb _ _))]
  wp_walk
  rw [hc]
  exact ⟨plainId_quiet MeetsSeq.plain_remove_loop _,codeAny_builtin MeetsSeq.entry_remove_loop (by
   rw [Around.under_plainId MeetsSeq.plain_remove_loop _]
   exact ih (i + 1) (by exact La.l3 (.Q .x2 (.a .x3 .l1)) (.o (.w (.L .x1 .x0) (.Q (.a .x2 .x1) .x0)) (.w (.L (.a .x0 .l1) .x1) (.Q .x2 .l0))) (.o (.w (.L (.a .x1 .l1) .x0) (.Q (.a .x4 (.a .x1 .l1)) .x0)) (.w (.L (.a .x0 .l1) (.a .x1 .l1)) (.Q .x4 .l0))) (.Q .x4 .x3) [[0,1,0,1,0,0,0,1,1],[1,0,0,0,1,0,1,0,1],[0,1,0,1,0,1,0,0,0],[0,0,0,0,0,0,1,0,1],[0,1,0,1,0,0,0,0,0],[0,0,1,0,0,1,0,0,0],[0,1,0,1,0,0,0,0,0],[0,0,0,0,0,0,1,0,1]] rfl [_,_,_,_,_] [] hk (La.sb _ _) (La.sb _ _)) (by exact La.z108 hk (La.sb _ _)) (λ m hm h1 h2 => hno m hm (by exact La.z9 h1) h2) prog w A R _ ⟨hl,he,h⟩)⟩
theorem list_removeAt (l : Addr) (items : Array Value) (n : Nat) (x : Value) (e : Value->Bool) (j : Nat) (hj : j < items.size)
  (hit : e items[j] = true) (hno : ∀ m (hm : m < items.size),m < j->e items[m] = false) (hs1 : items.size<=sizeLine) :
  Meets (Builtin.«list.remove» ⟨[.ref l,x],[]⟩)
   (λ A R s => s.heap.get? l = some { cls := .type "list",dict := none,data := .seq items n,slots := #[] }/\(∀ y,y ∈ items->EqAt A.in1 s y x (e y))/\R (.ok (.ret .none)) { s with heap := s.heap.update l (Obj.mapSeq λ xs => xs.eraseIdxIfInBounds j) }) := by
 intro prog w A R s h
 obtain ⟨hp,g,d,tk,os⟩ := s; revert h; refine La.k3 λ hl he h => ?_
 wp_walk using AutoSeq1.wpAny_loadPart' hl
 exact ⟨plainId_quiet MeetsSeq.plain_remove_loop _,codeAny_builtin MeetsSeq.entry_remove_loop (by
  rw [Around.under_plainId MeetsSeq.plain_remove_loop _]
  exact remove_loopAt l items n x e j hj hit _ hs1 0 rfl (Nat.zero_le _) (λ m hm _ h2 => hno m hm h2) prog w A R _ ⟨hl,he,h⟩)⟩
theorem fc_remove {a : Addr} {l : List PV} {V : PV} {j : Nat} {Q : PV->CH->Prop} (ha : σ a = some (.list l)) (hsz : l.length < 100000) (hl : Pls l = true) (hd : PyData.depthAll (dats l)<=60) (hj : l[j]? = some V) (hno : ∀ m,m < j->l[m]? ≠ some V)
  (q : Q .none (upd σ a (.list (l.eraseIdx j)))) : FC C (.builtin "list.remove") [.ref a,V] σ Q := by
 intro A s vals G I F r
 refine La.x2_3 (r.cons_inv) λ _ r1 h'1 h'2 r₂ => ?_; subst h'1; subst h'2
 refine La.x2_3 (r₂.cons_inv) λ w r1 h'1 rw' r₃ => ?_; subst h'1
 cases r₃.nil_inv
 refine La.x2_2 (I.1 _ _ ha) λ items n g rl => ?_
 have el := rl.length
 simp at el
 have hV : Pl V = true := Pls_iff.mp hl V (List.mem_of_getElem? hj)
 have hdV : (dat V).depth<=60 := by
  have : ∀ {m : List PV},V ∈ m->PyData.depthAll (dats m)<=60->(dat V).depth<=60 := by
   intro m
   induction m with
   | nil => intro h; cases h
   | cons W m ih =>
    intro h d
    simp [dats,PyData.depthAll] at d
    rcases List.mem_cons.mp h with rfl | h
    ·exact La.l2 (.L .x2 (.l 60)) (.o (.w (.L .x0 .x1) (.Q .x2 .x1)) (.w (.L (.a .x1 .l1) .x0) (.Q .x2 .x0))) (.L .x0 (.l 60)) [[1,1,0,1,1],[1,0,0,1,1]] rfl [_,_,_] [] d (La.mx _ _)
    ·exact ih h (by exact La.l2 (.L .x2 (.l 60)) (.o (.w (.L .x0 .x1) (.Q .x2 .x1)) (.w (.L (.a .x1 .l1) .x0) (.Q .x2 .x0))) (.L .x1 (.l 60)) [[1,0,0,1,1],[1,1,0,1,1]] rfl [_,_,_] [] d (La.mx _ _))
  exact this (List.mem_of_getElem? hj) hd
 refine La.x1_1 ((DR.ofPl (σ := σ) hV .nil).read1 I.1 rw') λ bs r2 => ?_
 have at_ : ∀ (i : Nat) (W : PV),l[i]? = some W->∃ u,items.toList[i]? = some u/\EqAt A.in1 s u w (PyData.eqv (dat W) (dat V)) := λ i W e => by
  refine La.x1_2 (rl.get e) λ u eu ru => ?_
  have hW := Pls_iff.mp hl W (List.mem_of_getElem? e)
  refine La.x1_1 ((DR.ofPl (σ := σ) hW .nil).read1 I.1 ru) λ as r1 => ?_
  exact ⟨u,eu,eqAt_reads _ _ _ _ _ _ _ _ r1 r2 (canLay0_dat hW) (canLay0_dat hV) (by have := G.units; show A.units + 1 + _ < _; exact La.l3 (.L .x0 (.l 60)) (.L (.a (.a (.a .x1 (.m 12 .x2)) (.l 400)) .l1) .x3) (.o (.w (.L .x4 .x0) (.Q .x5 .x4)) (.w (.L (.a .x0 .l1) .x4) (.Q .x5 .x0))) (.L (.a (.a (.a .x1 .l1) .x5) .l1) .x3) [[1,1,1,1,0,1],[1,1,0,1,0,1]] rfl [_,_,_,_,_,_] [] hdV this (La.mi _ _))⟩
 classical
 let e : Value->Bool := λ u => decide (∃ i : Nat,l[i]? = some V/\items.toList[i]? = some u)
 have uniq : ∀ (i : Nat) (W : PV) (u : Value),l[i]? = some W->items.toList[i]? = some u->e u = PyData.eqv (dat W) (dat V) := λ i W u h1 h2 => by
  have hW := Pls_iff.mp hl W (List.mem_of_getElem? h1)
  have key : Rel s.heap V u->W = V := λ rv => by
   refine La.x1_2 (rl.get h1) λ u' eu ru => ?_
   rw [h2] at eu; cases eu
   refine La.x1_1 ((DR.ofPl (σ := σ) hW .nil).read1 I.1 ru) λ as y1 => ?_
   refine La.x1_1 ((DR.ofPl (σ := σ) hV .nil).read1 I.1 rv) λ cs y2 => ?_
   exact ((dat_inj hV hW).mp (reads_det (λ _ _ e _ => e) y1 y2).1).symm
  cases q : PyData.eqv (dat W) (dat V) with
  | true =>
   have := (eqv_dat hW hV).mp q
   subst this
   exact decide_eq_true ⟨i,h1,h2⟩
  | false =>
   refine decide_eq_false λ ⟨k,h3,h4⟩ => ?_
   refine La.x1_2 (rl.get h3) λ u' eu ru => ?_
   rw [h4] at eu; cases eu
   rw [(eqv_dat hW hV).mpr (key ru)] at q; cases q
 have hjs : j < items.size := by
  have := (List.getElem?_eq_some_iff.mp hj).1; exact La.z65 el this
 have its : ∀ m (hm : m < items.size),∃ W,l[m]? = some W/\items.toList[m]? = some items[m] := λ m hm => by
  have hm' : m < l.length := by exact La.l2 (.Q .x0 .x1) (.T .x2 .x1) (.T .x2 .x0) [[0,1,1,1]] rfl [_,_,_] [] el hm
  exact ⟨l[m],List.getElem?_eq_getElem hm',by simp [hm]⟩
 refine call_meets PySem.F.slot_list_remove ⟨_,g,rfl⟩ PySem.F.entry_list_remove (PySem.F.args_list_remove_2 _ _) (list_removeAt a items n w e j hjs ?_ ?_ (by rw [sizeLine_eq]; exact La.z19 hsz el)) ⟨g,?_,?_⟩
 ·refine La.x1_2 (its j hjs) λ W h1 h2 => ?_
  rw [uniq j W _ h1 h2]
  rw [hj] at h1; cases h1
  exact (eqv_dat hV hV).mpr rfl
 ·intro m hm hmj
  refine La.x1_2 (its m hm) λ W h1 h2 => ?_
  rw [uniq m W _ h1 h2]
  cases q : PyData.eqv (dat W) (dat V) with
  | false => rfl
  | true =>
   have := (eqv_dat (Pls_iff.mp hl W (List.mem_of_getElem? h1)) hV).mp q
   subst this
   exact absurd h1 (hno m hmj)
 ·intro y hy
  obtain ⟨m,hm,rfl⟩ := Array.mem_iff_getElem.mp hy
  refine La.x1_2 (its m hm) λ W h1 h2 => ?_
  refine La.x1_2 (at_ m W h1) λ u eu z => ?_
  rw [h2] at eu; cases eu
  rw [uniq m W _ h1 h2]; exact z
 ·refine PGI.putL I ha g ?_ q rfl
  rw [Array.toList_eraseIdxIfInBounds]
  exact rl.eraseIdx j
theorem rels_of {h : Heap} : ∀ {l : List PV} {vs : List Value},l.length = vs.length->(∀ (j : Nat) (V : PV) (v : Value),l[j]? = some V->vs[j]? = some v->Rel h V v)->Rels h l vs
 | [],[],_,_ => .nil
 | [],_ :: _,e,_ => by simp at e
 | _ :: _,[],e,_ => by simp at e
 | V :: l,v :: vs,e,k => .cons (k 0 V v rfl rfl) (rels_of (by simpa using e) λ j W w a b => k (j + 1) W w (by simpa using a) (by simpa using b))
theorem fc_setadd {a : Addr} {M : Int->Bool} {n : Nat} {i : Int} {Q : PV->CH->Prop} (ha : σ a = some (.set M n)) (hn : n < 4000) (q : Q .none (upd σ a (.set (λ k => M k || decide (k = i)) (if M i then n else n + 1)))) : FC C (.builtin "set.add") [.ref a,.int i] σ Q := by
 intro A s vals G I F r
 refine La.x2_3 (r.cons_inv) λ _ r1 h'1 h'2 r₂ => ?_; subst h'1; subst h'2
 refine La.x2_3 (r₂.cons_inv) λ _ r1 h'1 h'2 r₃ => ?_; subst h'1; refine La.x1_1 h'2 λ t h'3 => ?_; clear h'2; subst h'3
 cases r₃.nil_inv
 refine call_set_add (knd := intKind C.prog C.w) (k := i) isInt_of rfl (I.1 _ _ ha) (by show n + 1 < 4096; exact La.l1 (.T .x0 (.l 4000)) (.T (.a .x0 .l1) (.l 4096)) [[1,1]] rfl [_] [] hn) λ h' hs ho => ?_
 exact PGI.put (m' := .set _ _) I ha hs.extBut ho q rfl
theorem fcl' {a : Addr} {l : List PV} {Q : PV->CH->Prop} (ha : σ a = some (.list l)) (hsz : l.length < 1000000) (q : Q (.int l.length) σ) : FC C (.builtin "len") [.ref a] σ Q := by
 intro A s vals G I F r
 refine La.x2_3 (r.cons_inv) λ _ r1 h'1 h'2 r₂ => ?_; subst h'1; subst h'2
 cases r₂.nil_inv
 refine La.x2_2 (I.1 _ _ ha) λ items n g rl => ?_
 have el := rl.length
 simp at el
 refine Calls.call_len_list ⟨_,g,rfl,n,rfl⟩ (by omega) ?_
 rw [<- el]
 exact PGI.now I q ⟨_,rfl⟩
theorem fc_len_dict {a : Addr} {l : List (Int × PV)} {Q : PV->CH->Prop} (B : ∃ o,C.b.get? sysModules = some o) (ha : σ a = some (.dictI l)) (hsz : l.length < 1000000) (q : Q (.int l.length) σ) : FC C (.builtin "len") [.ref a] σ Q := by
 intro A s vals G I F r
 refine La.x2_3 (r.cons_inv) λ _ r1 h'1 h'2 r₂ => ?_; subst h'1; subst h'2
 cases r₂.nil_inv
 refine La.x1_3 (I.1 _ _ ha) λ kvs hd e rl => ?_
 have el := congrArg List.length e
 simp at el
 refine call_len_dict (notSys B I ha) hd (by omega) ?_
 rw [el]
 exact PGI.now I q ⟨_,rfl⟩
theorem fc_range1 {n : Int} {Q : PV->CH->Prop} (q : ∀ a,σ a = none->Q (.ref a) (upd σ a (.rng 0 n 1))) : FC C (.type "range") [.int n] σ Q := by
 intro A s vals G I F r
 refine La.x2_3 (r.cons_inv) λ _ r1 h'1 h'2 r₂ => ?_; subst h'1; refine La.x1_1 h'2 λ t h'3 => ?_; clear h'2; subst h'3
 cases r₂.nil_inv
 exact call_range_1 (PGI.made (m := .rng 0 n 1) I ⟨_,_,_,IsRange.new ..⟩ q)
theorem fc_range3 {x y c : Int} {Q : PV->CH->Prop} (hc : c = -1) (hx : -1000000 < x) (hx' : x < 1000000) (hy : -1000000 < y) (hy' : y < 1000000) (q : ∀ a,σ a = none->Q (.ref a) (upd σ a (.rng x y c))) : FC C (.type "range") [.int x,.int y,.int c] σ Q := by
 intro A s vals G I F r
 refine La.x2_3 (r.cons_inv) λ _ r1 h'1 h'2 r₂ => ?_; subst h'1; refine La.x1_1 h'2 λ t h'3 => ?_; clear h'2; subst h'3
 refine La.x2_3 (r₂.cons_inv) λ _ r1 h'1 h'2 r₃ => ?_; subst h'1; refine La.x1_1 h'2 λ u h'3 => ?_; clear h'2; subst h'3
 refine La.x2_3 (r₃.cons_inv) λ _ r1 h'1 h'2 r₄ => ?_; subst h'1; refine La.x1_1 h'2 λ v h'3 => ?_; clear h'2; subst h'3
 cases r₄.nil_inv
 subst hc
 exact call_range_3 (by decide) (PGI.made (t := s.toks) (m := .rng x y (-1)) I ⟨_,_,_,IsRange.new ..⟩ q)
theorem fc_set0 {Q : PV->CH->Prop} (q : ∀ a,σ a = none->Q (.ref a) (upd σ a (.set (λ _ => false) 0))) : FC C (.type "set") [] σ Q := by
 intro A s vals G I F r
 cases r.nil_inv
 exact call_set_0 λ led => PGI.made (t := s.toks) (m := .set _ 0) I ⟨_,#[],0,_,Heap.get?_push_size _ rfl,⟨rfl,rfl,rfl⟩,rfl,λ e he => by simp at he,λ k => by simp,by decide,by rfl,rfl⟩ q
theorem fc_list {a : Addr} {l : List PV} {Q : PV->CH->Prop} (ha : σ a = some (.list l)) (hsz : l.length < 100000) (q : ∀ c,σ c = none->Q (.ref c) (upd σ c (.list l))) : FC C (.type "list") [.ref a] σ Q := by
 intro A s vals G I F r
 refine La.x2_3 (r.cons_inv) λ _ r1 h'1 h'2 r₂ => ?_; subst h'1; subst h'2
 cases r₂.nil_inv
 refine La.x2_2 (I.1 _ _ ha) λ items n g rl => ?_
 have el := rl.length
 simp at el
 refine call_list_seq a (.inl rfl) g rfl rfl (λ h' c' hk hg => ?_) (by rw [sizeLine_eq]; exact La.z19 hsz el)
 refine La.c2 (I.put (s := s) (t := s.toks) (h' := h') (m := .list l) (.inr fresh_none) (λ b o _ e => hk b o e) ⟨_,_,hg,KeepT.rels (λ b o e _ => hk b o e) rl⟩ []) λ I' st' => ?_
 exact ⟨_,_,q _ I.freshσ,rfl,I',st'⟩
theorem fc_tuple {a : Addr} {l : List PV} {Q : PV->CH->Prop} (ha : σ a = some (.list l)) (hsz : l.length < 100000) (q : Q (.tup l) σ) : FC C (.type "tuple") [.ref a] σ Q := by
 intro A s vals G I F r
 refine La.x2_3 (r.cons_inv) λ _ r1 h'1 h'2 r₂ => ?_; subst h'1; subst h'2
 cases r₂.nil_inv
 refine La.x2_2 (I.1 _ _ ha) λ items n g rl => ?_
 have el := rl.length
 simp at el
 refine call_tuple_list ⟨_,g,rfl,n,rfl⟩ (λ h' hk => ?_) (by rw [sizeLine_eq]; exact La.z19 hsz el)
 have hk' : ∀ b o,s.heap.get? b = some o->(h'.push { cls := .type "tuple",data := .seq items }).get? b = some o := λ b o e => Heap.get?_push_of_some _ (hk b o e)
 refine PGI.grown (t := s.toks) I hk' q ?_
 unfold Rel
 exact ⟨_,items,0,rfl,Heap.get?_push_size _ rfl,KeepT.rels (λ b o e _ => hk' b o e) rl⟩
theorem fc_list_dict {a : Addr} {l : List (Int × PV)} {Q : PV->CH->Prop} (B : ∃ o,C.b.get? sysModules = some o) (ha : σ a = some (.dictI l)) (hsz : l.length < 100000) (q : ∀ c,σ c = none->Q (.ref c) (upd σ c (.list (l.map λ p => .int p.1)))) : FC C (.type "list") [.ref a] σ Q := by
 intro A s vals G I F r
 refine La.x2_3 (r.cons_inv) λ _ r1 h'1 h'2 r₂ => ?_; subst h'1; subst h'2
 cases r₂.nil_inv
 refine La.x1_3 (I.1 _ _ ha) λ kvs hd e rl => ?_
 have el := congrArg List.length e
 simp at el
 refine La.x1_1 (hd.dictAt) λ ep hat => ?_
 refine kdl_call (kdl_dict (knd := intKind C.prog C.w) (kvs := kvs) (ep := ep) (notSys B I ha)) G.handled hat (by rw [sizeLine_eq]; exact La.z26 hsz el) λ h' tk acc' c' hk hg hacc => ?_
 have hr : Rels s.heap (l.map λ p => .int p.1) acc'.toList := by
  refine rels_of (by simp [el,hacc.1]) λ j V v hV hv => ?_
  refine La.x2_2 (hacc.2 j v (by rw [<- Array.getElem?_toList]; exact hv)) λ k x hx hi => ?_
  rw [List.getElem?_map] at hV
  have e2 : (kvs.map (·.1))[j]? = some k := by rw [List.getElem?_map,hx]; rfl
  rw [e,List.getElem?_map] at e2
  cases z : l[j]? with
  | none => rw [z] at e2; cases e2
  | some p =>
   rw [z] at e2 hV
   cases hV
   have : p.1 = k := Option.some.inj e2
   subst this
   refine La.x1_1 (Value.isInt_shape hi) λ t h'1 => ?_; subst h'1
   exact ⟨t,rfl⟩
 refine La.c2 (I.put (s := s) (t := tk) (h' := h') (m := .list (l.map λ p => .int p.1)) (.inr fresh_none) (λ b o _ e => hk b o e) ⟨_,_,hg,KeepT.rels (λ b o e _ => hk b o e) hr⟩ []) λ I' st' => ?_
 exact ⟨_,_,q _ I.freshσ,rfl,I',st'⟩
theorem fc_isstr {x : Str} {Q : PV->CH->Prop} (q : Q (.bool true) σ) : FC C (.builtin "isinstance") [.str x,.any (.type "str")] σ Q := by
 intro A s vals G I F r
 refine La.x2_3 (r.cons_inv) λ _ r1 h'1 h'2 r₂ => ?_; subst h'1; refine La.x1_1 h'2 λ t h'3 => ?_; clear h'2; subst h'3
 refine La.x2_3 (r₂.cons_inv) λ _ r1 h'1 h'2 r₃ => ?_; subst h'1; subst h'2
 cases r₃.nil_inv
 exact call_isinstance_yes (Tx := "str") rfl (by rfl) (by rw [isSubtype_type]; kernel_rfl) (PGI.now (t := s.toks) I q rfl)
end
end Mine
end
section
open PySem PySem.W PySem.Calls PyProof.Rows PySem.Spec PySem.SeqAt
namespace Mine
section
variable {C : Cx} {ρ : Loc'} {σ : CH}
theorem it_list {a : Addr} {l : List PV} {Q : PV->CH->Prop} (ha : σ a = some (.list l)) (q : ∀ it,σ it = none->Q (.ref it) (upd σ it (.itL a 0))) : O1 C Rel (λ v => pyIter v) (.ref a) ρ σ Q := by
 rintro A s v G S rfl
 refine La.x2_2 (S.inv.1 _ _ ha) λ items n g rl => ?_
 exact wpAny_pyIter_list ⟨_,g,rfl,n,rfl⟩ (PG.made (t := s.toks) (m := .itL a 0) S ⟨_,Heap.get?_push_size _ rfl,rfl,rfl⟩ q)
theorem it_tup {l : List PV} {Q : PV->CH->Prop} (q : ∀ it,σ it = none->Q (.ref it) (upd σ it (.itT l 0))) : O1 C Rel (λ v => pyIter v) (.tup l) ρ σ Q := by
 rintro A s v G S rv
 unfold Rel at rv
 refine La.x3_3 rv λ a items n h'1 g rl => ?_; clear rv; subst h'1
 exact wpAny_pyIter_tuple ⟨_,g,rfl,n,rfl⟩ (PG.made (t := s.toks) (m := .itT l 0) S ⟨a,items,n,⟨_,Heap.get?_push_size _ rfl,rfl,rfl⟩,Heap.get?_push_of_some _ g,KeepT.rels (λ _ _ e _ => Heap.get?_push_of_some _ e) rl⟩ q)
theorem it_rng {a : Addr} {x y c : Int} {Q : PV->CH->Prop} (ha : σ a = some (.rng x y c)) (hs : Builtin.Range.small x y c = true) (q : ∀ it,σ it = none->Q (.ref it) (upd σ it (.itR x (Builtin.Range.rangeSize x y c) c))) : O1 C Rel (λ v => pyIter v) (.ref a) ρ σ Q := by
 rintro A s v G S rfl
 refine La.x3_1 (S.inv.1 _ _ ha) λ t u w g => ?_
 exact wpAny_pyIter_range g hs (PG.made (t := s.toks) (m := .itR _ _ _) S (Heap.get?_push_size _ rfl) q)
theorem PG.putS {α β : Type} {R : Heap->β->α->Prop} {Q : β->CH->Prop} {s : Shared} {V : β} {v : α} {h' : Heap} {t : Nat} {a : Addr} {m m' : MO} (S : St C ρ σ s.heap) (ha : σ a = some m) (hs : Heap.ExtBut a s.heap h')
  (ho : ORel C.prog C.w h' a m') (q : Q V (upd σ a m')) (r : R h' V v) : PG C R Q σ s v { s with heap := h',toks := t } := PGI.put S.inv ha hs ho q r
theorem PG.delS {α β : Type} {R : Heap->β->α->Prop} {Q : β->CH->Prop} {s : Shared} {V : β} {v : α} {h' : Heap} {t : Nat} {a : Addr} {m : MO} (S : St C ρ σ s.heap) (ha : σ a = some m) (hs : Heap.ExtBut a s.heap h')
  (q : Q V (del σ a)) (r : R h' V v) : PG C R Q σ s v { s with heap := h',toks := t } :=
 ⟨V,_,q,r,(S.inv.delE (t := t) (by rw [ha]; simp) hs []).1,(S.inv.delE (by rw [ha]; simp) hs []).2⟩
theorem nx_list {it a : Addr} {i : Nat} {l : List PV} {V : PV} {Q : Option PV->CH->Prop} (hi : σ it = some (.itL a i)) (ha : σ a = some (.list l)) (hV : l[i]? = some V) (q : Q (some V) (upd σ it (.itL a (i + 1)))) : NX C it ρ σ Q := by
 intro A s G S
 refine La.x2_2 (S.inv.1 _ _ ha) λ items n g rl => ?_
 refine La.x1_2 (rl.get hV) λ v e r => ?_
 refine wpAny_pyNext_list_item (S.inv.1 _ _ hi) ⟨_,g,rfl,n,rfl⟩ (by simpa using e) λ h' hn hs => ?_
 exact PG.putS (t := s.toks) (m' := .itL a (i + 1)) S hi hs.extBut hn q ((Inv.kt S.inv hi hs.extBut).rel r)
theorem nx_tup {it : Addr} {i : Nat} {l : List PV} {V : PV} {Q : Option PV->CH->Prop} (hi : σ it = some (.itT l i)) (hV : l[i]? = some V) (q : Q (some V) (upd σ it (.itT l (i + 1)))) : NX C it ρ σ Q := by
 intro A s G S
 refine La.x3_3 (S.inv.1 _ _ hi) λ t items n g1 g rl => ?_
 refine La.x1_2 (rl.get hV) λ v e r => ?_
 refine wpAny_pyNext_tuple_item g1 ⟨_,g,rfl,n,rfl⟩ (by simpa using e) λ h' hn hs => ?_
 have kt := Inv.kt S.inv hi hs.extBut
 exact PG.putS (t := s.toks) (m' := .itT l (i + 1)) S hi hs.extBut ⟨t,items,n,hn,kt _ _ g tupLike_tupO,kt.rels rl⟩ q (kt.rel r)
theorem nx_rng {it : Addr} {x left c : Int} {Q : Option PV->CH->Prop} (hi : σ it = some (.itR x left c)) (hl : 0 < left) (q : Q (some (.int x)) (upd σ it (.itR (x + c) (left - 1) c))) : NX C it ρ σ Q := by
 intro A s G S
 refine wpAny_pyNext_range_item (S.inv.1 _ _ hi) hl λ h' hn hs => ?_
 exact PG.putS (m' := .itR (x + c) (left - 1) c) S hi hs.extBut hn q ⟨_,rfl⟩
theorem nx_end {it : Addr} {m : MO} {Q : Option PV->CH->Prop} (hi : σ it = some m) (q : Q none (del σ it))
  (h : ∀ A s (Q' : Option Value->Shared->Prop) (E : Value->Shared->Prop),GA C A->St C ρ σ s.heap->(∀ h',Heap.ExtBut it s.heap h'->Q' none { s with heap := h' })->wpAny (md C) A (pyNext (.ref it)) Q' E s) : NX C it ρ σ Q := by
 intro A s G S
 refine h A s _ _ G S λ h' hs => ?_
 exact PG.delS (t := s.toks) S hi hs q trivial
theorem nx_listE {it a : Addr} {i : Nat} {l : List PV} {Q : Option PV->CH->Prop} (hi : σ it = some (.itL a i)) (ha : σ a = some (.list l)) (hV : l.length<=i) (q : Q none (del σ it)) : NX C it ρ σ Q := by
 refine nx_end hi q λ A s Q' E G S k => ?_
 refine La.x2_2 (S.inv.1 _ _ ha) λ items n g rl => ?_
 have el := rl.length
 simp at el
 exact wpAny_pyNext_list_end G.handled (S.inv.1 _ _ hi) ⟨_,g,rfl,n,rfl⟩ (by simp; exact La.z66 hV el) k
theorem nx_tupE {it : Addr} {i : Nat} {l : List PV} {Q : Option PV->CH->Prop} (hi : σ it = some (.itT l i)) (hV : l.length<=i) (q : Q none (del σ it)) : NX C it ρ σ Q := by
 refine nx_end hi q λ A s Q' E G S k => ?_
 refine La.x3_3 (S.inv.1 _ _ hi) λ t items n g1 g rl => ?_
 have el := rl.length
 simp at el
 exact wpAny_pyNext_tuple_end G.handled g1 ⟨_,g,rfl,n,rfl⟩ (by simp; exact La.z66 hV el) k
theorem nx_rngE {it : Addr} {x left c : Int} {Q : Option PV->CH->Prop} (hi : σ it = some (.itR x left c)) (hl : left<=0) (q : Q none (del σ it)) : NX C it ρ σ Q := by
 refine nx_end hi q λ A s Q' E G S k => ?_
 exact wpAny_pyNext_range_end G.handled (S.inv.1 _ _ hi) hl k
noncomputable def SI (C : Cx) (V W U : PV) (ρ : Loc') (σ : CH) (Q : CH->Prop) : Prop :=
 ∀ A s v w u,GA C A->St C ρ σ s.heap->Rel s.heap V v->Rel s.heap W w->Rel s.heap U u->wpAny (md C) A (setItem v w u) (PG C (λ _ (_ : Unit) (_ : Unit) => True) (λ _ σ' => Q σ') σ s) (PX C σ s) s
theorem ES.setitem {o i value : Expr} {p pos : Pos} {Q : Fl->Loc'->CH->Prop}
  (h : EV C value ρ σ λ U σ₁ => EV C o ρ σ₁ λ V σ₂ => EV C i ρ σ₂ λ W σ₃ => SI C V W U ρ σ₃ λ σ₄ => Q .next ρ σ₄)
  (hs : swapsWith value (some (.Subscript o i p)) pos.line C.env = pure false := by rfl) : ES C (.Assign [.Subscript o i p] value pos) ρ σ Q :=
 λ A s G S => wpAny_Assign_Subscript (h.seqE G S (λ _ _ x => x) λ U u σ₁ s₁ h₁ ru S₁ st₁ _ => h₁.seqE G S₁ (λ _ _ x => PX.up st₁ x) λ V v σ₂ s₂ h₂ rv S₂ st₂ k₂ => h₂.seqE G S₂ (λ _ _ x => PX.up (st₁.trans st₂) x) λ W w σ₃ s₃ h₃ rw' S₃ st₃ k₃ =>
  wpAny_mono (h₃ A s₃ v w u G S₃ (k₃.rel rv) rw' (k₃.rel (k₂.rel ru))) (λ _ s₄ ⟨_,σ₄,q,_,i₄,st₄⟩ => ⟨.next,ρ,σ₄,q,rfl,S₃.step i₄ st₄,(((st₁.trans st₂).trans st₃).trans st₄).O⟩) λ _ _ x => PX.up ((st₁.trans st₂).trans st₃) x) hs
theorem si_list {a : Addr} {l : List PV} {i : Int} {U : PV} {Q : CH->Prop} (ha : σ a = some (.list l)) (h0 : 0<=i) (hi : i.toNat < l.length) (hsz : l.length < 100000) (q : Q (upd σ a (.list (l.set i.toNat U)))) : SI C (.ref a) (.int i) U ρ σ Q := by
 intro A s v w u G S h'1 h'2 ru; subst h'1; refine La.x1_1 h'2 λ t h'3 => ?_; clear h'2; subst h'3
 refine La.x2_2 (S.inv.1 _ _ ha) λ items n g rl => ?_
 have el := rl.length
 simp at el
 unfold setItem
 try with_reducible refine wpAny_holding ?_
 first | refine wpAny_bind (wpAny_pure ?_) | skip
 have hl : s.heap.IsList a items := ⟨_,g,rfl,n,rfl⟩
 refine wpAny_bind (wpAny_sequenceKey hl.typeIs (by decide) ?_)
 refine wpAny_bind (wpAny_callSpecial?_slot (name := Str.ofString "__setitem__") hl.typeIs slot_list_setitem
  (wpAny_call_entry slot_list_setitem hl.typeIs entry_list_setitem ?_ (args_list_setitem _ _ _)))
 show wpAny _ _ (Builtin.List.listSubscript? (.int i t) >>= _) _ _ s
 refine wpAny_bind (wpAny_listSubscript_int (fitsIndex_of h0 (by omega)) ?_)
 refine La.x1_1 (Int.eq_ofNat_of_zero_le h0) λ j h'1 => ?_; subst h'1
 have hi : j < l.length := hi
 have hj : j < items.size := by exact La.z65 el hi
 have hx' : items[j]? = some items[j] := Array.getElem?_eq_getElem hj
 show wpAny _ _ ((seqItemAt a j >>= λ r => pure (r.map (j,·))) >>= _) _ _ s
 refine wpAny_bind (wpAny_bind (wpAny_seqItemAt g rfl (wpAny_pure ?_)))
 rw [hx']
 show wpAny _ _ (setSeqItemAt a j u >>= _) _ _ s
 refine wpAny_bind (wpAny_setSeqItemAt g rfl ?_)
 have ex : Heap.ExtBut a s.heap (s.heap.update a (Obj.mapSeq (·.setIfInBounds j u))) := (Heap.SameBut.update ..).extBut
 have kt := Inv.kt S.inv ha ex
 have fin : PG C (λ _ (_ : Unit) (_ : Unit) => True) (λ _ σ' => Q σ') σ s () { s with heap := s.heap.update a (Obj.mapSeq (·.setIfInBounds j u)) } :=
  PGI.put (t := s.toks) (m' := .list (l.set j U)) (V := ()) S.inv ha ex ⟨_,_,IsL.update g _,by
   have : (items.setIfInBounds j u).toList = items.toList.set j u := by simp
   rw [this]; exact kt.rels (rl.set j ru)⟩ q trivial
 first
  | exact wpAny_bind (wpAny_pure (wpAny_pure ⟨.none,rfl,wpAny_pure fin⟩))
  | exact wpAny_pure ⟨.none,rfl,wpAny_pure fin⟩
noncomputable def putD {α : Type} [DecidableEq α] (k : α) (V : PV) : List (α × PV)->List (α × PV)
 | [] => [(k,V)]
 | (x,W) :: r => if x = k then (x,V) :: r else (x,W) :: putD k V r
theorem putD_rel {α : Type} [DecidableEq α] {h : Heap} {k : α} {V : PV} {v : Value} (rv : Rel h V v) : ∀ {l : List (α × PV)} {kvs : List (α × Value)},kvs.map (·.1) = l.map (·.1)->Rels h (l.map (·.2)) (kvs.map (·.2))->(kvs.map (·.1)).Nodup ->
  (stored kvs k v).map (·.1) = (putD k V l).map (·.1)/\Rels h ((putD k V l).map (·.2)) ((stored kvs k v).map (·.2))
 | [],[],_,_,_ => by simp [stored,putD]; exact .cons rv .nil
 | [],_ :: _,e,_,_ => by simp at e
 | _ :: _,[],e,_,_ => by simp at e
 | (x,W) :: l,(y,w) :: kvs,e,r,nd => by
  simp at e
  revert e; refine La.k2 λ h'1 e => ?_; subst h'1
  refine La.x2_3 (Rels.cons_inv r) λ w' r' e' p q => ?_
  simp at e'
  refine La.c2 e' λ h'1 h'2 => ?_; clear e'; subst h'1; subst h'2
  simp only [List.map_cons,List.nodup_cons] at nd
  by_cases hk : y = k
  ·subst hk
   have e2 : stored ((y,w) :: kvs) y v = (y,v) :: kvs := by
    unfold stored
    simp only [List.any_cons,decide_true,Bool.true_or,if_true,List.map_cons]
    congr 1
    refine (List.map_congr_left λ z hz => ?_).trans (List.map_id _)
    have : z.1 ≠ y := λ q => nd.1 (q ▸ List.mem_map_of_mem hz)
    simp [this]
   rw [e2]
   simp only [putD,if_true,List.map_cons]
   exact ⟨by rw [e],.cons rv q⟩
  ·have e2 : stored ((y,w) :: kvs) k v = (y,w) :: stored kvs k v := by
    unfold stored
    simp only [List.any_cons,hk,decide_false,Bool.false_or,List.map_cons,if_false,List.cons_append]
    split <;> rfl
   rw [e2]
   simp only [putD,hk,if_false,List.map_cons]
   refine La.c2 (putD_rel (k := k) rv e q nd.2) λ a b => ?_
   exact ⟨by rw [a],.cons p b⟩
theorem si_dict {a : Addr} {l : List (Int × PV)} {i : Int} {U : PV} {Q : CH->Prop} (ha : σ a = some (.dictI l)) (hsz : l.length < 100000) (q : Q (upd σ a (.dictI (putD i U l)))) : SI C (.ref a) (.int i) U ρ σ Q := by
 intro A s v w u G S h'1 h'2 ru; subst h'1; refine La.x1_1 h'2 λ t h'3 => ?_; clear h'2; subst h'3
 refine La.x1_3 (S.inv.1 _ _ ha) λ kvs hd e rl => ?_
 have el := congrArg List.length e
 simp at el
 refine wpAny_setItem_pairs (knd := intKind C.prog C.w) (k := i) isInt_of hd (λ h' hd' hs => ?_) (by rw [sizeLine_eq]; exact La.z26 hsz el)
 have kt := Inv.kt S.inv ha hs.extBut
 have nd : (kvs.map (·.1)).Nodup := by refine La.x3_6 hd λ _ _ _ _ _ _ _ _ n => ?_; clear hd; exact n
 refine La.c2 (putD_rel (k := i) ru e rl nd) λ p1 p2 => ?_
 exact PGI.put (m' := .dictI (putD i U l)) (V := ()) S.inv ha hs.extBut ⟨_,hd',p1,kt.rels p2⟩ q trivial
theorem si_dictS {a : Addr} {l : List (Str × PV)} {i : Str} {U : PV} {Q : CH->Prop} (ha : σ a = some (.dictS l)) (hsz : l.length < 100000) (q : Q (upd σ a (.dictS (putD i U l)))) : SI C (.ref a) (.str i) U ρ σ Q := by
 intro A s v w u G S h'1 h'2 ru; subst h'1; refine La.x1_1 h'2 λ t h'3 => ?_; clear h'2; subst h'3
 refine La.x1_3 (S.inv.1 _ _ ha) λ kvs hd e rl => ?_
 have el := congrArg List.length e
 simp at el
 refine wpAny_setItem_pairs (knd := PySem.strKind C.prog C.w) (k := i) isStr_of hd (λ h' hd' hs => ?_) (by rw [sizeLine_eq]; exact La.z26 hsz el)
 have kt := Inv.kt S.inv ha hs.extBut
 have nd : (kvs.map (·.1)).Nodup := by refine La.x3_6 hd λ _ _ _ _ _ _ _ _ n => ?_; clear hd; exact n
 refine La.c2 (putD_rel (k := i) ru e rl nd) λ p1 p2 => ?_
 exact PGI.put (m' := .dictS (putD i U l)) (V := ()) S.inv ha hs.extBut ⟨_,hd',p1,kt.rels p2⟩ q trivial
noncomputable def itup (ks : List Int) : List PV := ks.map .int
theorem itemsAre_of {h : Heap} : ∀ {ks : List Int} {vs : List Value},Rels h (itup ks) vs->ItemsAre (intKind C.prog C.w) ks vs
 | [],_,r => by rw [r.nil_inv]; exact .nil
 | k :: ks,_,r => by
  refine La.x2_3 (Rels.cons_inv (V := .int k) (l := itup ks) r) λ v l h'1 h'2 q => ?_; subst h'1; refine La.x1_1 h'2 λ t h'3 => ?_; clear h'2; subst h'3
  exact .cons isInt_of (itemsAre_of q)
theorem atKey_rel {h : Heap} {k : List Int} : ∀ {l : List (List Int × PV)} {xs : List (List Int × Addr × Value)},xs.map (·.1) = l.map (·.1)->Rels h (l.map (·.2)) (xs.map (·.2.2)) ->
  (match at? k l with | some V => ∃ a v,atKey xs k = some (a,v)/\Rel h V v | none => atKey xs k = none)
 | [],[],_,_ => by simp [at?,atKey]
 | [],_ :: _,e,_ => by simp at e
 | _ :: _,[],e,_ => by simp at e
 | (x,V) :: l,(y,a,v) :: xs,e,r => by
  simp at e
  revert e; refine La.k2 λ h'1 e => ?_; subst h'1
  refine La.x2_3 (Rels.cons_inv r) λ v' r' e' p q => ?_
  simp at e'
  refine La.c2 e' λ h'1 h'2 => ?_; clear e'; subst h'1; subst h'2
  unfold at?
  by_cases hk : y = k
  ·simp only [hk,if_true]; exact ⟨a,v,by simp [atKey,hk],p⟩
  ·simp only [hk,if_false]
   have := atKey_rel (k := k) e q
   have e2 : atKey ((y,a,v) :: xs) k = atKey xs k := by simp [atKey,List.find?_cons,hk]
   rw [e2]; exact this
theorem si_dictT {a : Addr} {l : List (List Int × PV)} {ks : List Int} {U : PV} {Q : CH->Prop} (ha : σ a = some (.dictT l)) (hsz : l.length < 100000) (hn : at? ks l = none) (q : Q (upd σ a (.dictT (l ++ [(ks,U)])))) : SI C (.ref a) (.tup (itup ks)) U ρ σ Q := by
 rintro A s v w u G S rfl rw' ru
 unfold Rel at rw'
 refine La.x3_3 rw' λ b items n h'1 g rk => ?_; clear rw'; subst h'1
 refine La.x1_3 (S.inv.1 _ _ ha) λ xs hd e rl => ?_
 have el := congrArg List.length e
 simp at el
 have hk : (tupleKind (intKind C.prog C.w)).is s.heap ks b := ⟨_,items,n,g,rfl,rfl,itemsAre_of rk⟩
 refine wpAny_setItem_heap (knd := tupleKind (intKind C.prog C.w)) (tupleKind_room_in1 (by have := G.units; exact La.z67 this)) hk hd (λ h' hd' hs => ?_) (by rw [sizeLine_eq]; exact La.z26 hsz el)
 have kt := Inv.kt S.inv ha hs.extBut
 have z := atKey_rel (k := ks) e rl
 rw [hn] at z
 rw [storedH_new z] at hd'
 refine PGI.put (m' := .dictT (l ++ [(ks,U)])) (V := ()) S.inv ha hs.extBut ⟨_,hd',?_,?_⟩ q trivial
 ·simp [e]
 ·rw [List.map_append,List.map_append]
  exact (kt.rels rl).append (.cons (kt.rel ru) .nil)
theorem GM.dictS {a : Addr} {l : List (Str × PV)} (ha : σ a = some (.dictS l)) : GM C (.ref a) "get" σ (.builtin "dict.get") := by
 rintro A s v pl E k ρ S rfl hk
 refine La.x1_3 (S.inv.1 _ _ ha) λ kvs hd e rl => ?_
 exact getMethod_builtin hd.typeIs PySem.F.plainAttrs_dict PySem.F.slot_dict_get PySem.F.type_dict_get hd.mapOf.noDict hk
theorem GM.dictT {a : Addr} {l : List (List Int × PV)} (ha : σ a = some (.dictT l)) : GM C (.ref a) "get" σ (.builtin "dict.get") := by
 rintro A s v pl E k ρ S rfl hk
 refine La.x1_3 (S.inv.1 _ _ ha) λ xs h'1 e rl => ?_; refine La.x3_3 h'1 λ o es ep ho hx r => ?_; clear h'1
 exact getMethod_builtin ⟨o,ho,hx.1⟩ PySem.F.plainAttrs_dict PySem.F.slot_dict_get PySem.F.type_dict_get (λ b e => by cases e; exact ⟨o,ho,hx.2.1⟩) hk
theorem fc_getS {a : Addr} {l : List (Str × PV)} {x : Str} {D : PV} {Q : PV->CH->Prop} (B : ∃ o,C.b.get? sysModules = some o) (ha : σ a = some (.dictS l)) (q : Q ((at? x l).getD D) σ) : FC C (.builtin "dict.get") [.ref a,.str x,D] σ Q := by
 intro A s vals G I F r
 refine La.x2_3 (r.cons_inv) λ _ r1 h'1 h'2 r₂ => ?_; subst h'1; subst h'2
 refine La.x2_3 (r₂.cons_inv) λ _ r1 h'1 h'2 r₃ => ?_; subst h'1; refine La.x1_1 h'2 λ t h'3 => ?_; clear h'2; subst h'3
 refine La.x2_3 (r₃.cons_inv) λ d r1 h'1 rd r₄ => ?_; subst h'1
 cases r₄.nil_inv
 refine La.x1_3 (I.1 _ _ ha) λ kvs hd e rl => ?_
 have hx := at?_rel (k := x) e rl
 refine call_meetsIn PySem.F.slot_dict_get hd.typeIs PySem.F.entry_dict_get (PySem.F.args_dict_get_3 _ _ _) (meets_dict_get_default (PySem.strKind C.prog C.w) a (k := x) isStr_of (notSys B I ha) d) ⟨_,hd.mapOf,?_⟩
 refine PGI.now I q ?_
 cases z : at? x l with
 | none => rw [z] at hx; rw [show valueAt kvs x = none from hx]; exact rd
 | some V => rw [z] at hx; refine La.x1_2 hx λ v e r => ?_; clear hx; rw [e]; exact r
theorem fc_getT {a : Addr} {l : List (List Int × PV)} {ks : List Int} {D : PV} {Q : PV->CH->Prop} (B : ∃ o,C.b.get? sysModules = some o) (ha : σ a = some (.dictT l)) (q : Q ((at? ks l).getD D) σ) : FC C (.builtin "dict.get") [.ref a,.tup (itup ks),D] σ Q := by
 intro A s vals G I F r
 refine La.x2_3 (r.cons_inv) λ _ r1 h'1 h'2 r₂ => ?_; subst h'1; subst h'2
 refine La.x2_3 (r₂.cons_inv) λ _ r1 h'1 rk r₃ => ?_; subst h'1
 refine La.x2_3 (r₃.cons_inv) λ d r1 h'1 rd r₄ => ?_; subst h'1
 cases r₄.nil_inv
 unfold Rel at rk
 revert rk; refine La.y3_3 λ b items n h'1 g rk => ?_; subst h'1
 refine La.x1_3 (I.1 _ _ ha) λ xs hd e rl => ?_
 have hx := atKey_rel (k := ks) e rl
 have hk : (tupleKind (intKind C.prog C.w)).is s.heap ks b := ⟨_,items,n,g,rfl,rfl,itemsAre_of rk⟩
 have hT : s.TypeIs (.ref a) "dict" := by refine La.x3_3 hd λ o es ep ho hx r => ?_; clear hd; exact ⟨o,ho,hx.1⟩
 refine call_meetsIn PySem.F.slot_dict_get hT PySem.F.entry_dict_get (PySem.F.args_dict_get_3 _ _ _) (meetsH_dict_get_default (tupleKind (intKind C.prog C.w)) a b (notSys B I ha) d) ⟨tupleKind_room_in1 (by have := G.units; exact La.z67 this),ks,xs,hk,hd,?_⟩
 refine PGI.now I q ?_
 cases z : at? ks l with
 | none => rw [z] at hx; rw [show atKey xs ks = none from hx]; exact rd
 | some V => rw [z] at hx; refine La.x2_2 hx λ b' v e r => ?_; clear hx; rw [e]; exact r
theorem ES.augI {x : Str} {p pos : Pos} {value : Expr} {i : Int} {Q : Fl->Loc'->CH->Prop} (hk : C.env.kindOf x = some .local) (hl : lk x ρ = some (.int i)) (h : EV C value ρ σ λ V σ₁ => ∃ j,V = .int j/\Q .next ((x,.int (i + j)) :: ρ) σ₁) :
  ES C (.AugAssign (.Name x p) .Add value pos) ρ σ Q := λ A s G S => by
 refine La.x1_2 (S.loc.ns) λ m hm hx => ?_
 refine La.x1_2 (hx x _ hl hk) λ v hv h'1 => ?_; refine La.x1_1 h'1 λ t h'2 => ?_; clear h'1; subst h'2
 refine wpAny_AugAssign_Name (wpAny_loadName_local S.fe.kind hk hm hv (h.seqE G S (λ _ _ x => x) λ V v σ₁ s₁ q r S₁ st₁ _ => ?_))
 revert q; refine La.y1_2 λ j h'1 q => ?_; subst h'1
 refine La.x1_1 r λ u h'1 => ?_; clear r; subst h'1
 refine wpAny_iadd_int ?_
 refine La.c2 (S₁.inv.grow (s := s₁) (h' := s₁.heap) (t := s₁.toks + 1) (λ _ _ e => e) []) λ I₂ st₂ => ?_
 have S₂ := S₁.step (s' := { s₁ with toks := s₁.toks + 1 }) I₂ st₂
 exact storeN S₂ (V := .int (i + j)) ⟨_,rfl⟩ (.inl hk) λ s₃ S₃ st₃ _ => ⟨.next,_,_,q,rfl,S₃,(st₁.O.trans st₂.O).trans st₃⟩
theorem filter_take (f : Nat->Bool) (a : Nat) : ∀ (l : List Value) (i : Nat),(∀ k,i<=k->k < i + l.length->f k = decide (a<=k))->((l.zipIdx i).filterMap λ (x,k) => if f k = true then none else some x) = l.take (a - i)
 | [],i,_ => by simp
 | x :: l,i,h => by
  simp only [List.zipIdx_cons,List.filterMap_cons]
  have hi := h i (Nat.le_refl _) (by simp)
  have ih := filter_take f a l (i + 1) λ k h1 h2 => h k (by exact La.z9 h1) (by simp; exact La.l1 (.T .x0 (.a (.a .x1 .l1) .x2)) (.T .x0 (.a .x1 (.a .x2 .l1))) [[1,1]] rfl [_,_,_] [] h2)
  rw [hi]
  by_cases q : a<=i
  ·simp only [q,decide_true,if_true]
   rw [ih,show a - (i + 1) = 0 by exact La.l2 (.L .x0 .x1) (.o (.w (.L (.a .x1 .l1) .x0) (.Q (.a .x2 (.a .x1 .l1)) .x0)) (.w (.L (.a .x0 .l1) (.a .x1 .l1)) (.Q .x2 .l0))) (.Q .x2 .l0) [[0,0,0,0,1],[1,1,0,0,0],[0,0,0,1,1],[0,0,1,0,1]] rfl [_,_,_] [] q (La.sb _ _),show a - i = 0 by exact La.l2 (.L .x0 .x1) (.o (.w (.L .x1 .x0) (.Q (.a .x2 .x1) .x0)) (.w (.L (.a .x0 .l1) .x1) (.Q .x2 .l0))) (.Q .x2 .l0) [[0,0,0,0,1],[1,0,1,0,1],[0,0,0,1,1],[0,0,1,0,1]] rfl [_,_,_] [] q (La.sb _ _)]; rfl
  ·have q' : decide (a<=i) = false := by simp [q]
   simp only [q',Bool.false_eq_true,if_false]
   rw [ih,show a - i = (a - (i + 1)) + 1 by exact La.l3 (.n (.L .x0 .x1)) (.o (.w (.L .x1 .x0) (.Q (.a .x2 .x1) .x0)) (.w (.L (.a .x0 .l1) .x1) (.Q .x2 .l0))) (.o (.w (.L (.a .x1 .l1) .x0) (.Q (.a .x3 (.a .x1 .l1)) .x0)) (.w (.L (.a .x0 .l1) (.a .x1 .l1)) (.Q .x3 .l0))) (.Q .x2 (.a .x3 .l1)) [[0,0,0,1,0,1,0,1],[0,0,1,0,0,0,1,1],[1,0,0,0,1,0,0,0],[1,0,0,0,1,0,0,0],[1,1,0,0,0,0,0,0],[0,0,1,0,0,0,0,1],[1,1,0,0,0,0,0,0],[1,1,0,0,0,0,0,0]] rfl [_,_,_,_] [] q (La.sb _ _) (La.sb _ _)]; rfl
theorem delSliceAt {A : Around} {s : Shared} {l sl : Addr} {items : Array Value} {n : Nat} {k : Nat} {t : Tok} {Q : Unit->Shared->Prop} {E : Value->Shared->Prop} (g : IsL s.heap l items n) (hs : s.heap.IsSliceOf sl (.int k t) .none .none) (hk : k<=items.size) (hsz : items.size<=sizeLine)
  (h : ∀ f : Array Value->Array Value,(f items).toList = items.toList.take k->Q () { s with heap := s.heap.update l (Obj.mapSeq f) }) : wpAny (md C) A (delItem (.ref l) (.ref sl)) Q E s := by
 have hl : s.heap.IsList l items := ⟨_,g,rfl,n,rfl⟩
 refine La.x1_3 (id hs) λ os hos hcs hds => ?_
 have hTs : s.TypeIs (.ref sl) "slice" := ⟨os,hos,hcs⟩
 refine wpAny_delItem_slot hl.typeIs (by decide) F.slot_list_delitem (wpAny_call_entry F.slot_list_delitem hl.typeIs F.entry_list_delitem ?_ (F.args_list_delitem_2 _ _))
 show wpAny _ _ (Builtin.List.listSubscript? (.ref sl) >>= _) _ _ s
 refine wpAny_bind ?_
 unfold Builtin.List.listSubscript?
 refine wpAny_bind (wpAny_specialOf hTs slice_no_index ?_)
 simp only [Option.isNone_none,if_true]
 refine wpAny_pure ?_
 show wpAny _ _ (typeOf (.ref sl) >>= _) _ _ s
 refine wpAny_bind (wpAny_typeOf hTs ?_)
 rw [if_neg (by decide)]
 rw [listSliceParts_eq]
 refine wpAny_bind (wpAny_bind (wpAny_field hos hds (x := .none) rfl (wpAny_bind (wpAny_listPart .none ?_))))
 rw [if_neg (by exact Bool.false_ne_true)]
 refine wpAny_bind (wpAny_field hos hds (x := .int k t) rfl (wpAny_bind (wpAny_listPart (.int _ _) ?_)))
 refine wpAny_bind (wpAny_field hos hds (x := .none) rfl (wpAny_bind (wpAny_listPart .none (wpAny_pure ?_))))
 refine wpAny_bind (m := Builtin.List.listItems (.ref l)) ?_
 unfold Builtin.List.listItems
 refine wpAny_bind (wpAny_seqItems g rfl (wpAny_pure ?_))
 refine wpAny_bind (wpAny_of_eq (sliceIndices_raw (some (k : Int)) none none items.size (by simp)) ?_)
 have e : sliceBounds (some (k : Int)) none none items.size = ((k : Int),(items.size : Int),1) := by
  simp only [sliceBounds,Option.getD_none]
  have h1 : ¬ ((k : Int) < 0) := by exact La.z35
  simp only [h1,if_false,show (1 : Int) > 0 by decide,if_true]
  congr 1
  rw [Int.min_eq_left (Int.ofNat_le.mpr hk),Int.max_eq_right (Int.natCast_nonneg _)]
 rw [e]
 have key : ∀ f : Nat->Bool,(∀ i,i < items.size->f i = decide (k<=i))->(items.toList.zipIdx.filterMap λ x => if f x.2 = true then none else some x.1) = items.toList.take k := λ f hf =>
  filter_take f k items.toList 0 λ i _ hi => hf i (by simpa using hi)
 refine wpAny_bind (wpAny_rule (wpAny_bind ?_))
 show wpAny _ _ (updateSeq l _) _ _ _
 refine wpAny_updateSeq g rfl ?_ hsz ?_
 ·refine wpAny_bind (wpAny_letGo (wpAny_pure ⟨_,rfl,?_⟩))
  refine h _ ?_
  rw [List.toList_toArray]
  refine key _ λ i hi => ?_
  show (if (1 : Int) > 0 then ((k : Int)<=i && (i : Int) < items.size && ((i : Int) - k) % 1 == 0) else _) = _
  have h1 : decide ((i : Int) < items.size) = true := by simp; assumption
  have h2 : (((i : Int) - k) % 1 == 0) = true := by simp
  rw [if_pos (by decide),h1,h2]
  simp
 ·rw [List.size_toArray]
  refine Nat.le_trans (List.length_filterMap_le ..) ?_
  simp; exact La.z3 hsz
theorem ES.delSlice {value lo : Expr} {p p2 pos : Pos} {Q : Fl->Loc'->CH->Prop}
  (h : EV C value ρ σ λ V σ₁ => EV C lo ρ σ₁ λ W σ₂ => ∃ a l,∃ k : Nat,V = .ref a/\W = .int k/\σ₂ a = some (.list l)/\k<=l.length/\l.length<=100000/\Q .next ρ (upd σ₂ a (.list (l.take k)))) :
  ES C (.Delete [.Subscript value (.Slice (some lo) none none p) p2] pos) ρ σ Q :=
 λ A s G S => wpAny_Delete (wpAny_deleteEach_cons (wpAny_delete_Subscript (h.seqE G S (λ _ _ x => x) λ V a σ₁ s₁ h₁ r₁ S₁ st₁ _ => wpAny_Slice (wpAny_evalPart_some (h₁.seqE G S₁ (λ _ _ x => PX.up st₁ x) λ W b σ₂ s₂ h₂ r₂ S₂ st₂ k₂ => wpAny_evalPart_none (wpAny_evalPart_none (by
  refine La.x3_6 h₂ λ x l k h'1 h'2 e hk hsz q => ?_; clear h₂; subst h'1; subst h'2
  have r₁' := k₂.rel r₁
  cases r₁'
  refine La.x1_1 r₂ λ t h'1 => ?_; clear r₂; subst h'1
  refine La.x2_2 (S₂.inv.1 _ _ e) λ i1 n1 g1 r1 => ?_
  have el := r1.length
  simp at el
  have hk' : ∀ a o,s₂.heap.get? a = some o->(s₂.heap.push { cls := .type "slice",data := .fields #[.int k t,.none,.none] }).get? a = some o := λ a o e => Heap.get?_push_of_some _ e
  refine La.c2 (S₂.inv.grow (s := s₂) (t := s₂.toks) hk' []) λ I₂ st₃ => ?_
  have S₃ := S₂.step I₂ st₃
  have g1' : (s₂.heap.push { cls := .type "slice",data := .fields #[.int k t,.none,.none] }).get? x = some (listO i1 n1) := hk' _ _ g1
  refine delSliceAt (s := { s₂ with heap := s₂.heap.push { cls := .type "slice",data := .fields #[.int k t,.none,.none] } }) (n := n1) g1' (Heap.IsSliceOf.new ..) (k := k) (by exact La.z36 hk el) (by rw [sizeLine_eq]; exact La.z24 hsz el) λ f hf => ?_
  have ex : Heap.ExtBut x _ _ := (Heap.SameBut.update (s₂.heap.push { cls := .type "slice",data := .fields #[.int k t,.none,.none] }) x (Obj.mapSeq f)).extBut
  have kt := Inv.kt S₃.inv e ex
  have kt' : KeepT s₂.heap (s₂.heap.push { cls := .type "slice",data := .fields #[.int k t,.none,.none] }) := λ a o e _ => hk' a o e
  obtain ⟨I₄,st₄⟩ := S₃.inv.put (s := { s₂ with heap := s₂.heap.push { cls := .type "slice",data := .fields #[.int k t,.none,.none] } }) (t := s₂.toks) (m := .list (l.take k)) (.inl (by rw [e]; simp)) ex ⟨_,_,IsL.update g1' _,by
   rw [hf]; exact kt.rels (kt'.rels (r1.take k))⟩ []
  refine wpAny_deleteEach_nil ⟨.next,ρ,_,q,rfl,S₃.step I₄ st₄,(((st₁.trans st₂).trans st₃).trans st₄).O⟩)))))))
end
end Mine
end
section
open PySem PySem.W PySem.Calls PyProof.Rows PySem.Spec PySem.SeqAt
namespace Mine
section
variable {C : Cx} {ρ : Loc'} {σ : CH}
theorem FC.cls {mg : Str->Option Value} {Cl fI : Addr} {n : Nat} {vs : List PV} {Q : PV->CH->Prop} (B : Bs C mg) (hn : C.n = n + 1) (hm : makesIn C.K Cl = true)
  (hi : findIn C.K (.ref Cl) "__init__" = some (some (.ref fI))) (hf : typeIn C.K (.ref fI) = some (.type "function"))
  (h : ∀ x dx,σ x = none->σ dx = none->x ≠ dx->FCc { C with n := n } (.ref fI) (.ref x :: vs) (upd (upd σ dx (.ns [])) x (.inst Cl dx)) λ V σ' => V = .none/\Q (.ref x) σ') : FC C (.ref Cl) vs σ Q := by
 refine FCc.fc ?_
 intro A s vals G I F r
 obtain ⟨hh,g,d,t,os⟩ := s
 have X : C.K.In hh := I.K B.K
 have k : ∀ b o,hh.get? b = some o->((hh.push emptyDict).push (instObj Cl hh.objs.size)).get? b = some o := λ b o e => Heap.get?_push_of_some _ (Heap.get?_push_of_some _ e)
 refine La.c2 (I.alloc (s := ⟨hh,g,d,t,os⟩) (t := t) (o := emptyDict) (m := .ns []) ⟨[],0,Heap.get?_push_size _ rfl,.nil⟩ []) λ I₁ st₁ => ?_
 refine La.c2 (I₁.alloc (s := ⟨hh.push emptyDict,g,d,t,os⟩) (t := t) (o := instObj Cl hh.objs.size) (m := .inst Cl hh.objs.size) (Heap.get?_push_size _ rfl) []) λ I₂ st₂ => ?_
 have sz : (hh.push emptyDict).objs.size = hh.objs.size + 1 := Heap.size_push ..
 dsimp only at I₂ st₂
 rw [sz] at I₂ st₂
 have n1 : σ hh.objs.size = none := I.freshσ
 have n2 : σ (hh.objs.size + 1) = none := by
  cases q : σ (hh.objs.size + 1) with
  | none => rfl
  | some m => refine La.x1_1 (ORel.ex (I.1 _ _ q)) λ o e => ?_; exact absurd (show hh.objs.size + 1 < hh.objs.size from Heap.lt_size e) (by exact La.z68)
 have st := st₁.trans st₂
 have F₂ := F.step st (by simp)
 have kt : KeepT hh ((hh.push emptyDict).push (instObj Cl hh.objs.size)) := λ a o e _ => k a o e
 refine make_core (makes_of X hm) (looks_findIn X hi) (λ self => bind_fn X self hf) (.inl rfl) ?_
 have G₁ : GA { C with n := n } (A.under (.builtin "type.__call__" ⟨.ref Cl :: vals,[]⟩)) :=
  ⟨by have := G.depth; show A.depth + 1 + 2 * n < _; exact La.z25 hn this,by have := G.units; show A.units + 1 + 12 * n + 400 < _; exact La.z69 hn this,G.handled,G.frames⟩
 refine codeAny_mono (h (hh.objs.size + 1) hh.objs.size n2 n1 (λ q => by have q : hh.objs.size + 1 = hh.objs.size := q; exact La.l1 (.Q (.a .x0 .l1) .x0) .F [[1,0]] rfl [_] [] q) _ ⟨_,g,d,t,os⟩ (.ref (hh.objs.size + 1) :: vals) G₁ I₂ F₂ (.cons rfl (kt.rels r))) λ r s' x => ?_
 unfold InitBack
 cases r with
 | error e => refine La.x1_3 x λ σ' a b c => ?_; clear x; exact ⟨σ',a,b,st.trans c⟩
 | ok f =>
  cases f with
  | ret v =>
   refine La.x2_4 x λ V σ' h'1 rv i y => ?_; clear x; refine La.c2 h'1 λ h'2 q => ?_; clear h'1; subst h'2
   exact ⟨rv,⟨_,σ',q,rfl,i,st.trans y⟩⟩
  | _ => exact x.elim
end
end Mine
end
section
open PySem PySem.W PySem.Calls PyProof.Rows PySem.Spec PySem.SeqAt
namespace Mine
theorem closure_ofL {env : Env} : ∀ (names : List (Str × NameKind)) (cs : List (Str × Addr)),(∀ x ∈ names,x.2 = .free->∃ c,env.cells.lookup x.1 = some c)->(∀ p ∈ cs,env.cells.lookup p.1 = some p.2) ->
  ∃ cl,(forIn names cs λ x cs => (if (x.2 == .free) = true then do let c <- cellOf env x.1; pure (ForInStep.yield ((x.1,c) :: cs)) else pure (ForInStep.yield cs)) : Sem (List (Str × Addr))) = pure cl /\
   (∀ p ∈ cl,env.cells.lookup p.1 = some p.2)/\(∀ x ∈ names,x.2 = .free->∃ c,(x.1,c) ∈ cl)/\(∀ p ∈ cs,p ∈ cl)
 | [],cs,_,h => ⟨cs,rfl,h,λ _ h => (by cases h),λ _ h => h⟩
 | (n,k) :: names,cs,hn,h => by
  by_cases hk : k = .free
  ·subst hk
   refine La.x1_1 (hn (n,.free) List.mem_cons_self rfl) λ c hc => ?_
   obtain ⟨cl,e,p1,p2,p3⟩ := closure_ofL names ((n,c) :: cs) (λ x hx => hn x (List.mem_cons_of_mem _ hx)) (λ p hp => by
    rcases List.mem_cons.mp hp with rfl | hp
    ·exact hc
    ·exact h p hp)
   refine ⟨cl,?_,p1,λ x hx hf => ?_,λ p hp => p3 p (List.mem_cons_of_mem _ hp)⟩
   ·rw [List.forIn_cons]
    have : (cellOf env n : Sem Addr) = pure c := by unfold cellOf; rw [hc]
    simp only [beq_self_eq_true,if_true,this]
    exact e
   ·rcases List.mem_cons.mp hx with rfl | hx
    ·exact ⟨c,p3 _ List.mem_cons_self⟩
    ·exact p2 x hx hf
  ·refine La.x1_4 (closure_ofL names cs (λ x hx => hn x (List.mem_cons_of_mem _ hx)) h) λ cl e p1 p2 p3 => ?_
   refine ⟨cl,?_,p1,λ x hx hf => ?_,p3⟩
   ·rw [List.forIn_cons]
    have hb : (k == NameKind.free) = false := by simpa using hk
    simp only [hb,Bool.false_eq_true,if_false]
    exact e
   ·rcases List.mem_cons.mp hx with rfl | hx
    ·exact absurd hf hk
    ·exact p2 x hx hf
theorem lookup_ex {α β : Type} [BEq α] [LawfulBEq α] {l : List (α × β)} {x : α} {c : β} (h : (x,c) ∈ l) : ∃ d,l.lookup x = some d := by
 induction l with
 | nil => cases h
 | cons p r ih =>
  obtain ⟨y,d⟩ := p
  simp only [List.lookup_cons]
  cases q : x == y with
  | true => exact ⟨d,rfl⟩
  | false =>
   rcases List.mem_cons.mp h with e | h
   ·cases e; simp at q
   ·exact ih h
theorem closure_of {env : Env} {scope : Scope} (hn : ∀ x ∈ scope.names,x.2 = .free->∃ c,env.cells.lookup x.1 = some c) :
  ∃ cl,closureFor scope env = pure cl/\(∀ x c,cl.lookup x = some c->env.cells.lookup x = some c)/\(∀ x ∈ scope.names,x.2 = .free->∃ c,cl.lookup x.1 = some c) := by
 refine La.x1_4 (closure_ofL (env := env) scope.names [] hn (λ _ h => by cases h)) λ cl e p1 p2 _ => ?_
 refine ⟨cl,?_,λ x c h => p1 _ (mem_of_lookup h),λ x hx hf => ?_⟩
 ·have : closureFor scope env = ((forIn scope.names ([] : List (Str × Addr)) λ x cs => (if (x.2 == .free) = true then do let c <- cellOf env x.1; pure (ForInStep.yield ((x.1,c) :: cs)) else pure (ForInStep.yield cs)) : Sem (List (Str × Addr))) >>= λ cs => pure cs) := by
   unfold closureFor
   rfl
  rw [this,e]; rfl
 ·refine La.x1_1 (p2 x hx hf) λ c h => ?_
  exact lookup_ex h
theorem lookup_relabel {env : Env} : ∀ {names : List (Str × NameKind)} {x : Str},
  (names.map λ (n,k) => if (k == NameKind.free && env.scope.kind == .function && env.kindOf n == some .cell) then (n,NameKind.cell) else (n,k)).lookup x =
   (names.lookup x).map λ k => if (k == NameKind.free && env.scope.kind == .function && env.kindOf x == some .cell) then .cell else k
 | [],_ => rfl
 | (n,k) :: r,x => by
  have ih := @lookup_relabel env r x
  show List.lookup x ((if (k == NameKind.free && env.scope.kind == .function && env.kindOf n == some .cell) = true then (n,NameKind.cell) else (n,k)) :: _) = _
  cases hx : x == n with
  | true =>
   have := beq_iff_eq.mp hx
   subst this
   by_cases hc : (k == NameKind.free && env.scope.kind == .function && env.kindOf x == some .cell) = true
   ·rw [if_pos hc]; simp only [List.lookup_cons,beq_self_eq_true,Option.map_some]; rw [if_pos hc]
   ·rw [if_neg hc]; simp only [List.lookup_cons,beq_self_eq_true,Option.map_some]; rw [if_neg hc]
  | false =>
   by_cases hc : (k == NameKind.free && env.scope.kind == .function && env.kindOf n == some .cell) = true
   ·rw [if_pos hc]; simp only [List.lookup_cons,hx]; exact ih
   ·rw [if_neg hc]; simp only [List.lookup_cons,hx]; exact ih
noncomputable abbrev inCx (C : Cx) (scope : Scope) (cl : List (Str × Addr)) (L : Addr) : Cx := { C with env := compEnvC scope cl L C.env,O := L :: C.O }
noncomputable def inLoc (scope : Scope) (ρ : Loc') : Loc' := ρ.filter λ p => scope.names.lookup p.1 == some .free
theorem lk_inLoc {scope : Scope} {x : Str} : ∀ {ρ : Loc'} {V : PV},lk x (inLoc scope ρ) = some V->lk x ρ = some V/\scope.names.lookup x = some .free
 | [],_,e => by simp [inLoc,lk] at e
 | (y,W) :: r,V,e => by
  unfold inLoc at e
  rw [List.filter_cons] at e
  by_cases hy : scope.names.lookup y == some .free
  ·rw [if_pos hy] at e
   unfold lk at e ⊢
   by_cases hx : x = y
   ·subst hx; simp only [if_true] at e ⊢; exact ⟨e,beq_iff_eq.mp hy⟩
   ·simp only [hx,if_false] at e ⊢
    exact lk_inLoc (ρ := r) e
  ·rw [if_neg hy] at e
   have := lk_inLoc (ρ := r) e
   unfold lk
   by_cases hx : x = y
   ·subst hx; rw [this.2] at hy; simp at hy
   ·simp only [hx,if_false]; exact this
section
variable {C : Cx} {ρ : Loc'} {σ : CH}
theorem kind_in {scope : Scope} {cl : List (Str × Addr)} {L : Addr} {x : Str} : (compEnvC scope cl L C.env).kindOf x = (scope.names.lookup x).map λ k => if (k == NameKind.free && C.env.scope.kind == .function && C.env.kindOf x == some .cell) then .cell else k := lookup_relabel
theorem St.inner {h : Heap} {scope : Scope} {cl : List (Str × Addr)} {L : Addr} (S : St C ρ σ h) (hk : scope.kind = .function) (hcell : ∀ y ∈ scope.names,y.2 ≠ .cell)
  (hcl : ∀ x c,cl.lookup x = some c->C.env.cells.lookup x = some c) (hcf : ∀ x ∈ scope.names,x.2 = .free->∃ c,cl.lookup x.1 = some c)
  (hfree : ∀ x,scope.names.lookup x = some .free->C.env.kindOf x = some .cell\/C.env.kindOf x = some .free)
  (hL : h.Ns L (λ _ => none)) (hLn : σ L = none) (hLb : C.b.get? L = none) (hLf : ∀ e ∈ C.fl,e.frame ≠ some L) : St (inCx C scope cl L) (inLoc scope ρ) σ h := by
 have noC : ∀ y,scope.names.lookup y ≠ some .cell := λ y e => hcell _ (mem_of_lookup e) rfl
 have isC : ∀ y,(compEnvC scope cl L C.env).kindOf y = some .cell->scope.names.lookup y = some .free/\C.env.kindOf y = some .cell := λ y e => by
  rw [kind_in] at e
  cases q : scope.names.lookup y with
  | none => rw [q] at e; cases e
  | some k =>
   rw [q] at e
   simp only [Option.map_some,Option.some.injEq] at e
   split at e
   ·rename_i z
    simp only [Bool.and_eq_true,beq_iff_eq] at z
    exact ⟨by rw [z.1.1],z.2⟩
   ·subst e; exact absurd q (noC y)
 have ent : ∀ y,scope.names.lookup y = some .free->∃ c,cl.lookup y = some c/\C.env.cells.lookup y = some c := λ y e => by
  refine La.x1_1 (hcf _ (mem_of_lookup e) rfl) λ c hc => ?_
  exact ⟨c,hc,hcl _ _ hc⟩
 refine ⟨S.inv,⟨hk,S.fe.glob,S.fe.bi,List.mem_cons_self,λ y c e hc => List.mem_cons_of_mem _ (S.fe.cellO y c (isC y e).2 (hcl _ _ hc)),λ x y c a b => S.fe.inj x y c (hcl _ _ a) (hcl _ _ b),λ a ha => ?_⟩,⟨⟨_,hL,λ y V e f => ?_⟩,λ y V e f => ?_,λ y f => ?_⟩,λ a ha => ?_,λ y c e => S.free y c (hcl _ _ e),S.fr,λ e he a f g => ?_⟩
 ·rcases List.mem_cons.mp ha with rfl | ha
  ·exact hLb
  ·exact S.fe.ownB a ha
 ·refine La.c2 (lk_inLoc e) λ _ e2 => ?_
  exfalso
  have f : (compEnvC scope cl L C.env).kindOf y = some .local := f
  rw [kind_in,e2] at f
  simp only [Option.map_some,Option.some.injEq] at f
  split at f <;> cases f
 ·refine La.c2 (lk_inLoc e) λ e1 e2 => ?_
  refine La.x2_3 (S.loc.cell y V e1 (hfree y e2)) λ c v a b d => ?_
  refine La.x1_2 (ent y e2) λ c' h1 h2 => ?_
  rw [a] at h2; cases h2
  exact ⟨c,v,h1,b,d⟩
 ·refine La.c2 (isC y f) λ e2 e3 => ?_
  refine La.x2_2 (S.loc.slot y e3) λ c v a b => ?_
  refine La.x1_2 (ent y e2) λ c' h1 h2 => ?_
  rw [a] at h2; cases h2
  exact ⟨c,v,h1,b⟩
 ·rcases List.mem_cons.mp ha with rfl | ha
  ·refine La.x3_3 hL λ o es ep e d _ => ?_; clear hL
   exact ⟨hLn,o,e,λ vs n q => by rw [d] at q; cases q⟩
  ·exact S.own a ha
 ·rcases List.mem_cons.mp g with rfl | g
  ·exact absurd f (hLf e he)
  ·exact S.frO e he a f g
theorem storeL1 {A : Around} {s : Shared} {x : Str} {V : PV} {v : Value} {k : Shared->Prop} {E : Value->Shared->Prop} (S : St C ρ σ s.heap) (r : Rel s.heap V v) (hk : C.env.kindOf x = some .local)
  (h : ∀ s',St C ((x,V) :: ρ) σ s'.heap->Step [C.env.locals] σ s s' σ->KeepT s.heap s'.heap->k s') : wpAny (md C) A (storeName C.env x v) (λ _ s' => k s') E s := by
 refine La.x1_2 (S.loc.ns) λ m hm0 hm => ?_
 refine wpAny_storeName_local hk hm0 (λ h' hn hs => ?_) (by rw [S.fe.kind]; rfl)
 refine La.c3 (S.storeL (t := s.toks + 1) r hk hm0 hm hn hs) λ a b c => ?_
 exact h _ a (S.inv.own (O := [C.env.locals]) (by simp) (S.own _ S.fe.locO).1 (S.fe.ownB _ S.fe.locO) (ns_noTup hm0) (Heap.SameBut.extBut hs)).2 c
noncomputable def CP (C : Cx) (e : Expr) (it acc : Addr) (ρ : Loc') (σ : CH) (Q : CH->Prop) : Prop :=
 ∀ A s,GA C A->St C ρ σ s.heap->codeAny (md C) A (.compLoop e 0 (.ref it) (.ref acc) C.env) (λ r s' => match r with | .ok _ => ∃ ρ' σ',Q σ'/\St C ρ' σ' s'.heap/\Step [C.env.locals] σ s s' σ' | .error _ => False) s
noncomputable abbrev IFS (C : Cx) (ifs : List Expr) := TG C (EqR (α := Bool)) (forIn ifs true λ c r => if r = true then do let ok <- isTrue c C.env (eval c C.env); pure (ForInStep.yield ok) else pure (ForInStep.yield r))
theorem IFS.nil {Q : Bool->CH->Prop} (q : Q true σ) : IFS C [] ρ σ Q := λ A s G S => wpAny_tests_nil (PG.now' S q rfl)
theorem IFS.one {c : Expr} {Q : Bool->CH->Prop} (h : ET C c ρ σ Q) : IFS C [c] ρ σ Q := λ A s G S => wpAny_tests_one (h A s G S)
theorem CP.turn {x : Str} {px pos : Pos} {it acc : Addr} {elt iter : Expr} {ifs : List Expr} {scope : Scope} {Q : CH->Prop} (hX : ∀ e σ s,¬ C.X e σ s) (hx : C.env.kindOf x = some .local)
  (h : NX C it ρ σ λ V σ₁ => match V with
   | none => Q σ₁
   | some V => IFS C ifs ((x,V) :: ρ) σ₁ λ b σ₂ => if b then EV C elt ((x,V) :: ρ) σ₂ λ W σ₃ => FC C (.builtin "list.append") [.ref acc,W] σ₃ λ _ σ₄ => CP C (.ListComp elt [⟨.Name x px,iter,ifs,0⟩] scope pos) it acc ((x,V) :: ρ) σ₄ Q
     else CP C (.ListComp elt [⟨.Name x px,iter,ifs,0⟩] scope pos) it acc ((x,V) :: ρ) σ₂ Q)
  (ht : ∀ v,letOwnedTupleGo (.Name x px) (.ref it) v = pure () := by intro _; rfl) : CP C (.ListComp elt [⟨.Name x px,iter,ifs,0⟩] scope pos) it acc ρ σ Q := by
 intro A s G S
 have hP : ∀ {σ s e s'} {P : Prop},PX C σ s e s'->P := λ ⟨_,x,_⟩ => absurd x (hX _ _ _)
 refine codeAny_of_tree ?_
 show wpAny _ A ((compTurn (.ListComp elt [⟨.Name x px,iter,ifs,0⟩] scope pos) 0 (.ref it) (.ref acc) C.env).onRaise (λ x => do noteFrame x C.env; theTreesLotGoes x)) _ _ s
 refine wpAny_noted ?_
 rw [compTurn_list]
 refine wpAny_bind (wpAny_standAt (wpAny_bind (h.seqE G S (λ _ _ x => hP x) λ V v σ₁ s₁ q r S₁ st₁ _ => ?_)))
 cases V with
 | none =>
  cases v with
  | some v => exact r.elim
  | none => exact wpAny_pure ⟨_,_,q,S₁,st₁.wider (by simp)⟩
 | some V =>
  cases v with
  | none => exact r.elim
  | some v =>
   refine wpAny_bind (wpAny_of_eq (ht v) ?_)
   refine wpAny_bind (wpAny_assign_Name (storeL1 S₁ r hx λ s₂ S₂ st₂ _ => ?_))
   refine wpAny_bind (q.seqE G S₂ (λ _ _ x => hP x) λ b c σ₃ s₃ q₃ r₃ S₃ st₃ _ => ?_)
   cases r₃
   have st := ((st₁.wider (O' := [C.env.locals]) (by simp)).trans st₂).trans (st₃.wider (O' := [C.env.locals]) (by simp))
   have fin : ∀ {σ' s'},Step [C.env.locals] σ s s' σ'->∀ {r : Result} {s'' : Shared},(match r with | .ok _ => ∃ ρ' σ'',Q σ''/\St C ρ' σ'' s''.heap/\Step [C.env.locals] σ' s' s'' σ'' | .error _ => False)->(match r with | .ok _ => ∃ ρ' σ',Q σ'/\St C ρ' σ' s''.heap/\Step [C.env.locals] σ s s'' σ' | .error _ => False) := by
    intro σ' s' st r s'' x
    cases r with
    | error e => exact x
    | ok f => refine La.x2_3 x λ ρ' σ'' a b c => ?_; clear x; exact ⟨ρ',σ'',a,b,st.trans c⟩
   cases b with
   | false => exact wpAny_pure ⟨rfl,codeAny_mono (q₃ A s₃ G S₃) λ r s' x => fin st x⟩
   | true =>
    refine wpAny_bind (wpAny_bind (q₃.seqE G S₃ (λ _ _ x => hP x) λ W w σ₄ s₄ q₄ r₄ S₄ st₄ _ => ?_))
    refine wpAny_bind (wpAny_mono (q₄.at (vals := [.ref acc,w]) G S₄ (.cons rfl (.cons r₄ .nil))) (λ _ s₅ x => ?_) λ _ _ x => hP x)
    refine La.x2_4 x λ _ σ₅ q₅ _ i₅ st₅ => ?_; clear x
    have S₅ := S₄.step i₅ st₅
    exact wpAny_pure (wpAny_pure ⟨rfl,codeAny_mono (q₅ A s₅ G S₅) λ r s' x => fin (st.trans ((st₄.trans st₅).wider (by simp))) x⟩)
structure CompOk (C : Cx) (ρ : Loc') (scope : Scope) (x : Str) : Prop where
 kind : scope.kind = .function
 cell : ∀ y ∈ scope.names,y.2 ≠ .cell
 names : ∀ y ∈ scope.names,y.2 = .local->scope.names.lookup y.1 = some .local
 x : scope.names.lookup x = some .local
 free : ∀ y ∈ scope.names,y.2 = .free->(C.env.kindOf y.1 = some .cell\/C.env.kindOf y.1 = some .free)/\(lk y.1 ρ).isSome = true
theorem comp_core {A : Around} {s : Shared} {e0 elt iter : Expr} {x : Str} {px pos : Pos} {ifs : List Expr} {scope : Scope} {cl : List (Str × Addr)} {it : Addr} {Q : Addr->CH->Prop} {E : Value->Shared->Prop} {RR : Value->Addr->Result->Shared->Prop}
  (ok : CompOk C ρ scope x) (hcl : ∀ x c,cl.lookup x = some c->C.env.cells.lookup x = some c) (hcf : ∀ x ∈ scope.names,x.2 = .free->∃ c,cl.lookup x.1 = some c)
  (G : GA C A) (S : St C ρ σ s.heap) (hit : ∃ m,σ it = some m/\((∃ a i,m = .itL a i)\/(∃ x left c,m = .itR x left c)))
  (h : ∀ acc,σ acc = none->∀ L C',C' = inCx C scope cl L->CP C' (.ListComp elt [⟨.Name x px,iter,ifs,0⟩] scope pos) it acc (inLoc scope ρ) (upd σ acc (.list [])) (Q acc))
  (hRR : ∀ acc L σ' s',Q acc σ'->St C ρ σ' s'.heap->Step [] σ s s' σ'->(∃ m,s'.heap.Ns L m)->σ' L = none->C.b.get? L = none->L ∉ C.O->(∀ y c,C.env.cells.lookup y = some c->c ≠ L)->(∀ e ∈ C.fl,e.frame ≠ some L)->s.heap.get? L = none->∀ f,RR (.ref acc) L (.ok f) s') :
  wpAny (md C) A (newList []) (λ acc s₃ => wpAny (md C) A (newFunctionEnv scope C.env.globals cl [] C.env.qual none .none (some C.env)) (λ cenv s₄ =>
   codeAny (md C) A (.compStart (.ListComp elt [⟨.Name x px,iter,ifs,0⟩] scope pos) 0 (.ref it) acc { cenv with scope := relabel scope C.env }) (RR acc cenv.locals) s₄) E s₃) E s := by
 refine wpAny_newObj_type (wpAny_newFunctionEnv ok.cell (by intro y hy; simp at hy) (λ h₁ hns₁ hsb₁ => ?_) ok.kind)
 dsimp only at hns₁ hsb₁ ⊢
 generalize hH2 : s.heap.push { cls := .type "list",dict := none,data := .seq ([] : List Value).toArray } = H2 at hns₁ hsb₁ ⊢
 have hC : H2.objs.size = s.heap.objs.size + 1 := by rw [<- hH2,Heap.size_push]
 have i0 := S.inv.alloc (s := s) (t := s.toks) (o := { cls := .type "list",dict := none,data := .seq ([] : List Value).toArray }) (m := .list []) ⟨_,0,Heap.get?_push_size _ rfl,.nil⟩ []
 rw [hH2] at i0
 refine La.c2 i0 λ I₁ st₁ => ?_; clear i0
 have S₁ := S.step (s' := { s with heap := H2,toks := s.toks }) I₁ st₁
 have hk2 : ∀ b o,H2.get? b = some o->h₁.get? b = some o := λ b o e => hsb₁.extBut b o (Nat.ne_of_lt (Heap.lt_size e)) (Heap.get?_push_of_some _ e)
 refine La.c2 (I₁.grow (s := { s with heap := H2,toks := s.toks }) (t := s.toks + ([] : List (Str × Value)).length) hk2 []) λ I₂ st₂ => ?_
 have S₂ := S₁.step I₂ st₂
 have st12 := st₁.trans st₂
 have fresh : ∀ a,s.heap.objs.size<=a->s.heap.get? a = none := λ a ha => by
  cases e : s.heap.get? a with
  | none => rfl
  | some o' => exact absurd (Heap.lt_size e) (Nat.not_lt.mpr ha)
 have fresh2 : H2.get? H2.objs.size = none := fresh_none
 have hLs : s.heap.get? H2.objs.size = none := fresh _ (by rw [hC]; exact Nat.le_succ _)
 have hLn : upd σ s.heap.objs.size (.list []) H2.objs.size = none := by
  cases q : upd σ s.heap.objs.size (.list []) H2.objs.size with
  | none => rfl
  | some m => refine La.x1_1 (ORel.ex (I₁.1 _ _ q)) λ o e => ?_; rw [fresh2] at e; cases e
 have hLb : C.b.get? H2.objs.size = none := by
  cases q : C.b.get? H2.objs.size with
  | none => rfl
  | some m => have := (S.inv.2 _ _ q).1; rw [hLs] at this; cases this
 have hLO : H2.objs.size ∉ C.O := λ q => by refine La.c2 (S.own _ q) λ _ h'1 => ?_; refine La.x1_2 h'1 λ o e _ => ?_; clear h'1; rw [hLs] at e; cases e
 have hLc : ∀ y c,C.env.cells.lookup y = some c->c ≠ H2.objs.size := λ y c e q => by subst q; refine La.c2 (S.free y _ e) λ _ h'1 => ?_; refine La.x1_1 h'1 λ o e => ?_; clear h'1; rw [hLs] at e; cases e
 have hLf : ∀ e ∈ C.fl,e.frame ≠ some H2.objs.size := λ e he q => by refine La.c2 (S.fr e he) λ _ h'1 => ?_; refine La.x2_4 h'1 λ L o a _ b _ => ?_; clear h'1; rw [q] at a; cases a; rw [hLs] at b; cases b
 have Sin : St (inCx C scope cl H2.objs.size) (inLoc scope ρ) (upd σ s.heap.objs.size (.list [])) h₁ :=
  S₂.inner ok.kind ok.cell hcl hcf (λ y e => (ok.free _ (mem_of_lookup e) rfl).1) hns₁ hLn hLb hLf
 have Gin : GA (inCx C scope cl H2.objs.size) A := ⟨G.depth,G.units,G.handled,G.frames⟩
 have loop : codeAny (md C) A (.compLoop (.ListComp elt [⟨.Name x px,iter,ifs,0⟩] scope pos) 0 (.ref it) (.ref s.heap.objs.size) (compEnvC scope cl H2.objs.size C.env))
    (RR (.ref s.heap.objs.size) H2.objs.size) { s with heap := h₁,toks := s.toks + ([] : List (Str × Value)).length } := by
  refine codeAny_mono (h s.heap.objs.size S.freshσ H2.objs.size _ rfl A { s with heap := h₁,toks := s.toks + ([] : List (Str × Value)).length } Gin Sin) λ r s' x => ?_
  cases r with
  | error e => exact x.elim
  | ok f =>
   refine La.x2_3 x λ ρ' σ' q S' st' => ?_; clear x
   have stO : Step [] σ s s' σ' := by
    have y := (st12.wider (O' := [H2.objs.size]) (by simp)).trans st'
    have ne : ∀ a o,s.heap.get? a = some o->a ∉ [H2.objs.size] := λ a o e q => by simp at q; subst q; rw [hLs] at e; cases e
    exact ⟨λ a o e n _ => y.keep a o e n (ne a o e),λ a o e n _ => y.new a o e n (ne a o e),y.gens,y.os⟩
   have SO := S.step S'.inv stO
   exact hRR s.heap.objs.size H2.objs.size σ' s' q SO stO (by refine La.x1_2 (S'.loc.ns) λ m hm _ => ?_; exact ⟨m,hm⟩) (S'.own _ List.mem_cons_self).1 hLb hLO hLc hLf hLs f
 refine La.x1_2 hit λ m hm hm' => ?_; clear hit
 have hne : it ≠ s.heap.objs.size := λ q => by rw [q,S.freshσ] at hm; cases hm
 have him : upd σ s.heap.objs.size (.list []) it = some m := by rw [un' hne]; exact hm
 refine codeAny_compStart_list loop ?_
 rcases hm' with ⟨a,i,rfl⟩ | ⟨y,left,c,rfl⟩
 ·exact wpAny_pyIter_listiter (I₂.1 _ _ him) loop
 ·exact wpAny_pyIter_rangeiter (I₂.1 _ _ him) loop
theorem St.ext1 {s : Shared} {h' : Heap} {t : Nat} {L : Addr} {m : Str->Option Value} (S : St C ρ σ s.heap) (hm : s.heap.Ns L m) (hn : σ L = none) (hb : C.b.get? L = none) (hO : L ∉ C.O) (hc : ∀ y c,C.env.cells.lookup y = some c->c ≠ L) (hf : ∀ e ∈ C.fl,e.frame ≠ some L)
  (ex : Heap.ExtBut L s.heap h') : St C ρ σ h'/\Step [L] σ s { s with heap := h',toks := t } σ := by
 refine La.c2 (S.inv.own (t := t) (O := [L]) (by simp) hn hb (ns_noTup hm) ex) λ I st => ?_
 have kt : KeepT s.heap h' := λ a o e t => ex a o (λ q => ns_noTup hm o (q ▸ e) t) e
 obtain ⟨inv,fe,loc,own,free,fr,frO⟩ := S
 have nO : ∀ a ∈ C.O,a ≠ L := λ a ha q => hO (q ▸ ha)
 refine ⟨⟨I,fe,⟨?_,λ y W e f => ?_,λ y f => ?_⟩,λ a ha => ?_,λ y c e => ?_,?_,λ e he a f g => ?_⟩,st⟩
 ·refine La.x1_2 (loc.ns) λ m h1 h2 => ?_
  refine ⟨m,Ns.keep1 h1 λ o e => ex _ o (nO _ fe.locO) e,λ y V e f => ?_⟩
  refine La.x1_2 (h2 y V e f) λ v a b => ?_
  exact ⟨v,a,kt.rel b⟩
 ·refine La.x2_3 (loc.cell y W e f) λ c v a b d => ?_
  exact ⟨c,v,a,IsCell.keep1 b λ o g => ex c o (hc y c a) g,kt.rel d⟩
 ·refine La.x2_2 (loc.slot y f) λ c v a b => ?_
  exact ⟨c,v,a,IsCell.keep1 b λ o g => ex c o (hc y c a) g⟩
 ·refine La.c2 (own a ha) λ q h'1 => ?_; refine La.x1_2 h'1 λ o e d => ?_; clear h'1
  exact ⟨q,o,ex a o (nO a ha) e,d⟩
 ·refine La.c2 (free y c e) λ q h'1 => ?_; refine La.x1_1 h'1 λ o e' => ?_; clear h'1
  exact ⟨q,o,ex c o (hc y c e) e'⟩
 ·refine FrOk.step (s' := { s with heap := h',toks := t }) fr st λ e he a f g => ?_
  simp at g; subst g; exact absurd f (hf e he)
 ·refine La.x1_1 (frO e he a f g) λ m hm => ?_
  exact ⟨m,Ns.keep1 hm λ o e => ex a o (nO a g) e⟩
theorem St.closure {h : Heap} {scope : Scope} {x : Str} (S : St C ρ σ h) (ok : CompOk C ρ scope x) : ∃ cl,closureFor scope C.env = pure cl/\(∀ x c,cl.lookup x = some c->C.env.cells.lookup x = some c)/\(∀ x ∈ scope.names,x.2 = .free->∃ c,cl.lookup x.1 = some c) :=
 closure_of λ y hy hf => by
  refine La.c2 (ok.free y hy hf) λ k e => ?_
  refine La.x1_1 (Option.isSome_iff_exists.mp e) λ V e => ?_
  refine La.x2_2 (S.loc.cell y.1 V e k) λ c v a _ => ?_
  exact ⟨c,a⟩
theorem EV.comp {elt iter : Expr} {x : Str} {px pos : Pos} {ifs : List Expr} {scope : Scope} {Q : PV->CH->Prop} (ok : CompOk C ρ scope x)
  (h : EV C iter ρ σ λ V σ₁ => O1 C Rel (λ v => pyIter v) V ρ σ₁ λ W σ₂ => ∃ it,W = .ref it/\(∃ m,σ₂ it = some m/\((∃ a i,m = .itL a i)\/(∃ x left c,m = .itR x left c))) /\
   ∀ acc,σ₂ acc = none->∀ L cl C',C' = inCx C scope cl L->CP C' (.ListComp elt [⟨.Name x px,iter,ifs,0⟩] scope pos) it acc (inLoc scope ρ) (upd σ₂ acc (.list [])) λ σ₃ => Q (.ref acc) σ₃)
  (hs : ∀ x,foldedSetIterable iter C.env x = pure x := by intro _; rfl) : EV C (.ListComp elt [⟨.Name x px,iter,ifs,0⟩] scope pos) ρ σ Q := λ A s G S => by
 refine La.x1_3 (S.closure ok) λ cl e1 e2 e3 => ?_
 show wpAny _ _ (eval (.ListComp elt [⟨.Name x px,iter,ifs,0⟩] scope pos) C.env) _ _ _
 rw [eval_ListComp]
 refine wpAny_comprehension_free (use := none) rfl hs e1 ok.kind ok.names ?_
 refine h.seq G S λ V v σ₁ s₁ h₁ r S₁ st₁ _ => ?_
 refine wpAny_mono (h₁ A s₁ v G S₁ r) (λ u s₂ y => ?_) λ _ _ x => PX.up st₁ x
 refine La.x2_4 y λ W σ₂ h'1 ru i₂ st₂ => ?_; clear y; refine La.x1_3 h'1 λ it h'2 hit hl => ?_; clear h'1; subst h'2
 cases ru
 have S₂ := S₁.step i₂ st₂
 refine comp_core (e0 := iter) (cl := cl) (RR := λ acc L => compPost (md C) A (PX C σ s) none (PG C Rel Q σ s) acc L) ok e2 e3 G S₂ hit (λ acc ha L C' hC' => hl acc ha L cl C' hC') λ acc L σ' s' q S' st' hns hLn hLb hLO hLc hLf hLs f => ?_
 refine La.x1_1 hns λ m hm => ?_; clear hns
 refine ⟨m,hm,λ h' hs' => ?_⟩
 refine La.c2 (S'.ext1 (t := s'.toks) hm hLn hLb hLO hLc hLf hs'.extBut) λ S'' st'' => ?_
 refine ⟨.ref acc,σ',q,rfl,S''.inv,?_⟩
 have y := ((st₁.trans st₂).trans st')
 have s2n : ∀ a o,s.heap.get? a = some o->σ a = none->a ≠ L := λ a o e n q => by
  refine La.x1_1 (((st₁.trans st₂).keep a o e n (by simp)).ex) λ _ this => ?_
  rw [q,hLs] at this; cases this
 have z := (y.wider (O' := [L]) (by simp)).trans st''
 exact ⟨λ a o e n _ => z.keep a o e n (by simpa using s2n a o e n),λ a o e n _ => z.new a o e n (by simpa using s2n a o e n),z.gens,z.os⟩
theorem ES.comp {elt iter : Expr} {x y : Str} {px py pos spos : Pos} {ifs : List Expr} {scope : Scope} {Q : Fl->Loc'->CH->Prop} (ok : CompOk C ρ scope x) (hy : C.env.kindOf y = some .local)
  (hsw : swapsWith (.ListComp elt [⟨.Name x px,iter,ifs,0⟩] scope pos) (some (.Name y py)) spos.line C.env = pure true)
  (h : EV C iter ρ σ λ V σ₁ => O1 C Rel (λ v => pyIter v) V ρ σ₁ λ W σ₂ => ∃ it,W = .ref it/\(∃ m,σ₂ it = some m/\((∃ a i,m = .itL a i)\/(∃ x left c,m = .itR x left c))) /\
   ∀ acc,σ₂ acc = none->∀ L cl C',C' = inCx C scope cl L->CP C' (.ListComp elt [⟨.Name x px,iter,ifs,0⟩] scope pos) it acc (inLoc scope ρ) (upd σ₂ acc (.list [])) λ σ₃ => Q .next ((y,.ref acc) :: ρ) σ₃)
  (hs : ∀ x,foldedSetIterable iter C.env x = pure x := by intro _; rfl) : ES C (.Assign [.Name y py] (.ListComp elt [⟨.Name x px,iter,ifs,0⟩] scope pos) spos) ρ σ Q := λ A s G S => by
 refine La.x1_3 (S.closure ok) λ cl e1 e2 e3 => ?_
 rw [exec_Assign_Name_used _ _ _ _ hsw]
 refine wpAny_bind (wpAny_standAt (wpAny_bind ?_))
 show wpAny _ A (do let _ <- comprehension (.ListComp elt [⟨.Name x px,iter,ifs,0⟩] scope pos) scope C.env _ (newList []) false (eval iter C.env) (some (PySem.assign (.Name y py) C.env))) _ _ s
 refine wpAny_bind (wpAny_mono (wpAny_comprehension_free (use := some (PySem.assign (.Name y py) C.env)) (Q := λ _ s' => PS C Q σ s .next s') (E := PX C σ s) rfl hs e1 ok.kind ok.names ?_) (λ _ s' hq => wpAny_pure (wpAny_pure hq)) λ _ _ e => e)
 refine h.seqE G S (λ _ _ x => x) λ V v σ₁ s₁ h₁ r S₁ st₁ _ => ?_
 refine wpAny_mono (h₁ A s₁ v G S₁ r) (λ u s₂ y => ?_) λ _ _ x => PX.up st₁ x
 refine La.x2_4 y λ W σ₂ h'1 ru i₂ st₂ => ?_; clear y; refine La.x1_3 h'1 λ it h'2 hit hl => ?_; clear h'1; subst h'2
 cases ru
 have S₂ := S₁.step i₂ st₂
 refine comp_core (e0 := iter) (cl := cl) (RR := λ acc L => compPost (md C) A (PX C σ s) (some (PySem.assign (.Name y py) C.env)) (λ _ s' => PS C Q σ s .next s') acc L) ok e2 e3 G S₂ hit (λ acc ha L C' hC' => hl acc ha L cl C' hC') λ acc L σ' s' q S' st' hns hLn hLb hLO hLc hLf hLs f => ?_
 refine La.x1_1 hns λ m hm => ?_; clear hns
 show wpAny _ A (PySem.assign (.Name y py) C.env (.ref acc)) _ _ _
 refine wpAny_assign_Name (storeN S' (V := .ref acc) rfl (.inl hy) λ s₃ S₃ st₃ _ => ?_)
 have hm' : s₃.heap.Ns L m := Ns.keepS hm λ o e => st₃.keep L o e hLn hLO
 refine ⟨m,hm',λ h' hs' => ?_⟩
 refine La.c2 (S₃.ext1 (t := s₃.toks) hm' hLn hLb hLO hLc hLf hs'.extBut) λ S'' st'' => ?_
 refine ⟨.next,_,σ',q,rfl,S'',?_⟩
 have s2n : ∀ a o,s.heap.get? a = some o->σ a = none->a ≠ L := λ a o e n q => by
  refine La.x1_1 (((st₁.trans st₂).keep a o e n (by simp)).ex) λ _ this => ?_
  rw [q,hLs] at this; cases this
 have z := ((((st₁.trans st₂).trans st').wider (O' := L :: C.O) (by simp)).trans (st₃.wider λ a ha => List.mem_cons_of_mem _ ha)).trans (st''.wider (O' := L :: C.O) (by simp))
 have nin : ∀ a o,s.heap.get? a = some o->σ a = none->a ∉ C.O->a ∉ L :: C.O := λ a o e n k q => by
  rcases List.mem_cons.mp q with q | q
  ·exact s2n a o e n q
  ·exact k q
 exact ⟨λ a o e n k => z.keep a o e n (nin a o e n k),λ a o e n k => z.new a o e n (nin a o e n k),z.gens,z.os⟩
end
end Mine
end
section
open PySem PySem.W PySem.Calls PyProof.Rows PySem.Spec PySem.SeqAt
namespace Mine
set_option backward.match.sparseCases false
noncomputable def nthS : List Stmt->Nat->Stmt
 | [],_ => .Pass ⟨0,0,0,0⟩
 | x :: _,0 => x
 | _ :: r,n + 1 => nthS r n
noncomputable def stN (n : Nat) : Stmt := nthS PySem.Challenge.pw_no0185_01.main.body n
noncomputable def fnP : Stmt->Arguments
 | .FunctionDef (args := a) .. => a
 | _ => ⟨[],[],none,[],[],none,[]⟩
noncomputable def fnB : Stmt->List Stmt
 | .FunctionDef (body := a) .. => a
 | .ClassDef (body := a) .. => a
 | _ => []
noncomputable def fnS : Stmt->Scope
 | .FunctionDef (scope := a) .. => a
 | .ClassDef (scope := a) .. => a
 | _ => ⟨.module,[],false,false,[]⟩
noncomputable def mtN (c m : Nat) : Stmt := nthS (fnB (stN c)) m
section
variable (b : Heap) (K : Frag) (mg : Str->Option Value)
noncomputable def FnT (x : Str) (a : Addr) (i : Nat) : Prop := mg x = some (.ref a)/\keepIn K (.ref a) = true/\FnAt b a x (fnP (stN i)) (fnB (stN i)) (fnS (stN i)) .none
noncomputable def MtT (Cl : Addr) (m : Str) (a : Addr) (q : Str) (i j : Nat) : Prop := MethOk K Cl m a/\keepIn K (.ref a) = true/\FnAt b a q (fnP (mtN i j)) (fnB (mtN i j)) (fnS (mtN i j)) .none
noncomputable def AtT (Cl : Addr) (x : Str) : Prop := AttrOk K Cl x/\SetOk K Cl x
noncomputable def InT (x : Str) (i : Int) : Prop := ∃ t,mg x = some (.int i t)
end
theorem kd {env : Env} {s : Scope} {x : Str} {k : NameKind} (sc : env.scope = s) (h : s.names.lookup x = some k) : env.kindOf x = some k := by rw [Env.kindOf,sc]; exact h
noncomputable def ClT (b : Heap) (K : Frag) (mg : Str->Option Value) (x : Str) (Cl fI : Addr) (q : Str) (i : Nat) : Prop :=
 mg x = some (.ref Cl)/\keepIn K (.ref Cl) = true/\makesIn K Cl = true/\findIn K (.ref Cl) "__init__" = some (some (.ref fI))/\typeIn K (.ref fI) = some (.type "function") /\
  ∃ dV,FnAt b fI q (fnP (mtN i 0)) (fnB (mtN i 0)) (fnS (mtN i 0)) dV/\(i ≠ 29->dV = .none)/\(i = 29->∃ a,dV = .ref a/\∃ t n,b.get? a = some (tupO #[.int 100000 t] n))
noncomputable def excMro : List Value->Bool
 | .ref _ :: r => excMro r
 | l => l == [.type "Exception",.type "BaseException",.type "object"]
noncomputable def excOver (K : Frag) (C : Addr) : Bool := (clsIn K C).any λ cd => excMro cd.mro
noncomputable def clsD : Data->Option ClassData
 | .cls cd => some cd
 | _ => none
noncomputable def excI (K : Frag) (C fI : Addr) : Bool := (K.lookup C).any λ o => (o.cls == .type "type" && (o.slots.toList.length == 6 && o.slots.toList[4]? == some (some (.builtin "Exception.__new__")))) &&
 (clsD o.data).any λ cd => (cd.mro.head? == some (.ref C) && !cd.hasDel) && (tailIn K [.type "Exception",.type "BaseException",.type "object"] cd.mro.tail && (nsOkIn K cd.ns && nsIn K cd.ns "__init__" == some (some (.ref fI))))
structure ETbl (b : Heap) (K : Frag) (mg : Str->Option Value) : Prop where
 g : mg "PrologError" = some (.ref 51)
 keep : keepIn K (.ref 51) = true
 cls : excI K 51 48 = true
 fn : typeIn K (.ref 48) = some (.type "function")
 fa : FnAt b 48 "PrologError.__init__" (fnP (mtN 3 0)) (fnB (mtN 3 0)) (fnS (mtN 3 0)) .none
 sa : findIn K (.ref 51) "__setattr__" = some (some (.builtin "object.__setattr__"))
 ga : findIn K (.ref 51) "__getattribute__" = some (some (.builtin "BaseException.__getattribute__"))
 gh : findIn K (.ref 51) "__getattr__" = some none
 ov : excOver K 51 = true
 ba : findIn K (.ref 51) "ball" = some none
 hd : hasDictIn K 51 = true
noncomputable def fnL : List (Str × Addr × Nat) := [("system_error",165,15),("formal_of",172,16),("resource_error",179,17),("fixed_atoms",60,11),("fixed_functors",67,12),("push_arguments",411,33),("push_pairs",418,34),("same_shape",425,35),("is_variable",432,36),("occurs_in",439,37),("reaches",446,38),("rank",453,39),("order",460,40),("compare_shapes",467,41),("compare_tops",474,42),("compare",481,43),("identical",488,44),("variables",495,45),("ground",502,46),("variable_number",509,47),("variant",516,48),("_law_row",523,50),("_law_next",530,51),("_law_term",537,52),("_law_end",544,53),("_law_parts",551,54),("_law_met",558,55),("_law_finite",563,56),("_law_source",568,57),("_law_list",575,58),("_law_taken",582,59)]
noncomputable def mtL : List (Str × Addr × Addr × Str × Nat × Nat) := [("deref",374,230,"Cells.deref",29,5),("push",374,202,"Cells.push",29,1),("new_var",374,209,"Cells.new_var",29,2),("reserve",374,216,"Cells.reserve",29,3),("bind",374,244,"Cells.bind",29,7),("bind_pair",374,251,"Cells.bind_pair",29,8),("globalise",374,258,"Cells.globalise",29,9),("stack_put",374,279,"Cells.stack_put",29,12),("is_compound",374,286,"Cells.is_compound",29,13),("functor_of",374,293,"Cells.functor_of",29,14),("width",374,300,"Cells.width",29,15),("base",374,307,"Cells.base",29,16),("new_block",374,321,"Cells.new_block",29,18),("list_cells",374,357,"Store.list_cells",30,2),("put_term",374,364,"Store.put_term",30,3),("take_term",374,371,"Store.take_term",30,4),("atom",154,88,"Symbols.atom",13,1),("text",154,95,"Symbols.text",13,2),("functor",154,102,"Symbols.functor",13,3),("func",154,109,"Symbols.func",13,4),("name",154,116,"Symbols.name",13,5),("arity",154,123,"Symbols.arity",13,6),("known",154,151,"Symbols.known",13,10)]
noncomputable def atL : List (Str × Addr) := [("symbols",374),("max_heap",374),("heap",374),("stack",374),("trail",374),("hb",374),("bb",374),("texts",154),("atom_numbers",154),("functors",154),("functor_numbers",154),("span",400),("met",400)]
noncomputable def inL : List (Str × Int) := [("A_NIL",0),("A_PLUS",4),("A_SYSTEM",25),("F_DOT",0),("F_MINUS1",12),("F_MINUS",13),("F_ERROR",16),("REF",0),("SRF",1),("STR",2),("LIS",3),("CON",4),("INT",5),("FUN",6),("VISIT",0),("BUILD",1)]
noncomputable def nmL : List Str := ["len","range","list","set","tuple","isinstance","str"]
theorem tab_mem {α β : Type} [BEq α] [LawfulBEq α] {x : α} {y : β} : ∀ {l : List (α × β)},l.lookup x = some y->(x,y) ∈ l
 | (a,b) :: l,h => by
  rw [List.lookup_cons] at h
  cases e : x == a with
  | true => rw [e] at h; rw [eq_of_beq e,Option.some.inj h]; exact List.mem_cons_self
  | false => rw [e] at h; exact List.mem_cons_of_mem _ (tab_mem h)
structure Tbl (b : Heap) (K : Frag) (mg : Str->Option Value) : Prop where
 hK : K.In b
 g : b.Ns mainGlobals mg
 bi : ∃ mb,b.Ns builtinsNs mb/\∀ x : Str,x ≠ "__name__"->mb x = bootBuiltins x
 nl : b.NoLimit
 sys : ∃ o,b.get? sysModules = some o
 exc : ETbl b K mg
 fns : ∀ e ∈ fnL,FnT b K mg e.1 e.2.1 e.2.2
 mts : ∀ e ∈ mtL,MtT b K e.2.1 e.1 e.2.2.1 e.2.2.2.1 e.2.2.2.2.1 e.2.2.2.2.2
 ats : ∀ e ∈ atL,AtT K e.2 e.1
 ins : ∀ e ∈ inL,InT mg e.1 e.2
 nms : ∀ e ∈ nmL,mg e = none
 m400_add : MtT b K 400 "add" 397 "PairSet.add" 32 1
 c_Symbols : ClT b K mg "Symbols" 154 81 "Symbols.__init__" 13
 c_Store : ClT b K mg "Store" 374 195 "Cells.__init__" 29
 c_PairSet : ClT b K mg "PairSet" 400 390 "PairSet.__init__" 32
theorem Tbl.fn {b : Heap} {K : Frag} {mg : Str->Option Value} (T : Tbl b K mg) (x : Str) {a : Addr} {i : Nat} (h : fnL.lookup x = some (a,i)) : FnT b K mg x a i := T.fns _ (tab_mem h)
theorem Tbl.mt {b : Heap} {K : Frag} {mg : Str->Option Value} (T : Tbl b K mg) (x : Str) {Cl a : Addr} {q : Str} {i j : Nat} (h : mtL.lookup x = some (Cl,a,q,i,j)) : MtT b K Cl x a q i j := T.mts _ (tab_mem h)
theorem Tbl.at {b : Heap} {K : Frag} {mg : Str->Option Value} (T : Tbl b K mg) (x : Str) {Cl : Addr} (h : atL.lookup x = some Cl) : AtT K Cl x := T.ats _ (tab_mem h)
theorem Tbl.int {b : Heap} {K : Frag} {mg : Str->Option Value} (T : Tbl b K mg) (x : Str) {i : Int} (h : inL.lookup x = some i) : InT mg x i := T.ins _ (tab_mem h)
theorem Tbl.nm {b : Heap} {K : Frag} {mg : Str->Option Value} (T : Tbl b K mg) (x : Str) (h : nmL.elem x = true) : mg x = none := T.nms _ (List.elem_iff.mp h)
noncomputable abbrev TC (C : Cx) (mg : Str->Option Value) : Prop := Tbl C.b C.K mg
theorem TC.fits {C C' : Cx} {mg : Str->Option Value} {scope : Scope} {n : Nat} (T : TC C mg) (F : Fits C C' scope n) : TC C' mg := by
 obtain ⟨a,b,_,_⟩ := F
 unfold TC
 rw [a,b]; exact T
theorem TC.bs {C : Cx} {mg : Str->Option Value} (T : TC C mg) : Bs C mg := ⟨T.hK,T.g,T.bi,T.nl⟩
theorem upd_old {σ : CH} {a x : Addr} {m m' : MO} (ha : σ a = none) (hx : σ x = some m) : upd σ a m' x = some m := by
 rw [un']; exact hx
 rintro rfl; rw [ha] at hx; cases hx
theorem ne_of {σ : CH} {a x : Addr} {m : MO} (ha : σ a = none) (hx : σ x = some m) : x ≠ a := by rintro rfl; rw [ha] at hx; cases hx
theorem lk_same {x : Str} {V : PV} {r : Loc'} : lk x ((x,V) :: r) = some V := by simp [lk]
theorem lk_ne {x y : Str} {V : PV} {r : Loc'} (h : x ≠ y) : lk x ((y,V) :: r) = lk x r := by simp [lk,h]
noncomputable def Ext (σ σ' : CH) : Prop := ∀ a m,σ a = some m->σ' a = some m
theorem Ext.refl {σ : CH} : Ext σ σ := λ _ _ h => h
theorem Ext.trans {σ σ₁ σ₂ : CH} (x : Ext σ σ₁) (y : Ext σ₁ σ₂) : Ext σ σ₂ := λ a m h => y a m (x a m h)
theorem Ext.new {σ : CH} {a : Addr} {m : MO} (h : σ a = none) : Ext σ (upd σ a m) := λ x m' e => upd_old h e
noncomputable def EB (O : List Addr) (σ σ' : CH) : Prop := ∀ a m,a ∉ O->σ a = some m->σ' a = some m
theorem EB.refl {O : List Addr} {σ : CH} : EB O σ σ := λ _ _ _ h => h
theorem EB.trans {O : List Addr} {σ σ₁ σ₂ : CH} (x : EB O σ σ₁) (y : EB O σ₁ σ₂) : EB O σ σ₂ := λ a m n h => y a m n (x a m n h)
theorem EB.new {O : List Addr} {σ : CH} {a : Addr} {m : MO} (h : σ a = none) : EB O σ (upd σ a m) := λ x m' _ e => upd_old h e
theorem EB.mut {O : List Addr} {σ : CH} {a : Addr} {m : MO} (h : a ∈ O) : EB O σ (upd σ a m) := λ x m' n e => by rw [un']; exact e; rintro rfl; exact n h
theorem Ext.eb {O : List Addr} {σ σ' : CH} (x : Ext σ σ') : EB O σ σ' := λ a m _ h => x a m h
theorem EB.wider {O O' : List Addr} {σ σ' : CH} (x : EB O σ σ') (h : ∀ a ∈ O,a ∈ O') : EB O' σ σ' := λ a m n e => x a m (λ q => n (h a q)) e
theorem EB.ext {O : List Addr} {σ σ' : CH} (x : EB O σ σ') (h : ∀ a ∈ O,σ a = none) : Ext σ σ' := λ a m e => x a m (λ q => by rw [h a q] at e; cases e) e
theorem EB.del {O : List Addr} {σ : CH} {a : Addr} (h : a ∈ O) : EB O σ (del σ a) := λ x m n e => by
 unfold Mine.del; rw [if_neg]; exact e
 rintro rfl; exact n h
theorem EB.updN {O : List Addr} {σ₀ σ : CH} {a : Addr} {m : MO} (e : EB O σ₀ σ) (h : σ₀ a = none) : EB O σ₀ (upd σ a m) := λ x m' n g => by
 rw [un']
 ·exact e x m' n g
 ·rintro rfl; rw [h] at g; cases g
theorem EB.delN {O : List Addr} {σ₀ σ : CH} {a : Addr} (e : EB O σ₀ σ) (h : σ₀ a = none) : EB O σ₀ (Mine.del σ a) := λ x m' n g => by
 unfold Mine.del
 rw [if_neg]
 ·exact e x m' n g
 ·rintro rfl; rw [h] at g; cases g
theorem EB.updO {O : List Addr} {σ₀ σ : CH} {a : Addr} {m : MO} (e : EB O σ₀ σ) (h : a ∈ O) : EB O σ₀ (upd σ a m) := λ x m' n g => by
 rw [un']
 ·exact e x m' n g
 ·rintro rfl; exact n h
theorem ne_mm {σ : CH} {x y : Addr} {m m' : MO} (hx : σ x = some m) (hy : σ y = some m') (h : m ≠ m') : x ≠ y := by rintro rfl; rw [hx] at hy; cases hy; exact h rfl
theorem del_ne {σ : CH} {a b : Addr} (h : b ≠ a) : Mine.del σ a b = σ b := by unfold Mine.del; rw [if_neg h]
end Mine
end
section
open PySem PySem.W PyProof.Rows
namespace Mine
noncomputable def topRunT (p : Program) (w : World) (m : Nat) (ann : Option Value) : Nat->SharedT->Thread->Option SharedT
 | 0,_,_ => none
 | n + 1,s,t => match through t with
  | true => some s
  | false => match Fast.tw6613529449190102663 m ann t with
   | false => none
   | true => match Fast.tw10156331382660048174 (Fast.tw11892475500146522536 Fast.tw14364793385576792824) p w s t with
    | some (s',t') => topRunT p w m ann n s' t'
    | none => none
theorem topRunT_of {p : Program} {w : World} {m : Nat} {ann : Option Value} : ∀ {n : Nat} {s s' : SharedT} {t : Thread},topRunT p w m ann n s t = some s'->topRun treeTable p w m ann n s.abs t = some s'.abs
 | 0,_,_,_,h => by cases h
 | n + 1,s,s',t,h => by
  unfold topRunT at h
  rw [<- Fast.te6613529449190102663,<- Fast.te10156331382660048174,<- Fast.te11892475500146522536,<- Fast.te14364793385576792824] at h
  unfold topRun
  cases ht : through t with
  | true => rw [ht] at h; cases h; rfl
  | false =>
   rw [ht] at h
   cases hk : stepOk m ann t with
   | false => rw [hk] at h; cases h
   | true =>
    rw [hk] at h
    cases hs : stepT (denote treeTable) p w s t with
    | none => rw [hs] at h; cases h
    | some r => obtain ⟨s₂,t₂⟩ := r; rw [hs] at h; rw [stepT_spec hs]; exact topRunT_of h
noncomputable def growT : List Obj->BT->Nat->Option (BT × Nat)
 | [],t,n => some (t,n)
 | o :: r,t,n => match ((t.ins n o).get n).isSome with
  | true => growT r (t.ins n o) (n + 1)
  | false => none
theorem growT_of {life : Life} : ∀ {l : List Obj} {t t' : BT} {n n' : Nat},growT l t n = some (t',n')->absHeap t' n' life = ⟨(absHeap t n life).objs ++ l.toArray,life⟩
 | [],t,t',n,n',h => by cases h; simp [absHeap]
 | o :: r,t,t',n,n',h => by
  unfold growT at h
  cases e : ((t.ins n o).get n).isSome with
  | false => rw [e] at h; cases h
  | true =>
   rw [e] at h
   rw [growT_of h,absHeap_ins e]
   simp [Heap.push]
noncomputable def startT (s : Shared) : Option SharedT := (growT s.heap.objs.toList .nil 0).map λ x => ⟨x.1,x.2,s.heap.life,s.gens,s.drawn,s.toks,s.os⟩
theorem startT_of {s : Shared} {st : SharedT} (h : startT s = some st) : st.abs = s := by
 unfold startT at h
 obtain ⟨⟨t,n⟩,e,rfl⟩ := Option.map_eq_some_iff.mp h
 obtain ⟨⟨objs,life⟩,gens,drawn,toks,os⟩ := s
 have := growT_of (life := life) e
 show Shared.mk (absHeap t n life) _ _ _ _ = _
 rw [this]
 simp [absHeap,BT.list]
noncomputable def endT (p : Program) (w : World) (N : Nat) (s₀ : Shared) : Option Shared := match s₀.heap.isNs mainGlobals && s₀.gens.size == 0 with
 | true => ((startT s₀).bind λ st => topRunT p w s₀.heap.objs.size (s₀.heap.nsMap mainGlobals "__annotations__") N st (topStub p)).bind λ s₁ =>
  match staticsOk (importedModules p.main.body) s₀.heap s₁.abs.heap && namesBound p s₁.abs.heap && gensDone s₁.abs && laidKept s₀.heap s₁.abs.heap with
  | true => some s₁.abs
  | false => none
 | false => none
theorem endT_of {p : Program} {w : World} {N : Nat} {s₀ s : Shared} (h : endT p w N s₀ = some s) : topFrom treeTable p w N s₀ = some s := by
 unfold endT at h
 unfold topFrom
 cases e : (s₀.heap.isNs mainGlobals && s₀.gens.size == 0) with
 | false => rw [e] at h; cases h
 | true =>
  rw [e] at h
  obtain ⟨s₁,h1,h2⟩ := Option.bind_eq_some_iff.mp h
  obtain ⟨st,h3,h4⟩ := Option.bind_eq_some_iff.mp h1
  have := topRunT_of h4
  rw [startT_of h3] at this
  dsimp only
  rw [this]
  exact h2
theorem leftT {p q : Program} {loose : List Str} {Xt : Shared->Bool} {α : Type} {Yf : Shared->α} {Ya : World->α} {N : Nat} {g0 : Bool}
  (h : ∀ w,((fencedOpening treeTable p w N).bind (endT p w N)).map (λ s => (openSeen q loose (importedModules p.main.body) Xt g0 s,Yf s)) = some (openGood q loose,Ya w)) : LeftO p q loose Xt Yf Ya N g0 := λ w => by
 obtain ⟨s,h1,h2⟩ := Option.map_eq_some_iff.mp (h w)
 obtain ⟨s₀,h3,h4⟩ := Option.bind_eq_some_iff.mp h1
 unfold openEnds
 rw [h3]
 show (topFrom treeTable p w N s₀).map _ = _
 rw [endT_of h4]
 exact congrArg some h2
theorem leftTT {p q : Program} {loose : List Str} {Xt : Shared->Bool} {α : Type} {Yf : Shared->α} {Ya : World->α} {N : Nat} {g0 : Bool}
  (h1 : ∀ w,((fencedOpening treeTable p w N).bind (endT p w N)).map (λ s => Fast.tw4187177175401517315 q loose (Fast.tw5923862056798008813 p.main.body) Xt g0 s) = some (openGood q loose))
  (h2 : ∀ w,((fencedOpening treeTable p w N).bind (endT p w N)).map Yf = some (Ya w)) : LeftO p q loose Xt Yf Ya N g0 := leftT λ w => by
 obtain ⟨s,e,e1⟩ := Option.map_eq_some_iff.mp (h1 w)
 obtain ⟨s',e',e2⟩ := Option.map_eq_some_iff.mp (h2 w)
 rw [e] at e'
 cases e'
 rw [<- Fast.te4187177175401517315,<- Fast.te5923862056798008813] at e1
 rw [e,Option.map_some,e1,e2]
end Mine
end
section
open PySem PySem.W PyProof.Rows
namespace Mine
noncomputable abbrev sx : String->Str := Str.ofString
noncomputable abbrev vs (s : String) (t : Nat) : Value := .str (sx s) t
noncomputable abbrev vr (a : Addr) : Value := .ref a
noncomputable abbrev vi (i : Int) (t : Nat) : Value := .int i t
noncomputable abbrev vT : Value := Value.bool Bool.true
noncomputable abbrev vN : Value := Value.none
noncomputable abbrev oM := @Obj.mk
noncomputable abbrev fP : String := "/claim/cut.py"
noncomputable abbrev dS := @Data.seq
noncomputable abbrev fB := @FuncBody.stmts
noncomputable abbrev dF := @Data.fields
noncomputable abbrev fD := @FuncData.mk
noncomputable abbrev dU := @Data.func
noncomputable abbrev ty : Value := .type "type"
noncomputable abbrev tf : Value := .type "function"
noncomputable abbrev tt : Value := .type "tuple"
noncomputable abbrev tc : Value := .type "code"
noncomputable abbrev de (P : Params) (k : String) (t : Nat) (v : Value) : DictEntry := ⟨PyData.keyHash P (sx k),.str (sx k) t,v⟩
noncomputable def KL (P : Params) : Frag := [
 (2,(oM vN none (Data.dict #[(de P "type.__subclasses__.Exception.0" 212 (vi 31 0)),(de P "type.__subclasses__.Exception.n" 213 (vi 1 0))] 2) #[])),
 (3,(oM (Value.type "dict") none (Data.dict #[(de P "__name__" 165 (vs "law_no0185_01" 926)),(de P "__doc__" 166 vN),(de P "__package__" 167 vN),(de P "__loader__" 168 (Value.builtin "__main__.__loader__#opaque")),(de P "__spec__" 169 vN),(de P "__annotations__" 170 (vr 6)),(de P "__builtins__" 171 (vr 4)),(de P "__file__" 173 (vs fP 172)),(de P "__cached__" 174 vN),(de P "_wall" 193 (vr 21)),(de P "ClausemillError" 215 (vr 31)),(de P "PrologError" 240 (vr 51)),(de P "A_NIL" 242 (vi 0 241)),(de P "A_PLUS" 244 (vi 4 243)),(de P "A_SYSTEM" 246 (vi 25 245)),(de P "F_DOT" 248 (vi 0 247)),(de P "F_MINUS1" 250 (vi 12 249)),(de P "F_MINUS" 252 (vi 13 251)),(de P "F_ERROR" 254 (vi 16 253)),(de P "fixed_atoms" 260 (vr 60)),(de P "fixed_functors" 266 (vr 67)),(de P "Symbols" 386 (vr 154)),(de P "system_error" 395 (vr 165)),(de P "formal_of" 406 (vr 172)),(de P "resource_error" 414 (vr 179)),(de P "REF" 418 (vi 0 417)),(de P "SRF" 420 (vi 1 419)),(de P "STR" 422 (vi 2 421)),(de P "LIS" 424 (vi 3 423)),(de P "CON" 426 (vi 4 425)),(de P "INT" 428 (vi 5 427)),(de P "FUN" 430 (vi 6 429)),(de P "VOID" 432 (vr 180)),(de P "VISIT" 434 (vi 0 433)),(de P "BUILD" 436 (vi 1 435)),(de P "Cells" 631 (vr 324)),(de P "Store" 712 (vr 374)),(de P "PairSet" 754 (vr 400)),(de P "push_arguments" 765 (vr 411)),(de P "push_pairs" 778 (vr 418)),(de P "same_shape" 787 (vr 425)),(de P "is_variable" 794 (vr 432)),(de P "occurs_in" 805 (vr 439)),(de P "reaches" 816 (vr 446)),(de P "rank" 824 (vr 453)),(de P "order" 832 (vr 460)),(de P "compare_shapes" 845 (vr 467)),(de P "compare_tops" 856 (vr 474)),(de P "compare" 870 (vr 481)),(de P "identical" 879 (vr 488)),(de P "variables" 891 (vr 495)),(de P "ground" 901 (vr 502)),(de P "variable_number" 908 (vr 509)),(de P "variant" 925 (vr 516)),(de P "_law_row" 938 (vr 523)),(de P "_law_next" 945 (vr 530)),(de P "_law_term" 955 (vr 537)),(de P "_law_end" 963 (vr 544)),(de P "_law_parts" 972 (vr 551)),(de P "_law_met" 983 (vr 558)),(de P "_law_finite" 989 (vr 563)),(de P "_law_source" 995 (vr 568)),(de P "_law_list" 1005 (vr 575)),(de P "_law_taken" 1015 (vr 582)),(de P "law" 1021 (vr 587))] 65) #[])),
 (15,(oM tt none (dS #[] 0) #[])),
 (17,(oM tt none (dS #[(vs "k" 190)] 0) #[])),
 (18,(oM tt none (dS #[] 0) #[])),
 (20,(oM tc none (dF #[(vs "_wall" 187),(vs "_wall" 188),(vs fP 189),(vi 1 0),(vi 1 0),(vi 0 0),(vi 0 0),(vi 3 0),(vr 15),vT,(vi 181 0),(vr 16),vN,(vr 17),(vr 18),(vr 19),(vi 191 0),(vi 1 0),(vs fP 192)]) #[])),
 (21,(oM tf none (dU (fD (sx "_wall") (sx "_wall") (fnP (stN 0)) (fB (fnB (stN 0))) (fnS (stN 0)) 3 [] vN vN vN (vs "__main__" 164) none (vr 20) vN 0)) #[])),
 (22,(oM tt none (dS #[(Value.type "Exception")] 0) #[])),
 (29,(oM tt none (dS #[] 0) #[])),
 (30,(oM (Value.type "dict") none (Data.dict #[(de P "__module__" 203 (vs "clausemill.symbols" 194)),(de P "__firstlineno__" 207 (vi 5 206)),(de P "__static_attributes__" 208 (vr 29)),(de P "__weakref__" 210 (vr 32)),(de P "__doc__" 211 vN)] 3) #[])),
 (31,(oM ty none (Data.cls (ClassData.mk (sx "ClausemillError") [(Value.type "Exception")] [(vr 31),(Value.type "Exception"),(Value.type "BaseException"),(Value.type "object")] 30 (sx "ClausemillError") Bool.true [] [(vr 51)] Bool.false none Bool.false)) #[(Option.some (vr 22)),none,(Option.some (vs "ClausemillError" 196)),(Option.some (vs "ClausemillError" 204)),(Option.some (Value.builtin "Exception.__new__")),(Option.some vT)])),
 (32,(oM (Value.type "getset_descriptor") none (dF #[(vs "__weakref__" 209),(vr 31),(Value.builtin "ExceptionGroup.__weakref__"),vN]) #[])),
 (35,(oM tt none (dS #[(vr 31)] 0) #[])),
 (42,(oM tt none (dS #[] 0) #[])),
 (44,(oM tt none (dS #[(vs "self" 231),(vs "ball" 232)] 0) #[])),
 (45,(oM tt none (dS #[] 0) #[])),
 (47,(oM tc none (dF #[(vs "__init__" 228),(vs "PrologError.__init__" 229),(vs fP 230),(vi 9 0),(vi 2 0),(vi 0 0),(vi 0 0),(vi 3 0),(vr 42),vT,(vi 181 0),(vr 43),vN,(vr 44),(vr 45),(vr 46),(vi 233 0),(vi 9 0),(vs fP 234)]) #[])),
 (48,(oM tf none (dU (fD (sx "__init__") (sx "PrologError.__init__") (fnP (mtN 3 0)) (fB (fnB (mtN 3 0))) (fnS (mtN 3 0)) 3 [] vN vN vN (vs "clausemill.symbols" 194) none (vr 47) vN 0)) #[])),
 (49,(oM tt none (dS #[(vs "ball" 236)] 0) #[])),
 (50,(oM (Value.type "dict") none (Data.dict #[(de P "__module__" 223 (vs "clausemill.symbols" 194)),(de P "__firstlineno__" 227 (vi 7 226)),(de P "__init__" 235 (vr 48)),(de P "__static_attributes__" 237 (vr 49)),(de P "__doc__" 238 vN)] 2) #[])),
 (51,(oM ty none (Data.cls (ClassData.mk (sx "PrologError") [(vr 31)] [(vr 51),(vr 31),(Value.type "Exception"),(Value.type "BaseException"),(Value.type "object")] 50 (sx "PrologError") Bool.true [] [] Bool.false none Bool.false)) #[(Option.some (vr 35)),none,(Option.some (vs "PrologError" 216)),(Option.some (vs "PrologError" 224)),(Option.some (Value.builtin "Exception.__new__")),(Option.some vT)])),
 (54,(oM tt none (dS #[] 0) #[])),
 (56,(oM tt none (dS #[] 0) #[])),
 (57,(oM tt none (dS #[] 0) #[])),
 (59,(oM tc none (dF #[(vs "fixed_atoms" 255),(vs "fixed_atoms" 256),(vs fP 257),(vi 18 0),(vi 0 0),(vi 0 0),(vi 0 0),(vi 3 0),(vr 54),vT,(vi 181 0),(vr 55),vN,(vr 56),(vr 57),(vr 58),(vi 258 0),(vi 18 0),(vs fP 259)]) #[])),
 (60,(oM tf none (dU (fD (sx "fixed_atoms") (sx "fixed_atoms") (fnP (stN 12)) (fB (fnB (stN 11))) (fnS (stN 12)) 3 [] vN vN vN (vs "clausemill.symbols" 194) none (vr 59) vN 0)) #[])),
 (61,(oM tt none (dS #[] 0) #[])),
 (63,(oM tt none (dS #[] 0) #[])),
 (64,(oM tt none (dS #[] 0) #[])),
 (66,(oM tc none (dF #[(vs "fixed_functors" 261),(vs "fixed_functors" 262),(vs fP 263),(vi 20 0),(vi 0 0),(vi 0 0),(vi 0 0),(vi 3 0),(vr 61),vT,(vi 181 0),(vr 62),vN,(vr 63),(vr 64),(vr 65),(vi 264 0),(vi 20 0),(vs fP 265)]) #[])),
 (67,(oM tf none (dU (fD (sx "fixed_functors") (sx "fixed_functors") (fnP (stN 12)) (fB (fnB (stN 12))) (fnS (stN 12)) 3 [] vN vN vN (vs "clausemill.symbols" 194) none (vr 66) vN 0)) #[])),
 (75,(oM tt none (dS #[] 0) #[])),
 (77,(oM tt none (dS #[(vs "self" 282),(vs "text" 283),(vs "row" 284)] 0) #[])),
 (78,(oM tt none (dS #[] 0) #[])),
 (80,(oM tc none (dF #[(vs "__init__" 279),(vs "Symbols.__init__" 280),(vs fP 281),(vi 24 0),(vi 1 0),(vi 0 0),(vi 0 0),(vi 3 0),(vr 75),vT,(vi 181 0),(vr 76),vN,(vr 77),(vr 78),(vr 79),(vi 285 0),(vi 24 0),(vs fP 286)]) #[])),
 (81,(oM tf none (dU (fD (sx "__init__") (sx "Symbols.__init__") (fnP (mtN 13 0)) (fB (fnB (mtN 13 0))) (fnS (mtN 13 0)) 3 [] vN vN vN (vs "clausemill.symbols" 194) none (vr 80) vN 0)) #[])),
 (82,(oM tt none (dS #[] 0) #[])),
 (84,(oM tt none (dS #[(vs "self" 291),(vs "text" 292),(vs "found" 293),(vs "number" 294)] 0) #[])),
 (85,(oM tt none (dS #[] 0) #[])),
 (87,(oM tc none (dF #[(vs "atom" 288),(vs "Symbols.atom" 289),(vs fP 290),(vi 34 0),(vi 2 0),(vi 0 0),(vi 0 0),(vi 3 0),(vr 82),vT,(vi 181 0),(vr 83),vN,(vr 84),(vr 85),(vr 86),(vi 295 0),(vi 34 0),(vs fP 296)]) #[])),
 (88,(oM tf none (dU (fD (sx "atom") (sx "Symbols.atom") (fnP (mtN 13 1)) (fB (fnB (mtN 13 1))) (fnS (mtN 13 1)) 3 [] vN vN vN (vs "clausemill.symbols" 194) none (vr 87) vN 0)) #[])),
 (89,(oM tt none (dS #[] 0) #[])),
 (91,(oM tt none (dS #[(vs "self" 301),(vs "number" 302)] 0) #[])),
 (92,(oM tt none (dS #[] 0) #[])),
 (94,(oM tc none (dF #[(vs "text" 298),(vs "Symbols.text" 299),(vs fP 300),(vi 43 0),(vi 2 0),(vi 0 0),(vi 0 0),(vi 3 0),(vr 89),vT,(vi 181 0),(vr 90),vN,(vr 91),(vr 92),(vr 93),(vi 303 0),(vi 43 0),(vs fP 304)]) #[])),
 (95,(oM tf none (dU (fD (sx "text") (sx "Symbols.text") (fnP (mtN 13 2)) (fB (fnB (mtN 13 2))) (fnS (mtN 13 2)) 3 [] vN vN vN (vs "clausemill.symbols" 194) none (vr 94) vN 0)) #[])),
 (96,(oM tt none (dS #[] 0) #[])),
 (98,(oM tt none (dS #[(vs "self" 309),(vs "atom" 310),(vs "arity" 311),(vs "key" 312),(vs "found" 313),(vs "number" 314)] 0) #[])),
 (99,(oM tt none (dS #[] 0) #[])),
 (101,(oM tc none (dF #[(vs "functor" 306),(vs "Symbols.functor" 307),(vs fP 308),(vi 46 0),(vi 3 0),(vi 0 0),(vi 0 0),(vi 3 0),(vr 96),vT,(vi 181 0),(vr 97),vN,(vr 98),(vr 99),(vr 100),(vi 315 0),(vi 46 0),(vs fP 316)]) #[])),
 (102,(oM tf none (dU (fD (sx "functor") (sx "Symbols.functor") (fnP (mtN 13 3)) (fB (fnB (mtN 13 3))) (fnS (mtN 13 3)) 3 [] vN vN vN (vs "clausemill.symbols" 194) none (vr 101) vN 0)) #[])),
 (103,(oM tt none (dS #[] 0) #[])),
 (105,(oM tt none (dS #[(vs "self" 321),(vs "text" 322),(vs "arity" 323)] 0) #[])),
 (106,(oM tt none (dS #[] 0) #[])),
 (108,(oM tc none (dF #[(vs "func" 318),(vs "Symbols.func" 319),(vs fP 320),(vi 56 0),(vi 3 0),(vi 0 0),(vi 0 0),(vi 3 0),(vr 103),vT,(vi 181 0),(vr 104),vN,(vr 105),(vr 106),(vr 107),(vi 324 0),(vi 56 0),(vs fP 325)]) #[])),
 (109,(oM tf none (dU (fD (sx "func") (sx "Symbols.func") (fnP (mtN 13 4)) (fB (fnB (mtN 13 4))) (fnS (mtN 13 4)) 3 [] vN vN vN (vs "clausemill.symbols" 194) none (vr 108) vN 0)) #[])),
 (110,(oM tt none (dS #[] 0) #[])),
 (112,(oM tt none (dS #[(vs "self" 330),(vs "functor" 331)] 0) #[])),
 (113,(oM tt none (dS #[] 0) #[])),
 (115,(oM tc none (dF #[(vs "name" 327),(vs "Symbols.name" 328),(vs fP 329),(vi 59 0),(vi 2 0),(vi 0 0),(vi 0 0),(vi 3 0),(vr 110),vT,(vi 181 0),(vr 111),vN,(vr 112),(vr 113),(vr 114),(vi 332 0),(vi 59 0),(vs fP 333)]) #[])),
 (116,(oM tf none (dU (fD (sx "name") (sx "Symbols.name") (fnP (mtN 13 5)) (fB (fnB (mtN 13 5))) (fnS (mtN 13 6)) 3 [] vN vN vN (vs "clausemill.symbols" 194) none (vr 115) vN 0)) #[])),
 (117,(oM tt none (dS #[] 0) #[])),
 (119,(oM tt none (dS #[(vs "self" 338),(vs "functor" 339)] 0) #[])),
 (120,(oM tt none (dS #[] 0) #[])),
 (122,(oM tc none (dF #[(vs "arity" 335),(vs "Symbols.arity" 336),(vs fP 337),(vi 62 0),(vi 2 0),(vi 0 0),(vi 0 0),(vi 3 0),(vr 117),vT,(vi 181 0),(vr 118),vN,(vr 119),(vr 120),(vr 121),(vi 340 0),(vi 62 0),(vs fP 341)]) #[])),
 (123,(oM tf none (dU (fD (sx "arity") (sx "Symbols.arity") (fnP (mtN 13 6)) (fB (fnB (mtN 13 6))) (fnS (mtN 13 6)) 3 [] vN vN vN (vs "clausemill.symbols" 194) none (vr 122) vN 0)) #[])),
 (124,(oM tt none (dS #[] 0) #[])),
 (126,(oM tt none (dS #[(vs "self" 346),(vs "functor" 347)] 0) #[])),
 (127,(oM tt none (dS #[] 0) #[])),
 (129,(oM tc none (dF #[(vs "label" 343),(vs "Symbols.label" 344),(vs fP 345),(vi 65 0),(vi 2 0),(vi 0 0),(vi 0 0),(vi 3 0),(vr 124),vT,(vi 181 0),(vr 125),vN,(vr 126),(vr 127),(vr 128),(vi 348 0),(vi 65 0),(vs fP 349)]) #[])),
 (130,(oM tf none (dU (fD (sx "label") (sx "Symbols.label") (fnP (mtN 13 7)) (fB (fnB (mtN 13 7))) (fnS (mtN 13 7)) 3 [] vN vN vN (vs "clausemill.symbols" 194) none (vr 129) vN 0)) #[])),
 (131,(oM tt none (dS #[] 0) #[])),
 (133,(oM tt none (dS #[(vs "self" 354)] 0) #[])),
 (134,(oM tt none (dS #[] 0) #[])),
 (136,(oM tc none (dF #[(vs "count" 351),(vs "Symbols.count" 352),(vs fP 353),(vi 68 0),(vi 1 0),(vi 0 0),(vi 0 0),(vi 3 0),(vr 131),vT,(vi 181 0),(vr 132),vN,(vr 133),(vr 134),(vr 135),(vi 355 0),(vi 68 0),(vs fP 356)]) #[])),
 (137,(oM tf none (dU (fD (sx "count") (sx "Symbols.count") (fnP (mtN 13 8)) (fB (fnB (mtN 13 8))) (fnS (mtN 13 8)) 3 [] vN vN vN (vs "clausemill.symbols" 194) none (vr 136) vN 0)) #[])),
 (138,(oM tt none (dS #[] 0) #[])),
 (140,(oM tt none (dS #[(vs "self" 361)] 0) #[])),
 (141,(oM tt none (dS #[] 0) #[])),
 (143,(oM tc none (dF #[(vs "functor_count" 358),(vs "Symbols.functor_count" 359),(vs fP 360),(vi 71 0),(vi 1 0),(vi 0 0),(vi 0 0),(vi 3 0),(vr 138),vT,(vi 181 0),(vr 139),vN,(vr 140),(vr 141),(vr 142),(vi 362 0),(vi 71 0),(vs fP 363)]) #[])),
 (144,(oM tf none (dU (fD (sx "functor_count") (sx "Symbols.functor_count") (fnP (mtN 13 9)) (fB (fnB (mtN 13 9))) (fnS (mtN 29 10)) 3 [] vN vN vN (vs "clausemill.symbols" 194) none (vr 143) vN 0)) #[])),
 (145,(oM tt none (dS #[] 0) #[])),
 (147,(oM tt none (dS #[(vs "self" 368),(vs "text" 369),(vs "arity" 370),(vs "atom" 371)] 0) #[])),
 (148,(oM tt none (dS #[] 0) #[])),
 (150,(oM tc none (dF #[(vs "known" 365),(vs "Symbols.known" 366),(vs fP 367),(vi 74 0),(vi 3 0),(vi 0 0),(vi 0 0),(vi 3 0),(vr 145),vT,(vi 181 0),(vr 146),vN,(vr 147),(vr 148),(vr 149),(vi 372 0),(vi 74 0),(vs fP 373)]) #[])),
 (151,(oM tf none (dU (fD (sx "known") (sx "Symbols.known") (fnP (mtN 13 10)) (fB (fnB (mtN 13 10))) (fnS (mtN 13 10)) 3 [] vN vN vN (vs "clausemill.symbols" 194) none (vr 150) vN 0)) #[])),
 (152,(oM tt none (dS #[(vs "atom_numbers" 375),(vs "functor_numbers" 376),(vs "functors" 377),(vs "texts" 378)] 0) #[])),
 (153,(oM (Value.type "dict") none (Data.dict #[(de P "__module__" 274 (vs "clausemill.symbols" 194)),(de P "__firstlineno__" 278 (vi 22 277)),(de P "__init__" 287 (vr 81)),(de P "atom" 297 (vr 88)),(de P "text" 305 (vr 95)),(de P "functor" 317 (vr 102)),(de P "func" 326 (vr 109)),(de P "name" 334 (vr 116)),(de P "arity" 342 (vr 123)),(de P "label" 350 (vr 130)),(de P "count" 357 (vr 137)),(de P "functor_count" 364 (vr 144)),(de P "known" 374 (vr 151)),(de P "__static_attributes__" 379 (vr 152)),(de P "__dict__" 381 (vr 155)),(de P "__weakref__" 383 (vr 156)),(de P "__doc__" 384 vN)] 4) #[])),
 (154,(oM ty none (Data.cls (ClassData.mk (sx "Symbols") [(Value.type "object")] [(vr 154),(Value.type "object")] 153 (sx "Symbols") Bool.true [] [] Bool.false none Bool.false)) #[none,none,(Option.some (vs "Symbols" 267)),(Option.some (vs "Symbols" 275)),(Option.some (Value.builtin "object.__new__")),(Option.some vT)])),
 (155,(oM (Value.type "getset_descriptor") none (dF #[(vs "__dict__" 380),(vr 154),(Value.builtin "function.__dict__"),(Value.builtin "function.__dict__#set")]) #[])),
 (156,(oM (Value.type "getset_descriptor") none (dF #[(vs "__weakref__" 382),(vr 154),(Value.builtin "ExceptionGroup.__weakref__"),vN]) #[])),
 (159,(oM tt none (dS #[] 0) #[])),
 (161,(oM tt none (dS #[(vs "formal" 392)] 0) #[])),
 (162,(oM tt none (dS #[] 0) #[])),
 (164,(oM tc none (dF #[(vs "system_error" 389),(vs "system_error" 390),(vs fP 391),(vi 80 0),(vi 1 0),(vi 0 0),(vi 0 0),(vi 3 0),(vr 159),vT,(vi 181 0),(vr 160),vN,(vr 161),(vr 162),(vr 163),(vi 393 0),(vi 80 0),(vs fP 394)]) #[])),
 (165,(oM tf none (dU (fD (sx "system_error") (sx "system_error") (fnP (stN 15)) (fB (fnB (stN 15))) (fnS (stN 15)) 3 [] vN vN vN (vs "clausemill.terms" 387) none (vr 164) vN 0)) #[])),
 (166,(oM tt none (dS #[] 0) #[])),
 (168,(oM tt none (dS #[(vs "symbols" 399),(vs "name" 400),(vs "parts" 401),(vs "args" 402),(vs "part" 403)] 0) #[])),
 (169,(oM tt none (dS #[] 0) #[])),
 (171,(oM tc none (dF #[(vs "formal_of" 396),(vs "formal_of" 397),(vs fP 398),(vi 82 0),(vi 3 0),(vi 0 0),(vi 0 0),(vi 3 0),(vr 166),vT,(vi 181 0),(vr 167),vN,(vr 168),(vr 169),(vr 170),(vi 404 0),(vi 82 0),(vs fP 405)]) #[])),
 (172,(oM tf none (dU (fD (sx "formal_of") (sx "formal_of") (fnP (stN 16)) (fB (fnB (stN 16))) (fnS (stN 16)) 3 [] vN vN vN (vs "clausemill.terms" 387) none (vr 171) vN 0)) #[])),
 (173,(oM tt none (dS #[] 0) #[])),
 (175,(oM tt none (dS #[(vs "symbols" 410),(vs "what" 411)] 0) #[])),
 (176,(oM tt none (dS #[] 0) #[])),
 (178,(oM tc none (dF #[(vs "resource_error" 407),(vs "resource_error" 408),(vs fP 409),(vi 87 0),(vi 2 0),(vi 0 0),(vi 0 0),(vi 3 0),(vr 173),vT,(vi 181 0),(vr 174),vN,(vr 175),(vr 176),(vr 177),(vi 412 0),(vi 87 0),(vs fP 413)]) #[])),
 (179,(oM tf none (dU (fD (sx "resource_error") (sx "resource_error") (fnP (stN 17)) (fB (fnB (stN 17))) (fnS (stN 17)) 3 [] vN vN vN (vs "clausemill.terms" 387) none (vr 178) vN 0)) #[])),
 (180,(oM tt none (dS #[(vi 5 427),(vi 0 431)] 0) #[])),
 (188,(oM tt none (dS #[(vi 100000 449)] 0) #[])),
 (189,(oM tt none (dS #[] 0) #[])),
 (191,(oM tt none (dS #[(vs "self" 453),(vs "symbols" 454),(vs "max_heap" 455)] 0) #[])),
 (192,(oM tt none (dS #[] 0) #[])),
 (194,(oM tc none (dF #[(vs "__init__" 450),(vs "Cells.__init__" 451),(vs fP 452),(vi 102 0),(vi 3 0),(vi 0 0),(vi 0 0),(vi 3 0),(vr 189),vT,(vi 181 0),(vr 190),vN,(vr 191),(vr 192),(vr 193),(vi 456 0),(vi 102 0),(vs fP 457)]) #[])),
 (195,(oM tf none (dU (fD (sx "__init__") (sx "Cells.__init__") (fnP (mtN 29 0)) (fB (fnB (mtN 29 0))) (fnS (mtN 29 0)) 3 [] (vr 188) vN vN (vs "clausemill.store" 415) none (vr 194) vN 0)) #[])),
 (196,(oM tt none (dS #[] 0) #[])),
 (198,(oM tt none (dS #[(vs "self" 462),(vs "cell" 463),(vs "address" 464)] 0) #[])),
 (199,(oM tt none (dS #[] 0) #[])),
 (201,(oM tc none (dF #[(vs "push" 459),(vs "Cells.push" 460),(vs fP 461),(vi 111 0),(vi 2 0),(vi 0 0),(vi 0 0),(vi 3 0),(vr 196),vT,(vi 181 0),(vr 197),vN,(vr 198),(vr 199),(vr 200),(vi 465 0),(vi 111 0),(vs fP 466)]) #[])),
 (202,(oM tf none (dU (fD (sx "push") (sx "Cells.push") (fnP (mtN 29 1)) (fB (fnB (mtN 29 1))) (fnS (mtN 29 1)) 3 [] vN vN vN (vs "clausemill.store" 415) none (vr 201) vN 0)) #[])),
 (203,(oM tt none (dS #[] 0) #[])),
 (205,(oM tt none (dS #[(vs "self" 471),(vs "cell" 472)] 0) #[])),
 (206,(oM tt none (dS #[] 0) #[])),
 (208,(oM tc none (dF #[(vs "new_var" 468),(vs "Cells.new_var" 469),(vs fP 470),(vi 118 0),(vi 1 0),(vi 0 0),(vi 0 0),(vi 3 0),(vr 203),vT,(vi 181 0),(vr 204),vN,(vr 205),(vr 206),(vr 207),(vi 473 0),(vi 118 0),(vs fP 474)]) #[])),
 (209,(oM tf none (dU (fD (sx "new_var") (sx "Cells.new_var") (fnP (mtN 29 2)) (fB (fnB (mtN 29 2))) (fnS (mtN 29 2)) 3 [] vN vN vN (vs "clausemill.store" 415) none (vr 208) vN 0)) #[])),
 (210,(oM tt none (dS #[] 0) #[])),
 (212,(oM tt none (dS #[(vs "self" 479),(vs "count" 480),(vs "first" 481),(vs "step" 482)] 0) #[])),
 (213,(oM tt none (dS #[] 0) #[])),
 (215,(oM tc none (dF #[(vs "reserve" 476),(vs "Cells.reserve" 477),(vs fP 478),(vi 123 0),(vi 2 0),(vi 0 0),(vi 0 0),(vi 3 0),(vr 210),vT,(vi 181 0),(vr 211),vN,(vr 212),(vr 213),(vr 214),(vi 483 0),(vi 123 0),(vs fP 484)]) #[])),
 (216,(oM tf none (dU (fD (sx "reserve") (sx "Cells.reserve") (fnP (mtN 29 3)) (fB (fnB (mtN 29 3))) (fnS (mtN 29 3)) 3 [] vN vN vN (vs "clausemill.store" 415) none (vr 215) vN 0)) #[])),
 (217,(oM tt none (dS #[] 0) #[])),
 (219,(oM tt none (dS #[(vs "self" 489),(vs "h" 490)] 0) #[])),
 (220,(oM tt none (dS #[] 0) #[])),
 (222,(oM tc none (dF #[(vs "trim" 486),(vs "Cells.trim" 487),(vs fP 488),(vi 131 0),(vi 2 0),(vi 0 0),(vi 0 0),(vi 3 0),(vr 217),vT,(vi 181 0),(vr 218),vN,(vr 219),(vr 220),(vr 221),(vi 491 0),(vi 131 0),(vs fP 492)]) #[])),
 (223,(oM tf none (dU (fD (sx "trim") (sx "Cells.trim") (fnP (mtN 29 4)) (fB (fnB (mtN 29 4))) (fnS (mtN 29 4)) 3 [] vN vN vN (vs "clausemill.store" 415) none (vr 222) vN 0)) #[])),
 (224,(oM tt none (dS #[] 0) #[])),
 (226,(oM tt none (dS #[(vs "self" 497),(vs "cell" 498),(vs "tag" 499),(vs "found" 500)] 0) #[])),
 (227,(oM tt none (dS #[] 0) #[])),
 (229,(oM tc none (dF #[(vs "deref" 494),(vs "Cells.deref" 495),(vs fP 496),(vi 134 0),(vi 2 0),(vi 0 0),(vi 0 0),(vi 3 0),(vr 224),vT,(vi 181 0),(vr 225),vN,(vr 226),(vr 227),(vr 228),(vi 501 0),(vi 134 0),(vs fP 502)]) #[])),
 (230,(oM tf none (dU (fD (sx "deref") (sx "Cells.deref") (fnP (mtN 29 5)) (fB (fnB (mtN 29 5))) (fnS (mtN 29 5)) 3 [] vN vN vN (vs "clausemill.store" 415) none (vr 229) vN 0)) #[])),
 (231,(oM tt none (dS #[] 0) #[])),
 (233,(oM tt none (dS #[(vs "self" 507),(vs "cell" 508)] 0) #[])),
 (234,(oM tt none (dS #[] 0) #[])),
 (236,(oM tc none (dF #[(vs "is_unbound" 504),(vs "Cells.is_unbound" 505),(vs fP 506),(vi 147 0),(vi 2 0),(vi 0 0),(vi 0 0),(vi 3 0),(vr 231),vT,(vi 181 0),(vr 232),vN,(vr 233),(vr 234),(vr 235),(vi 509 0),(vi 147 0),(vs fP 510)]) #[])),
 (237,(oM tf none (dU (fD (sx "is_unbound") (sx "Cells.is_unbound") (fnP (mtN 29 6)) (fB (fnB (mtN 29 6))) (fnS (mtN 29 6)) 3 [] vN vN vN (vs "clausemill.store" 415) none (vr 236) vN 0)) #[])),
 (238,(oM tt none (dS #[] 0) #[])),
 (240,(oM tt none (dS #[(vs "self" 515),(vs "cell" 516),(vs "value" 517),(vs "place" 518)] 0) #[])),
 (241,(oM tt none (dS #[] 0) #[])),
 (243,(oM tc none (dF #[(vs "bind" 512),(vs "Cells.bind" 513),(vs fP 514),(vi 150 0),(vi 3 0),(vi 0 0),(vi 0 0),(vi 3 0),(vr 238),vT,(vi 181 0),(vr 239),vN,(vr 240),(vr 241),(vr 242),(vi 519 0),(vi 150 0),(vs fP 520)]) #[])),
 (244,(oM tf none (dU (fD (sx "bind") (sx "Cells.bind") (fnP (mtN 29 7)) (fB (fnB (mtN 29 7))) (fnS (mtN 29 7)) 3 [] vN vN vN (vs "clausemill.store" 415) none (vr 243) vN 0)) #[])),
 (245,(oM tt none (dS #[] 0) #[])),
 (247,(oM tt none (dS #[(vs "self" 525),(vs "c1" 526),(vs "c2" 527)] 0) #[])),
 (248,(oM tt none (dS #[] 0) #[])),
 (250,(oM tc none (dF #[(vs "bind_pair" 522),(vs "Cells.bind_pair" 523),(vs fP 524),(vi 161 0),(vi 3 0),(vi 0 0),(vi 0 0),(vi 3 0),(vr 245),vT,(vi 181 0),(vr 246),vN,(vr 247),(vr 248),(vr 249),(vi 528 0),(vi 161 0),(vs fP 529)]) #[])),
 (251,(oM tf none (dU (fD (sx "bind_pair") (sx "Cells.bind_pair") (fnP (mtN 29 8)) (fB (fnB (mtN 29 8))) (fnS (mtN 29 8)) 3 [] vN vN vN (vs "clausemill.store" 415) none (vr 250) vN 0)) #[])),
 (252,(oM tt none (dS #[] 0) #[])),
 (254,(oM tt none (dS #[(vs "self" 534),(vs "cell" 535),(vs "fresh" 536)] 0) #[])),
 (255,(oM tt none (dS #[] 0) #[])),
 (257,(oM tc none (dF #[(vs "globalise" 531),(vs "Cells.globalise" 532),(vs fP 533),(vi 174 0),(vi 2 0),(vi 0 0),(vi 0 0),(vi 3 0),(vr 252),vT,(vi 181 0),(vr 253),vN,(vr 254),(vr 255),(vr 256),(vi 537 0),(vi 174 0),(vs fP 538)]) #[])),
 (258,(oM tf none (dU (fD (sx "globalise") (sx "Cells.globalise") (fnP (mtN 29 9)) (fB (fnB (mtN 29 9))) (fnS (mtN 29 9)) 3 [] vN vN vN (vs "clausemill.store" 415) none (vr 257) vN 0)) #[])),
 (259,(oM tt none (dS #[] 0) #[])),
 (261,(oM tt none (dS #[(vs "self" 543)] 0) #[])),
 (262,(oM tt none (dS #[] 0) #[])),
 (264,(oM tc none (dF #[(vs "mark" 540),(vs "Cells.mark" 541),(vs fP 542),(vi 182 0),(vi 1 0),(vi 0 0),(vi 0 0),(vi 3 0),(vr 259),vT,(vi 181 0),(vr 260),vN,(vr 261),(vr 262),(vr 263),(vi 544 0),(vi 182 0),(vs fP 545)]) #[])),
 (265,(oM tf none (dU (fD (sx "mark") (sx "Cells.mark") (fnP (mtN 29 10)) (fB (fnB (mtN 29 10))) (fnS (mtN 29 10)) 3 [] vN vN vN (vs "clausemill.store" 415) none (vr 264) vN 0)) #[])),
 (266,(oM tt none (dS #[] 0) #[])),
 (268,(oM tt none (dS #[(vs "self" 550),(vs "mark" 551)] 0) #[])),
 (269,(oM tt none (dS #[] 0) #[])),
 (271,(oM tc none (dF #[(vs "undo_to" 547),(vs "Cells.undo_to" 548),(vs fP 549),(vi 185 0),(vi 2 0),(vi 0 0),(vi 0 0),(vi 3 0),(vr 266),vT,(vi 181 0),(vr 267),vN,(vr 268),(vr 269),(vr 270),(vi 552 0),(vi 185 0),(vs fP 553)]) #[])),
 (272,(oM tf none (dU (fD (sx "undo_to") (sx "Cells.undo_to") (fnP (mtN 29 11)) (fB (fnB (mtN 29 11))) (fnS (mtN 29 11)) 3 [] vN vN vN (vs "clausemill.store" 415) none (vr 271) vN 0)) #[])),
 (273,(oM tt none (dS #[] 0) #[])),
 (275,(oM tt none (dS #[(vs "self" 558),(vs "i" 559),(vs "value" 560),(vs "stack" 561)] 0) #[])),
 (276,(oM tt none (dS #[] 0) #[])),
 (278,(oM tc none (dF #[(vs "stack_put" 555),(vs "Cells.stack_put" 556),(vs fP 557),(vi 188 0),(vi 3 0),(vi 0 0),(vi 0 0),(vi 3 0),(vr 273),vT,(vi 181 0),(vr 274),vN,(vr 275),(vr 276),(vr 277),(vi 562 0),(vi 188 0),(vs fP 563)]) #[])),
 (279,(oM tf none (dU (fD (sx "stack_put") (sx "Cells.stack_put") (fnP (mtN 29 12)) (fB (fnB (mtN 29 12))) (fnS (mtN 29 12)) 3 [] vN vN vN (vs "clausemill.store" 415) none (vr 278) vN 0)) #[])),
 (280,(oM tt none (dS #[] 0) #[])),
 (282,(oM tt none (dS #[(vs "self" 568),(vs "cell" 569)] 0) #[])),
 (283,(oM tt none (dS #[] 0) #[])),
 (285,(oM tc none (dF #[(vs "is_compound" 565),(vs "Cells.is_compound" 566),(vs fP 567),(vi 197 0),(vi 2 0),(vi 0 0),(vi 0 0),(vi 3 0),(vr 280),vT,(vi 181 0),(vr 281),vN,(vr 282),(vr 283),(vr 284),(vi 570 0),(vi 197 0),(vs fP 571)]) #[])),
 (286,(oM tf none (dU (fD (sx "is_compound") (sx "Cells.is_compound") (fnP (mtN 29 13)) (fB (fnB (mtN 29 13))) (fnS (mtN 29 13)) 3 [] vN vN vN (vs "clausemill.store" 415) none (vr 285) vN 0)) #[])),
 (287,(oM tt none (dS #[] 0) #[])),
 (289,(oM tt none (dS #[(vs "self" 576),(vs "cell" 577),(vs "tag" 578)] 0) #[])),
 (290,(oM tt none (dS #[] 0) #[])),
 (292,(oM tc none (dF #[(vs "functor_of" 573),(vs "Cells.functor_of" 574),(vs fP 575),(vi 200 0),(vi 2 0),(vi 0 0),(vi 0 0),(vi 3 0),(vr 287),vT,(vi 181 0),(vr 288),vN,(vr 289),(vr 290),(vr 291),(vi 579 0),(vi 200 0),(vs fP 580)]) #[])),
 (293,(oM tf none (dU (fD (sx "functor_of") (sx "Cells.functor_of") (fnP (mtN 29 14)) (fB (fnB (mtN 29 14))) (fnS (mtN 29 14)) 3 [] vN vN vN (vs "clausemill.store" 415) none (vr 292) vN 0)) #[])),
 (294,(oM tt none (dS #[] 0) #[])),
 (296,(oM tt none (dS #[(vs "self" 585),(vs "cell" 586),(vs "tag" 587)] 0) #[])),
 (297,(oM tt none (dS #[] 0) #[])),
 (299,(oM tc none (dF #[(vs "width" 582),(vs "Cells.width" 583),(vs fP 584),(vi 210 0),(vi 2 0),(vi 0 0),(vi 0 0),(vi 3 0),(vr 294),vT,(vi 181 0),(vr 295),vN,(vr 296),(vr 297),(vr 298),(vi 588 0),(vi 210 0),(vs fP 589)]) #[])),
 (300,(oM tf none (dU (fD (sx "width") (sx "Cells.width") (fnP (mtN 29 15)) (fB (fnB (mtN 29 15))) (fnS (mtN 29 15)) 3 [] vN vN vN (vs "clausemill.store" 415) none (vr 299) vN 0)) #[])),
 (301,(oM tt none (dS #[] 0) #[])),
 (303,(oM tt none (dS #[(vs "self" 594),(vs "cell" 595)] 0) #[])),
 (304,(oM tt none (dS #[] 0) #[])),
 (306,(oM tc none (dF #[(vs "base" 591),(vs "Cells.base" 592),(vs fP 593),(vi 218 0),(vi 2 0),(vi 0 0),(vi 0 0),(vi 3 0),(vr 301),vT,(vi 181 0),(vr 302),vN,(vr 303),(vr 304),(vr 305),(vi 596 0),(vi 218 0),(vs fP 597)]) #[])),
 (307,(oM tf none (dU (fD (sx "base") (sx "Cells.base") (fnP (mtN 29 16)) (fB (fnB (mtN 29 16))) (fnS (mtN 29 16)) 3 [] vN vN vN (vs "clausemill.store" 415) none (vr 306) vN 0)) #[])),
 (308,(oM tt none (dS #[] 0) #[])),
 (310,(oM tt none (dS #[(vs "self" 602),(vs "cell" 603),(vs "i" 604)] 0) #[])),
 (311,(oM tt none (dS #[] 0) #[])),
 (313,(oM tc none (dF #[(vs "arg" 599),(vs "Cells.arg" 600),(vs fP 601),(vi 223 0),(vi 3 0),(vi 0 0),(vi 0 0),(vi 3 0),(vr 308),vT,(vi 181 0),(vr 309),vN,(vr 310),(vr 311),(vr 312),(vi 605 0),(vi 223 0),(vs fP 606)]) #[])),
 (314,(oM tf none (dU (fD (sx "arg") (sx "Cells.arg") (fnP (mtN 29 17)) (fB (fnB (mtN 29 17))) (fnS (mtN 29 17)) 3 [] vN vN vN (vs "clausemill.store" 415) none (vr 313) vN 0)) #[])),
 (315,(oM tt none (dS #[] 0) #[])),
 (317,(oM tt none (dS #[(vs "self" 611),(vs "f" 612),(vs "start" 613)] 0) #[])),
 (318,(oM tt none (dS #[] 0) #[])),
 (320,(oM tc none (dF #[(vs "new_block" 608),(vs "Cells.new_block" 609),(vs fP 610),(vi 226 0),(vi 2 0),(vi 0 0),(vi 0 0),(vi 3 0),(vr 315),vT,(vi 181 0),(vr 316),vN,(vr 317),(vr 318),(vr 319),(vi 614 0),(vi 226 0),(vs fP 615)]) #[])),
 (321,(oM tf none (dU (fD (sx "new_block") (sx "Cells.new_block") (fnP (mtN 29 18)) (fB (fnB (mtN 29 18))) (fnS (mtN 29 18)) 3 [] vN vN vN (vs "clausemill.store" 415) none (vr 320) vN 0)) #[])),
 (322,(oM tt none (dS #[(vs "bb" 617),(vs "hb" 618),(vs "heap" 619),(vs "max_heap" 620),(vs "stack" 621),(vs "symbols" 622),(vs "trail" 623)] 0) #[])),
 (323,(oM (Value.type "dict") none (Data.dict #[(de P "__module__" 444 (vs "clausemill.store" 415)),(de P "__firstlineno__" 448 (vi 100 447)),(de P "__init__" 458 (vr 195)),(de P "push" 467 (vr 202)),(de P "new_var" 475 (vr 209)),(de P "reserve" 485 (vr 216)),(de P "trim" 493 (vr 223)),(de P "deref" 503 (vr 230)),(de P "is_unbound" 511 (vr 237)),(de P "bind" 521 (vr 244)),(de P "bind_pair" 530 (vr 251)),(de P "globalise" 539 (vr 258)),(de P "mark" 546 (vr 265)),(de P "undo_to" 554 (vr 272)),(de P "stack_put" 564 (vr 279)),(de P "is_compound" 572 (vr 286)),(de P "functor_of" 581 (vr 293)),(de P "width" 590 (vr 300)),(de P "base" 598 (vr 307)),(de P "arg" 607 (vr 314)),(de P "new_block" 616 (vr 321)),(de P "__static_attributes__" 624 (vr 322)),(de P "__dict__" 626 (vr 325)),(de P "__weakref__" 628 (vr 326)),(de P "__doc__" 629 vN)] 4) #[])),
 (324,(oM ty none (Data.cls (ClassData.mk (sx "Cells") [(Value.type "object")] [(vr 324),(Value.type "object")] 323 (sx "Cells") Bool.true [] [(vr 374)] Bool.false none Bool.false)) #[none,none,(Option.some (vs "Cells" 437)),(Option.some (vs "Cells" 445)),(Option.some (Value.builtin "object.__new__")),(Option.some vT)])),
 (325,(oM (Value.type "getset_descriptor") none (dF #[(vs "__dict__" 625),(vr 324),(Value.builtin "function.__dict__"),(Value.builtin "function.__dict__#set")]) #[])),
 (326,(oM (Value.type "getset_descriptor") none (dF #[(vs "__weakref__" 627),(vr 324),(Value.builtin "ExceptionGroup.__weakref__"),vN]) #[])),
 (329,(oM tt none (dS #[(vr 324)] 0) #[])),
 (336,(oM tt none (dS #[] 0) #[])),
 (338,(oM tt none (dS #[(vs "self" 647),(vs "f" 648),(vs "cells" 649)] 0) #[])),
 (339,(oM tt none (dS #[] 0) #[])),
 (341,(oM tc none (dF #[(vs "new_struct" 644),(vs "Store.new_struct" 645),(vs fP 646),(vi 234 0),(vi 3 0),(vi 0 0),(vi 0 0),(vi 3 0),(vr 336),vT,(vi 181 0),(vr 337),vN,(vr 338),(vr 339),(vr 340),(vi 650 0),(vi 234 0),(vs fP 651)]) #[])),
 (342,(oM tf none (dU (fD (sx "new_struct") (sx "Store.new_struct") (fnP (mtN 30 0)) (fB (fnB (mtN 30 0))) (fnS (mtN 30 0)) 3 [] vN vN vN (vs "clausemill.store" 415) none (vr 341) vN 0)) #[])),
 (343,(oM tt none (dS #[vN] 0) #[])),
 (344,(oM tt none (dS #[] 0) #[])),
 (346,(oM tt none (dS #[(vs "self" 656),(vs "cells" 657),(vs "tail" 658)] 0) #[])),
 (347,(oM tt none (dS #[] 0) #[])),
 (349,(oM tc none (dF #[(vs "build_list" 653),(vs "Store.build_list" 654),(vs fP 655),(vi 237 0),(vi 3 0),(vi 0 0),(vi 0 0),(vi 3 0),(vr 344),vT,(vi 181 0),(vr 345),vN,(vr 346),(vr 347),(vr 348),(vi 659 0),(vi 237 0),(vs fP 660)]) #[])),
 (350,(oM tf none (dU (fD (sx "build_list") (sx "Store.build_list") (fnP (mtN 30 1)) (fB (fnB (mtN 30 1))) (fnS (mtN 30 1)) 3 [] (vr 343) vN vN (vs "clausemill.store" 415) none (vr 349) vN 0)) #[])),
 (351,(oM tt none (dS #[] 0) #[])),
 (353,(oM tt none (dS #[(vs "self" 665),(vs "cell" 666),(vs "found" 667),(vs "seen" 668)] 0) #[])),
 (354,(oM tt none (dS #[] 0) #[])),
 (356,(oM tc none (dF #[(vs "list_cells" 662),(vs "Store.list_cells" 663),(vs fP 664),(vi 240 0),(vi 2 0),(vi 0 0),(vi 0 0),(vi 3 0),(vr 351),vT,(vi 181 0),(vr 352),vN,(vr 353),(vr 354),(vr 355),(vi 669 0),(vi 240 0),(vs fP 670)]) #[])),
 (357,(oM tf none (dU (fD (sx "list_cells") (sx "Store.list_cells") (fnP (mtN 30 2)) (fB (fnB (mtN 30 2))) (fnS (mtN 30 2)) 3 [] vN vN vN (vs "clausemill.store" 415) none (vr 356) vN 0)) #[])),
 (358,(oM tt none (dS #[] 0) #[])),
 (360,(oM tt none (dS #[(vs "self" 675),(vs "term" 676),(vs "table" 677),(vs "k" 678),(vs "kind" 679),(vs "made" 680),(vs "waiting" 681),(vs "at" 682),(vs "place" 683),(vs "items" 684),(vs "item" 685),(vs "inner" 686)] 0) #[])),
 (361,(oM tt none (dS #[] 0) #[])),
 (363,(oM tc none (dF #[(vs "put_term" 672),(vs "Store.put_term" 673),(vs fP 674),(vi 250 0),(vi 3 0),(vi 0 0),(vi 0 0),(vi 3 0),(vr 358),vT,(vi 181 0),(vr 359),vN,(vr 360),(vr 361),(vr 362),(vi 687 0),(vi 250 0),(vs fP 688)]) #[])),
 (364,(oM tf none (dU (fD (sx "put_term") (sx "Store.put_term") (fnP (mtN 30 3)) (fB (fnB (mtN 30 3))) (fnS (mtN 30 3)) 3 [] vN vN vN (vs "clausemill.store" 415) none (vr 363) vN 0)) #[])),
 (365,(oM tt none (dS #[] 0) #[])),
 (367,(oM tt none (dS #[(vs "self" 693),(vs "cell" 694),(vs "table" 695),(vs "known" 696),(vs "results" 697),(vs "work" 698),(vs "what" 699),(vs "f" 700),(vs "first" 701),(vs "term" 702),(vs "tag" 703),(vs "place" 704),(vs "step" 705)] 0) #[])),
 (368,(oM tt none (dS #[] 0) #[])),
 (370,(oM tc none (dF #[(vs "take_term" 690),(vs "Store.take_term" 691),(vs fP 692),(vi 287 0),(vi 3 0),(vi 0 0),(vi 0 0),(vi 3 0),(vr 365),vT,(vi 181 0),(vr 366),vN,(vr 367),(vr 368),(vr 369),(vi 706 0),(vi 287 0),(vs fP 707)]) #[])),
 (371,(oM tf none (dU (fD (sx "take_term") (sx "Store.take_term") (fnP (mtN 30 4)) (fB (fnB (mtN 30 4))) (fnS (mtN 30 4)) 3 [] vN vN vN (vs "clausemill.store" 415) none (vr 370) vN 0)) #[])),
 (372,(oM tt none (dS #[] 0) #[])),
 (373,(oM (Value.type "dict") none (Data.dict #[(de P "__module__" 639 (vs "clausemill.store" 415)),(de P "__firstlineno__" 643 (vi 232 642)),(de P "new_struct" 652 (vr 342)),(de P "build_list" 661 (vr 350)),(de P "list_cells" 671 (vr 357)),(de P "put_term" 689 (vr 364)),(de P "take_term" 708 (vr 371)),(de P "__static_attributes__" 709 (vr 372)),(de P "__doc__" 710 vN)] 2) #[])),
 (374,(oM ty none (Data.cls (ClassData.mk (sx "Store") [(vr 324)] [(vr 374),(vr 324),(Value.type "object")] 373 (sx "Store") Bool.true [] [] Bool.false none Bool.false)) #[(Option.some (vr 329)),none,(Option.some (vs "Store" 632)),(Option.some (vs "Store" 640)),(Option.some (Value.builtin "object.__new__")),(Option.some vT)])),
 (384,(oM tt none (dS #[] 0) #[])),
 (386,(oM tt none (dS #[(vs "self" 730),(vs "store" 731)] 0) #[])),
 (387,(oM tt none (dS #[] 0) #[])),
 (389,(oM tc none (dF #[(vs "__init__" 727),(vs "PairSet.__init__" 728),(vs fP 729),(vi 326 0),(vi 2 0),(vi 0 0),(vi 0 0),(vi 3 0),(vr 384),vT,(vi 181 0),(vr 385),vN,(vr 386),(vr 387),(vr 388),(vi 732 0),(vi 326 0),(vs fP 733)]) #[])),
 (390,(oM tf none (dU (fD (sx "__init__") (sx "PairSet.__init__") (fnP (mtN 32 0)) (fB (fnB (mtN 32 0))) (fnS (mtN 32 0)) 3 [] vN vN vN (vs "clausemill.unify" 713) none (vr 389) vN 0)) #[])),
 (391,(oM tt none (dS #[] 0) #[])),
 (393,(oM tt none (dS #[(vs "self" 738),(vs "left" 739),(vs "right" 740),(vs "number" 741)] 0) #[])),
 (394,(oM tt none (dS #[] 0) #[])),
 (396,(oM tc none (dF #[(vs "add" 735),(vs "PairSet.add" 736),(vs fP 737),(vi 330 0),(vi 3 0),(vi 0 0),(vi 0 0),(vi 3 0),(vr 391),vT,(vi 181 0),(vr 392),vN,(vr 393),(vr 394),(vr 395),(vi 742 0),(vi 330 0),(vs fP 743)]) #[])),
 (397,(oM tf none (dU (fD (sx "add") (sx "PairSet.add") (fnP (mtN 32 1)) (fB (fnB (mtN 32 1))) (fnS (mtN 32 1)) 3 [] vN vN vN (vs "clausemill.unify" 713) none (vr 396) vN 0)) #[])),
 (398,(oM tt none (dS #[(vs "met" 745),(vs "span" 746)] 0) #[])),
 (399,(oM (Value.type "dict") none (Data.dict #[(de P "__module__" 722 (vs "clausemill.unify" 713)),(de P "__firstlineno__" 726 (vi 324 725)),(de P "__init__" 734 (vr 390)),(de P "add" 744 (vr 397)),(de P "__static_attributes__" 747 (vr 398)),(de P "__dict__" 749 (vr 401)),(de P "__weakref__" 751 (vr 402)),(de P "__doc__" 752 vN)] 4) #[])),
 (400,(oM ty none (Data.cls (ClassData.mk (sx "PairSet") [(Value.type "object")] [(vr 400),(Value.type "object")] 399 (sx "PairSet") Bool.true [] [] Bool.false none Bool.false)) #[none,none,(Option.some (vs "PairSet" 715)),(Option.some (vs "PairSet" 723)),(Option.some (Value.builtin "object.__new__")),(Option.some vT)])),
 (401,(oM (Value.type "getset_descriptor") none (dF #[(vs "__dict__" 748),(vr 400),(Value.builtin "function.__dict__"),(Value.builtin "function.__dict__#set")]) #[])),
 (402,(oM (Value.type "getset_descriptor") none (dF #[(vs "__weakref__" 750),(vr 400),(Value.builtin "ExceptionGroup.__weakref__"),vN]) #[])),
 (405,(oM tt none (dS #[] 0) #[])),
 (407,(oM tt none (dS #[(vs "store" 758),(vs "cell" 759),(vs "work" 760),(vs "place" 761),(vs "step" 762)] 0) #[])),
 (408,(oM tt none (dS #[] 0) #[])),
 (410,(oM tc none (dF #[(vs "push_arguments" 755),(vs "push_arguments" 756),(vs fP 757),(vi 336 0),(vi 3 0),(vi 0 0),(vi 0 0),(vi 3 0),(vr 405),vT,(vi 181 0),(vr 406),vN,(vr 407),(vr 408),(vr 409),(vi 763 0),(vi 336 0),(vs fP 764)]) #[])),
 (411,(oM tf none (dU (fD (sx "push_arguments") (sx "push_arguments") (fnP (stN 33)) (fB (fnB (stN 33))) (fnS (stN 33)) 3 [] vN vN vN (vs "clausemill.unify" 713) none (vr 410) vN 0)) #[])),
 (412,(oM tt none (dS #[] 0) #[])),
 (414,(oM tt none (dS #[(vs "store" 769),(vs "left" 770),(vs "right" 771),(vs "work" 772),(vs "left_place" 773),(vs "right_place" 774),(vs "step" 775)] 0) #[])),
 (415,(oM tt none (dS #[] 0) #[])),
 (417,(oM tc none (dF #[(vs "push_pairs" 766),(vs "push_pairs" 767),(vs fP 768),(vi 340 0),(vi 4 0),(vi 0 0),(vi 0 0),(vi 3 0),(vr 412),vT,(vi 181 0),(vr 413),vN,(vr 414),(vr 415),(vr 416),(vi 776 0),(vi 340 0),(vs fP 777)]) #[])),
 (418,(oM tf none (dU (fD (sx "push_pairs") (sx "push_pairs") (fnP (stN 34)) (fB (fnB (stN 34))) (fnS (stN 34)) 3 [] vN vN vN (vs "clausemill.unify" 713) none (vr 417) vN 0)) #[])),
 (419,(oM tt none (dS #[] 0) #[])),
 (421,(oM tt none (dS #[(vs "store" 782),(vs "left" 783),(vs "right" 784)] 0) #[])),
 (422,(oM tt none (dS #[] 0) #[])),
 (424,(oM tc none (dF #[(vs "same_shape" 779),(vs "same_shape" 780),(vs fP 781),(vi 345 0),(vi 3 0),(vi 0 0),(vi 0 0),(vi 3 0),(vr 419),vT,(vi 181 0),(vr 420),vN,(vr 421),(vr 422),(vr 423),(vi 785 0),(vi 345 0),(vs fP 786)]) #[])),
 (425,(oM tf none (dU (fD (sx "same_shape") (sx "same_shape") (fnP (stN 35)) (fB (fnB (stN 35))) (fnS (stN 35)) 3 [] vN vN vN (vs "clausemill.unify" 713) none (vr 424) vN 0)) #[])),
 (426,(oM tt none (dS #[] 0) #[])),
 (428,(oM tt none (dS #[(vs "cell" 791)] 0) #[])),
 (429,(oM tt none (dS #[] 0) #[])),
 (431,(oM tc none (dF #[(vs "is_variable" 788),(vs "is_variable" 789),(vs fP 790),(vi 351 0),(vi 1 0),(vi 0 0),(vi 0 0),(vi 3 0),(vr 426),vT,(vi 181 0),(vr 427),vN,(vr 428),(vr 429),(vr 430),(vi 792 0),(vi 351 0),(vs fP 793)]) #[])),
 (432,(oM tf none (dU (fD (sx "is_variable") (sx "is_variable") (fnP (stN 36)) (fB (fnB (stN 36))) (fnS (stN 36)) 3 [] vN vN vN (vs "clausemill.unify" 713) none (vr 431) vN 0)) #[])),
 (433,(oM tt none (dS #[] 0) #[])),
 (435,(oM tt none (dS #[(vs "store" 798),(vs "variable" 799),(vs "cell" 800),(vs "met" 801),(vs "work" 802)] 0) #[])),
 (436,(oM tt none (dS #[] 0) #[])),
 (438,(oM tc none (dF #[(vs "occurs_in" 795),(vs "occurs_in" 796),(vs fP 797),(vi 353 0),(vi 3 0),(vi 0 0),(vi 0 0),(vi 3 0),(vr 433),vT,(vi 181 0),(vr 434),vN,(vr 435),(vr 436),(vr 437),(vi 803 0),(vi 353 0),(vs fP 804)]) #[])),
 (439,(oM tf none (dU (fD (sx "occurs_in") (sx "occurs_in") (fnP (stN 37)) (fB (fnB (stN 37))) (fnS (stN 37)) 3 [] vN vN vN (vs "clausemill.unify" 713) none (vr 438) vN 0)) #[])),
 (440,(oM tt none (dS #[] 0) #[])),
 (442,(oM tt none (dS #[(vs "store" 809),(vs "cell" 810),(vs "target" 811),(vs "met" 812),(vs "work" 813)] 0) #[])),
 (443,(oM tt none (dS #[] 0) #[])),
 (445,(oM tc none (dF #[(vs "reaches" 806),(vs "reaches" 807),(vs fP 808),(vi 369 0),(vi 3 0),(vi 0 0),(vi 0 0),(vi 3 0),(vr 440),vT,(vi 181 0),(vr 441),vN,(vr 442),(vr 443),(vr 444),(vi 814 0),(vi 369 0),(vs fP 815)]) #[])),
 (446,(oM tf none (dU (fD (sx "reaches") (sx "reaches") (fnP (stN 38)) (fB (fnB (stN 38))) (fnS (stN 38)) 3 [] vN vN vN (vs "clausemill.unify" 713) none (vr 445) vN 0)) #[])),
 (447,(oM tt none (dS #[] 0) #[])),
 (449,(oM tt none (dS #[(vs "cell" 820),(vs "tag" 821)] 0) #[])),
 (450,(oM tt none (dS #[] 0) #[])),
 (452,(oM tc none (dF #[(vs "rank" 817),(vs "rank" 818),(vs fP 819),(vi 382 0),(vi 1 0),(vi 0 0),(vi 0 0),(vi 3 0),(vr 447),vT,(vi 181 0),(vr 448),vN,(vr 449),(vr 450),(vr 451),(vi 822 0),(vi 382 0),(vs fP 823)]) #[])),
 (453,(oM tf none (dU (fD (sx "rank") (sx "rank") (fnP (stN 39)) (fB (fnB (stN 39))) (fnS (stN 39)) 3 [] vN vN vN (vs "clausemill.unify" 713) none (vr 452) vN 0)) #[])),
 (454,(oM tt none (dS #[] 0) #[])),
 (456,(oM tt none (dS #[(vs "left" 828),(vs "right" 829)] 0) #[])),
 (457,(oM tt none (dS #[] 0) #[])),
 (459,(oM tc none (dF #[(vs "order" 825),(vs "order" 826),(vs fP 827),(vi 391 0),(vi 2 0),(vi 0 0),(vi 0 0),(vi 3 0),(vr 454),vT,(vi 181 0),(vr 455),vN,(vr 456),(vr 457),(vr 458),(vi 830 0),(vi 391 0),(vs fP 831)]) #[])),
 (460,(oM tf none (dU (fD (sx "order") (sx "order") (fnP (stN 40)) (fB (fnB (stN 40))) (fnS (stN 40)) 3 [] vN vN vN (vs "clausemill.unify" 713) none (vr 459) vN 0)) #[])),
 (461,(oM tt none (dS #[] 0) #[])),
 (463,(oM tt none (dS #[(vs "store" 836),(vs "left" 837),(vs "right" 838),(vs "symbols" 839),(vs "f" 840),(vs "g" 841),(vs "result" 842)] 0) #[])),
 (464,(oM tt none (dS #[] 0) #[])),
 (466,(oM tc none (dF #[(vs "compare_shapes" 833),(vs "compare_shapes" 834),(vs fP 835),(vi 397 0),(vi 3 0),(vi 0 0),(vi 0 0),(vi 3 0),(vr 461),vT,(vi 181 0),(vr 462),vN,(vr 463),(vr 464),(vr 465),(vi 843 0),(vi 397 0),(vs fP 844)]) #[])),
 (467,(oM tf none (dU (fD (sx "compare_shapes") (sx "compare_shapes") (fnP (stN 41)) (fB (fnB (stN 41))) (fnS (stN 41)) 3 [] vN vN vN (vs "clausemill.unify" 713) none (vr 466) vN 0)) #[])),
 (468,(oM tt none (dS #[] 0) #[])),
 (470,(oM tt none (dS #[(vs "store" 849),(vs "left" 850),(vs "right" 851),(vs "kind" 852),(vs "result" 853)] 0) #[])),
 (471,(oM tt none (dS #[] 0) #[])),
 (473,(oM tc none (dF #[(vs "compare_tops" 846),(vs "compare_tops" 847),(vs fP 848),(vi 407 0),(vi 3 0),(vi 0 0),(vi 0 0),(vi 3 0),(vr 468),vT,(vi 181 0),(vr 469),vN,(vr 470),(vr 471),(vr 472),(vi 854 0),(vi 407 0),(vs fP 855)]) #[])),
 (474,(oM tf none (dU (fD (sx "compare_tops") (sx "compare_tops") (fnP (stN 42)) (fB (fnB (stN 42))) (fnS (stN 42)) 3 [] vN vN vN (vs "clausemill.unify" 713) none (vr 473) vN 0)) #[])),
 (475,(oM tt none (dS #[] 0) #[])),
 (477,(oM tt none (dS #[(vs "store" 860),(vs "c1" 861),(vs "c2" 862),(vs "met" 863),(vs "work" 864),(vs "left" 865),(vs "right" 866),(vs "result" 867)] 0) #[])),
 (478,(oM tt none (dS #[] 0) #[])),
 (480,(oM tc none (dF #[(vs "compare" 857),(vs "compare" 858),(vs fP 859),(vi 419 0),(vi 3 0),(vi 0 0),(vi 0 0),(vi 3 0),(vr 475),vT,(vi 181 0),(vr 476),vN,(vr 477),(vr 478),(vr 479),(vi 868 0),(vi 419 0),(vs fP 869)]) #[])),
 (481,(oM tf none (dU (fD (sx "compare") (sx "compare") (fnP (stN 43)) (fB (fnB (stN 43))) (fnS (stN 43)) 3 [] vN vN vN (vs "clausemill.unify" 713) none (vr 480) vN 0)) #[])),
 (482,(oM tt none (dS #[] 0) #[])),
 (484,(oM tt none (dS #[(vs "store" 874),(vs "c1" 875),(vs "c2" 876)] 0) #[])),
 (485,(oM tt none (dS #[] 0) #[])),
 (487,(oM tc none (dF #[(vs "identical" 871),(vs "identical" 872),(vs fP 873),(vi 434 0),(vi 3 0),(vi 0 0),(vi 0 0),(vi 3 0),(vr 482),vT,(vi 181 0),(vr 483),vN,(vr 484),(vr 485),(vr 486),(vi 877 0),(vi 434 0),(vs fP 878)]) #[])),
 (488,(oM tf none (dU (fD (sx "identical") (sx "identical") (fnP (stN 44)) (fB (fnB (stN 44))) (fnS (stN 44)) 3 [] vN vN vN (vs "clausemill.unify" 713) none (vr 487) vN 0)) #[])),
 (489,(oM tt none (dS #[] 0) #[])),
 (491,(oM tt none (dS #[(vs "store" 883),(vs "cell" 884),(vs "found" 885),(vs "noted" 886),(vs "met" 887),(vs "work" 888)] 0) #[])),
 (492,(oM tt none (dS #[] 0) #[])),
 (494,(oM tc none (dF #[(vs "variables" 880),(vs "variables" 881),(vs fP 882),(vi 436 0),(vi 2 0),(vi 0 0),(vi 0 0),(vi 3 0),(vr 489),vT,(vi 181 0),(vr 490),vN,(vr 491),(vr 492),(vr 493),(vi 889 0),(vi 436 0),(vs fP 890)]) #[])),
 (495,(oM tf none (dU (fD (sx "variables") (sx "variables") (fnP (stN 45)) (fB (fnB (stN 45))) (fnS (stN 45)) 3 [] vN vN vN (vs "clausemill.unify" 713) none (vr 494) vN 0)) #[])),
 (496,(oM tt none (dS #[] 0) #[])),
 (498,(oM tt none (dS #[(vs "store" 895),(vs "cell" 896),(vs "met" 897),(vs "work" 898)] 0) #[])),
 (499,(oM tt none (dS #[] 0) #[])),
 (501,(oM tc none (dF #[(vs "ground" 892),(vs "ground" 893),(vs fP 894),(vi 451 0),(vi 2 0),(vi 0 0),(vi 0 0),(vi 3 0),(vr 496),vT,(vi 181 0),(vr 497),vN,(vr 498),(vr 499),(vr 500),(vi 899 0),(vi 451 0),(vs fP 900)]) #[])),
 (502,(oM tf none (dU (fD (sx "ground") (sx "ground") (fnP (stN 46)) (fB (fnB (stN 46))) (fnS (stN 46)) 3 [] vN vN vN (vs "clausemill.unify" 713) none (vr 501) vN 0)) #[])),
 (503,(oM tt none (dS #[] 0) #[])),
 (505,(oM tt none (dS #[(vs "cell" 905)] 0) #[])),
 (506,(oM tt none (dS #[] 0) #[])),
 (508,(oM tc none (dF #[(vs "variable_number" 902),(vs "variable_number" 903),(vs fP 904),(vi 462 0),(vi 1 0),(vi 0 0),(vi 0 0),(vi 3 0),(vr 503),vT,(vi 181 0),(vr 504),vN,(vr 505),(vr 506),(vr 507),(vi 906 0),(vi 462 0),(vs fP 907)]) #[])),
 (509,(oM tf none (dU (fD (sx "variable_number") (sx "variable_number") (fnP (stN 47)) (fB (fnB (stN 47))) (fnS (stN 47)) 3 [] vN vN vN (vs "clausemill.unify" 713) none (vr 508) vN 0)) #[])),
 (510,(oM tt none (dS #[] 0) #[])),
 (512,(oM tt none (dS #[(vs "store" 912),(vs "c1" 913),(vs "c2" 914),(vs "forward" 915),(vs "backward" 916),(vs "met" 917),(vs "work" 918),(vs "left" 919),(vs "right" 920),(vs "a" 921),(vs "b" 922)] 0) #[])),
 (513,(oM tt none (dS #[] 0) #[])),
 (515,(oM tc none (dF #[(vs "variant" 909),(vs "variant" 910),(vs fP 911),(vi 466 0),(vi 3 0),(vi 0 0),(vi 0 0),(vi 3 0),(vr 510),vT,(vi 181 0),(vr 511),vN,(vr 512),(vr 513),(vr 514),(vi 923 0),(vi 466 0),(vs fP 924)]) #[])),
 (516,(oM tf none (dU (fD (sx "variant") (sx "variant") (fnP (stN 48)) (fB (fnB (stN 48))) (fnS (stN 48)) 3 [] vN vN vN (vs "clausemill.unify" 713) none (vr 515) vN 0)) #[])),
 (517,(oM tt none (dS #[] 0) #[])),
 (519,(oM tt none (dS #[(vs "script" 931),(vs "row" 932),(vs "cell" 933),(vs "number" 934),(vs "turn" 935)] 0) #[])),
 (520,(oM tt none (dS #[] 0) #[])),
 (522,(oM tc none (dF #[(vs "_law_row" 928),(vs "_law_row" 929),(vs fP 930),(vi 494 0),(vi 1 0),(vi 0 0),(vi 0 0),(vi 3 0),(vr 517),vT,(vi 181 0),(vr 518),vN,(vr 519),(vr 520),(vr 521),(vi 936 0),(vi 494 0),(vs fP 937)]) #[])),
 (523,(oM tf none (dU (fD (sx "_law_row") (sx "_law_row") (fnP (stN 50)) (fB (fnB (stN 50))) (fnS (stN 50)) 3 [] vN vN vN (vs "law_no0185_01" 926) none (vr 522) vN 0)) #[])),
 (524,(oM tt none (dS #[] 0) #[])),
 (526,(oM tt none (dS #[(vs "row" 942)] 0) #[])),
 (527,(oM tt none (dS #[] 0) #[])),
 (529,(oM tc none (dF #[(vs "_law_next" 939),(vs "_law_next" 940),(vs fP 941),(vi 507 0),(vi 1 0),(vi 0 0),(vi 0 0),(vi 3 0),(vr 524),vT,(vi 181 0),(vr 525),vN,(vr 526),(vr 527),(vr 528),(vi 943 0),(vi 507 0),(vs fP 944)]) #[])),
 (530,(oM tf none (dU (fD (sx "_law_next") (sx "_law_next") (fnP (stN 51)) (fB (fnB (stN 51))) (fnS (stN 51)) 3 [] vN vN vN (vs "law_no0185_01" 926) none (vr 529) vN 0)) #[])),
 (531,(oM tt none (dS #[] 0) #[])),
 (533,(oM tt none (dS #[(vs "row" 949),(vs "deep" 950),(vs "kind" 951),(vs "first" 952)] 0) #[])),
 (534,(oM tt none (dS #[] 0) #[])),
 (536,(oM tc none (dF #[(vs "_law_term" 946),(vs "_law_term" 947),(vs fP 948),(vi 509 0),(vi 2 0),(vi 0 0),(vi 0 0),(vi 3 0),(vr 531),vT,(vi 181 0),(vr 532),vN,(vr 533),(vr 534),(vr 535),(vi 953 0),(vi 509 0),(vs fP 954)]) #[])),
 (537,(oM tf none (dU (fD (sx "_law_term") (sx "_law_term") (fnP (stN 52)) (fB (fnB (stN 52))) (fnS (stN 52)) 3 [] vN vN vN (vs "law_no0185_01" 926) none (vr 536) vN 0)) #[])),
 (538,(oM tt none (dS #[] 0) #[])),
 (540,(oM tt none (dS #[(vs "heap" 959),(vs "cell" 960)] 0) #[])),
 (541,(oM tt none (dS #[] 0) #[])),
 (543,(oM tc none (dF #[(vs "_law_end" 956),(vs "_law_end" 957),(vs fP 958),(vi 521 0),(vi 2 0),(vi 0 0),(vi 0 0),(vi 3 0),(vr 538),vT,(vi 181 0),(vr 539),vN,(vr 540),(vr 541),(vr 542),(vi 961 0),(vi 521 0),(vs fP 962)]) #[])),
 (544,(oM tf none (dU (fD (sx "_law_end") (sx "_law_end") (fnP (stN 53)) (fB (fnB (stN 53))) (fnS (stN 53)) 3 [] vN vN vN (vs "law_no0185_01" 926) none (vr 543) vN 0)) #[])),
 (545,(oM tt none (dS #[] 0) #[])),
 (547,(oM tt none (dS #[(vs "signs" 967),(vs "heap" 968),(vs "cell" 969)] 0) #[])),
 (548,(oM tt none (dS #[] 0) #[])),
 (550,(oM tc none (dF #[(vs "_law_parts" 964),(vs "_law_parts" 965),(vs fP 966),(vi 525 0),(vi 3 0),(vi 0 0),(vi 0 0),(vi 3 0),(vr 545),vT,(vi 181 0),(vr 546),vN,(vr 547),(vr 548),(vr 549),(vi 970 0),(vi 525 0),(vs fP 971)]) #[])),
 (551,(oM tf none (dU (fD (sx "_law_parts") (sx "_law_parts") (fnP (stN 54)) (fB (fnB (stN 54))) (fnS (stN 54)) 3 [] vN vN vN (vs "law_no0185_01" 926) none (vr 550) vN 0)) #[])),
 (552,(oM tt none (dS #[] 0) #[])),
 (554,(oM tt none (dS #[(vs "signs" 976),(vs "heap" 977),(vs "cell" 978),(vs "found" 979),(vs "work" 980)] 0) #[])),
 (555,(oM tt none (dS #[] 0) #[])),
 (557,(oM tc none (dF #[(vs "_law_met" 973),(vs "_law_met" 974),(vs fP 975),(vi 531 0),(vi 3 0),(vi 0 0),(vi 0 0),(vi 3 0),(vr 552),vT,(vi 181 0),(vr 553),vN,(vr 554),(vr 555),(vr 556),(vi 981 0),(vi 531 0),(vs fP 982)]) #[])),
 (558,(oM tf none (dU (fD (sx "_law_met") (sx "_law_met") (fnP (stN 55)) (fB (fnB (stN 55))) (fnS (stN 55)) 3 [] vN vN vN (vs "law_no0185_01" 926) none (vr 557) vN 0)) #[])),
 (559,(oM tt none (dS #[] 0) #[])),
 (562,(oM tc none (dF #[(vs "_law_finite" 984),(vs "_law_finite" 985),(vs fP 986),(vi 540 0),(vi 3 0),(vi 0 0),(vi 0 0),(vi 3 0),(vr 559),vT,(vi 181 0),(vr 560),vN,vN,vN,(vr 561),(vi 987 0),(vi 540 0),(vs fP 988)]) #[])),
 (563,(oM tf none (dU (fD (sx "_law_finite") (sx "_law_finite") (fnP (stN 56)) (fB (fnB (stN 56))) (fnS (stN 56)) 3 [] vN vN vN (vs "law_no0185_01" 926) none (vr 562) vN 0)) #[])),
 (564,(oM tt none (dS #[] 0) #[])),
 (567,(oM tc none (dF #[(vs "_law_source" 990),(vs "_law_source" 991),(vs fP 992),(vi 552 0),(vi 4 0),(vi 0 0),(vi 0 0),(vi 3 0),(vr 564),vT,(vi 181 0),(vr 565),vN,vN,vN,(vr 566),(vi 993 0),(vi 552 0),(vs fP 994)]) #[])),
 (568,(oM tf none (dU (fD (sx "_law_source") (sx "_law_source") (fnP (stN 57)) (fB (fnB (stN 57))) (fnS (stN 57)) 3 [] vN vN vN (vs "law_no0185_01" 926) none (vr 567) vN 0)) #[])),
 (569,(oM tt none (dS #[] 0) #[])),
 (571,(oM tt none (dS #[(vs "heap" 999),(vs "cell" 1000),(vs "found" 1001),(vs "seen" 1002)] 0) #[])),
 (572,(oM tt none (dS #[] 0) #[])),
 (574,(oM tc none (dF #[(vs "_law_list" 996),(vs "_law_list" 997),(vs fP 998),(vi 562 0),(vi 2 0),(vi 0 0),(vi 0 0),(vi 3 0),(vr 569),vT,(vi 181 0),(vr 570),vN,(vr 571),(vr 572),(vr 573),(vi 1003 0),(vi 562 0),(vs fP 1004)]) #[])),
 (575,(oM tf none (dU (fD (sx "_law_list") (sx "_law_list") (fnP (stN 58)) (fB (fnB (stN 58))) (fnS (stN 58)) 3 [] vN vN vN (vs "law_no0185_01" 926) none (vr 574) vN 0)) #[])),
 (576,(oM tt none (dS #[] 0) #[])),
 (578,(oM tt none (dS #[(vs "store" 1009),(vs "cell" 1010),(vs "numbers" 1011),(vs "error" 1012)] 0) #[])),
 (579,(oM tt none (dS #[] 0) #[])),
 (581,(oM tc none (dF #[(vs "_law_taken" 1006),(vs "_law_taken" 1007),(vs fP 1008),(vi 571 0),(vi 3 0),(vi 0 0),(vi 0 0),(vi 3 0),(vr 576),vT,(vi 181 0),(vr 577),vN,(vr 578),(vr 579),(vr 580),(vi 1013 0),(vi 571 0),(vs fP 1014)]) #[])),
 (582,(oM tf none (dU (fD (sx "_law_taken") (sx "_law_taken") (fnP (stN 59)) (fB (fnB (stN 59))) (fnS (stN 59)) 3 [] vN vN vN (vs "law_no0185_01" 926) none (vr 581) vN 0)) #[])),
 (583,(oM tt none (dS #[] 0) #[])),
 (586,(oM tc none (dF #[(vs "law" 1016),(vs "law" 1017),(vs fP 1018),(vi 576 0),(vi 1 0),(vi 0 0),(vi 0 0),(vi 3 0),(vr 583),vT,(vi 181 0),(vr 584),vN,vN,vN,(vr 585),(vi 1019 0),(vi 576 0),(vs fP 1020)]) #[])),
 (587,(oM tf none (dU (fD (sx "law") (sx "law") (fnP (stN 60)) (fB (fnB (stN 60))) (fnS (stN 60)) 3 [] vN vN vN (vs "law_no0185_01" 926) none (vr 586) vN 0)) #[]))]
noncomputable def qV : Program := view PySem.Challenge.pw_no0185_01 [0,2,3,4,5,6,7,8,9,10,11,12,13,15,16,17,19,20,21,22,23,24,25,26,27,28,29,30,32,33,34,35,36,37,38,39,40,41,42,43,44,45,46,47,48,50,51,52,53,54,55,56,57,58,59,60]
end Mine
end
section
open PySem PySem.W PyProof.Rows
namespace Mine
noncomputable abbrev XtV : Shared->Bool := λ s => xlAt qV [("VOID",.tuple [.int 5,.int 0])] s && recOk PySem.Challenge.rw_no0185_01.row.records s
noncomputable def asL : List Addr := [2,3,15,17,18,20,21,22,29,30,31,32,35,42,44,45,47,48,49,50,51,54,56,57,59,60,61,63,64,66,67,75,77,78,80,81,82,84,85,87,88,89,91,92,94,95,96,98,99,101,102,103,105,106,108,109,110,112,113,115,116,117,119,120,122,123,124,126,127,129,130,131,133,134,136,137,138,140,141,143,144,145,147,148,150,151,152,153,154,155,156,159,161,162,164,165,166,168,169,171,172,173,175,176,178,179,180,188,189,191,192,194,195,196,198,199,201,202,203,205,206,208,209,210,212,213,215,216,217,219,220,222,223,224,226,227,229,230,231,233,234,236,237,238,240,241,243,244,245,247,248,250,251,252,254,255,257,258,259,261,262,264,265,266,268,269,271,272,273,275,276,278,279,280,282,283,285,286,287,289,290,292,293,294,296,297,299,300,301,303,304,306,307,308,310,311,313,314,315,317,318,320,321,322,323,324,325,326,329,336,338,339,341,342,343,344,346,347,349,350,351,353,354,356,357,358,360,361,363,364,365,367,368,370,371,372,373,374,384,386,387,389,390,391,393,394,396,397,398,399,400,401,402,405,407,408,410,411,412,414,415,417,418,419,421,422,424,425,426,428,429,431,432,433,435,436,438,439,440,442,443,445,446,447,449,450,452,453,454,456,457,459,460,461,463,464,466,467,468,470,471,473,474,475,477,478,480,481,482,484,485,487,488,489,491,492,494,495,496,498,499,501,502,503,505,506,508,509,510,512,513,515,516,517,519,520,522,523,524,526,527,529,530,531,533,534,536,537,538,540,541,543,544,545,547,548,550,551,552,554,555,557,558,559,562,563,564,567,568,569,571,572,574,575,576,578,579,581,582,583,586,587]
theorem asL_eq : ∀ P,asL = (KL P).map (·.1) := λ P => by kernel_rfl
noncomputable abbrev HK : Hook := kHook KL asL asL_eq
theorem looks1 : ∀ w,((fencedOpening treeTable PySem.Challenge.rw_no0185_01.row.prog w 7530).bind (endT PySem.Challenge.rw_no0185_01.row.prog w 7530)).map (λ s => Fast.tw4187177175401517315 qV ["VOID","Store"] (Fast.tw5923862056798008813 PySem.Challenge.rw_no0185_01.row.prog.main.body) XtV true s) = some (openGood qV ["VOID","Store"]) := λ w => by kernel_rfl
theorem looks2 : ∀ w,((fencedOpening treeTable PySem.Challenge.rw_no0185_01.row.prog w 7530).bind (endT PySem.Challenge.rw_no0185_01.row.prog w 7530)).map HK.obs = some (HK.val w) := λ w => by kernel_rfl
theorem leftV : LeftO PySem.Challenge.rw_no0185_01.row.prog qV ["VOID","Store"] XtV HK.obs HK.val 7530 := leftTT looks1 looks2
theorem wellV : OpenLaw.wellSaid PySem.Challenge.rw_no0185_01 = true := by
 rw [Fast.te9446332074065402090]
 kernel_rfl
theorem okV : (chainsOk qV && opensWell PySem.Challenge.rw_no0185_01.row.prog && (frees PySem.Challenge.rw_no0185_01.row.toRowW && PySem.Challenge.rw_no0185_01.row.within.isEmpty)) = true := by kernel_rfl
end Mine
end
section
open PySem PySem.W PySem.Calls PyProof.Rows PySem.Spec PySem.SeqAt
namespace Mine
noncomputable abbrev Cell := Int × Int
noncomputable def cv (c : Cell) : PV := .tup [.int c.1,.int c.2]
theorem cv_inj {c d : Cell} : cv c = cv d ↔ c = d := by
 obtain ⟨a,b⟩ := c; obtain ⟨x,y⟩ := d
 simp [cv]
theorem cv_pl (c : Cell) : Pl (cv c) = true := rfl
theorem cv_dp (c : Cell) : Dp (dat (cv c)) := by unfold Dp; simp [cv,dat,dats,PyData.depth,PyData.depthAll]
structure SA where
 st : Addr
 dst : Addr
 hp : Addr
 sk : Addr
 tr : Addr
 sy : Addr
 dsy : Addr
 tx : Addr
 an : Addr
 fu : Addr
 fn : Addr
noncomputable def stF (a : SA) : List (Str × PV) := [("symbols",.ref a.sy),("max_heap",.int 100000),("heap",.ref a.hp),("stack",.ref a.sk),("trail",.ref a.tr),("hb",.int 0),("bb",.int 0)]
noncomputable def syF (a : SA) : List (Str × PV) := [("texts",.ref a.tx),("atom_numbers",.ref a.an),("functors",.ref a.fu),("functor_numbers",.ref a.fn)]
structure SyOk (σ : CH) (a : SA) (TX : List PV) (AN : List (Str × PV)) (FU : List Cell) (FN : List (List Int × PV)) : Prop where
 sy : σ a.sy = some (.inst 154 a.dsy)
 dsy : σ a.dsy = some (.ns (syF a))
 tx : σ a.tx = some (.list TX)
 an : σ a.an = some (.dictS AN)
 fu : σ a.fu = some (.list (FU.map cv))
 fn : σ a.fn = some (.dictT FN)
theorem SyOk.ext {σ σ' : CH} {a : SA} {TX AN FU FN} (x : SyOk σ a TX AN FU FN) (e : Ext σ σ') : SyOk σ' a TX AN FU FN := ⟨e _ _ x.sy,e _ _ x.dsy,e _ _ x.tx,e _ _ x.an,e _ _ x.fu,e _ _ x.fn⟩
structure StOk (σ : CH) (a : SA) (H : List Cell) (S : List Cell) : Prop where
 st : σ a.st = some (.inst 374 a.dst)
 dst : σ a.dst = some (.ns (stF a))
 hp : σ a.hp = some (.list (H.map cv))
 sk : σ a.sk = some (.list (S.map cv))
 tr : σ a.tr = some (.list [])
theorem StOk.ext {σ σ' : CH} {a : SA} {H S} (x : StOk σ a H S) (e : Ext σ σ') : StOk σ' a H S := ⟨e _ _ x.st,e _ _ x.dst,e _ _ x.hp,e _ _ x.sk,e _ _ x.tr⟩
section
variable {C : Cx} {ρ : Loc'} {σ : CH}
theorem EV.globI {mg : Str->Option Value} (T : TC C mg) {x : Str} {pos : Pos} {i : Int} {Q : PV->CH->Prop} (hk : C.env.kindOf x = some .globalImplicit) (hg : InT mg x i) (q : Q (.int i) σ) (hd : (x == ("__debug__" : Str)) = false := by decide) : EV C (.Name x pos) ρ σ Q := by
 refine La.x1_1 hg λ t e => ?_; clear hg
 exact EV.glob (V := .int i) T.bs hk ⟨_,e,λ _ => ⟨_,rfl⟩⟩ q hd
theorem EV.globF {mg : Str->Option Value} (T : TC C mg) {x : Str} {pos : Pos} {a : Addr} {i : Nat} {Q : PV->CH->Prop} (hk : C.env.kindOf x = some .globalImplicit) (hg : FnT C.b C.K mg x a i) (q : Q (.any (.ref a)) σ) (hd : (x == ("__debug__" : Str)) = false := by decide) : EV C (.Name x pos) ρ σ Q :=
 EV.glob (V := .any (.ref a)) T.bs hk ⟨_,hg.1,λ _ => rfl⟩ q hd
theorem EV.field {mg : Str->Option Value} (T : TC C mg) {o : Expr} {name : Str} {pos : Pos} {Q : PV->CH->Prop} {Cl : Addr} (ho : AtT C.K Cl name)
  (h : EV C o ρ σ λ V σ₁ => ∃ a dx fs W,V = .ref a/\σ₁ a = some (.inst Cl dx)/\σ₁ dx = some (.ns fs)/\lk name fs = some W/\(∀ x,W ≠ .any x)/\Q W σ₁)
  (hb : attributeBase o name C.env (eval o C.env) = eval o C.env := by rfl) : EV C (.Attribute o name pos) ρ σ Q :=
 EV.attr T.bs (h.mono λ V σ₁ => La.y4_6 λ a dx fs W e1 e2 e3 e4 e5 q => ⟨a,Cl,dx,fs,W,e1,e2,e3,e4,e5,ho.1,q⟩) hb
theorem EV.imeth {mg : Str->Option Value} (T : TC C mg) {o : Expr} {name q : Str} {es : List Expr} {apos pos : Pos} {Q : PV->CH->Prop} {Cl f : Addr} {i j : Nat} (ho : MtT C.b C.K Cl name f q i j)
  (h : EV C o ρ σ λ V σ₁ => ∃ a dx fs,V = .ref a/\σ₁ a = some (.inst Cl dx)/\σ₁ dx = some (.ns fs)/\lk name fs = none/\EL C pos es ρ σ₁ λ vs σ₂ => FC C (.ref f) (.ref a :: vs) σ₂ Q)
  (hne : es ≠ [] := by simp) (hs : starEach es C.env = es.map λ e => (false,eval e C.env) := by rfl) (hl : (apos.endLine == pos.line) = true := by rfl) (hf : es.length < 20 := by simp)
  (hb : attributeBase o name C.env (eval o C.env) = eval o C.env := by rfl) : EV C (.Call (.Attribute o name apos) es [] pos) ρ σ Q :=
 EV.meth T.bs (h.mono λ V σ₁ => La.y3_5 λ a dx fs e1 e2 e3 e4 k => ⟨.ref f,by subst e1; exact GM.inst T.bs e2 e3 e4 ho.1,.inr (.inr ho.2.1),by subst e1; exact k⟩) hne hs hl hf hb
theorem EV.imeth0 {mg : Str->Option Value} (T : TC C mg) {o : Expr} {name q : Str} {apos pos : Pos} {Q : PV->CH->Prop} {Cl f : Addr} {i j : Nat} (ho : MtT C.b C.K Cl name f q i j)
  (h : EV C o ρ σ λ V σ₁ => ∃ a dx fs,V = .ref a/\σ₁ a = some (.inst Cl dx)/\σ₁ dx = some (.ns fs)/\lk name fs = none/\FC C (.ref f) [.ref a] σ₁ Q)
  (hl : (apos.endLine == pos.line) = true := by rfl) (hb : attributeBase o name C.env (eval o C.env) = eval o C.env := by rfl) : EV C (.Call (.Attribute o name apos) [] [] pos) ρ σ Q :=
 EV.meth0 T.bs (h.mono λ V σ₁ => La.y3_5 λ a dx fs e1 e2 e3 e4 k => ⟨.ref f,by subst e1; exact GM.inst T.bs e2 e3 e4 ho.1,.inr (.inr ho.2.1),by subst e1; exact k⟩) hl hb
theorem EV.fcall {mg : Str->Option Value} (T : TC C mg) {x : Str} {p : Pos} {es : List Expr} {pos : Pos} {Q : PV->CH->Prop} {a : Addr} {i : Nat} (hg : FnT C.b C.K mg x a i) (hk : C.env.kindOf x = some .globalImplicit)
  (h : EL C pos es ρ σ λ vs σ₂ => FC C (.ref a) vs σ₂ Q) (hne : es ≠ [] := by simp) (hs : starEach es C.env = es.map λ e => (false,eval e C.env) := by rfl) (hd : (x == ("__debug__" : Str)) = false := by decide)
  (he : eval (.Call (.Name x p) es [] pos) C.env = (do callWith pos (<- eval (.Name x p) C.env) [] (backTo pos (starEach es C.env)) (backToKw pos (keywordEach [] C.env))) := by rfl) : EV C (.Call (.Name x p) es [] pos) ρ σ Q :=
 EV.call T.bs (EV.globF T hk hg ⟨_,rfl,.inr (.inr hg.2.1),h⟩ hd) hne hs he
theorem EV.fcall0 {mg : Str->Option Value} (T : TC C mg) {x : Str} {p : Pos} {pos : Pos} {Q : PV->CH->Prop} {a : Addr} {i : Nat} (hg : FnT C.b C.K mg x a i) (hk : C.env.kindOf x = some .globalImplicit)
  (h : FC C (.ref a) [] σ Q) (hd : (x == ("__debug__" : Str)) = false := by decide)
  (he : eval (.Call (.Name x p) [] [] pos) C.env = (do callWith pos (<- eval (.Name x p) C.env) [] (backTo pos (starEach [] C.env)) (backToKw pos (keywordEach [] C.env))) := by rfl) : EV C (.Call (.Name x p) [] [] pos) ρ σ Q :=
 EV.call0 T.bs (EV.globF T hk hg ⟨_,rfl,.inr (.inr hg.2.1),h⟩ hd) he
theorem EV.bcall {mg : Str->Option Value} (T : TC C mg) {x : Str} {p : Pos} {es : List Expr} {pos : Pos} {v : Value} {Q : PV->CH->Prop} (hg : mg x = none) (hk : C.env.kindOf x = some .globalImplicit) (hb : bootBuiltins x = some v) (hv : (∃ id,v = .builtin id)\/(∃ T,v = .type T))
  (h : EL C pos es ρ σ λ vs σ₂ => FC C v vs σ₂ Q) (hne : es ≠ [] := by simp) (hs : starEach es C.env = es.map λ e => (false,eval e C.env) := by rfl) (hn : x ≠ "__name__" := by decide) (hd : (x == ("__debug__" : Str)) = false := by decide)
  (he : eval (.Call (.Name x p) es [] pos) C.env = (do callWith pos (<- eval (.Name x p) C.env) [] (backTo pos (starEach es C.env)) (backToKw pos (keywordEach [] C.env))) := by rfl) : EV C (.Call (.Name x p) es [] pos) ρ σ Q :=
 EV.call T.bs (EV.builtin T.bs hk hg hb ⟨_,rfl,hv.elim .inl λ e => .inr (.inl e),h⟩ hn hd) hne hs he
theorem EV.bcall0 {mg : Str->Option Value} (T : TC C mg) {x : Str} {p : Pos} {pos : Pos} {v : Value} {Q : PV->CH->Prop} (hg : mg x = none) (hk : C.env.kindOf x = some .globalImplicit) (hb : bootBuiltins x = some v) (hv : (∃ id,v = .builtin id)\/(∃ T,v = .type T))
  (h : FC C v [] σ Q) (hn : x ≠ "__name__" := by decide) (hd : (x == ("__debug__" : Str)) = false := by decide)
  (he : eval (.Call (.Name x p) [] [] pos) C.env = (do callWith pos (<- eval (.Name x p) C.env) [] (backTo pos (starEach [] C.env)) (backToKw pos (keywordEach [] C.env))) := by rfl) : EV C (.Call (.Name x p) [] [] pos) ρ σ Q :=
 EV.call0 T.bs (EV.builtin T.bs hk hg hb ⟨_,rfl,hv.elim .inl λ e => .inr (.inl e),h⟩ hn hd) he
theorem FC.top {mg : Str->Option Value} {n : Nat} (hn : C.n = n + 1) (T : TC C mg) {x : Str} {a : Addr} {i : Nat} (hf : FnT C.b C.K mg x a i) {names : List Str} {vs : List PV} {Q : PV->CH->Prop}
  (hb : HB C.b x (fnP (stN i)) (fnB (stN i)) (fnS (stN i)) .none names vs vs) (hk : (fnS (stN i)).kind = .function) (hco : (fnS (stN i)).isCoroutine = false) (hgen : (fnS (stN i)).isGenerator = false) (hnd : names.Nodup)
  (hfk : ∀ y ∈ names,(fnS (stN i)).names.lookup y = some .local\/(fnS (stN i)).names.lookup y = some .cell)
  (h : ∀ C',C'.n = n->C'.env.scope = fnS (stN i)->TC C' mg->(∀ e σ s,¬ C'.X e σ s)->EX C' (fnB (stN i)) (names.zip vs) σ λ fl _ σ' => Q (retV fl) σ') : FC C (.ref a) vs σ Q := by
 refine La.c3 hf λ _ _ fa => ?_; clear hf
 exact FC.fn hn T.bs fa hb hk hco hgen hnd hfk λ C' F X => h C' F.n F.sc (T.fits F) X
theorem FC.mth {mg : Str->Option Value} {n : Nat} (hn : C.n = n + 1) (T : TC C mg) {x q : Str} {Cl a : Addr} {i j : Nat} (hf : MtT C.b C.K Cl x a q i j) {names : List Str} {vs : List PV} {Q : PV->CH->Prop}
  (hb : HB C.b q (fnP (mtN i j)) (fnB (mtN i j)) (fnS (mtN i j)) .none names vs vs) (hk : (fnS (mtN i j)).kind = .function) (hco : (fnS (mtN i j)).isCoroutine = false) (hgen : (fnS (mtN i j)).isGenerator = false) (hnd : names.Nodup)
  (hfk : ∀ y ∈ names,(fnS (mtN i j)).names.lookup y = some .local\/(fnS (mtN i j)).names.lookup y = some .cell)
  (h : ∀ C',C'.n = n->C'.env.scope = fnS (mtN i j)->TC C' mg->(∀ e σ s,¬ C'.X e σ s)->EX C' (fnB (mtN i j)) (names.zip vs) σ λ fl _ σ' => Q (retV fl) σ') : FC C (.ref a) vs σ Q := by
 refine La.c3 hf λ _ _ fa => ?_; clear hf
 exact FC.fn hn T.bs fa hb hk hco hgen hnd hfk λ C' F X => h C' F.n F.sc (T.fits F) X
end
end Mine
end
section
namespace Mine
noncomputable def hat (H : List Cell) (i : Int) : Cell := (H[i.toNat]?).getD (0,0)
theorem hat_get {H : List Cell} {v : Nat} (h : v < H.length) : H[v]? = some (hat H v) := by
 unfold hat
 simp [h]
inductive okc (H : List Cell) : Cell->Prop
 | ref (v : Nat) : v < H.length->(hat H v).1 ≠ 6->okc H (0,v)
 | srf : okc H (1,0)
 | str1 (v : Nat) : v + 1 < H.length->hat H v = (6,12)->(hat H (v + 1 : Nat)).1 ≠ 6->okc H (2,v)
 | str2 (v : Nat) : v + 2 < H.length->hat H v = (6,13)->(hat H (v + 1 : Nat)).1 ≠ 6->(hat H (v + 2 : Nat)).1 ≠ 6->okc H (2,v)
 | lis (v : Nat) : v + 1 < H.length->(hat H v).1 ≠ 6->(hat H (v + 1 : Nat)).1 ≠ 6->okc H (3,v)
 | con0 : okc H (4,0)
 | con4 : okc H (4,4)
 | int (i : Int) : okc H (5,i)
noncomputable def WF (H : List Cell) : Prop := ∀ (i : Nat) (c : Cell),H[i]? = some c->c.1 = 6\/(okc H c/\c.1 ≠ 1/\(c.1 = 0->c.2<=i))
theorem WF.at {H : List Cell} (W : WF H) {v : Nat} (h : v < H.length) (h6 : (hat H v).1 ≠ 6) : okc H (hat H v)/\(hat H v).1 ≠ 1/\((hat H v).1 = 0->(hat H v).2<=v) := by
 rcases W v _ (hat_get h) with e | e
 ·exact absurd e h6
 ·exact e
noncomputable def derN (H : List Cell) : Nat->Cell->Cell
 | 0,c => c
 | n + 1,c => if c.1 = 0 then (if hat H c.2 = c then c else derN H n (hat H c.2)) else c
noncomputable def der (H : List Cell) (c : Cell) : Cell := derN H (c.2.toNat + 1) c
theorem derN_non {H : List Cell} {c : Cell} (h : c.1 ≠ 0) : ∀ n,derN H n c = c
 | 0 => rfl
 | n + 1 => by simp [derN,h]
theorem derN_more {H : List Cell} (W : WF H) : ∀ (v : Nat) (n m : Nat),v < H.length->(hat H v).1 ≠ 6->v + 1<=n->v + 1<=m->derN H n (0,v) = derN H m (0,v) := by
 intro v
 induction v using Nat.strongRecOn with
 | ind v ih =>
  intro n m hv h6 hn hm
  refine La.x1_1 (⟨n - 1,by exact La.z109 hn (La.sb _ _)⟩ : ∃ k,n = k + 1) λ n h'1 => ?_; subst h'1
  refine La.x1_1 (⟨m - 1,by exact La.z109 hm (La.sb _ _)⟩ : ∃ k,m = k + 1) λ m h'1 => ?_; subst h'1
  simp only [derN,if_true]
  by_cases q : hat H v = (0,(v : Int))
  ·simp [q]
  ·simp only [q,if_false]
   refine La.c3 (W.at hv h6) λ ok n1 le => ?_
   by_cases h0 : (hat H v).1 = 0
   ·generalize hc : hat H v = d at *
    cases ok with
    | ref u hu h6' =>
     have h1 : (u : Int)<=v := le rfl
     have h2 : u ≠ v := λ z => q (by rw [z])
     exact ih u (by exact La.l2 (.l (.c .x0) (.c .x1)) (.n (.Q .x0 .x1)) (.T .x0 .x1) [[0,1,1],[1,1,0]] rfl [_,_] [] h1 h2) n m hu h6' (by exact La.z70 hn h1 h2) (by exact La.z70 hm h1 h2)
    | _ => simp at h0
   ·rw [derN_non h0,derN_non h0]
theorem der_non {H : List Cell} {c : Cell} (h : c.1 ≠ 0) : der H c = c := derN_non h _
theorem der_self {H : List Cell} {v : Nat} (h : hat H v = (0,(v : Int))) : der H (0,(v : Int)) = (0,(v : Int)) := by simp [der,derN,h]
theorem der_step {H : List Cell} (W : WF H) {v : Nat} (hv : v < H.length) (h6 : (hat H v).1 ≠ 6) (h : hat H v ≠ (0,(v : Int))) : der H (0,v) = der H (hat H v) := by
 have e : der H (0,v) = derN H v (hat H v) := by simp [der,derN,h]
 rw [e]
 refine La.c3 (W.at hv h6) λ ok n1 le => ?_
 by_cases h0 : (hat H v).1 = 0
 ·generalize hc : hat H v = d at *
  cases ok with
  | ref u hu h6' =>
   have h1 : (u : Int)<=v := le rfl
   have h2 : u ≠ v := λ z => h (by rw [z])
   exact derN_more W u _ _ hu h6' (by exact La.l2 (.l (.c .x0) (.c .x1)) (.n (.Q .x0 .x1)) (.L (.a .x0 .l1) .x1) [[0,1,1],[1,1,0]] rfl [_,_] [] h1 h2) (by simp)
  | _ => simp at h0
 ·rw [derN_non h0,der_non h0]
theorem der_ind {H : List Cell} (W : WF H) {P : Cell->Cell->Prop} (non : ∀ c,okc H c->c.1 ≠ 0->P c c) (self : ∀ v : Nat,v < H.length->hat H v = (0,(v : Int))->P (0,v) (0,v))
  (step : ∀ (v : Nat) d,v < H.length->(hat H v).1 ≠ 6->(hat H v).1 ≠ 1->hat H v ≠ (0,(v : Int))->okc H (hat H v)->P (hat H v) d->P (0,v) d) {c : Cell} (hc : okc H c) : P c (der H c) := by
 have key : ∀ n,∀ c,okc H c->(c.1 = 0->c.2.toNat < n)->P c (der H c) := by
  intro n
  induction n with
  | zero =>
   intro c hc h
   by_cases h0 : c.1 = 0
   ·exact absurd (h h0) (by exact La.l0  (.n (.T .x0 .l0)) [[1]] rfl [_] [])
   ·rw [der_non h0]; exact non c hc h0
  | succ n ih =>
   intro c hc h
   by_cases h0 : c.1 = 0
   ·cases hc with
    | ref v hv h6 =>
     by_cases q : hat H v = (0,(v : Int))
     ·rw [der_self q]; exact self v hv q
     ·rw [der_step W hv h6 q]
      refine La.c3 (W.at hv h6) λ ok n1 le => ?_
      refine step v _ hv h6 n1 q ok (ih _ ok λ z => ?_)
      have l1 := le z
      have l2 := h rfl
      generalize hat H v = d at *
      cases ok with
      | ref u hu h6' =>
       have h2 : u ≠ v := λ z => q (by rw [z])
       simp at l1 l2 ⊢
       exact La.l3 (.T .x0 (.a .x1 .l1)) (.n (.Q .x2 .x0)) (.L .x2 .x0) (.T .x2 .x1) [[1,1,0,1],[0,1,1,0]] rfl [_,_,_] [] l2 h2 l1
      | _ => simp at z
    | _ => simp at h0
   ·rw [der_non h0]; exact non c hc h0
 exact key (c.2.toNat + 1) c hc λ _ => by exact La.z12
theorem der_ok {H : List Cell} (W : WF H) {c : Cell} (hc : okc H c) : okc H (der H c) :=
 der_ind W (P := λ _ d => okc H d) (λ _ h _ => h) (λ v hv e => .ref v hv (by rw [e]; simp)) (λ _ _ _ _ _ _ _ h => h) hc
theorem der_end {H : List Cell} (W : WF H) {c : Cell} (hc : okc H c) : (der H c).1 ≠ 0\/hat H (der H c).2 = der H c :=
 der_ind W (P := λ _ d => d.1 ≠ 0\/hat H d.2 = d) (λ _ h n => .inl n) (λ v hv e => .inr e) (λ _ _ _ _ _ _ _ h => h) hc
theorem der_der {H : List Cell} (W : WF H) {c : Cell} (hc : okc H c) : der H (der H c) = der H c := by
 rcases der_end W hc with h | h
 ·exact der_non h
 ·have ok := der_ok W hc
  by_cases h0 : (der H c).1 = 0
  ·generalize der H c = d at *
   cases ok with
   | ref v hv h6 => exact der_self h
   | _ => simp at h0
  ·exact der_non h0
end Mine
end
section
open PySem PySem.W PySem.Calls PyProof.Rows PySem.Spec PySem.SeqAt
namespace Mine
theorem ite_of {b : Bool} {P Q : Prop} (h1 : b = true->P) (h2 : b = false->Q) : if b = true then P else Q := by cases b with | true => exact (if_pos rfl) ▸ h1 rfl | false => exact h2 rfl
theorem ite_t {P Q : Prop} (h : P) : if true = true then P else Q := h
theorem ite_f {P Q : Prop} (h : Q) : if false = true then P else Q := h
theorem ite_b {b c : Bool} (e : b = c) {P Q : Prop} (h : if c = true then P else Q) : if b = true then P else Q := by subst e; exact h
section
variable {C : Cx} {ρ : Loc'} {σ : CH}
theorem op_c0 {value slice : Expr} {c : Cell} {Q : PV->CH->Prop} (q : Q (.int c.1) σ) (hs : ∀ o j,subscripted slice false o j = operate [o,j] (getItem o j) := by intro _ _; rfl) : O2 C Rel (subscriptTail value slice) (cv c) (.int 0) ρ σ Q :=
 op_subT (by decide) rfl (by decide) q hs
theorem op_c1 {value slice : Expr} {c : Cell} {Q : PV->CH->Prop} (q : Q (.int c.2) σ) (hs : ∀ o j,subscripted slice false o j = operate [o,j] (getItem o j) := by intro _ _; rfl) : O2 C Rel (subscriptTail value slice) (cv c) (.int 1) ρ σ Q :=
 op_subT (by decide) rfl (by decide) q hs
theorem op_eqC {c d : Cell} {Q : PV->CH->Prop} (q : Q (.bool (decide (c = d))) σ) : O2 C Rel (compareOp .Eq) (cv c) (cv d) ρ σ Q :=
 op_eqP (cv_pl c) (cv_pl d) (cv_dp c) (cv_dp d) (by rw [decide_eq_true_iff,cv_inj]) q
theorem op_neC {c d : Cell} {Q : PV->CH->Prop} (q : Q (.bool (decide (c ≠ d))) σ) : O2 C Rel (compareOp .NotEq) (cv c) (cv d) ρ σ Q :=
 op_neP (cv_pl c) (cv_pl d) (cv_dp c) (cv_dp d) (by rw [decide_eq_true_iff,ne_eq,ne_eq,cv_inj]) q
theorem op_hp {value slice : Expr} {x : Addr} {H : List Cell} {v : Nat} {i : Int} {Q : PV->CH->Prop} (hx : σ x = some (.list (H.map cv))) (hi : i = (v : Int)) (hv : v < H.length) (hz : H.length < 1000) (q : Q (cv (hat H v)) σ)
  (hs : ∀ o j,subscripted slice false o j = operate [o,j] (getItem o j) := by intro _ _; rfl) : O2 C Rel (subscriptTail value slice) (.ref x) (.int i) ρ σ Q := by
 subst hi
 exact op_subL hx (by exact La.z7) (by simp [hat_get hv]) (by exact La.l2 (.T .x0 .x1) (.T .x1 (.l 1000)) (.t (.c .x0) (.l 1000000)) [[1,1,1]] rfl [_,_] [] hv hz) q hs
end
structure Br (C : Cx) (rest : List Stmt) (Q R : Fl->Loc'->CH->Prop) : Prop where
 next : ∀ {ρ σ},EX C rest ρ σ Q->R .next ρ σ
 cont : ∀ {ρ σ},Q .cont ρ σ->R .cont ρ σ
 brk : ∀ {ρ σ},Q .brk ρ σ->R .brk ρ σ
 ret : ∀ {V ρ σ},Q (.ret V) ρ σ->R (.ret V) ρ σ
structure Tn (again : Loc'->CH->Prop) (Q R : Fl->Loc'->CH->Prop) : Prop where
 next : ∀ {ρ σ},again ρ σ->R .next ρ σ
 cont : ∀ {ρ σ},again ρ σ->R .cont ρ σ
 brk : ∀ {ρ σ},Q .next ρ σ->R .brk ρ σ
 ret : ∀ {V ρ σ},Q (.ret V) ρ σ->R (.ret V) ρ σ
section
variable {C : Cx} {ρ : Loc'} {σ : CH} {Q : Fl->Loc'->CH->Prop} {rest : List Stmt} {pos : Pos}
theorem br (C : Cx) (rest : List Stmt) (Q : Fl->Loc'->CH->Prop) : Br C rest Q (λ fl ρ' σ' => match fl with | .next => EX C rest ρ' σ' Q | f => Q f ρ' σ') := ⟨λ h => h,λ h => h,λ h => h,λ h => h⟩
theorem tn (again : Loc'->CH->Prop) (Q : Fl->Loc'->CH->Prop) : Tn again Q (afterTurn again Q) := ⟨λ h => h,λ h => h,λ h => h,λ h => h⟩
theorem EX.assign {x : Str} {pos' : Pos} {value : Expr} (hk : C.env.kindOf x = some .local\/C.env.kindOf x = some .cell) (hs : swapsWith value (some (.Name x pos')) pos.line C.env = pure false)
  (h : EV C value ρ σ λ V σ₁ => EX C rest ((x,V) :: ρ) σ₁ Q) : EX C (.Assign [.Name x pos'] value pos :: rest) ρ σ Q := EX.cons (ES.assign h hk hs)
theorem EX.ret {e : Expr} (h : EV C e ρ σ λ V σ₁ => Q (.ret V) ρ σ₁) : EX C (.Return (some e) pos :: rest) ρ σ Q := EX.cons (ES.ret h)
theorem EX.retN (h : Q (.ret .none) ρ σ) : EX C (.Return none pos :: rest) ρ σ Q := EX.cons (ES.retN h)
theorem EX.contin (h : Q .cont ρ σ) : EX C (.Continue pos :: rest) ρ σ Q := EX.cons (ES.cont h)
theorem EX.expr {e : Expr} (hs : swapsWith e none pos.line C.env = pure false) (h : EV C e ρ σ λ _ σ₁ => EX C rest ρ σ₁ Q) : EX C (.Expr e pos :: rest) ρ σ Q := EX.cons (ES.expr h hs)
theorem EX.ite {t : Expr} {a b : List Stmt} (h : ∀ R,Br C rest Q R->ET C t ρ σ λ c σ₁ => if c = true then EX C a ρ σ₁ R else EX C b ρ σ₁ R) : EX C (.If t a b pos :: rest) ρ σ Q := EX.cons (ES.ite (h _ (br C rest Q)))
theorem EX.while {t : Expr} {a : List Stmt} (hX : ∀ e σ s,¬ C.X e σ s) (h : ∀ R,Br C rest Q R->WH C t a ρ σ R) : EX C (.While t a [] pos :: rest) ρ σ Q := EX.cons (ES.while (PassX.none hX) (h _ (br C rest Q)))
theorem EX.for {target iter : Expr} {a : List Stmt} (hX : ∀ e σ s,¬ C.X e σ s) (hs : ∀ x,foldedSetIterable iter C.env x = pure x)
  (h : EV C iter ρ σ λ V σ₁ => O1 C Rel (λ v => pyIter v) V ρ σ₁ λ W σ₂ => ∃ it,W = .ref it/\∀ R,Br C rest Q R->FL C target it a ρ σ₂ R) : EX C (.For target iter a [] pos :: rest) ρ σ Q :=
 EX.cons (ES.for (PassX.none hX) (h.mono λ V σ₁ k A s v G S r => wpAny_mono (k A s v G S r) (λ _ _ => La.y2_2 λ W σ₂ h y => ⟨W,σ₂,La.x1_2 h λ it e q => ⟨it,e,q _ (br C rest Q)⟩,y⟩) λ _ _ x => x) hs)
theorem EX.assign2 {x y : Str} {k : Nat} {p1 p2 p3 : Pos} {value : Expr} (hx : C.env.kindOf x = some .local\/C.env.kindOf x = some .cell) (hy : C.env.kindOf y = some .local\/C.env.kindOf y = some .cell)
  (hs : swapsWithSole [.Tuple [.Name x p1,.Name y p2] k p3] value pos.line C.env = pure false) (hw : swappedStores [.Tuple [.Name x p1,.Name y p2] k p3] value C.env = pure none)
  (h : EV C value ρ σ λ V σ₁ => ∃ V1 V2,V = .tup [V1,V2]/\EX C rest ((y,V2) :: (x,V1) :: ρ) σ₁ Q) : EX C (.Assign [.Tuple [.Name x p1,.Name y p2] k p3] value pos :: rest) ρ σ Q := EX.cons (ES.assign2 h hx hy hs hw)
theorem EX.setattr {mg : Str->Option Value} (T : TC C mg) {o value : Expr} {name : Str} {p : Pos} {Cl : Addr} (ho : AtT C.K Cl name) (hs : swapsWith value (some (.Attribute o name p)) pos.line C.env = pure false)
  (h : EV C value ρ σ λ V σ₁ => EV C o ρ σ₁ λ W σ₂ => ∃ a dx fs,W = .ref a/\σ₂ a = some (.inst Cl dx)/\σ₂ dx = some (.ns fs)/\fs.length<=900/\EX C rest ρ (upd σ₂ dx (.ns (putF name V fs))) Q) : EX C (.Assign [.Attribute o name p] value pos :: rest) ρ σ Q :=
 EX.cons (ES.setattr T.bs (h.mono λ V σ₁ k => k.mono λ W σ₂ => La.y3_5 λ a dx fs e1 e2 e3 e4 q => ⟨a,Cl,dx,fs,e1,e2,e3,e4,ho.2,q⟩) hs)
theorem EX.setitem {o i value : Expr} {p : Pos} (hs : swapsWith value (some (.Subscript o i p)) pos.line C.env = pure false)
  (h : EV C value ρ σ λ U σ₁ => EV C o ρ σ₁ λ V σ₂ => EV C i ρ σ₂ λ W σ₃ => SI C V W U ρ σ₃ λ σ₄ => EX C rest ρ σ₄ Q) : EX C (.Assign [.Subscript o i p] value pos :: rest) ρ σ Q := EX.cons (ES.setitem h hs)
theorem EX.augI {x : Str} {p : Pos} {value : Expr} {i : Int} (hk : C.env.kindOf x = some .local) (hl : lk x ρ = some (.int i)) (h : EV C value ρ σ λ V σ₁ => ∃ j,V = .int j/\EX C rest ((x,.int (i + j)) :: ρ) σ₁ Q) : EX C (.AugAssign (.Name x p) .Add value pos :: rest) ρ σ Q := EX.cons (ES.augI hk hl h)
theorem EX.delSlice {value lo : Expr} {p p2 : Pos} (h : EV C value ρ σ λ V σ₁ => EV C lo ρ σ₁ λ W σ₂ => ∃ a l,∃ k : Nat,V = .ref a/\W = .int k/\σ₂ a = some (.list l)/\k<=l.length/\l.length<=100000/\EX C rest ρ (upd σ₂ a (.list (l.take k))) Q) :
  EX C (.Delete [.Subscript value (.Slice (some lo) none none p) p2] pos :: rest) ρ σ Q := EX.cons (ES.delSlice h)
theorem WH.go {test : Expr} {body : List Stmt} (hX : ∀ e σ s,¬ C.X e σ s) (h : ∀ R,Tn (λ ρ₂ σ₂ => WH C test body ρ₂ σ₂ Q) Q R->ET C test ρ σ λ b σ₁ => if b = true then EX C body ρ σ₁ R else Q .next ρ σ₁) : WH C test body ρ σ Q :=
 WH.turn (PassX.none hX) (h _ (tn _ _))
theorem FL.go {x : Str} {px : Pos} {it : Addr} {body : List Stmt} (hX : ∀ e σ s,¬ C.X e σ s) (hx : C.env.kindOf x = some .local\/C.env.kindOf x = some .cell)
  (h : ∀ R,Tn (λ ρ₂ σ₂ => FL C (.Name x px) it body ρ₂ σ₂ Q) Q R->NX C it ρ σ λ V σ₁ => match V with | some V => EX C body ((x,V) :: ρ) σ₁ R | none => Q .next ρ σ₁) : FL C (.Name x px) it body ρ σ Q :=
 FL.turn (PassX.none hX) hx (h _ (tn _ _))
end
end Mine
end
section
open PySem PySem.W PySem.Calls PyProof.Rows PySem.Spec PySem.SeqAt
namespace Mine
theorem op_eqS {C : Cx} {ρ : Loc'} {σ : CH} {x y : Str} {Q : PV->CH->Prop} (hx : PyData.strOk x = true) (hy : PyData.strOk y = true) (q : Q (.bool (decide (x = y))) σ) : O2 C Rel (compareOp .Eq) (.str x) (.str y) ρ σ Q :=
 op_eqP hx hy (by simp [Dp,dat,PyData.depth]) (by simp [Dp,dat,PyData.depth]) (by simp) q
section
variable {C : Cx} {ρ : Loc'} {σ : CH} {mg : Str->Option Value} {o x : Expr} {apos pos : Pos}
theorem EV.lappend (T : TC C mg) {Q : PV->CH->Prop} (hl : (apos.endLine == pos.line) = true) (hb : attributeBase o "append" C.env (eval o C.env) = eval o C.env) (hs : starEach [x] C.env = [x].map λ e => (false,eval e C.env)) (he : starEach (x :: []) C.env = (false,eval x C.env) :: starEach [] C.env)
  (h : EV C o ρ σ λ V σ₁ => ∃ a l,V = .ref a/\σ₁ a = some (.list l)/\EV C x ρ σ₁ λ W σ₂ => ∃ l',σ₂ a = some (.list l')/\l'.length < 100000/\Q .none (upd σ₂ a (.list (l' ++ [W])))) :
  EV C (.Call (.Attribute o "append" apos) [x] [] pos) ρ σ Q :=
 EV.meth T.bs (h.mono λ V σ₁ => La.y2_3 λ a l e ha k => by
  subst e
  exact ⟨_,GM.list ha PySem.F.slot_list_append PySem.F.type_list_append,.inl ⟨_,rfl⟩,EL.cons (k.mono λ W σ₂ => La.y1_3 λ l' e1 e2 q => EL.nil (fc_append e1 e2 q)) he⟩) (by simp) hs hl (by simp) hb
theorem EV.lpop (T : TC C mg) {Q : PV->CH->Prop} (hl : (apos.endLine == pos.line) = true) (hb : attributeBase o "pop" C.env (eval o C.env) = eval o C.env)
  (h : EV C o ρ σ λ V σ₁ => ∃ a l W,V = .ref a/\σ₁ a = some (.list (l ++ [W]))/\l.length < 100000/\Q W (upd σ₁ a (.list l))) : EV C (.Call (.Attribute o "pop" apos) [] [] pos) ρ σ Q :=
 EV.meth0 T.bs (h.mono λ V σ₁ => La.y3_4 λ a l W e ha hz q => by
  subst e
  exact ⟨_,GM.list ha PySem.F.slot_list_pop PySem.F.type_list_pop,.inl ⟨_,rfl⟩,fc_pop ha hz q⟩) hl hb
theorem EV.lreverse (T : TC C mg) {Q : PV->CH->Prop} (hl : (apos.endLine == pos.line) = true) (hb : attributeBase o "reverse" C.env (eval o C.env) = eval o C.env)
  (h : EV C o ρ σ λ V σ₁ => ∃ a l,V = .ref a/\σ₁ a = some (.list l)/\l.length < 100000/\Q .none (upd σ₁ a (.list l.reverse))) : EV C (.Call (.Attribute o "reverse" apos) [] [] pos) ρ σ Q :=
 EV.meth0 T.bs (h.mono λ V σ₁ => La.y2_4 λ a l e ha hz q => by
  subst e
  exact ⟨_,GM.list ha PySem.F.slot_list_reverse PySem.F.type_list_reverse,.inl ⟨_,rfl⟩,fc_reverse ha hz q⟩) hl hb
theorem EV.lpop0 (T : TC C mg) {Q : PV->CH->Prop} (hl : (apos.endLine == pos.line) = true) (hb : attributeBase o "pop" C.env (eval o C.env) = eval o C.env) (hs : starEach [x] C.env = [x].map λ e => (false,eval e C.env)) (he : starEach (x :: []) C.env = (false,eval x C.env) :: starEach [] C.env)
  (h : EV C o ρ σ λ V σ₁ => ∃ a l W,V = .ref a/\σ₁ a = some (.list (W :: l))/\EV C x ρ σ₁ λ U σ₂ => U = .int 0/\σ₂ a = some (.list (W :: l))/\l.length < 100000/\Q W (upd σ₂ a (.list l))) : EV C (.Call (.Attribute o "pop" apos) [x] [] pos) ρ σ Q :=
 EV.meth T.bs (h.mono λ V σ₁ => La.y3_3 λ a l W e ha k => by
  subst e
  exact ⟨_,GM.list ha PySem.F.slot_list_pop PySem.F.type_list_pop,.inl ⟨_,rfl⟩,EL.cons (k.mono λ U σ₂ => La.k4 λ e0 e1 e2 q => EL.nil (by subst e0; exact fc_pop0 e1 e2 q)) he⟩) (by simp) hs hl (by simp) hb
theorem EV.lremove (T : TC C mg) {Q : PV->CH->Prop} (hl : (apos.endLine == pos.line) = true) (hb : attributeBase o "remove" C.env (eval o C.env) = eval o C.env) (hs : starEach [x] C.env = [x].map λ e => (false,eval e C.env)) (he : starEach (x :: []) C.env = (false,eval x C.env) :: starEach [] C.env)
  (h : EV C o ρ σ λ V σ₁ => ∃ a l,V = .ref a/\σ₁ a = some (.list l)/\EV C x ρ σ₁ λ U σ₂ => ∃ l' j,σ₂ a = some (.list l')/\l'.length < 100000/\Pls l' = true/\PyData.depthAll (dats l')<=60/\l'[j]? = some U/\(∀ m,m < j->l'[m]? ≠ some U)/\Q .none (upd σ₂ a (.list (l'.eraseIdx j)))) :
  EV C (.Call (.Attribute o "remove" apos) [x] [] pos) ρ σ Q :=
 EV.meth T.bs (h.mono λ V σ₁ => La.y2_3 λ a l e ha k => by
  subst e
  exact ⟨_,GM.list ha PySem.F.slot_list_remove PySem.F.type_list_remove,.inl ⟨_,rfl⟩,EL.cons (k.mono λ W σ₂ => La.y2_7 λ l' j e1 e2 e3 e4 e5 e6 q => EL.nil (fc_remove e1 e2 e3 e4 e5 e6 q)) he⟩) (by simp) hs hl (by simp) hb
theorem EV.sadd (T : TC C mg) {Q : PV->CH->Prop} (hl : (apos.endLine == pos.line) = true) (hb : attributeBase o "add" C.env (eval o C.env) = eval o C.env) (hs : starEach [x] C.env = [x].map λ e => (false,eval e C.env)) (he : starEach (x :: []) C.env = (false,eval x C.env) :: starEach [] C.env)
  (h : EV C o ρ σ λ V σ₁ => ∃ a M n,V = .ref a/\σ₁ a = some (.set M n)/\EV C x ρ σ₁ λ W σ₂ => ∃ i M' n',W = .int i/\σ₂ a = some (.set M' n')/\n' < 4000/\Q .none (upd σ₂ a (.set (λ k => M' k || decide (k = i)) (if M' i then n' else n' + 1)))) :
  EV C (.Call (.Attribute o "add" apos) [x] [] pos) ρ σ Q :=
 EV.meth T.bs (h.mono λ V σ₁ => La.y3_3 λ a M n e ha k => by
  subst e
  exact ⟨_,GM.set ha,.inl ⟨_,rfl⟩,EL.cons (k.mono λ W σ₂ => La.y3_4 λ i M' n' e0 e1 e2 q => EL.nil (by subst e0; exact fc_setadd e1 e2 q)) he⟩) (by simp) hs hl (by simp) hb
variable {xn : Str} {px : Pos} {body rest : List Stmt}
theorem FL.down {it : Addr} {Q : Fl->Loc'->CH->Prop} (hX : ∀ e σ s,¬ C.X e σ s) (hx : C.env.kindOf xn = some .local\/C.env.kindOf xn = some .cell) (P : Nat->Loc'->CH->Prop) :
  ∀ (w : Nat) (ρ : Loc') (σ : CH),P w ρ σ->σ it = some (.itR (w - 1) w (-1)) ->
   (∀ (k : Nat) ρ σ,P (k + 1) ρ σ->σ it = some (.itR k (k + 1) (-1))->∀ R : Fl->Loc'->CH->Prop,(∀ ρ' σ',P k ρ' σ'->σ' it = some (.itR (k - 1) k (-1))->R .next ρ' σ')->EX C body ((xn,.int k) :: ρ) (upd σ it (.itR (k - 1) k (-1))) R) ->
   (∀ ρ σ,P 0 ρ σ->∀ l,σ it = some l->Q .next ρ (del σ it))->FL C (.Name xn px) it body ρ σ Q
 | 0,ρ,σ,hP,hit,hs,he => FL.go hX hx λ R hR => nx_rngE hit (by simp) (he ρ σ hP _ hit)
 | k + 1,ρ,σ,hP,hit,hs,he => FL.go hX hx λ R hR => by
  have hit' : σ it = some (.itR (k : Int) ((k : Int) + 1) (-1)) := by
   rw [hit]; congr 2 <;> simp
  refine nx_rng hit' (by exact La.z71) ?_
  have e : upd σ it (.itR ((k : Int) + -1) ((k : Int) + 1 - 1) (-1)) = upd σ it (.itR ((k : Int) - 1) k (-1)) := by
   congr 2; exact La.z72
  rw [e]
  exact hs k ρ σ hP hit' R λ ρ' σ' h1 h2 => hR.next (FL.down hX hx P k ρ' σ' h1 h2 hs he)
theorem FL.over {it a : Addr} {l : List PV} {Q : Fl->Loc'->CH->Prop} (hX : ∀ e σ s,¬ C.X e σ s) (hx : C.env.kindOf xn = some .local\/C.env.kindOf xn = some .cell) (P : Nat->Loc'->CH->Prop)
  (hs : ∀ i V ρ σ,l[i]? = some V->P i ρ σ->σ it = some (.itL a i)->∀ R : Fl->Loc'->CH->Prop,(∀ ρ' σ',P (i + 1) ρ' σ'->σ' it = some (.itL a (i + 1))->R .next ρ' σ')->(∀ V ρ' σ',Q (.ret V) ρ' σ'->R (.ret V) ρ' σ')->EX C body ((xn,V) :: ρ) (upd σ it (.itL a (i + 1))) R)
  (ha : ∀ i ρ σ,P i ρ σ->σ a = some (.list l)) (he : ∀ ρ σ,P l.length ρ σ->∀ m,σ it = some m->Q .next ρ (del σ it)) :
  ∀ (n i : Nat) (ρ : Loc') (σ : CH),n + i = l.length->P i ρ σ->σ it = some (.itL a i)->FL C (.Name xn px) it body ρ σ Q
 | 0,i,ρ,σ,hn,hP,hit => FL.go hX hx λ R hR => nx_listE hit (ha _ _ _ hP) (by exact La.z73 hn) (he ρ σ ((show i = l.length by exact La.z37 hn) ▸ hP) _ hit)
 | n + 1,i,ρ,σ,hn,hP,hit => FL.go hX hx λ R hR => by
  have hi : i < l.length := by exact La.z38 hn
  have hV : l[i]? = some l[i] := List.getElem?_eq_getElem hi
  refine nx_list hit (ha _ _ _ hP) hV ?_
  exact hs i _ ρ σ hV hP hit R (λ ρ' σ' h1 h2 => hR.next (FL.over hX hx P hs ha he n (i + 1) ρ' σ' (by exact La.z39 hn) h1 h2)) λ V ρ' σ' q => hR.ret q
theorem FL.overT {it : Addr} {l : List PV} {Q : Fl->Loc'->CH->Prop} (hX : ∀ e σ s,¬ C.X e σ s) (hx : C.env.kindOf xn = some .local\/C.env.kindOf xn = some .cell) (P : Nat->Loc'->CH->Prop)
  (hs : ∀ i V ρ σ,l[i]? = some V->P i ρ σ->σ it = some (.itT l i)->∀ R : Fl->Loc'->CH->Prop,(∀ ρ' σ',P (i + 1) ρ' σ'->σ' it = some (.itT l (i + 1))->R .next ρ' σ')->(∀ V ρ' σ',Q (.ret V) ρ' σ'->R (.ret V) ρ' σ')->EX C body ((xn,V) :: ρ) (upd σ it (.itT l (i + 1))) R)
  (he : ∀ ρ σ,P l.length ρ σ->∀ m,σ it = some m->Q .next ρ (del σ it)) :
  ∀ (n i : Nat) (ρ : Loc') (σ : CH),n + i = l.length->P i ρ σ->σ it = some (.itT l i)->FL C (.Name xn px) it body ρ σ Q
 | 0,i,ρ,σ,hn,hP,hit => FL.go hX hx λ R hR => nx_tupE hit (by exact La.z73 hn) (he ρ σ ((show i = l.length by exact La.z37 hn) ▸ hP) _ hit)
 | n + 1,i,ρ,σ,hn,hP,hit => FL.go hX hx λ R hR => by
  have hi : i < l.length := by exact La.z38 hn
  have hV : l[i]? = some l[i] := List.getElem?_eq_getElem hi
  refine nx_tup hit hV ?_
  exact hs i _ ρ σ hV hP hit R (λ ρ' σ' h1 h2 => hR.next (FL.overT hX hx P hs he n (i + 1) ρ' σ' (by exact La.z39 hn) h1 h2)) λ V ρ' σ' q => hR.ret q
theorem FL.up {it : Addr} {N : Nat} {Q : Fl->Loc'->CH->Prop} (hX : ∀ e σ s,¬ C.X e σ s) (hx : C.env.kindOf xn = some .local\/C.env.kindOf xn = some .cell) (P : Nat->Loc'->CH->Prop)
  (hs : ∀ (i : Nat) ρ σ,i < N->P i ρ σ->∀ R : Fl->Loc'->CH->Prop,(∀ ρ' σ',P (i + 1) ρ' σ'->σ' it = some (.itR (i + 1 : Nat) (N - (i + 1 : Nat) : Int) 1)->R .next ρ' σ')->(∀ V ρ' σ',Q (.ret V) ρ' σ'->R (.ret V) ρ' σ')->σ it = some (.itR i (N - i : Int) 1)->EX C body ((xn,.int i) :: ρ) (upd σ it (.itR (i + 1 : Nat) (N - (i + 1 : Nat) : Int) 1)) R)
  (he : ∀ ρ σ,P N ρ σ->∀ m,σ it = some m->Q .next ρ (del σ it)) :
  ∀ (n i : Nat) (ρ : Loc') (σ : CH),n + i = N->P i ρ σ->σ it = some (.itR i (N - i : Int) 1)->FL C (.Name xn px) it body ρ σ Q
 | 0,i,ρ,σ,hn,hP,hit => FL.go hX hx λ R hR => nx_rngE hit (by exact La.l1 (.Q (.a .l0 .x0) .x1) (.l (.s (.c .x1) (.c .x0)) .l0) [[0,1,1]] rfl [_,_] [] hn) (he ρ σ ((show i = N by exact La.z37 hn) ▸ hP) _ hit)
 | n + 1,i,ρ,σ,hn,hP,hit => FL.go hX hx λ R hR => by
  refine nx_rng hit (by exact La.l1 (.Q (.a (.a .x0 .l1) .x1) .x2) (.t .l0 (.s (.c .x2) (.c .x1))) [[1,0,1]] rfl [_,_,_] [] hn) ?_
  have e : upd σ it (.itR ((i : Int) + 1) ((N : Int) - i - 1) 1) = upd σ it (.itR (i + 1 : Nat) (N - (i + 1 : Nat) : Int) 1) := by
   congr 2 <;> exact La.l0  (.q (.s (.s (.c .x0) (.c .x1)) .l1) (.s (.c .x0) (.c (.a .x1 .l1)))) [[1],[1]] rfl [_,_] []
  rw [e]
  exact hs i ρ σ (by exact La.z38 hn) hP R (λ ρ' σ' h1 h2 => hR.next (FL.up hX hx P hs he n (i + 1) ρ' σ' (by exact La.z39 hn) h1 h2)) (λ V ρ' σ' q => hR.ret q) hit
end
end Mine
end
section
open PySem PySem.W PySem.Calls PyProof.Rows PySem.Spec PySem.SeqAt PySem.Builtin PySem.Builtin.ObjectAttr
namespace Mine
noncomputable abbrev exObj (C : Addr) (d : Option Addr) (vs : Array Value) : Obj := { cls := .ref C,dict := d,data := .fields vs,slots := #[] }
theorem excMro_refuse (self : Value) : ∀ {l : List Value},excMro l = true->refuseLoop self "__setattr__" l = pure ()
 | .ref c :: r,e => by rw [refuseLoop_ref]; exact excMro_refuse self (by simpa [excMro] using e)
 | [],e => by simp [excMro] at e
 | .type n :: r,e => by rw [show (Value.type n :: r) = _ from beq_iff_eq.mp (show _ = true from e)]; exact PySem.F.store_Exception.passes self
 | .none :: r,e | .ellipsis :: r,e | .notImplemented :: r,e | .bool _ :: r,e | .int _ _ :: r,e | .float _ _ :: r,e | .str _ _ :: r,e | .bytes _ _ :: r,e | .builtin _ :: r,e => by simp [excMro] at e
theorem excMro_has : ∀ {l : List Value},excMro l = true->l.contains (.type "object") = true/\l.contains (.type "BaseException") = true/\l.isEmpty = false
 | .ref c :: r,e => by
  refine La.c3 (excMro_has (l := r) (by simpa [excMro] using e)) λ a b _ => ?_
  exact ⟨by rw [List.contains_cons,a,Bool.or_true],by rw [List.contains_cons,b,Bool.or_true],rfl⟩
 | [],e => by simp [excMro] at e
 | .type n :: r,e => by rw [show (Value.type n :: r) = _ from beq_iff_eq.mp (show _ = true from e)]; exact ⟨by decide,by decide,rfl⟩
 | .none :: r,e | .ellipsis :: r,e | .notImplemented :: r,e | .bool _ :: r,e | .int _ _ :: r,e | .float _ _ :: r,e | .str _ _ :: r,e | .bytes _ _ :: r,e | .builtin _ :: r,e => by simp [excMro] at e
section
variable {prog : Program} {w : World} {A : Around} {s : Shared} {K : Frag} {x Cl : Addr} {name : Str} {vs : Array Value}
theorem exInst {h : Heap} {d : Option Addr} {es : List DictEntry} {n : Nat} (hx : h.get? x = some (exObj Cl d vs)) (hd : match d with | some dx => h.get? dx = some (dictOf es n) | none => True) :
  InstAt h x (exObj Cl d vs) Cl (match d with | some _ => some (dictOf es n) | none => none) := by
 refine ⟨hx,rfl,rfl,?_⟩
 cases d with
 | none => trivial
 | some dx => exact hd
theorem osa_exc {R : Result->Shared->Prop} {tk : Tok} {v : Value} (X : K.In s.heap) (hx : s.heap.get? x = some (exObj Cl none vs)) (hp : excOver K Cl = true) (ht : findIn K (.ref Cl) name = some none) (hh : hasDictIn K Cl = true)
  (h : ∀ h',h'.get? x = some (exObj Cl (some s.heap.objs.size) vs)->h'.get? s.heap.objs.size = some (dictOf (putL name (PyData.keyHash w.params name) (.str name s.toks) v []) (putN name [] 0))->Heap.ExtBut x s.heap h'->R (.ok (.ret .none)) { s with heap := h',toks := s.toks + 1 }) :
  codeAny (model prog w) A (.call (.builtin "object.__setattr__") ⟨[.ref x,.str name tk,v],[]⟩) R s := by
 have SF := PySem.F.store_object
 have I := exInst (es := []) (n := 0) (d := none) hx trivial
 refine La.x1_2 (any_some hp) λ cd hc ho => ?_
 refine La.c3 (excMro_has ho) λ hob hba ne => ?_
 have sub : Looks (model prog w) s.heap (isInstance (.ref x) (.type "object")) true := I.type.andThen (looks_mroIn X (by unfold mroIn; rw [hc,Option.bind_some,if_neg (by rw [ne]; decide),hob]))
 refine codeAny_call_builtin SF.slot.plain SF.entry (@check_slot (model prog w) _ _ s "object.__setattr__" "object" "__setattr__" (.ref x) [.str name tk,v] [] _ SF.kind SF.split sub (SF.args (.ref x) (.str name tk) v) ?_)
 have hm : Looks (model prog w) s.heap (mroOf (.ref Cl)) cd.mro := (looks_clsIn X hc).andThen .now
 have L3 : Looks (model prog w) s.heap (storeTaker? none) none := .now
 rw [osa_eq,refuse_eq]
 refine wpAny_bind (wpAny_bind (I.type.here (wpAny_bind (hm.here ?_))))
 rw [excMro_refuse _ ho]
 refine wpAny_pure (wpAny_bind (I.type.here (wpAny_bind ((looks_findIn X ht).here (wpAny_bind (L3.here ?_))))))
 show wpAny _ _ (storeInOwnDict (.ref x) (.ref Cl) (.str name tk) name v _) _ _ _
 refine La.x1_2 (any_some hh) λ cd' hc' hd' => ?_
 have hx1 : (s.heap.push emptyDict).get? x = some (exObj Cl none vs) := Heap.get?_push_of_some _ hx
 have hxs : x ≠ s.heap.objs.size := Nat.ne_of_lt (Heap.lt_size hx)
 refine wpAny_bind (wpAny_pure (wpAny_bind (wpAny_bind (wpAny_loadPart hx (wpAny_bind ((looks_clsIn X hc').here ?_))))))
 rw [hd']
 refine wpAny_bind (wpAny_alloc ?_)
 refine wpAny_bind (wpAny_update hx1 ?_)
 refine wpAny_pure ?_
 show wpAny _ _ (storeInDict s.heap.objs.size (.str name tk) name v) _ _ _
 have D : ((s.heap.push emptyDict).update x λ o => { o with dict := some s.heap.objs.size }).get? s.heap.objs.size = some (dictOf [] 0) :=
  (Heap.get?_update_other _ _ hxs).trans (Heap.get?_push_at rfl rfl)
 have X1 : ((s.heap.push emptyDict).update x λ o => { o with dict := some s.heap.objs.size }).get? x = some (exObj Cl (some s.heap.objs.size) vs) := Heap.get?_update_self _ hx1 rfl
 generalize hg : (s.heap.push emptyDict).update x (λ o => { o with dict := some s.heap.objs.size }) = h1 at *
 have e := putName_dict name (PyData.keyHash w.params name) (.str name s.toks) v [] 0
 have D' : (h1.update s.heap.objs.size (Obj.putName name (PyData.keyHash w.params name) (.str name s.toks) v)).get? s.heap.objs.size = some (dictOf (putL name (PyData.keyHash w.params name) (.str name s.toks) v []) (putN name [] 0)) := by
  rw [<- e]; exact Heap.get?_update_self _ D (by rw [e]; rfl)
 have X2 : (h1.update s.heap.objs.size (Obj.putName name (PyData.keyHash w.params name) (.str name s.toks) v)).get? x = some (exObj Cl (some s.heap.objs.size) vs) := (Heap.get?_update_other _ _ hxs.symm).trans X1
 refine wpAny_bind (wpAny_pure (wpAny_bind ?_))
 unfold nsSet
 refine wpAny_bind (wpAny_bind (wpAny_askSetting (wpAny_pure (wpAny_bind (wpAny_mkText (wpAny_bind (wpAny_loadPart D ?_)))))))
 dsimp only
 have c : (!(([] : List DictEntry).toArray.any (·.key.isStr name)) && ([] : List DictEntry).toArray.any (·.refKey)) = false := by simp
 rw [aRefKeyMayBeTheName_at,c]
 refine wpAny_updatePart D ?_
 refine wpAny_bind (wpAny_lookBehind D' (pastItsLine_dict (by simp [putL,sizeLine_eq])) ?_)
 refine wpAny_pure (h _ X2 D' λ b o hb eb => ?_)
 rw [Heap.get?_update_other _ _ (Nat.ne_of_lt (Heap.lt_size eb)).symm,<- hg,Heap.get?_update_other _ _ (Ne.symm hb)]
 exact Heap.get?_push_of_some _ eb
end
section
variable {prog : Program} {w : World} {b : Heap} {σ : CH}
theorem Inv.see {h : Heap} {d : Addr} {m : MO} (I : Inv prog w b σ h) (hb : b.get? d = none) (ho : ORel prog w h d m) : Inv prog w b (upd σ d m) h := by
 refine ⟨λ a m' e => ?_,λ a o e => ⟨(I.2 a o e).1,?_⟩⟩
 ·by_cases q : a = d
  ·subst q; rw [up'] at e; cases e; exact ho
  ·rw [un' q] at e; exact I.1 a m' e
 ·rw [un']
  ·exact (I.2 a o e).2
  ·rintro rfl; rw [hb] at e; cases e
theorem Step.see {O : List Addr} {s s' : Shared} {σ' : CH} {d : Addr} {m : MO} (x : Step O σ s s' σ') (hd : s.heap.get? d = none) : Step O σ s s' (upd σ' d m) :=
 ⟨x.keep,λ a o e n k => by
  rw [un']
  ·exact x.new a o e n k
  ·intro z; subst z; rw [hd] at e; exact absurd e (by simp),x.gens,x.os⟩
theorem Inv.fresh {h : Heap} (I : Inv prog w b σ h) {d : Addr} (hd : h.get? d = none) : b.get? d = none/\σ d = none := by
 constructor
 ·cases q : b.get? d with
  | none => rfl
  | some o => have := (I.2 _ _ q).1; rw [hd] at this; cases this
 ·cases q : σ d with
  | none => rfl
  | some m => refine La.x1_1 (ORel.ex (I.1 _ _ q)) λ o e => ?_; rw [hd] at e; cases e
end
section
variable {C : Cx} {ρ : Loc'} {σ : CH}
theorem ES.setattrE {o value : Expr} {name : Str} {p pos : Pos} {Q : Fl->Loc'->CH->Prop} {mg : Str->Option Value} (B : Bs C mg)
  (h : EV C value ρ σ λ V σ₁ => EV C o ρ σ₁ λ W σ₂ => ∃ a Cl tb,W = .ref a/\σ₂ a = some (.exc Cl none tb)/\findIn C.K (.ref Cl) "__setattr__" = some (some (.builtin "object.__setattr__"))/\excOver C.K Cl = true/\findIn C.K (.ref Cl) name = some none/\hasDictIn C.K Cl = true /\
   ∀ d,σ₂ d = none->d ≠ a->Q .next ρ (upd (upd σ₂ a (.exc Cl (some d) tb)) d (.ns [(name,V)])))
  (hs : swapsWith value (some (.Attribute o name p)) pos.line C.env = pure false := by rfl) : ES C (.Assign [.Attribute o name p] value pos) ρ σ Q :=
 λ A s G S => plainObj_wpAny_Assign_Attribute (h.seqE G S (λ _ _ x => x) λ V v σ₁ s₁ h₁ r S₁ st₁ _ => h₁.seqE G S₁ (λ _ _ x => PX.up st₁ x) λ W u σ₂ s₂ h₂ r₂ S₂ st₂ k₂ => by
  refine La.x3_7 h₂ λ a Cl tb h'1 ha hsa hov hf hh q => ?_; clear h₂; subst h'1
  cases r₂
  refine La.x1_2 (S₂.inv.1 _ _ ha) λ vs gx g1 => ?_
  refine set_plain (S₂.inv.K B.K) (exInst (es := []) (n := 0) (d := none) gx trivial) hsa (osa_exc (s := { s₂ with toks := s₂.toks + 1 }) (S₂.inv.K B.K) gx hov hf hh λ h' e1 e2 e3 => ?_)
  have kt : KeepT s₂.heap h' := λ b o e t => e3 b o (λ q => by
   subst q
   exact ORel.notTup (S₂.inv.1 _ _ ha) e t) e
  refine La.c2 (S₂.inv.put (t := s₂.toks + 1 + 1) (m := .exc Cl (some s₂.heap.objs.size) tb) (.inl (by rw [ha]; simp)) e3 ⟨vs,e1,g1⟩ []) λ I' st' => ?_
  have fr := S₂.inv.fresh (d := s₂.heap.objs.size) fresh_none
  have I'' := I'.see fr.1 (m := .ns [(name,V)]) ⟨_,_,e2,NsR.put (kt.rel (k₂.rel r)) .nil⟩
  have st'' := st'.see (m := .ns [(name,V)]) (show s₂.heap.get? s₂.heap.objs.size = none from fresh_none)
  exact ⟨.next,ρ,_,q _ fr.2 (λ z => by rw [z,ha] at fr; cases fr.2),rfl,S₂.step I'' st'',((st₁.trans st₂).trans st'').O⟩) hs
theorem EX.setattrE {mg : Str->Option Value} {rest : List Stmt} (T : TC C mg) {o value : Expr} {name : Str} {p pos : Pos} {Q : Fl->Loc'->CH->Prop} (hs : swapsWith value (some (.Attribute o name p)) pos.line C.env = pure false)
  (h : EV C value ρ σ λ V σ₁ => EV C o ρ σ₁ λ W σ₂ => ∃ a tb,W = .ref a/\σ₂ a = some (.exc 51 none tb)/\findIn C.K (.ref 51) name = some none /\
   ∀ d,σ₂ d = none->d ≠ a->EX C rest ρ (upd (upd σ₂ a (.exc 51 (some d) tb)) d (.ns [(name,V)])) Q) : EX C (.Assign [.Attribute o name p] value pos :: rest) ρ σ Q :=
 EX.cons (ES.setattrE T.bs (h.mono λ V σ₁ k => k.mono λ W σ₂ => La.y2_4 λ a tb e1 e2 e3 q => ⟨a,51,tb,e1,e2,T.exc.sa,T.exc.ov,e3,T.exc.hd,q⟩) hs)
end
theorem ns_some_of {K : Frag} {h : Heap} {N : Addr} {m : Str->Option Value} {n : Str} {v : Value} (X : K.In h) (G : h.Ns N m) (e : nsIn K N n = some (some v)) : m n = some v := by
 refine La.x3_4 G λ o es ep ho hd _ hf => ?_; clear G
 unfold nsIn at e
 split at e
 ·rename_i c d es' n' sl q
  have z := X _ _ q
  rw [ho] at z; cases z; cases hd
  split at e
  ·rename_i en he
   rw [<- hf]
   simp only [Option.some.injEq] at e
   subst e
   simp only [nsFind,findBy,<- Array.find?_toList,he,Option.map_some]
  ·split at e <;> cases e
 ·cases e
theorem anyT {α : Type} {o : Option α} {f : α->Bool} (h : o.any f = true) : ∃ a,o = some a/\f a = true := by
 cases o with
 | none => exact (Bool.false_ne_true h).elim
 | some a => exact ⟨a,rfl,h⟩
theorem clsD_inv {d : Data} {cd : ClassData} (h : clsD d = some cd) : d = .cls cd := by
 cases d with
 | cls c => exact congrArg _ (Option.some.inj h)
 | _ => exact absurd h.symm (Option.some_ne_none _)
theorem consOf {α : Type} {l : List α} {n : Nat} (h : l.length = n + 1) : ∃ a r,l = a :: r/\r.length = n := by
 cases l with
 | nil => exact absurd h.symm (Nat.succ_ne_zero _)
 | cons a r => exact ⟨a,r,rfl,Nat.succ.inj h⟩
theorem six {α : Type} {l : List α} {v : α} (h : l.length = 6) (h4 : l[4]? = some v) : ∃ a b c d f,l = [a,b,c,d,v,f] := by
 refine La.x2_2 (consOf h) λ a l1 e1 h => ?_
 refine La.x2_2 (consOf h) λ b l2 e2 h => ?_
 refine La.x2_2 (consOf h) λ c l3 e3 h => ?_
 refine La.x2_2 (consOf h) λ d l4 e4 h => ?_
 refine La.x2_2 (consOf h) λ w l5 e5 h => ?_
 refine La.x2_2 (consOf h) λ f l6 e6 h => ?_
 rw [e1,e2,e3,e4,e5,e6] at h4 ⊢
 exact ⟨a,b,c,d,f,by rw [Option.some.inj h4,List.eq_nil_of_length_eq_zero h]⟩
theorem head_inv {α : Type} {l : List α} {v : α} (h : l.head? = some v) : l = v :: l.tail := by
 cases l with
 | nil => exact absurd h.symm (Option.some_ne_none _)
 | cons a l => rw [Option.some.inj h]; rfl
theorem excI_obj {K : Frag} {h : Heap} {C fI : Addr} (X : K.In h) (e : excI K C fI = true) : ∃ nm q N bs bm hdct sn sub ab col dd k0 k1 k2 k3 k5 mN,
  h.get? C = some (excClassObj nm q C N bs bm hdct sn sub ab col dd k0 k1 k2 k3 k5 "Exception.__new__")/\h.Ns N mN/\mN "__init__" = some (.ref fI)/\OwnTail h [.type "Exception",.type "BaseException",.type "object"] bm := by
 refine La.x1_2 (anyT e) λ o ho e => ?_
 have e := Bool.and_eq_true_iff.mp e
 refine La.x1_2 (anyT e.2) λ cd hcd e2 => ?_
 have e1 := Bool.and_eq_true_iff.mp e.1
 have e3 := Bool.and_eq_true_iff.mp e1.2
 have e2 := Bool.and_eq_true_iff.mp e2
 have e4 := Bool.and_eq_true_iff.mp e2.1
 have e5 := Bool.and_eq_true_iff.mp e2.2
 have e6 := Bool.and_eq_true_iff.mp e5.2
 refine La.x5_1 (six (eq_of_beq e3.1) (eq_of_beq e3.2)) λ k0 k1 k2 k3 k5 hs => ?_
 have hm := head_inv (eq_of_beq e4.1)
 have hd := clsD_inv hcd
 have hdel := e4.2
 have G := Heap.Ns.of_isNs (isNs_of_in X e6.1)
 have h1 := ns_some_of X G (eq_of_beq e6.2)
 have h2 := tail_of_in X e5.1
 generalize cd.mro.tail = bm at *
 have hc := eq_of_beq e1.1
 clear e e1 e2 e3 e4 e5 e6 hcd
 obtain ⟨cls,dd,data,l⟩ := o
 dsimp only at hc hd hs
 subst hc hd
 obtain ⟨nm,bs,mro,ns,qn,hd,sn,sub,ab,col,del⟩ := cd
 dsimp only at hm hdel G h1
 subst hm
 cases del with
 | true => exact (Bool.false_ne_true hdel).elim
 | false =>
  obtain ⟨l⟩ := l
  dsimp only at hs
  subst hs
  exact ⟨nm,qn,ns,bs,bm,hd,sn,sub,ab,col,dd,k0,k1,k2,k3,k5,_,X _ _ ho,G,h1,h2⟩
section
variable {prog : Program} {w : World} {A : Around} {E : Value->Shared->Prop} {h : Heap} {g : Array GenState} {d : Drawn} {t : Nat} {os : OsState}
variable {nm q : Str} {C N : Addr} {bs bm bmB : List Value} {hdct : Bool} {sn : List Str} {sub : List Value} {ab : Bool} {col : Option Bool} {dd : Option Addr} {k0 k1 k2 k3 k5 : Option Value} {B newId initId : String}
theorem made_excI (F : ExcBaseFacts B newId initId bmB) (T : OwnTail h bmB bm) {mN : Str->Option Value} {rest : List Value} {fI : Addr} {oI : Obj} {Q : Value->Shared->Prop}
  (hC : h.get? C = some (excClassObj nm q C N bs bm hdct sn sub ab col dd k0 k1 k2 k3 k5 newId)) (hn : h.Ns N mN) (hi : mN "__init__" = some (.ref fI)) (hfI : h.get? fI = some oI) (hfc : oI.cls = .type "function") (hrest : rest.length<=sizeLine)
  (hq : wpAny (model prog w) (A.under (.builtin "type.__call__" ⟨.ref C :: rest,[]⟩)) (call (.ref fI) (.ref (h.objs.size + 1) :: rest)) (λ r s' => r = .none/\Q (.ref (h.objs.size + 1)) s') E
   ⟨(h.push { cls := .type "tuple",data := .seq rest.toArray }).push (exObj C none #[.ref h.objs.size,.none,.none,.none,.bool false,.none]),g,d,t,os⟩) :
  wpAny (model prog w) A (call (.ref C) rest) Q E ⟨h,g,d,t,os⟩ := by
 have f1 := tc_lookup
 have f2 := tc_bind (.ref C)
 have hT : (⟨h,g,d,t,os⟩ : Shared).TypeIs (.ref C) "type" := ⟨_,hC,rfl⟩
 refine wpAny_call (codeAny_of_tree ?_)
 show wpAny _ _ (callAny (.ref C) _) _ _ _
 repeat (any_goals (first | assumption | with_reducible refine wpAny_loadPart_at hC ?_ | wp_step))
 refine ⟨rfl,?_⟩
 refine codeAny_call_builtin_at (Code.quiet_builtin _ (by decide +kernel)) entry_typeCall (wpAny_check_type_call_sub hC ?_)
 show wpAny _ _ (Builtin.«type.__call__» ⟨.ref C :: rest,[]⟩) _ _ _
 repeat (first | with_reducible refine wpAny_loadPart_at hC ?_ | with_reducible refine wpAny_madeBy_exc hC ?_ | wp_step)
 refine codeAny_call_builtin_code (Code.quiet_builtin _ F.quiet) (wpAny_check_new_subT F T hC ?_)
 refine codeAny_exc_new_subT F T hC ?_ hrest
 show wpAny _ _ _ _ _ _
 have up : ∀ {a : Addr} {o : Obj},h.get? a = some o->((h.push { cls := .type "tuple",data := .seq rest.toArray }).push { cls := .ref C,data := .fields #[.ref h.objs.size,.none,.none,.none,.bool false,.none] }).get? a = some o :=
  λ e => Heap.get?_push_of_some _ (Heap.get?_push_of_some _ e)
 have hC₁ := up hC
 have hfI₁ := up hfI
 have hn₁ : ((h.push { cls := .type "tuple",data := .seq rest.toArray }).push { cls := .ref C,data := .fields #[.ref h.objs.size,.none,.none,.none,.bool false,.none] }).Ns N mN := Ns.keep1 hn λ o e => up e
 have T₁ := T.keeps (h' := (h.push { cls := .type "tuple",data := .seq rest.toArray }).push { cls := .ref C,data := .fields #[.ref h.objs.size,.none,.none,.none,.bool false,.none] }) λ b o e => up e
 have hget : ((h.push { cls := .type "tuple",data := .seq rest.toArray }).push { cls := .ref C,data := .fields #[.ref h.objs.size,.none,.none,.none,.bool false,.none] }).get? (h.objs.size + 1) = some { cls := .ref C,data := .fields #[.ref h.objs.size,.none,.none,.none,.bool false,.none] } :=
  Heap.get?_push_at (by simp only [Heap.size_push]) rfl
 have hcC : (Value.ref C :: bm).contains (.ref C) = true := by simp
 unfold isInstance
 repeat (first | with_reducible refine wpAny_loadPart_at hget ?_ | (with_reducible refine wpAny_isSubtype_exc hC₁ ?_; rw [hcC]) | wp_step)
 show wpAny _ _ (typeLookup (.ref C) _) _ _ _
 refine wpAny_typeLookup_tail hC₁ hn₁ T₁ F.mroIs F.init.lookup ?_
 rw [hi]
 refine wpAny_holding (wpAny_bind ?_)
 unfold bindSpecial
 refine wpAny_bind (wpAny_typeOf (T := "function") ⟨_,hfI₁,hfc⟩ ?_)
 rw [if_pos (by decide)]
 refine wpAny_pure (wpAny_bind (wpAny_mono hq (λ r s' hr => ?_) λ _ _ x => x))
 refine La.c2 hr λ h'1 hQ => ?_; clear hr; subst h'1
 wp_walk
 exact hQ
end
theorem FC.exc {C : Cx} {σ : CH} {mg : Str->Option Value} {n : Nat} {vs : List PV} {Q : PV->CH->Prop} (T : TC C mg) (hn : C.n = n + 1) (hz : vs.length<=100)
  (h : ∀ x,σ x = none->FC { C with n := n } (.ref 48) (.ref x :: vs) (upd σ x (.exc 51 none .none)) λ V σ' => V = .none/\Q (.ref x) σ') : FC C (.ref 51) vs σ Q := by
 intro A s vals G I F r
 obtain ⟨hh,g,d,t,os⟩ := s
 have X : C.K.In hh := I.K T.hK
 refine La.x6_1 (excI_obj X T.exc.cls) λ nm q N bs bm hdct e'' => La.x5_1 e'' λ sn sub ab col dd e'' => La.x6_4 e'' λ k0 k1 k2 k3 k5 mN hC hN hi OT => ?_
 obtain ⟨oI,hoI,hcI⟩ : ∃ oI,hh.get? 48 = some oI/\oI.cls = .type "function" := by
  have e := T.exc.fn
  unfold typeIn at e
  refine La.x1_2 (Option.map_eq_some_iff.mp e) λ oI e1 e2 => ?_
  exact ⟨oI,X _ _ e1,e2⟩
 have hl := r.length
 refine La.c2 (I.grow (s := ⟨hh,g,d,t,os⟩) (h' := hh.push { cls := .type "tuple",data := .seq vals.toArray }) (t := t) (λ a o e => Heap.get?_push_of_some _ e) []) λ I₁ st₁ => ?_
 refine La.c2 (I₁.alloc (s := ⟨hh.push { cls := .type "tuple",data := .seq vals.toArray },g,d,t,os⟩) (t := t) (o := exObj 51 none #[.ref hh.objs.size,.none,.none,.none,.bool false,.none]) (m := .exc 51 none .none) ⟨_,Heap.get?_push_size _ rfl,rfl⟩ []) λ I₂ st₂ => ?_
 have sz : (hh.push { cls := .type "tuple",data := .seq vals.toArray }).objs.size = hh.objs.size + 1 := Heap.size_push ..
 dsimp only at I₂ st₂
 rw [sz] at I₂ st₂
 have n2 : σ (hh.objs.size + 1) = none := by
  cases q : σ (hh.objs.size + 1) with
  | none => rfl
  | some m => refine La.x1_1 (ORel.ex (I.1 _ _ q)) λ o e => ?_; exact absurd (show hh.objs.size + 1 < hh.objs.size from Heap.lt_size e) (by exact La.z68)
 have st := st₁.trans st₂
 have F₂ := F.step st (by simp)
 have G₁ : GA { C with n := n } (A.under (.builtin "type.__call__" ⟨.ref 51 :: vals,[]⟩)) :=
  ⟨by have := G.depth; show A.depth + 1 + 2 * n < _; exact La.z25 hn this,by have := G.units; show A.units + 1 + 12 * n + 400 < _; exact La.z69 hn this,G.handled,G.frames⟩
 have kt : KeepT hh ((hh.push { cls := .type "tuple",data := .seq vals.toArray }).push (exObj 51 none #[.ref hh.objs.size,.none,.none,.none,.bool false,.none])) := λ a o e _ => Heap.get?_push_of_some _ (Heap.get?_push_of_some _ e)
 refine made_excI PySem.F.excBase_Exception OT hC hN hi hoI hcI (by have := r.length; rw [sizeLine_eq]; exact La.l2 (.L .x0 (.l 100)) (.Q .x0 .x1) (.L .x1 (.l 16777216)) [[1,0,1,1]] rfl [_,_] [] hz hl) ?_
 refine wpAny_mono (h _ n2 _ ⟨_,g,d,t,os⟩ (.ref (hh.objs.size + 1) :: vals) G₁ I₂ F₂ (.cons rfl (kt.rels r))) (λ v s' x => ?_) λ e s' x => ?_
 ·refine La.x2_4 x λ V σ' h'1 rv i y => ?_; clear x; refine La.c2 h'1 λ h'2 q => ?_; clear h'1; subst h'2
  exact ⟨rv,⟨_,σ',q,rfl,i,st.trans y⟩⟩
 ·refine La.x1_3 x λ σ' a b c => ?_; clear x
  exact ⟨σ',a,b,st.trans c⟩
section
variable {M : Model} {A : Around} {E : Value->Shared->Prop} {env : Env} {s : Shared}
variable {nm q : Str} {C N : Addr} {bs bm : List Value} {hdct : Bool} {sn : List Str} {sub : List Value} {ab : Bool} {col : Option Bool} {dd : Option Addr} {k0 k1 k2 k3 k5 : Option Value} {newId : String}
theorem raise_inst {x : Sem Value} {Q : Flow->Shared->Prop} (hbase : bm.contains (.type "BaseException") = true) (hh : A.handled = none)
  (h : wpAny M A x (λ v s₁ => ∃ e vs d,v = .ref e/\s₁.heap.get? C = some (excClassObj nm q C N bs bm hdct sn sub ab col dd k0 k1 k2 k3 k5 newId) /\
   s₁.heap.get? e = some { cls := .ref C,dict := d,data := .fields vs,slots := #[] }/\vs[1]? = some .none/\E (.ref e) s₁) E s) :
  wpAny M A (raiseStmt env (some x) none) Q E s := by
 have hcB : (Value.ref C :: bm).contains (.type "BaseException") = true := by rw [List.contains_cons,hbase,Bool.or_true]
 unfold raiseStmt
 refine wpAny_bind (wpAny_mono h (λ v s₁ h₁ => ?_) λ _ _ x => x)
 refine La.x3_5 h₁ λ e vs d h'1 hC he h1 hE => ?_; clear h₁; subst h'1
 obtain ⟨hp,g,dr,tk,os⟩ := s₁
 dsimp only at he
 repeat (first | with_reducible refine wpAny_loadPart_at he ?_ | with_reducible refine wpAny_loadPart_at hC ?_ | (with_reducible refine wpAny_isSubtype_exc hC ?_; rw [hcB]) | with_reducible refine wpAny_field he rfl h1 ?_ | wp_step)
 exact wpAny_raiseNew_none hh hE
end
section
variable {C : Cx} {ρ : Loc'} {σ : CH}
theorem ES.raise {mg : Str->Option Value} (T : TC C mg) {e : Expr} {pos : Pos} {Q : Fl->Loc'->CH->Prop} (h : EV C e ρ σ λ V σ₁ => ∃ a d,V = .ref a/\σ₁ a = some (.exc 51 d .none)/\∀ s',FrOk C.b σ₁ s'.heap C.fl->C.X (.ref a) σ₁ s') : ES C (.Raise (some e) none pos) ρ σ Q := λ A s G S => by
 refine La.x6_1 (excI_obj T.hK T.exc.cls) λ nm q N bs bm hdct e'' => La.x5_1 e'' λ sn sub ab col dd e'' => La.x6_4 e'' λ k0 k1 k2 k3 k5 mN hC hN hi OT => ?_
 rw [arm_exec_Raise]
 refine wpAny_bind (wpAny_standAt (raise_inst (C := 51) (nm := nm) (q := q) (N := N) (bs := bs) (bm := bm) (hdct := hdct) (sn := sn) (sub := sub) (ab := ab) (col := col) (dd := dd) (k0 := k0) (k1 := k1) (k2 := k2) (k3 := k3) (k5 := k5) (newId := "Exception.__new__") (OT.hasType (by decide)) G.handled (wpAny_bind (h.seq G S λ V v σ₁ s₁ qq r S₁ st₁ _ => wpAny_bind (wpAny_standAt (wpAny_pure ?_))))))
 refine La.x2_3 qq λ a d h'1 ha hx => ?_; clear qq; subst h'1
 cases r
 refine La.x1_2 (S₁.inv.1 _ _ ha) λ vs gx g1 => ?_
 exact ⟨a,vs,d,rfl,(S₁.inv.2 _ _ hC).1,gx,g1,σ₁,hx _ S₁.fr,S₁.inv,st₁.O⟩
theorem EX.raise {mg : Str->Option Value} {rest : List Stmt} (T : TC C mg) {e : Expr} {pos : Pos} {Q : Fl->Loc'->CH->Prop} (h : EV C e ρ σ λ V σ₁ => ∃ a d,V = .ref a/\σ₁ a = some (.exc 51 d .none)/\∀ s',FrOk C.b σ₁ s'.heap C.fl->C.X (.ref a) σ₁ s') : EX C (.Raise (some e) none pos :: rest) ρ σ Q := EX.cons (ES.raise T h)
end
section
variable {prog : Program} {w : World} {b : Heap} {σ : CH} {s : Shared} {l : List Env}
theorem FrOk.fun {h base : Heap} (F : FrOk b σ h l) (hb : ∀ a,(∃ e ∈ l,e.frame = some a)->base.get? a = none) : h.FunFrames base l := by
 induction l with
 | nil => trivial
 | cons e r ih =>
  refine La.c2 (F e List.mem_cons_self) λ h1 h'1 => ?_; refine La.x2_5 h'1 λ L o h2 h3 h4 h5 h6 => ?_; clear h'1
  exact ⟨h1,⟨L,o,h2,hb L ⟨e,List.mem_cons_self,h2⟩,h4,h5.1⟩,ih (λ e he => F e (List.mem_cons_of_mem _ he)) λ a ⟨e,he,q⟩ => hb a ⟨e,List.mem_cons_of_mem _ he,q⟩⟩
theorem Inv.real {h' : Heap} {t : Nat} (I : Inv prog w b σ s.heap) (F : FrOk b σ s.heap l) (hs : Heap.SlotsOnly (l.filterMap (·.frame)) s.heap h') (O : List Addr) : Inv prog w b σ h'/\Step O σ s { s with heap := h',toks := t } σ := by
 have frm : ∀ a ∈ l.filterMap (·.frame),σ a = none/\b.get? a = none/\∃ o,s.heap.get? a = some o/\Frm o := λ a ha => by
  refine La.x1_2 (List.mem_filterMap.mp ha) λ e he q => ?_
  refine La.c2 (F e he) λ _ h'1 => ?_; refine La.x2_5 h'1 λ L o h2 h3 h4 h5 h6 => ?_; clear h'1
  rw [q] at h2; cases h2
  exact ⟨h6,h3,o,h4,h5⟩
 have kt : KeepT s.heap h' := λ a o e t => by
  rw [hs.2.1 a λ ha => ?_]
  ·exact e
  ·refine La.c3 (frm a ha) λ _ _ h'1 => ?_; refine La.x1_2 h'1 λ o' e' f => ?_; clear h'1
   rw [e] at e'; cases e'
   refine La.c2 t λ _ h'1 => ?_; clear t; refine La.x2_1 h'1 λ vs n q => ?_; clear h'1
   exact f.2 _ _ q
 refine ⟨⟨λ a m e => ?_,λ a o e => ?_⟩,λ a o e n _ => ?_,λ _ _ _ n _ => n,rfl,rfl⟩
 ·refine ORel.mono (I.1 a m e) (λ o g => ?_) kt
  rw [hs.2.1 a λ ha => ?_]
  ·exact g
  ·have := (frm a ha).1; rw [e] at this; cases this
 ·refine ⟨?_,(I.2 a o e).2⟩
  rw [hs.2.1 a λ ha => ?_]
  ·exact (I.2 a o e).1
  ·have := (frm a ha).2.1; rw [e] at this; cases this
 ·by_cases ha : a ∈ l.filterMap (·.frame)
  ·refine La.c3 (frm a ha) λ _ _ h'1 => ?_; refine La.x1_2 h'1 λ o' e' f => ?_; clear h'1
   rw [e] at e'; cases e'
   exact .inr ⟨f.2,f.1,hs.2.2 a o e⟩
  ·exact .inl (by rw [hs.2.1 a ha]; exact e)
end
section
variable {C : Cx} {σ : CH} {A : Around} {s : Shared} {E : Value->Shared->Prop} {env : Env} {outer : List Env} {L a : Addr} {Cl : Addr} {d : Option Addr} {tb : Value}
noncomputable def TbOk (σ : CH) (a : Addr) (tb : Value) : Prop := tb = .none\/∃ T fl,tb = .ref T/\T ≠ a/\σ T = some (.trb fl)
theorem entry_X {M : Model} {head : Value} {hadNext : Bool} {Q : Unit->Shared->Prop} (hA : A.frames = some (env :: outer)) (I : Inv C.prog C.w C.b σ s.heap) (F : FrOk C.b σ s.heap (env :: outer)) (hf : env.frame = some L) (ha : σ a = some (.exc Cl d tb))
  (k : ∀ T h' ,σ T = none->T ≠ a->s.heap.get? T = none->Inv C.prog C.w C.b (upd (upd σ a (.exc Cl d (.ref T))) T (.trb (rawInt L))) h'->Step [] σ s { s with heap := h' } (upd (upd σ a (.exc Cl d (.ref T))) T (.trb (rawInt L)))->Q () { s with heap := h' }) :
  wpAny M A (do let f <- frameOf env; let pl <- entryPlaceOf L hadNext; let b <- EntryCells.newEntry head f .none (rawInt L) .none pl; setField (.ref a) 1 b) Q E s := by
 have nb : ∀ x,(∃ e ∈ env :: outer,e.frame = some x)->C.b.get? x = none := λ x ⟨e,he,q⟩ => by
  refine La.c2 (F e he) λ _ h'1 => ?_; refine La.x2_3 h'1 λ L o h2 h3 _ => ?_; clear h'1
  rw [q] at h2; cases h2; exact h3
 refine wpAny_bind (wpAny_frameOf_fun hA (F.fun nb) hf λ h₁ hs₁ => ?_)
 refine La.c2 (I.real (t := s.toks) F hs₁ []) λ I₁ st₁ => ?_
 refine wpAny_bind (wpAny_entryPlaceOf λ pl hpl => ?_)
 unfold EntryCells.newEntry newFields
 refine wpAny_bind (wpAny_newObj_type ?_ (hpl.sizeOk5 _ _ _ _ _))
 refine La.x1_2 (I₁.1 _ _ ha) λ vs gx g1 => ?_
 have hsz : 1 < vs.size := (Array.getElem?_eq_some_iff.mp g1).1
 obtain ⟨I₂,st₂⟩ := I₁.alloc (s := { s with heap := h₁ }) (t := s.toks) (o := { cls := .type "traceback",dict := none,data := .fields ([head,.ref L,.none,rawInt L,.none] ++ (if pl.isEmpty then List.replicate 6 Value.none else pl)).toArray })
  (m := .trb (rawInt L)) ⟨_,_,Heap.get?_push_size _ rfl,rfl,rfl,by rcases hpl with rfl | ⟨_,_,_,_,_,_,_,rfl⟩ <;> simp⟩ []
 have hTn : σ h₁.objs.size = none := I₁.freshσ
 have hTa : h₁.objs.size ≠ a := λ q => by rw [q,ha] at hTn; cases hTn
 have gx2 := Heap.get?_push_of_some (h := h₁) { cls := .type "traceback",dict := none,data := .fields ([head,.ref L,.none,rawInt L,.none] ++ (if pl.isEmpty then List.replicate 6 Value.none else pl)).toArray } gx
 refine wpAny_setField gx2 rfl hsz ?_
 dsimp only at I₂ st₂
 generalize (h₁.push { cls := .type "traceback",dict := none,data := .fields ([head,.ref L,.none,rawInt L,.none] ++ (if pl.isEmpty then List.replicate 6 Value.none else pl)).toArray }) = h₂ at *
 obtain ⟨I₃,st₃⟩ := I₂.put (s := { s with heap := h₂ }) (h' := h₂.update a (Obj.mapFields (·.setIfInBounds 1 (.ref h₁.objs.size)))) (t := s.toks) (x := a) (m := .exc Cl d (.ref h₁.objs.size)) (.inl (by rw [un' hTa.symm,ha]; simp)) (Heap.SameBut.update ..).extBut
  ⟨_,Heap.get?_update_self _ gx2 rfl,by simp [hsz]⟩ []
 have e : upd (upd σ h₁.objs.size (.trb (rawInt L))) a (.exc Cl d (.ref h₁.objs.size)) = upd (upd σ a (.exc Cl d (.ref h₁.objs.size))) h₁.objs.size (.trb (rawInt L)) := by
  funext x
  unfold upd
  by_cases q : x = a
  ·have z : x ≠ h₁.objs.size := λ z => hTa (z.symm.trans q)
   rw [if_pos q,if_neg z,if_pos q]
  ·by_cases z : x = h₁.objs.size <;> simp [q,z,hTa]
 rw [e] at I₃ st₃
 have hsT : s.heap.get? h₁.objs.size = none := by
  cases q : s.heap.get? h₁.objs.size with
  | none => rfl
  | some o => have := Heap.lt_size q; rw [hs₁.1] at this; exact absurd this (Nat.lt_irrefl _)
 exact k _ _ hTn hTa hsT I₃ ((st₁.trans st₂).trans st₃)
noncomputable def Kx (a : Addr) (tb : Value) (σ σ' : CH) : Prop := ∀ x m,x ≠ a->tb ≠ .ref x->σ x = some m->σ' x = some m
theorem flight_X {M : Model} {f : Option Addr} {Q : Unit->Shared->Prop} (I : Inv C.prog C.w C.b σ s.heap) (ha : σ a = some (.exc Cl d tb)) (htb : TbOk σ a tb)
  (k : ∀ h' σ',σ' a = some (.exc Cl d tb)->TbOk σ' a tb->Kx a tb σ σ'->Inv C.prog C.w C.b σ' h'->Step [] σ s { s with heap := h' } σ'->Q () { s with heap := h' }) : wpAny M A (setFlight (.ref a) f) Q E s := by
 refine La.x1_2 (I.1 _ _ ha) λ vs gx g1 => ?_
 unfold setFlight
 refine wpAny_bind (wpAny_field gx rfl g1 ?_)
 rcases htb with rfl | ⟨T,fl,rfl,hTa,hT⟩
 ·rw [if_neg (by decide)]
  exact wpAny_pure (k s.heap σ ha (.inl rfl) (λ _ _ _ _ h => h) I Step.refl)
 ·rw [if_pos (show (Value.ref T != Value.none) = true from by simp)]
  refine La.x2_4 (I.1 _ _ hT) λ oT ts gT cT dT fT => ?_
  have hsz : 3 < ts.size := (Array.getElem?_eq_some_iff.mp fT).1
  refine wpAny_setField gT dT hsz ?_
  obtain ⟨I',st'⟩ := I.put (s := s) (h' := s.heap.update T (Obj.mapFields (·.setIfInBounds 3 (f.elim .none λ f => rawInt f)))) (t := s.toks) (x := T) (m := .trb (f.elim .none λ f => rawInt f)) (.inl (by rw [hT]; simp)) (Heap.SameBut.update ..).extBut
   ⟨_,_,Heap.get?_update_self _ gT (Obj.isFreed_of_fields (Obj.data_mapFields dT _)),(Obj.cls_mapFields _ _).trans cT,Obj.data_mapFields dT _,by simp [hsz]⟩ []
  exact k _ _ ((un' hTa.symm).trans ha) (.inr ⟨T,_,rfl,hTa,up'⟩) (λ x m _ n h => by
   rw [un']
   ·exact h
   ·rintro rfl; exact n rfl) I' st'
theorem note_X {M : Model} {Q : Unit->Shared->Prop} (hA : A.frames = some (env :: outer)) (I : Inv C.prog C.w C.b σ s.heap) (F : FrOk C.b σ s.heap (env :: outer)) (hf : env.frame = some L) (ha : σ a = some (.exc Cl d tb)) (htb : TbOk σ a tb)
  (k : ∀ T h' σ',σ' a = some (.exc Cl d (.ref T))->TbOk σ' a (.ref T)->(tb = .ref T\/s.heap.get? T = none)->Kx a tb σ σ'->Inv C.prog C.w C.b σ' h'->Step [] σ s { s with heap := h' } σ'->Q () { s with heap := h' }) : wpAny M A (noteFrame (.ref a) env) Q E s := by
 refine La.x1_2 (I.1 _ _ ha) λ vs gx g1 => ?_
 unfold noteFrame
 simp only [hf]
 refine wpAny_bind (wpAny_field gx rfl g1 ?_)
 rcases htb with rfl | ⟨T,fl,rfl,hTa,hT⟩
 ·rw [if_neg (by decide)]
  refine entry_X (C := C) (σ := σ) hA I F hf ha λ T h' n1 n2 n3 I' st' => ?_
  refine k T h' _ ((un' n2.symm).trans up') (.inr ⟨T,_,rfl,n2,up'⟩) (.inr n3) (λ x m hx _ h => ?_) I' st'
  rw [un',un' hx]
  ·exact h
  ·rintro rfl; rw [n1] at h; cases h
 ·rw [if_pos (show (Value.ref T != Value.none) = true from by simp)]
  refine La.x2_4 (I.1 _ _ hT) λ oT ts gT cT dT fT => ?_
  have hsz : 3 < ts.size := (Array.getElem?_eq_some_iff.mp fT).1
  refine wpAny_bind (wpAny_field gT dT fT ?_)
  by_cases hb : (fl == rawInt L) = true
  ·rw [if_pos hb]
   exact wpAny_pure (k T s.heap σ ha (.inr ⟨T,fl,rfl,hTa,hT⟩) (.inl rfl) (λ _ _ _ _ h => h) I Step.refl)
  ·rw [if_neg hb]
   refine wpAny_bind (wpAny_setField gT dT hsz ?_)
   obtain ⟨I',st'⟩ := I.put (s := s) (h' := s.heap.update T (Obj.mapFields (·.setIfInBounds 3 .none))) (t := s.toks) (x := T) (m := .trb .none) (.inl (by rw [hT]; simp)) (Heap.SameBut.update ..).extBut
    ⟨_,_,Heap.get?_update_self _ gT (Obj.isFreed_of_fields (Obj.data_mapFields dT _)),(Obj.cls_mapFields _ _).trans cT,Obj.data_mapFields dT _,by simp [hsz]⟩ []
   refine entry_X (C := C) (σ := upd σ T (.trb .none)) hA I' (F.step st' (by simp)) hf ((un' hTa.symm).trans ha) λ T' h' n1 n2 n3 I'' st'' => ?_
   have hTT : T' ≠ T := λ q => by subst q; rw [up'] at n1; cases n1
   refine k T' h' _ ((un' n2.symm).trans up') (.inr ⟨T',_,rfl,n2,up'⟩) (.inr ?_) (λ x m hx hn h => ?_) I'' (st'.trans st'')
   ·cases q : s.heap.get? T' with
    | none => rfl
    | some o => rw [show (s.heap.update T _).get? T' = _ from Heap.get?_update_other _ _ hTT.symm,q] at n3; cases n3
   ·have hxT : x ≠ T := by rintro rfl; exact hn rfl
    rw [un',un' hx,un' hxT]
    ·exact h
    ·rintro rfl; rw [un' hxT,h] at n1; cases n1
end
section
variable {prog : Program} {w : World} {A : Around} {E : Value->Shared->Prop} {K : Frag} {x Cl dx : Addr} {name : Str} {vs : Array Value} {h : Heap} {g : Array GenState} {dr : Drawn} {t : Nat} {os : OsState} {es : List DictEntry} {n : Nat} {v : Value}
theorem tl_at {M : Model} {T : Value} {r : Option Value} {Q : Option Value->Shared->Prop} (X : K.In h) (e : findIn K T name = some r) (q : Q r ⟨h,g,dr,t,os⟩) : wpAny M A (typeLookup T name) Q E ⟨h,g,dr,t,os⟩ := (looks_findIn X e).at q
theorem ga_call {tk : Tok} {R : Result->Shared->Prop} (X : K.In h) (I : InstAt h x (exObj Cl (some dx) vs) Cl (some (dictOf es n))) (hp : excOver K Cl = true) (hf : findObj K Cl (some (dictOf es n)) name = some (.value v)) (hq : R (.ok (.ret v)) ⟨h,g,dr,t,os⟩) :
  codeAny (model prog w) A (.call (.builtin "BaseException.__getattribute__") ⟨[.ref x,.str name tk],[]⟩) R ⟨h,g,dr,t,os⟩ := by
 refine La.x1_2 (any_some hp) λ cd hc ho => ?_
 refine La.c3 (excMro_has ho) λ hob hba ne => ?_
 have sub : Looks (model prog w) h (isInstance (.ref x) (.type "BaseException")) true := I.type.andThen (looks_mroIn X (by unfold mroIn; rw [hc,Option.bind_some,if_neg (by rw [ne]; decide),hba]))
 refine codeAny_call_builtin PySem.F.attrBase_Exception.ga.plain PySem.F.entry_bexc_ga (@check_slot (model prog w) _ _ ⟨h,g,dr,t,os⟩ "BaseException.__getattribute__" "BaseException" "__getattribute__" (.ref x) [.str name tk] [] _ (by decide +kernel) (by decide +kernel) sub (PySem.F.args_bexc_ga (.ref x) (.str name tk)) ?_)
 have L0 := I.type (M := model prog w)
 have L1 := looks_find (M := model prog w) X I hf
 unfold Builtin.«object.__getattribute__»
 repeat (any_goals (first | assumption | with_reducible refine L0.at ?_ | with_reducible refine L1.at ?_ | wp_step))
theorem get_exc {expr : Bool} {Q : Value->Shared->Prop} (X : K.In h) (I : InstAt h x (exObj Cl (some dx) vs) Cl (some (dictOf es n))) (hp : excOver K Cl = true) (hga : findIn K (.ref Cl) "__getattribute__" = some (some (.builtin "BaseException.__getattribute__"))) (hgh : findIn K (.ref Cl) "__getattr__" = some none)
  (hf : findObj K Cl (some (dictOf es n)) name = some (.value v)) (hh : handedIn v = true) (hq : Q v ⟨h,g,dr,t + 1,os⟩) : wpAny (model prog w) A (getAttr (.ref x) name expr) Q E ⟨h,g,dr,t,os⟩ := by
 have hx : h.get? x = some { cls := .ref Cl,dict := some dx,data := .fields vs,slots := #[] } := I.at_
 have f3 := PySem.F.attrBase_Exception.ga.bind (.ref x)
 have hx0 : (expr && onTheHeap (Value.builtin "BaseException.__getattribute__")) = false := by cases expr <;> rfl
 have hx2 : (Value.builtin "BaseException.__getattribute__" == Value.builtin "object.__getattribute__") = false := by decide +kernel
 have hx1 : (onTheHeap (Value.ref Cl) && Value.builtin "BaseException.__getattribute__" == Value.builtin "object.__getattribute__") = false := by rw [hx2]; rfl
 have hho := handedOut_of hh
 unfold getAttr getAttrBy
 repeat (any_goals (first | assumption | with_reducible refine wpAny_loadPart_at hx ?_ | with_reducible refine tl_at X hga ?_ | with_reducible refine tl_at X hgh ?_ | with_reducible refine ga_call X I hp hf ?_ | wp_step))
 refine ga_call X I hp hf ?_
 show wpAny _ _ (handedOut v) _ _ _
 rw [hho]
 exact wpAny_pure hq
end
noncomputable def XP (b : Heap) (fl : List Env) (σ₀ : CH) (P : PV->Prop) (e : Value) (σ : CH) (s : Shared) : Prop := ∃ a d tb B,P B/\e = .ref a/\σ a = some (.exc 51 (some d) tb)/\σ d = some (.ns [("ball",B)])/\TbOk σ a tb/\Ext σ₀ σ/\σ₀ a = none/\(∀ T,tb = .ref T->σ₀ T = none)/\FrOk b σ s.heap fl
theorem XP.kept {b : Heap} {fl : List Env} {σ₀ : CH} {P : PV->Prop} {B : PV} (hB : P B) {a d : Addr} {tb tb' : Value} {σ σ' : CH} {s s' : Shared} (hd : σ d = some (.ns [("ball",B)])) (ha : σ a = some (.exc 51 (some d) tb)) (hE : Ext σ₀ σ) (h0 : σ₀ a = none) (hT : ∀ T,tb = .ref T->σ₀ T = none) (htb : TbOk σ a tb)
  (F : FrOk b σ s.heap fl) (st : Step [] σ s s' σ') (K : Kx a tb σ σ') (ha' : σ' a = some (.exc 51 (some d) tb')) (htb' : TbOk σ' a tb') (hT' : ∀ T,tb' = .ref T->σ₀ T = none) : XP b fl σ₀ P (.ref a) σ' s' := by
 refine ⟨a,d,tb',B,hB,rfl,ha',K d _ (λ q => ?_) (λ q => ?_) hd,htb',λ x m e => K x m (λ q => ?_) (λ q => ?_) (hE x m e),h0,hT',F.step st (by simp)⟩
 ·subst q; rw [ha] at hd; cases hd
 ·rcases htb with z | ⟨T,fl',z,_,hfl⟩
  ·rw [z] at q; cases q
  ·rw [z] at q; cases q; rw [hfl] at hd; cases hd
 ·subst q; rw [h0] at e; cases e
 ·rw [hT x q] at e; cases e
structure XC (C : Cx) (σ₀ : CH) (P : PV->Prop) : Prop where
 X : C.X = XP C.b C.fl σ₀ P
 fl : ∃ outer L,C.fl = C.env :: outer/\C.env.frame = some L
theorem XC.none {C : Cx} {σ₀ : CH} (x : XC C σ₀ λ _ => False) : ∀ e σ s,¬ C.X e σ s := λ e σ s h => by
 rw [x.X] at h
 revert h; refine La.y4_2 λ _ _ _ _ h _ => ?_
 exact h
theorem XC.pass {C : Cx} {σ₀ : CH} {P : PV->Prop} (x : XC C σ₀ P) : PassX C := by
 intro A σ s e s' G ⟨σ',hx,I,st⟩
 rw [x.X] at hx
 refine La.x2_2 (x.fl) λ outer L hfl hL => ?_
 refine La.x4_9 hx λ a d tb B hB h'1 ha hd htb hE h0 hT F => ?_; clear hx; subst h'1
 have up : ∀ {h'' : Heap} {σ'' : CH},XP C.b C.fl σ₀ P (.ref a) σ'' { s' with heap := h'' }->Inv C.prog C.w C.b σ'' h''->Step [] σ' s' { s' with heap := h'' } σ''->PX C σ s (.ref a) { s' with heap := h'' } := λ X' I' st' => ⟨_,by rw [x.X]; exact X',I',st.trans st'.O⟩
 constructor
 ·refine La.y6_7 λ a' oe vs T oT ts q g1 g2 g3 g4 g5 g6 => ?_
  cases q
  refine La.x1_2 (I.1 _ _ ha) λ vs' gx gt => ?_
  rw [gx] at g1; cases g1
  cases g2
  rw [gt] at g3; cases g3
  refine wpAny_bind (wpAny_field gx rfl gt ?_)
  rw [if_neg (by simp)]
  refine flight_X I ha htb λ h'' σ'' k1 k2 k3 k4 k5 => up (XP.kept hB hd ha hE h0 hT htb F k5 k3 k1 k2 hT) k4 k5
 ·refine note_X (by rw [<- hfl]; exact G.frames) I (by rw [<- hfl]; exact F) hL ha htb λ T h'' σ'' k1 k2 k0 k3 k4 k5 => ⟨up (XP.kept hB hd ha hE h0 hT htb F k5 k3 k1 k2 λ T' q => ?_) k4 k5,?_⟩
  ·cases q
   rcases k0 with q | q
   ·exact hT _ q
   ·cases z : σ₀ T with
    | none => rfl
    | some m => refine La.x1_1 (ORel.ex (I.1 _ _ (hE _ _ z))) λ o e => ?_; rw [q] at e; cases e
  ·refine La.x1_2 (k4.1 _ _ k1) λ vs' gx gt => ?_
   rcases k2 with q | ⟨T',fl',q,_,hfl'⟩
   ·cases q
   ·cases q
    refine La.x2_4 (k4.1 _ _ hfl') λ oT ts gT cT dT fT => ?_
    exact ⟨a,_,vs',T,oT,ts,rfl,gx,rfl,gt,gT,dT,(Array.getElem?_eq_some_iff.mp fT).1⟩
theorem FC.fnX {C : Cx} {σ σ₀ : CH} {n : Nat} {f : Addr} {qual : Str} {params : Arguments} {body : List Stmt} {scope : Scope} {dV : Value} {names : List Str} {vs vs' : List PV} {Q : PV->CH->Prop} {mg : Str->Option Value} {P : PV->Prop}
  (hn : C.n = n + 1) (Bb : Bs C mg) (fa : FnAt C.b f qual params body scope dV) (hb : HB C.b qual params body scope dV names vs vs')
  (hk : scope.kind = .function) (hco : scope.isCoroutine = false) (hgen : scope.isGenerator = false) (hnd : names.Nodup) (hfk : ∀ y ∈ names,scope.names.lookup y = some .local\/scope.names.lookup y = some .cell)
  (hX : ∀ e σ' s',XP C.b C.fl σ₀ P e σ' s'->C.X e σ' s')
  (h : ∀ C',Fits C C' scope n->XC C' σ₀ P->EX C' body (names.zip vs') σ λ fl _ σ' => Q (retV fl) σ') : FC C (.ref f) vs σ Q := by
 refine FCc.fc ?_
 intro A s vals G I F r
 refine La.x10_2 fa λ oc od osl nm kV doc pm an cdv ct g hcd => ?_; clear fa
 refine La.x1_2 (hb nm kV doc pm an cdv ct s vals (λ a o e => (I.2 a o e).1) r) λ vals' hbind r' => ?_
 refine codeAny_call_function (by have := G.depth; exact La.z62 this) (I.2 _ _ g).1 rfl hco hgen rfl (hcd.keeps λ a o e => (I.2 a o e).1) ?_
 refine hbind _ _ _ _ ?_
 refine wpAny_newFunctionEnv_cells hk (λ x hx => ?_) λ env he s' x => ?_
 ·have := hfk x.1 (List.of_mem_zip hx).1
  rcases this with e | e
  ·exact .inl e
  ·exact .inr ⟨e,cellsFrom_some _ _ _ (.inl e)⟩
 refine La.c2 (enter (n := n) (X := XP C.b (env :: C.fl) σ₀ P) (nm := nm) (qual := qual) (params := params) (body := body) (dV := dV) (kV := kV) (doc := doc) (pm := pm) (an := an) (cdv := cdv) (ct := ct) (f := f) I F hk hnd hfk r' he x) λ S' st => ?_
 refine ⟨Bb.nl.keeps λ a o e => (S'.inv.2 a o e).1,codeAny_func ?_⟩
 have G' : GA { C with env := env,O := ownOf' env,fl := env :: C.fl,n := n,X := XP C.b (env :: C.fl) σ₀ P } (A.deeper env) :=
  ⟨by have := G.depth; show A.depth + 1 + 2 * n < _; exact La.z25 hn this,by have := G.units; show A.units + 3 + 12 * n + 400 < _; exact La.z63 hn this,G.handled,by show A.frames.map _ = _; rw [G.frames]; rfl⟩
 have hsc : env.scope = scope := by rw [he]; rfl
 have hfr : env.frame = some env.locals := by rw [he]; rfl
 have own : ∀ a o,s.heap.get? a = some o->a ∉ ownOf' env := λ a o e m => by
  have hlt := Heap.lt_size e
  have hL : env.locals = s.heap.objs.size := by rw [he]; rfl
  rcases List.mem_cons.mp m with q | q
  ·rw [q,hL] at hlt; exact absurd hlt (Nat.lt_irrefl _)
  ·refine La.x1_2 (List.mem_filterMap.mp q) λ h'1 mm q => ?_; rcases h'1 with ⟨y,c⟩
   split at q
   ·cases q
    have := x.above y _ mm
    rw [hL] at this; exact absurd (Nat.lt_trans this hlt) (Nat.lt_irrefl _)
   ·cases q
 have outw : ∀ {s'' : Shared} {σ' : CH},Step (ownOf' env) σ s' s'' σ'->Step [] σ s s'' σ' := λ st' => by
  have t := (st.wider (O' := ownOf' env) (by simp)).trans st'
  exact ⟨λ a o e n _ => t.keep a o e n (own a o e),λ a o e n _ => t.new a o e n (own a o e),t.gens,t.os⟩
 refine wpAny_mono (h { C with env := env,O := ownOf' env,fl := env :: C.fl,n := n,X := XP C.b (env :: C.fl) σ₀ P } ⟨rfl,rfl,hsc,rfl⟩ ⟨rfl,C.fl,env.locals,rfl,hfr⟩ (A.deeper env) s' G' S') (λ fl s'' y => ?_) λ e s'' y => ?_
 ·refine La.x3_4 y λ fl' ρ' σ' q rf S'' st' => ?_; clear y
  have st2 := outw st'
  have fin : ∀ v,Rel s''.heap (retV fl') v->PG C Rel Q σ s v s'' := λ v r => ⟨_,_,q,r,S''.inv,st2⟩
  cases fl' with
  | next => cases rf; exact fin _ rfl
  | brk => cases rf; exact fin _ rfl
  | cont => cases rf; exact fin _ rfl
  | ret V => refine La.x1_2 rf λ v h'1 r => ?_; clear rf; subst h'1; exact fin _ r
 ·refine La.x1_3 y λ σ' h'1 I' st' => ?_; clear y; refine La.x4_9 h'1 λ a d tb B hB h'2 ha hd htb hE h0 hT F' => ?_; clear h'1; subst h'2
  have st2 := outw st'
  unfold leaving
  refine wpAny_bind (note_X (C := C) (env := env) (outer := C.fl) (by show A.frames.map _ = _; rw [G.frames]; rfl) I' F' hfr ha htb λ T h₁ σ₁ k1 k2 k0 k3 k4 k5 => ?_)
  have X1 : XP C.b (env :: C.fl) σ₀ P (.ref a) σ₁ { s'' with heap := h₁ } := XP.kept hB hd ha hE h0 hT htb F' k5 k3 k1 k2 λ T' q => by
   cases q
   rcases k0 with q | q
   ·exact hT _ q
   ·cases z : σ₀ T with
    | none => rfl
    | some m => refine La.x1_1 (ORel.ex (I'.1 _ _ (hE _ _ z))) λ o e => ?_; rw [q] at e; cases e
  refine La.x4_9 X1 λ a' d' tb' B1 hB1 q ha1 hd1 htb1 hE1 h01 hT1 F1 => ?_; clear X1
  cases q
  refine flight_X (C := C) (s := { s'' with heap := h₁ }) k4 ha1 htb1 λ h₂ σ₂ m1 m2 m3 m4 m5 => ?_
  have X2 : XP C.b (env :: C.fl) σ₀ P (.ref a) σ₂ { s'' with heap := h₂ } := XP.kept hB1 hd1 ha1 hE1 h01 hT1 htb1 F1 m5 m3 m1 m2 hT1
  refine La.x4_9 X2 λ a2 d2 tb2 B2 hB2 q2 ha2 hd2 htb2 hE2 h02 hT2 F2 => ?_; clear X2
  refine ⟨σ₂,?_,m4,(st2.trans k5).trans m5⟩
  refine hX _ _ _ ?_
  exact ⟨a2,d2,tb2,B2,hB2,q2,ha2,hd2,htb2,hE2,h02,hT2,λ e he => F2 e (List.mem_cons_of_mem _ he)⟩
theorem FC.mthX {C : Cx} {σ σ₀ : CH} {mg : Str->Option Value} {n : Nat} (hn : C.n = n + 1) (T : TC C mg) {x q : Str} {Cl a : Addr} {i j : Nat} (hf : MtT C.b C.K Cl x a q i j) {names : List Str} {vs : List PV} {Q : PV->CH->Prop} {P : PV->Prop}
  (hb : HB C.b q (fnP (mtN i j)) (fnB (mtN i j)) (fnS (mtN i j)) .none names vs vs) (hk : (fnS (mtN i j)).kind = .function) (hco : (fnS (mtN i j)).isCoroutine = false) (hgen : (fnS (mtN i j)).isGenerator = false) (hnd : names.Nodup)
  (hfk : ∀ y ∈ names,(fnS (mtN i j)).names.lookup y = some .local\/(fnS (mtN i j)).names.lookup y = some .cell) (hX : ∀ e σ' s',XP C.b C.fl σ₀ P e σ' s'->C.X e σ' s')
  (h : ∀ C',C'.n = n->C'.env.scope = fnS (mtN i j)->TC C' mg->XC C' σ₀ P->EX C' (fnB (mtN i j)) (names.zip vs) σ λ fl _ σ' => Q (retV fl) σ') : FC C (.ref a) vs σ Q := by
 refine La.c3 hf λ _ _ fa => ?_; clear hf
 exact FC.fnX hn T.bs fa hb hk hco hgen hnd hfk hX λ C' F X => h C' F.n F.sc (T.fits F) X
section
variable {C : Cx} {ρ : Loc'} {σ : CH} {Q : Fl->Loc'->CH->Prop} {rest : List Stmt} {pos : Pos}
theorem EX.whileP {t : Expr} {a : List Stmt} (hp : PassX C) (h : ∀ R,Br C rest Q R->WH C t a ρ σ R) : EX C (.While t a [] pos :: rest) ρ σ Q := EX.cons (ES.while hp (h _ (br C rest Q)))
theorem EX.forP {target iter : Expr} {a : List Stmt} (hp : PassX C) (hs : ∀ x,foldedSetIterable iter C.env x = pure x)
  (h : EV C iter ρ σ λ V σ₁ => O1 C Rel (λ v => pyIter v) V ρ σ₁ λ W σ₂ => ∃ it,W = .ref it/\∀ R,Br C rest Q R->FL C target it a ρ σ₂ R) : EX C (.For target iter a [] pos :: rest) ρ σ Q :=
 EX.cons (ES.for hp (h.mono λ V σ₁ k A s v G S r => wpAny_mono (k A s v G S r) (λ _ _ => La.y2_2 λ W σ₂ h y => ⟨W,σ₂,La.x1_2 h λ it e q => ⟨it,e,q _ (br C rest Q)⟩,y⟩) λ _ _ x => x) hs)
theorem WH.goP {test : Expr} {body : List Stmt} (hp : PassX C) (h : ∀ R,Tn (λ ρ₂ σ₂ => WH C test body ρ₂ σ₂ Q) Q R->ET C test ρ σ λ b σ₁ => if b = true then EX C body ρ σ₁ R else Q .next ρ σ₁) : WH C test body ρ σ Q :=
 WH.turn hp (h _ (tn _ _))
theorem FL.goP {x : Str} {px : Pos} {it : Addr} {body : List Stmt} (hp : PassX C) (hx : C.env.kindOf x = some .local\/C.env.kindOf x = some .cell)
  (h : ∀ R,Tn (λ ρ₂ σ₂ => FL C (.Name x px) it body ρ₂ σ₂ Q) Q R->NX C it ρ σ λ V σ₁ => match V with | some V => EX C body ((x,V) :: ρ) σ₁ R | none => Q .next ρ σ₁) : FL C (.Name x px) it body ρ σ Q :=
 FL.turn hp hx (h _ (tn _ _))
variable {xn : Str} {px : Pos} {body : List Stmt}
theorem FL.downP {it : Addr} (hX : PassX C) (hx : C.env.kindOf xn = some .local\/C.env.kindOf xn = some .cell) (P : Nat->Loc'->CH->Prop) :
  ∀ (w : Nat) (ρ : Loc') (σ : CH),P w ρ σ->σ it = some (.itR (w - 1) w (-1)) ->
   (∀ (k : Nat) ρ σ,P (k + 1) ρ σ->σ it = some (.itR k (k + 1) (-1))->∀ R : Fl->Loc'->CH->Prop,(∀ ρ' σ',P k ρ' σ'->σ' it = some (.itR (k - 1) k (-1))->R .next ρ' σ')->EX C body ((xn,.int k) :: ρ) (upd σ it (.itR (k - 1) k (-1))) R) ->
   (∀ ρ σ,P 0 ρ σ->∀ l,σ it = some l->Q .next ρ (del σ it))->FL C (.Name xn px) it body ρ σ Q
 | 0,ρ,σ,hP,hit,hs,he => FL.goP hX hx λ R hR => nx_rngE hit (by simp) (he ρ σ hP _ hit)
 | k + 1,ρ,σ,hP,hit,hs,he => FL.goP hX hx λ R hR => by
  have hit' : σ it = some (.itR (k : Int) ((k : Int) + 1) (-1)) := by
   rw [hit]; congr 2 <;> simp
  refine nx_rng hit' (by exact La.z71) ?_
  have e : upd σ it (.itR ((k : Int) + -1) ((k : Int) + 1 - 1) (-1)) = upd σ it (.itR ((k : Int) - 1) k (-1)) := by
   congr 2; exact La.z72
  rw [e]
  exact hs k ρ σ hP hit' R λ ρ' σ' h1 h2 => hR.next (FL.downP hX hx P k ρ' σ' h1 h2 hs he)
end
end Mine
end
section
open PySem PySem.W PySem.Calls PyProof.Rows PySem.Spec PySem.SeqAt PySem.Builtin PySem.Builtin.ObjectAttr
namespace Mine
section
variable {C : Cx} {ρ : Loc'} {σ : CH}
theorem St.forget {ρ' : Loc'} {h : Heap} (S : St C ρ σ h) (hl : ∀ x V,lk x ρ' = some V->lk x ρ = some V) : St C ρ' σ h := by
 obtain ⟨inv,fe,⟨⟨m,hm,hx⟩,h2,h3⟩,own,free,fr,frO⟩ := S
 exact ⟨inv,fe,⟨⟨m,hm,λ x V e f => hx x V (hl x V e) f⟩,λ x V e f => h2 x V (hl x V e) f,h3⟩,own,free,fr,frO⟩
theorem methX {mg : Str->Option Value} (T : TC C mg) (hX : ∀ e σ s,¬ C.X e σ s) {Y : Value->CH->Shared->Prop} {o : Expr} {name : Str} {es : List Expr} {apos pos : Pos} {Q : PV->CH->Prop} {A : Around} {s : Shared} (G : GA C A) (S : St C ρ σ s.heap)
  (h : EV C o ρ σ λ V σ₁ => ∃ fv,GM C V name σ₁ fv/\keepIn C.K fv = true/\EL C pos es ρ σ₁ λ vs σ₂ => FC { C with X := Y } fv (V :: vs) σ₂ Q)
  (hne : es ≠ []) (hs : starEach es C.env = es.map λ e => (false,eval e C.env)) (hl : (apos.endLine == pos.line) = true) (hf : es.length < 20) (hb : attributeBase o name C.env (eval o C.env) = eval o C.env) :
  wpAny (md C) A (eval (.Call (.Attribute o name apos) es [] pos) C.env) (PG C Rel Q σ s) (λ e s' => ∃ σ',Y e σ' s'/\Inv C.prog C.w C.b σ' s'.heap/\Step [] σ s s' σ') s := by
 have no : ∀ {σ₁ : CH} {s₁ : Shared} {e : Value} {s' : Shared} {P : Prop},PX C σ₁ s₁ e s'->P := λ ⟨σ',x,_⟩ => absurd x (hX _ _ _)
 rw [arm_eval_Call,hb]
 refine wpAny_bind (h.seqE G S (λ _ _ x => no x) λ V v σ₁ s₁ h₁ r S₁ st₁ _ => wpAny_bind (wpAny_standAt ?_))
 revert h₁; refine La.y1_3 λ fv hg hk h₁ => ?_
 have hp := backTo_plain (pos := pos) hs
 have hm : methodCallForm (es.length + ([] : List Keyword).length) (backTo pos (starEach es C.env)) [] = true := by
  unfold methodCallForm
  have : (backTo pos (starEach es C.env)).all (λ x => !x.1) = true := by
   rw [List.all_eq_true]; intro x hx
   cases e : x.1 with
   | false => rfl
   | true => rw [List.any_eq_false] at hp; exact absurd e (hp x hx)
  simp [this]; exact La.z61 hf
 refine methodCall_of hm hl (λ k' pl hk' => hg _ _ _ _ _ _ _ S₁ r hk') ?_
 have main : wpAny (md C) A (spliced (backTo pos (starEach es C.env))) (λ vs s₁ => C.K.In s₁.heap/\wpAny (md C) A (call fv ([v] ++ vs)) (PG C Rel Q σ s) (λ e s' => ∃ σ',Y e σ' s'/\Inv C.prog C.w C.b σ' s'.heap/\Step [] σ s s' σ') s₁) (λ e s' => ∃ σ',Y e σ' s'/\Inv C.prog C.w C.b σ' s'.heap/\Step [] σ s s' σ') s₁ :=
  h₁.seqE G S₁ (λ _ _ x => no x) λ vs vals σ₂ s₂ q r₂ S₂ st₂ k₂ => ⟨S₂.inv.K T.hK,wpAny_mono (q A s₂ (v :: vals) ⟨G.depth,G.units,G.handled,G.frames⟩ S₂.inv S₂.fr (.cons (k₂.rel r) r₂))
   (λ _ _ => La.y2_4 λ V' σ' q' r' i' y' => ⟨V',σ',q',r',i',(st₁.trans st₂).trans y'⟩) λ _ _ => La.y1_3 λ σ' y i' y' => ⟨σ',y,i',(st₁.trans st₂).trans y'⟩⟩
 have ev : wpAny (md C) A (evalArgs fv true (backTo pos (starEach es C.env)) []) (λ a s₁ => C.K.In s₁.heap/\wpAny (md C) A (call fv ([v] ++ a.pos) a.kw) (PG C Rel Q σ s) (λ e s' => ∃ σ',Y e σ' s'/\Inv C.prog C.w C.b σ' s'.heap/\Step [] σ s s' σ') s₁) (λ e s' => ∃ σ',Y e σ' s'/\Inv C.prog C.w C.b σ' s'.heap/\Step [] σ s s' σ') s₁ := by
  cases es with
  | nil => exact absurd rfl hne
  | cons e rest =>
   rw [hs] at main ⊢
   exact evalArgs_plain main
 exact callWith_of (P := λ h => C.K.In h) (by rw [hp]; rfl) (λ h x => keeps_K hk h x) ev
theorem St.unbind {s : Shared} {h' : Heap} {t : Nat} {x : Str} {m : Str->Option Value} {u : Option Value} (S : St C ρ σ s.heap) (hm0 : s.heap.Ns C.env.locals m)
  (hn : h'.Ns C.env.locals (λ y => if y = x then u else m y)) (hs : Heap.SameBut C.env.locals s.heap h') : St C [] σ h'/\Step C.O σ s { s with heap := h',toks := t } σ := by
 have ex := Heap.SameBut.extBut hs
 refine La.c2 (S.inv.own (t := t) S.fe.locO (S.own _ S.fe.locO).1 (S.fe.ownB _ S.fe.locO) (ns_noTup hm0) ex) λ I st => ?_
 obtain ⟨inv,fe,loc,own,free,fr,frO⟩ := S
 refine ⟨⟨I,fe,⟨⟨_,hn,λ y W e f => by simp [lk] at e⟩,λ y W e f => by simp [lk] at e,λ y f => ?_⟩,λ a ha => ?_,λ y c e => ?_,?_,λ e he a f g => ?_⟩,st⟩
 ·refine La.x2_2 (loc.slot y f) λ c u a b => ?_
  exact ⟨c,u,a,IsCell.keep1 b λ o g => ex c o (ns_ne_cell hm0 b) g⟩
 ·refine La.c2 (own a ha) λ q h'1 => ?_; refine La.x1_2 h'1 λ o e d => ?_; clear h'1
  refine ⟨q,?_⟩
  by_cases z : a = C.env.locals
  ·subst z
   refine La.x3_3 hn λ o es ep e d _ => ?_; clear hn
   exact ⟨o,e,λ vs n q => by rw [d] at q; cases q⟩
  ·exact ⟨o,ex a o z e,d⟩
 ·refine La.c2 (free y c e) λ q h'1 => ?_; refine La.x1_1 h'1 λ o g => ?_; clear h'1
  by_cases z : c = C.env.locals
  ·subst z; refine La.x3_2 hn λ o _ _ e _ => ?_; clear hn; exact ⟨q,o,e⟩
  ·exact ⟨q,o,ex c o z g⟩
 ·refine FrOk.step (s' := { s with heap := h',toks := t }) fr st λ e he a f g => ?_
  refine La.x1_1 (frO e he a f g) λ m' hm' => ?_
  by_cases z : a = C.env.locals
  ·subst z; refine La.x3_3 hn λ o es ep e d _ => ?_; clear hn; exact ⟨(own _ g).1,o,e,Frm.of d⟩
  ·refine La.x3_3 hm' λ o es ep e d _ => ?_; clear hm'; exact ⟨(own _ g).1,o,ex a o z e,Frm.of d⟩
 ·refine La.x1_1 (frO e he a f g) λ m' hm' => ?_
  by_cases z : a = C.env.locals
  ·subst z; exact ⟨_,hn⟩
  ·exact ⟨m',Ns.keep1 hm' λ o q => ex a o z q⟩
theorem ES.tryBall {mg : Str->Option Value} (T : TC C mg) (hX : ∀ e σ s,¬ C.X e σ s) (hfl : ∃ outer L,C.fl = C.env :: outer/\C.env.frame = some L) {P : PV->Prop} {σ₀ : CH} {o : Expr} {name n : Str} {es : List Expr} {apos cpos rpos np np2 bpos rp2 hpos pos : Pos} {Q : Fl->Loc'->CH->Prop}
  (hP : ∀ B,P B->∀ x,B ≠ .any x) (hn : C.env.kindOf n = some .local) (hk : C.env.kindOf "PrologError" = some .globalImplicit)
  (h : EV C o ρ σ λ V σ₁ => ∃ fv,GM C V name σ₁ fv/\keepIn C.K fv = true/\EL C cpos es ρ σ₁ λ vs σ₂ => FC { C with X := XP C.b C.fl σ₀ P } fv (V :: vs) σ₂ λ V σ' => Q (.ret V) ρ σ')
  (hq : ∀ B σ',P B->Ext σ₀ σ'->Q (.ret B) [] σ')
  (hne : es ≠ []) (hs : starEach es C.env = es.map λ e => (false,eval e C.env)) (hl : (apos.endLine == cpos.line) = true) (hf : es.length < 20) (hb : attributeBase o name C.env (eval o C.env) = eval o C.env)
  (hb2 : attributeBase (.Name n np2) "ball" C.env (eval (.Name n np2) C.env) = eval (.Name n np2) C.env) (hd : (n == ("__debug__" : Str)) = false) :
  ES C (.Try [.Return (some (.Call (.Attribute o name apos) es [] cpos)) rpos] [.ExceptHandler (some (.Name "PrologError" np)) (some n) [.Return (some (.Attribute (.Name n np2) "ball" bpos)) rp2] hpos] [] [] pos) ρ σ Q := λ A s G S => by
 refine La.x6_1 (excI_obj T.hK T.exc.cls) λ nm qn N bs bm hdct e'' => La.x5_1 e'' λ sn sub ab col dd e'' => La.x6_4 e'' λ k0 k1 k2 k3 k5 mN hC hN hi OT => ?_
 revert hfl; refine La.y2_2 λ outer L hfl hL => ?_
 have hfr : ∀ {A' : Around},A'.frames = some C.fl->A'.frames = some (C.env :: outer) := λ e => by rw [<- hfl]; exact e
 refine wpAny_Try_except (wpAny_execs_cons (wpAny_Return_some (wpAny_mono (methX T hX G S h hne hs hl hf hb) (λ v s' x => ?_) λ e s₁ x => ?_)))
 ·refine La.x2_4 x λ V σ' q r i y => ?_; clear x
  exact ⟨.ret V,ρ,σ',q,⟨v,rfl,r⟩,S.step i y,y.O⟩
 refine La.x1_3 x λ σ₁ h'1 I₁ st₁ => ?_; clear x; refine La.x4_9 h'1 λ a d tb B hB h'2 ha hdx htb hE h0 hT F => ?_; clear h'1; subst h'2
 have S₁ := S.step I₁ st₁
 refine note_X (C := C) (env := C.env) (outer := outer) (hfr G.frames) I₁ (by rw [<- hfl]; exact F) hL ha htb λ T₂ h₂ σ₂ c1 c2 c0 c3 I₂ st₂ => ?_
 have X₂ : XP C.b C.fl σ₀ P (.ref a) σ₂ { s₁ with heap := h₂ } := XP.kept hB hdx ha hE h0 hT htb F st₂ c3 c1 c2 λ T' q => by
  cases q
  rcases c0 with q | q
  ·exact hT _ q
  ·cases z : σ₀ T₂ with
   | none => rfl
   | some m => refine La.x1_1 (ORel.ex (I₁.1 _ _ (hE _ _ z))) λ o e => ?_; rw [q] at e; cases e
 have S₂ := S₁.step (s' := { s₁ with heap := h₂ }) I₂ st₂
 clear ha hdx htb hE h0 hT c1 c2 c0 c3 F
 refine La.x4_9 X₂ λ a2 d2 tb2 B2 hB2 q ha hdx htb hE h0 hT F => ?_; clear X₂
 cases q
 refine flight_X (C := C) (s := { s₁ with heap := h₂ }) I₂ ha htb λ h₃ σ₃ c1 c2 c3 I₃ st₃ => ?_
 have X₃ : XP C.b C.fl σ₀ P (.ref a) σ₃ { s₁ with heap := h₃ } := XP.kept (s := { s₁ with heap := h₂ }) hB2 hdx ha hE h0 hT htb F st₃ c3 c1 c2 hT
 have S₃ := S₂.step (s' := { s₁ with heap := h₃ }) I₃ st₃
 clear ha hdx htb hE h0 hT c1 c2 c3 F
 refine La.x4_9 X₃ λ a3 d3 tb3 B3 hB3 q ha hdx htb hE h0 hT F => ?_; clear X₃
 cases q
 refine La.x1_2 (I₃.1 _ _ ha) λ vs gx gt => ?_
 have hC₃ := (I₃.2 _ _ hC).1
 refine wpAny_handleBy_cons (codeAny_handlers_test ?_) (by intro q; cases q)
 refine Name_function_global S.fe.kind hk (loadGlobal_global (mg := mg) (by rw [S.fe.glob]; exact Ns.keep1 T.g λ o e => (I₃.2 _ _ e).1) T.exc.g ?_) (by decide)
 refine wpAny_excMatches_sub_self hC₃ gx rfl (OT.hasType (by decide)) (codeAny_handlers_suite_as ?_)
 refine flight_X (C := C) (s := { s₁ with heap := h₃ }) I₃ ha htb λ h₄ σ₄ c1 c2 c3 I₄ st₄ => ?_
 have X₄ : XP C.b C.fl σ₀ P (.ref a) σ₄ { s₁ with heap := h₄ } := XP.kept (s := { s₁ with heap := h₃ }) hB3 hdx ha hE h0 hT htb F st₄ c3 c1 c2 hT
 have S₄ := S₃.step (s' := { s₁ with heap := h₄ }) I₄ st₄
 clear ha hdx htb hE h0 hT c1 c2 c3 F gx gt
 refine La.x4_9 X₄ λ a4 d4 tb4 B4 hB4 q ha hdx htb hE h0 hT F => ?_; clear X₄
 cases q
 have st04 : Step [] σ s { s₁ with heap := h₄ } σ₄ := ((st₁.trans st₂).trans st₃).trans st₄
 refine storeN (C := C) (x := n) (V := .ref a) S₄ rfl (.inl hn) λ s₅ S₅ st₅ _ => ?_
 refine wpAny_execs_cons (wpAny_Return_some ?_)
 show wpAny _ _ (do
  let v <- attributeBase (.Name n np2) "ball" C.env (eval (.Name n np2) C.env)
  standAt bpos.atName
  let r <- holding [v] (getAttr v "ball" true)
  letTemporaryGo (.Name n np2) v r
  pure r) _ _ _
 rw [hb2]
 refine La.x1_2 (S₅.loc.ns) λ m hm hmx => ?_
 refine La.x1_2 (hmx n (.ref a) (by simp [lk]) hn) λ v hv r => ?_
 cases r
 refine wpAny_bind (wpAny_Name (wpAny_loadName_local S₅.fe.kind hn hm hv (wpAny_bind (wpAny_standAt ?_))) hd)
 refine La.x1_2 (S₅.inv.1 _ _ ha) λ vs gx gt => ?_
 refine La.x2_2 (S₅.inv.1 _ _ hdx) λ es5 n5 g5 rn => ?_
 have z := rn.get (name := "ball")
 rw [show lk "ball" [("ball",B4)] = some B4 by simp [lk]] at z
 refine La.x1_2 z λ u gu ru => ?_; clear z
 have hh : handedIn u = true := by
  cases B4 with
  | any x => exact absurd rfl (hP _ hB4 x)
  | none => cases ru; rfl
  | bool b => cases ru; rfl
  | int i => refine La.x1_1 ru λ t h'1 => ?_; clear ru; subst h'1; rfl
  | str i => refine La.x1_1 ru λ t h'1 => ?_; clear ru; subst h'1; rfl
  | tup l => unfold Rel at ru; refine La.x3_2 ru λ _ _ _ h'1 _ => ?_; clear ru; subst h'1; rfl
  | ref a => cases ru; rfl
 have I5 := exInst (es := es5) (n := n5) (d := some d4) gx g5
 have hK5 := S₅.inv.K T.hK
 have S5' := S₅
 obtain ⟨h5,g5',dr5,t5,os5⟩ := s₅
 refine wpAny_bind (wpAny_holding (get_exc hK5 I5 T.exc.ov T.exc.ga T.exc.gh (findObj_own T.exc.hd T.exc.ba rfl gu) hh ?_))
 refine wpAny_bind (wpAny_letTemporaryGo (wpAny_pure ?_))
 have I6 : Inv C.prog C.w C.b σ₄ h5 := S5'.inv
 have S6 : St C ((n,.ref a) :: ρ) σ₄ (⟨h5,g5',dr5,t5 + 1,os5⟩ : Shared).heap := S5'
 refine wpAny_bind (wpAny_bindName (storeN (C := C) (x := n) (V := .none) S6 rfl (.inl hn) λ s₇ S₇ st₇ k₇ => ?_))
 unfold unbindBehindTheSuite
 refine wpAny_onRaise ?_
 refine La.x1_2 (S₇.loc.ns) λ m7 hm7 hmx7 => ?_
 refine La.x1_2 (hmx7 n .none (by simp [lk]) hn) λ v7 hv7 _ => ?_
 refine wpAny_unbindName_local hn hm7 hv7 (by rw [S.fe.kind]; rfl) λ h₈ u₈ hn₈ hs₈ => ?_
 refine La.c2 (S₇.unbind (t := s₇.toks) hm7 hn₈ hs₈) λ S₈ st₈ => ?_
 have kt₈ : KeepT s₇.heap h₈ := λ a o e t => hs₈.extBut a o (λ q => ns_noTup hm7 o (q ▸ e) t) e
 have st5 : Step C.O σ₄ { s₁ with heap := h₄ } ⟨h5,g5',dr5,t5 + 1,os5⟩ σ₄ := ⟨st₅.keep,st₅.new,st₅.gens,st₅.os⟩
 exact ⟨.ret B4,[],σ₄,hq _ _ hB4 hE,⟨u,rfl,kt₈.rel (k₇.rel ru)⟩,S₈,((st04.O.trans st5).trans st₇).trans st₈⟩
end
end Mine
end
section
open PySem PySem.W PySem.Calls PyProof.Rows PySem.Spec PySem.SeqAt
namespace Mine
noncomputable def nA : PV->Bool
 | .any _ => false
 | _ => true
theorem nA.ne {W : PV} (h : nA W = true) : ∀ x,W ≠ .any x := λ x e => by subst e; cases h
theorem isI {α β : Type} {f : α->β} {w : α} {Q : α->Prop} (h : Q w) : ∃ b,f w = f b/\Q b := ⟨w,rfl,h⟩
section
variable {σ : CH} {a Cl dx : Addr} {fs : List (Str × PV)} {name : Str}
theorem mI {K : Addr->Prop} (e2 : σ a = some (.inst Cl dx)) (e3 : σ dx = some (.ns fs)) (e4 : lk name fs = none) (k : K a) :
  ∃ a' dx fs,PV.ref a = .ref a'/\σ a' = some (.inst Cl dx)/\σ dx = some (.ns fs)/\lk name fs = none/\K a' := ⟨a,dx,fs,rfl,e2,e3,e4,k⟩
theorem fI {W : PV} {Q : PV->Prop} (e2 : σ a = some (.inst Cl dx)) (e3 : σ dx = some (.ns fs)) (e4 : lk name fs = some W) (e5 : nA W = true) (q : Q W) :
  ∃ a' dx fs W,PV.ref a = .ref a'/\σ a' = some (.inst Cl dx)/\σ dx = some (.ns fs)/\lk name fs = some W/\(∀ x,W ≠ .any x)/\Q W := ⟨a,dx,fs,W,rfl,e2,e3,e4,nA.ne e5,q⟩
end
end Mine
end
section
open PySem PySem.W PySem.Calls PyProof.Rows PySem.Spec PySem.SeqAt
namespace Mine
local macro_rules | `(tactic| walk_at "lk") => `(tactic| first | assumption | exact lk_same | rfl | (refine (lk_ne (by decide)).trans ?_; walk_at "lk"))
local macro_rules | `(tactic| walk_at "kd") => `(tactic| (focus (refine kd (s := ?_) ?_ ?_); rotate_left; assumption; rfl))
local macro_rules | `(tactic| walk_at "kd2") => `(tactic| first | ((refine .inl ?_); walk_at "kd") | ((refine .inr ?_); walk_at "kd"))
local macro_rules | `(tactic| walk_at "fd") => `(tactic| first | assumption | exact up' | exact StOk.st (by assumption) | exact StOk.dst (by assumption) | exact StOk.hp (by assumption) | exact StOk.sk (by assumption) | exact StOk.tr (by assumption) | exact SyOk.sy (by assumption) | exact SyOk.dsy (by assumption) | exact SyOk.fu (by assumption))
local macro_rules | `(tactic| walk_at "int") => `(tactic| ((refine Tbl.int (by assumption) _ ?_); rfl))
local macro_rules | `(tactic| walk_at "fld") => `(tactic| ((refine Tbl.at (by assumption) _ ?_); rfl))
local macro_rules | `(tactic| walk_at "mth") => `(tactic| ((refine Tbl.mt (by assumption) _ ?_); rfl))
local macro_rules | `(tactic| walk_at "fnn") => `(tactic| ((refine Tbl.fn (by assumption) _ ?_); rfl))
local macro_rules | `(tactic| walk_at "bn") => `(tactic| ((refine Tbl.nm (by assumption) _ ?_); rfl))
local macro_rules | `(tactic| walk_at "n") => `(tactic| exact List.cons_ne_nil _ _)
local macro_rules | `(tactic| walk_at "s") => `(tactic| first
 | ((with_reducible refine EX.assign ?_ ?_ ?_); walk_at "kd2"; rfl)
 | with_reducible refine EX.ite λ _ _ => ?_
 | with_reducible refine EX.ret ?_
 | ((with_reducible refine EX.expr ?_ ?_); rfl)
 | ((with_reducible refine EX.for ?_ ?_ ?_); assumption; (intro _; rfl))
 | (focus (with_reducible refine EX.augI (i := ?_) ?_ ?_ ?_); rotate_left; walk_at "kd"; walk_at "lk")
 | with_reducible refine EX.nil ?_
 | with_reducible refine EX.retN ?_
 | with_reducible refine EX.contin ?_
 | ((with_reducible refine EX.setitem ?_ ?_); rfl)
 | ((with_reducible refine EX.assign2 ?_ ?_ ?_ ?_ ?_); walk_at "kd2"; walk_at "kd2"; rfl; rfl)
 | with_reducible refine ET.cmp ?_
 | with_reducible refine ET.not ?_
 | with_reducible refine ET.op ?_
 | with_reducible refine EA.and ?_
 | with_reducible refine EA.or ?_
 | with_reducible refine EA.andN ?_
 | with_reducible refine EA.orN ?_
 | with_reducible refine EV.int ?_
 | with_reducible refine EV.str ?_
 | with_reducible refine EV.cnone ?_
 | with_reducible refine EV.bool ?_
 | (focus (with_reducible refine EV.loc (V := ?_) ?_ ?_ ?_ (hd := ?_)); rotate_left; walk_at "kd"; walk_at "lk"; rotate_left; rfl)
 | (focus (with_reducible refine EV.globI (mg := ?_) ?_ (i := ?_) ?_ ?_ ?_ (hd := ?_)); rotate_left; assumption; rotate_left; walk_at "kd"; walk_at "int"; rotate_left; rfl)
 | (focus (with_reducible refine EV.cell (V := ?_) ?_ ?_ ?_ (hd := ?_)); rotate_left; walk_at "kd"; walk_at "lk"; rotate_left; rfl)
 | with_reducible refine EV.sub ?_
 | (focus (with_reducible refine EV.imeth (mg := ?_) ?_ (q := ?_) (Cl := ?_) (f := ?_) (i := ?_) (j := ?_) ?_ ?_ (hne := ?_) (hs := ?_) (hl := ?_) (hf := ?_) (hb := ?_)); rotate_left; assumption; rotate_left 5; walk_at "mth"; rotate_left; walk_at "n"; rfl; rfl; decide; rfl)
 | (focus (with_reducible refine EV.imeth0 (mg := ?_) ?_ (q := ?_) (Cl := ?_) (f := ?_) (i := ?_) (j := ?_) ?_ ?_ (hl := ?_) (hb := ?_)); rotate_left; assumption; rotate_left 5; walk_at "mth"; rotate_left; rfl; rfl)
 | (focus (with_reducible refine EV.fcall (mg := ?_) ?_ (a := ?_) (i := ?_) ?_ ?_ ?_ (hne := ?_) (hs := ?_) (hd := ?_) (he := ?_)); rotate_left; assumption; rotate_left 2; walk_at "fnn"; walk_at "kd"; rotate_left; walk_at "n"; rfl; rfl; rfl)
 | (focus (with_reducible refine EV.fcall0 (mg := ?_) ?_ (a := ?_) (i := ?_) ?_ ?_ ?_ (hd := ?_) (he := ?_)); rotate_left; assumption; rotate_left 2; walk_at "fnn"; walk_at "kd"; rotate_left; rfl; rfl)
 | (focus (with_reducible refine EV.bcall (mg := ?_) ?_ (v := ?_) ?_ ?_ ?_ ?_ ?_ (hne := ?_) (hs := ?_) (hn := ?_) (hd := ?_) (he := ?_)); rotate_left; assumption; rotate_left; walk_at "bn"; walk_at "kd"; rfl; (first | exact .inl ⟨_,rfl⟩ | exact .inr ⟨_,rfl⟩); rotate_left; walk_at "n"; rfl; decide; rfl; rfl)
 | (focus (with_reducible refine EV.bcall0 (mg := ?_) ?_ (v := ?_) ?_ ?_ ?_ ?_ ?_ (hn := ?_) (hd := ?_) (he := ?_)); rotate_left; assumption; rotate_left; walk_at "bn"; walk_at "kd"; rfl; (first | exact .inl ⟨_,rfl⟩ | exact .inr ⟨_,rfl⟩); rotate_left; decide; rfl; rfl)
 | (focus (with_reducible refine EV.lappend (mg := ?_) ?_ ?_ ?_ ?_ ?_ ?_); rotate_left; assumption; rfl; rfl; rfl; rfl)
 | (focus (with_reducible refine EV.lpop (mg := ?_) ?_ ?_ ?_ ?_); rotate_left; assumption; rfl; rfl)
 | (focus (with_reducible refine EV.field (mg := ?_) ?_ (Cl := ?_) ?_ ?_ (hb := ?_)); rotate_left; assumption; rotate_left; walk_at "fld"; rotate_left; rfl)
 | with_reducible refine EV.tup ?_
 | with_reducible refine EV.list ?_
 | with_reducible refine EV.bin ?_
 | (focus (with_reducible refine EV.cmp ?_ (hm := ?_)); rotate_left; with_unfolding_all rfl)
 | with_reducible refine EV.un ?_
 | with_reducible refine EV.ife ?_
 | (focus (with_reducible refine EL.cons ?_ (he := ?_)); rotate_left; rfl)
 | with_reducible refine EL.nil ?_
 | (focus (with_reducible refine op_c0 ?_ (hs := ?_)); rotate_left; (intro _ _; rfl))
 | (focus (with_reducible refine op_c1 ?_ (hs := ?_)); rotate_left; (intro _ _; rfl))
 | with_reducible refine op_eqI ?_
 | with_reducible refine op_neI ?_
 | with_reducible refine op_ltI ?_
 | with_reducible refine op_gtI ?_
 | with_reducible refine op_geI ?_
 | with_reducible refine op_eqC ?_
 | ((with_reducible refine op_eqS ?_ ?_ ?_); kernel_rfl; kernel_rfl)
 | with_reducible refine op_neC ?_
 | with_reducible refine op_add ?_
 | with_reducible refine op_sub ?_
 | with_reducible refine op_neg ?_
 | (focus (with_reducible refine Br.next (C := ?_) (rest := ?_) (Q := ?_) ?_ ?_); rotate_left 3; assumption)
 | (focus (with_reducible refine Br.ret (C := ?_) (rest := ?_) (Q := ?_) ?_ ?_); rotate_left 3; assumption)
 | (focus (with_reducible refine Br.cont (C := ?_) (rest := ?_) (Q := ?_) ?_ ?_); rotate_left 3; assumption)
 | (focus (with_reducible refine Tn.next (again := ?_) (Q := ?_) ?_ ?_); rotate_left 2; assumption)
 | (focus (with_reducible refine Tn.ret (again := ?_) (Q := ?_) ?_ ?_); rotate_left 2; assumption)
 | (focus (with_reducible refine Tn.cont (again := ?_) (Q := ?_) ?_ ?_); rotate_left 2; assumption)
 | (focus (with_reducible refine ET.val ?_ (he := ?_)); rotate_left; rfl)
 | with_reducible refine isI ?_
 | with_reducible refine ⟨_,rfl,?_⟩
 | (focus (with_reducible refine mI (dx := ?_) (fs := ?_) ?_ ?_ ?_ ?_); rotate_left 2; walk_at "fd"; walk_at "fd"; rfl)
 | (focus (with_reducible refine fI (dx := ?_) (fs := ?_) (W := ?_) ?_ ?_ ?_ ?_ ?_); rotate_left 3; walk_at "fd"; walk_at "fd"; rfl; rfl))
local macro_rules | `(tactic| walk_at "b") => `(tactic| first
 | ((refine EX.assign ?_ ?_ ?_); walk_at "kd2"; rfl)
 | refine EX.ite λ _ _ => ?_
 | refine EX.ret ?_
 | ((refine EX.expr ?_ ?_); rfl)
 | ((refine EX.for ?_ ?_ ?_); assumption; (intro _; rfl)))
local macro_rules | `(tactic| walk_at "r") => `(tactic| repeat (walk_at "s"))
local macro_rules | `(tactic| walk_at "no") => `(tactic| ((refine ite_b (c := false) ?_ (ite_f ?_)); decide))
local macro_rules | `(tactic| walk_at "yes") => `(tactic| ((refine ite_b (c := true) ?_ (ite_t ?_)); decide))
local macro_rules | `(tactic| walk_at "tt") => `(tactic| (focus (refine op_subT (V := ?_) ?_ ?_ ?_ ?_ (hs := ?_)); rotate_left; decide; rfl; decide; rotate_left; (intro _ _; rfl)))
section
set_option maxHeartbeats 4000000
section
variable {C : Cx} {σ : CH} {mg : Str->Option Value}
theorem fc_deref {n : Nat} (hn : C.n = n + 1) (T : TC C mg) {a : SA} {H S : List Cell} (SO : StOk σ a H S) (W : WF H) (hlen : H.length < 1000) {c : Cell} (hc : okc H c) (hS : c.1 = 1->S = [(1,0)]) {Q : PV->CH->Prop} (q : Q (cv (der H c)) σ) :
  FC C (.ref 230) [.ref a.st,cv c] σ Q := by
 refine FC.mth hn T (T.mt "deref" rfl) (names := ["self","cell"]) (HB.two λ _ _ _ _ _ _ _ _ _ => rfl) rfl rfl rfl (by decide) (by decide) λ C' hn' sc T' X => ?_
 refine EX.while X λ R hR => ?_
 refine La.x1_1 (⟨_,rfl⟩ : ∃ ρ,ρ = List.zip (["self","cell"] : List Str) [.ref a.st,cv c]) λ ρ hρ => ?_
 rw [<- hρ]
 have h1 : lk "self" ρ = some (.ref a.st) := by rw [hρ]; rfl
 have h2 : lk "cell" ρ = some (cv c) := by rw [hρ]; rfl
 clear hρ
 have hQ : ∀ ρ' : Loc',R (.ret (cv (der H c))) ρ' σ := λ _ => hR.ret q
 clear hR q
 revert ρ
 refine der_ind W (P := λ c d => (c.1 = 1->S = [(1,0)])->(∀ ρ',R (.ret (cv d)) ρ' σ)->∀ ρ,lk "self" ρ = some (.ref a.st)->lk "cell" ρ = some (cv c)->WH C' _ _ ρ σ R) ?_ ?_ ?_ hc hS hQ
 ·intro c ok hn0 hS hQ ρ h1 h2
  refine WH.go X λ R' hR' => ET.val (EV.bool ⟨true,rfl,ite_t ?_⟩);walk_at "r"
  refine ite_of (λ h => absurd (by simpa using h) hn0) λ _ => ?_;walk_at "r"
  refine ite_of (λ h => ?_) λ _ => ?_
  ·have h : c.1 = 1 := by simpa using h
   have hS := hS h
   subst hS
   cases ok with
   | srf =>
    walk_at "r"
    refine op_hp SO.sk (v := 0) rfl (by decide) (by decide) ?_;walk_at "r"
    refine ite_of (λ _ => ?_) λ h => absurd h (by decide);walk_at "r"
    exact hQ _
   | _ => simp at h
  ·walk_at "r"
   exact hQ _
 ·intro v hv e hS hQ ρ h1 h2
  refine WH.go X λ R' hR' => ET.val (EV.bool ⟨true,rfl,ite_t ?_⟩);walk_at "r"
  refine ite_of (λ _ => ?_) λ h => absurd h (by simp);walk_at "r"
  refine op_hp SO.hp (v := v) rfl hv hlen ?_;walk_at "r"
  refine ite_of (λ _ => ?_) λ h => absurd h (by simp [e]);walk_at "r"
  exact hQ _
 ·intro v d hv h6 h1' e ok ih hS hQ ρ h1 h2
  refine WH.go X λ R' hR' => ET.val (EV.bool ⟨true,rfl,ite_t ?_⟩);walk_at "r"
  refine ite_of (λ _ => ?_) λ h => absurd h (by simp);walk_at "r"
  refine op_hp SO.hp (v := v) rfl hv hlen ?_;walk_at "r"
  refine ite_of (λ h => absurd h (by simp [e])) λ h => ?_;walk_at "r"
  exact ih (λ z => absurd z h1') hQ _ (by walk_at "lk") (by walk_at "lk")
end
end
section
set_option maxHeartbeats 4000000
section
variable {C : Cx} {σ : CH} {mg : Str->Option Value}
noncomputable def isC (c : Cell) : Bool := c.1 == 2 || c.1 == 3
noncomputable def fctr (H : List Cell) (c : Cell) : Int := if c.1 = 3 then 0 else (hat H c.2).2
noncomputable def wd (H : List Cell) (c : Cell) : Nat := if c.1 = 3 then 2 else if c.1 = 2 then (if (hat H c.2).2 = 12 then 1 else 2) else 0
noncomputable def bs (c : Cell) : Int := if c.1 = 3 then c.2 else c.2 + 1
theorem fc_is_compound {n : Nat} (hn : C.n = n + 1) (T : TC C mg) {st : Addr} {c : Cell} {Q : PV->CH->Prop} (q : Q (.bool (isC c)) σ) : FC C (.ref 286) [.ref st,cv c] σ Q := by
 refine FC.mth hn T (T.mt "is_compound" rfl) (names := ["self","cell"]) (HB.two λ _ _ _ _ _ _ _ _ _ => rfl) rfl rfl rfl (by decide) (by decide) λ C' hn' sc T' X => ?_
 refine EX.ret ?_
 refine EV.or ?_;walk_at "r"
 refine ite_of (λ h => ?_) λ h => ?_
 ·have e : isC c = true := by unfold isC; rw [h]; rfl
  rw [e] at q; exact q
 ·refine EV.one ?_
  walk_at "r"
  have e : isC c = (c.1 == 3) := by unfold isC; rw [h]; rfl
  rw [e] at q; exact q
theorem fc_base {n : Nat} (hn : C.n = n + 1) (T : TC C mg) {st : Addr} {c : Cell} {Q : PV->CH->Prop} (q : Q (.int (bs c)) σ) : FC C (.ref 307) [.ref st,cv c] σ Q := by
 refine FC.mth hn T (T.mt "base" rfl) (names := ["self","cell"]) (HB.two λ _ _ _ _ _ _ _ _ _ => rfl) rfl rfl rfl (by decide) (by decide) λ C' hn' sc T' X => ?_
 walk_at "b";walk_at "r"
 refine ite_of (λ h => ?_) λ h => ?_
 ·walk_at "r"
  have e : bs c = c.2 := by unfold bs; rw [if_pos (by simpa using h)]
  rw [e] at q; exact q
 ·walk_at "r"
  have e : bs c = c.2 + 1 := by unfold bs; rw [if_neg (by simpa using h)]
  rw [e] at q; exact q
theorem fc_arity {n : Nat} (hn : C.n = n + 1) (T : TC C mg) {a : SA} {TX AN FU FN} (SY : SyOk σ a TX AN FU FN) {f : Nat} (hf : f < FU.length) (hz : FU.length < 1000) {i : Int} (hi : i = (f : Int)) {Q : PV->CH->Prop} (q : Q (.int (hat FU f).2) σ) : FC C (.ref 123) [.ref a.sy,.int i] σ Q := by
 refine FC.mth hn T (T.mt "arity" rfl) (names := ["self","functor"]) (HB.two λ _ _ _ _ _ _ _ _ _ => rfl) rfl rfl rfl (by decide) (by decide) λ C' hn' sc T' X => ?_
 walk_at "b";walk_at "r"
 refine op_hp SY.fu hi hf hz ?_;walk_at "r"
 exact q
theorem fc_is_variable {n : Nat} (hn : C.n = n + 1) (T : TC C mg) {c : Cell} {Q : PV->CH->Prop} (q : Q (.bool (c.1 == 0 || c.1 == 1)) σ) : FC C (.ref 432) [cv c] σ Q := by
 refine FC.top hn T (T.fn "is_variable" rfl) (names := ["cell"]) (HB.one λ _ _ _ _ _ _ _ _ => rfl) rfl rfl rfl (by decide) (by decide) λ C' hn' sc T' X => ?_
 refine EX.ret ?_
 refine EV.or ?_;walk_at "r"
 refine ite_of (λ h => ?_) λ h => ?_
 ·rw [h] at q; exact q
 ·refine EV.one ?_
  walk_at "r"
  rw [h] at q; exact q
theorem fc_variable_number {n : Nat} (hn : C.n = n + 1) (T : TC C mg) {c : Cell} (h0 : c.1 = 0) {Q : PV->CH->Prop} (q : Q (.int c.2) σ) : FC C (.ref 509) [cv c] σ Q := by
 refine FC.top hn T (T.fn "variable_number" rfl) (names := ["cell"]) (HB.one λ _ _ _ _ _ _ _ _ => rfl) rfl rfl rfl (by decide) (by decide) λ C' hn' sc T' X => ?_
 walk_at "b";walk_at "r"
 refine ite_of (λ h => ?_) λ h => absurd h (by simp [h0]);walk_at "r"
 exact q
end
end
section
set_option maxHeartbeats 4000000
theorem rsize_down (w : Nat) : Builtin.Range.rangeSize ((w : Int) - 1) (-1) (-1) = w := by
 unfold Builtin.Range.rangeSize
 cases w with
 | zero => simp
 | succ w => simp; omega
theorem small_down (w : Nat) (h : w < 1000) : Builtin.Range.small ((w : Int) - 1) (-1) (-1) = true := by
 unfold Builtin.Range.small
 have f : ∀ x : Int,-10000 < x->x < 10000->Builtin.Range.rangeFitsLong x = true := λ x h1 h2 => by unfold Builtin.Range.rangeFitsLong; simp; exact La.z40 h1 h2
 rw [rsize_down,f _ (by exact La.l0  (.t (.g (.l 10000)) (.s (.c .x0) .l1)) [[1]] rfl [_] []) (by exact La.l1 (.T .x0 (.l 1000)) (.t (.s (.c .x0) .l1) (.l 10000)) [[1,1]] rfl [_] [] h),f _ (by exact La.l0  (.t (.g (.l 10000)) (.g .l1)) [[1]] rfl [] []) (by exact La.l0  (.t (.g .l1) (.l 10000)) [[1]] rfl [] []),f _ (by exact La.z41) (by exact La.z74 h)]
 have : (if (-1 : Int) > 0 then Builtin.Range.rangeFitsLong (-1 + (-1 - 1)) else Builtin.Range.rangeFitsLong (-1 + (-1 + 1))) = true := by rw [if_neg (by decide)]; exact f _ (by exact La.l0  (.t (.g (.l 10000)) (.a (.g .l1) (.a (.g .l1) .l1))) [[1]] rfl [] []) (by exact La.l0  (.t (.a (.g .l1) (.a (.g .l1) .l1)) (.l 10000)) [[1]] rfl [] [])
 rw [this]; simp
noncomputable def parts (H : List Cell) (c : Cell) : List Cell := (List.range (wd H c)).map λ k => hat H (bs c + (k : Nat))
theorem okc.comp {H : List Cell} {c : Cell} (ok : okc H c) (h : isC c = true) : ∃ p : Nat,bs c = p/\p + wd H c<=H.length/\wd H c<=2/\(∀ k,k < wd H c->(hat H (p + k : Nat)).1 ≠ 6) /\
  ((c.1 = 3/\wd H c = 2)\/(c.1 = 2/\∃ v : Nat,c.2 = v/\v < H.length/\((hat H v = (6,12)/\wd H c = 1)\/(hat H v = (6,13)/\wd H c = 2)))) := by
 cases ok with
 | str1 v h1 h2 h3 =>
  have e : wd H (2,(v : Int)) = 1 := by simp [wd,h2]
  refine ⟨v + 1,by simp [bs],by exact La.l2 (.T (.a .x0 .l1) .x1) (.Q .x2 .l1) (.L (.a (.a .x0 .l1) .x2) .x1) [[1,1,0,1]] rfl [_,_,_] [] h1 e,by exact La.l1 (.Q .x0 .l1) (.L .x0 (.l 2)) [[1,0,1]] rfl [_] [] e,λ k hk => ?_,.inr ⟨rfl,v,rfl,by exact La.z4 h1,.inl ⟨h2,e⟩⟩⟩
  have : k = 0 := by exact La.l2 (.Q .x0 .l1) (.T .x1 .x0) (.Q .x1 .l0) [[0,0,0,1],[1,0,1,1]] rfl [_,_] [] e hk
  subst this; exact h3
 | str2 v h1 h2 h3 h4 =>
  have e : wd H (2,(v : Int)) = 2 := by simp [wd,h2]
  refine ⟨v + 1,by simp [bs],by exact La.l2 (.T (.a .x0 (.l 2)) .x1) (.Q .x2 (.l 2)) (.L (.a (.a .x0 .l1) .x2) .x1) [[1,1,0,1]] rfl [_,_,_] [] h1 e,by exact La.z75 e,λ k hk => ?_,.inr ⟨rfl,v,rfl,by exact La.z42 h1,.inr ⟨h2,e⟩⟩⟩
  have : k = 0\/k = 1 := by exact La.z76 e hk
  rcases this with rfl | rfl
  ·exact h3
  ·exact h4
 | lis v h1 h2 h3 =>
  have e : wd H (3,(v : Int)) = 2 := by simp [wd]
  refine ⟨v,by simp [bs],by exact La.l2 (.T (.a .x0 .l1) .x1) (.Q .x2 (.l 2)) (.L (.a .x0 .x2) .x1) [[1,1,0,1]] rfl [_,_,_] [] h1 e,by exact La.z75 e,λ k hk => ?_,.inl ⟨rfl,e⟩⟩
  have : k = 0\/k = 1 := by exact La.z76 e hk
  rcases this with rfl | rfl
  ·exact h2
  ·exact h3
 | _ => simp [isC] at h
structure FuOk (FU : List Cell) : Prop where
 z : FU.length < 1000
 l : 13 < FU.length
 a : (hat FU 12).2 = 1
 b : (hat FU 13).2 = 2
section
variable {C : Cx} {σ : CH} {mg : Str->Option Value} {a : SA} {H S : List Cell} {TX : List PV} {AN : List (Str × PV)} {FU : List Cell} {FN : List (List Int × PV)}
theorem fc_width {n : Nat} (hn : C.n = n + 2) (T : TC C mg) (SO : StOk σ a H S) (SY : SyOk σ a TX AN FU FN) (FO : FuOk FU) (hlen : H.length < 1000) {c : Cell} (ok : okc H c) (hc : isC c = true) {Q : PV->CH->Prop} (q : Q (.int (wd H c)) σ) :
  FC C (.ref 300) [.ref a.st,cv c] σ Q := by
 refine FC.mth hn T (T.mt "width" rfl) (names := ["self","cell"]) (HB.two λ _ _ _ _ _ _ _ _ _ => rfl) rfl rfl rfl (by decide) (by decide) λ C' hn' sc T' X => ?_
 refine La.x1_5 (ok.comp hc) λ p hp hpl hw2 harg hk => ?_
 walk_at "b";walk_at "r"
 refine ite_of (λ h => ?_) λ h => ?_
 ·have h3 : c.1 = 3 := by simpa using h
  walk_at "r"
  have e : wd H c = 2 := by simp [wd,h3]
  rw [e] at q; exact q
 ·have h3 : c.1 ≠ 3 := by simpa using h
  rcases hk with hk | ⟨h2,v,hv,hvl,hk⟩
  ·exact absurd hk.1 h3
  ·walk_at "r"
   refine ite_of (λ _ => ?_) λ h => absurd h (by simp [h2]);walk_at "r"
   refine op_hp SO.hp hv hvl hlen ?_;walk_at "r"
   rcases hk with ⟨e1,e2⟩ | ⟨e1,e2⟩
   ·refine fc_arity hn' T' SY (f := 12) (by have := FO.l; exact La.z27 this) FO.z (by rw [e1]; rfl) ?_
    walk_at "r"
    rw [e2] at q
    rw [show (hat FU (12 : Nat)).2 = 1 from FO.a]
    exact q
   ·refine fc_arity hn' T' SY (f := 13) (by have := FO.l; assumption) FO.z (by rw [e1]; rfl) ?_
    walk_at "r"
    rw [e2] at q
    rw [show (hat FU (13 : Nat)).2 = 2 from FO.b]
    exact q
theorem fc_functor_of {n : Nat} (hn : C.n = n + 1) (T : TC C mg) (SO : StOk σ a H S) (hlen : H.length < 1000) {c : Cell} (ok : okc H c) (hc : isC c = true) {Q : PV->CH->Prop} (q : Q (.int (fctr H c)) σ) :
  FC C (.ref 293) [.ref a.st,cv c] σ Q := by
 refine FC.mth hn T (T.mt "functor_of" rfl) (names := ["self","cell"]) (HB.two λ _ _ _ _ _ _ _ _ _ => rfl) rfl rfl rfl (by decide) (by decide) λ C' hn' sc T' X => ?_
 refine La.x1_5 (ok.comp hc) λ p hp hpl hw2 harg hk => ?_
 walk_at "b";walk_at "r"
 rcases hk with hk | ⟨h2,v,hv,hvl,hk⟩
 ·refine ite_of (λ h => absurd h (by simp [hk.1])) λ h => ?_
  walk_at "r"
  refine ite_of (λ _ => ?_) λ h => absurd h (by simp [hk.1]);walk_at "r"
  have e : fctr H c = 0 := by simp [fctr,hk.1]
  rw [e] at q; exact q
 ·refine ite_of (λ _ => ?_) λ h => absurd h (by simp [h2])
  walk_at "r"
  refine op_hp SO.hp hv hvl hlen ?_;walk_at "r"
  have e : fctr H c = (hat H v).2 := by simp [fctr,h2,hv]
  rw [e] at q; exact q
theorem fc_same_shape {n : Nat} (hn : C.n = n + 1) (T : TC C mg) (SO : StOk σ a H S) (hlen : H.length < 1000) {c : Cell} (ok : okc H c) (hc : isC c = true) {Q : PV->CH->Prop} (q : Q (.bool true) σ) :
  FC C (.ref 425) [.ref a.st,cv c,cv c] σ Q := by
 refine FC.top hn T (T.fn "same_shape" rfl) (names := ["store","left","right"]) (HB.three λ _ _ _ _ _ _ _ _ _ _ => rfl) rfl rfl rfl (by decide) (by decide) λ C' hn' sc T' X => ?_
 refine La.x1_5 (ok.comp hc) λ p hp hpl hw2 harg hk => ?_
 walk_at "b";walk_at "r"
 refine ite_of (λ h => absurd h (by simp)) λ h => ?_;walk_at "r"
 rcases hk with hk | ⟨h2,v,hv,hvl,hk⟩
 ·refine ite_of (λ _ => ?_) λ h => absurd h (by simp [hk.1])
  walk_at "r"
  exact q
 ·refine ite_of (λ h => absurd h (by simp [h2])) λ h => ?_
  walk_at "r"
  refine op_hp SO.hp hv hvl hlen ?_;walk_at "r"
  refine op_hp SO.hp hv hvl hlen ?_;walk_at "r"
  refine (show Q (.bool (decide _)) σ from ?_)
  rw [decide_eq_true rfl]; exact q
theorem fc_push_arguments {n : Nat} (hn : C.n = n + 3) (T : TC C mg) (SO : StOk σ a H S) (SY : SyOk σ a TX AN FU FN) (FO : FuOk FU) (hlen : H.length < 1000) {c : Cell} (ok : okc H c) (hc : isC c = true) {w : Addr} {L : List PV} (hw : σ w = some (.list L)) (hwh : w ≠ a.hp) (hL : L.length < 1000)
  {Q : PV->CH->Prop} (q : ∀ σ',EB [w] σ σ'->σ' w = some (.list (L ++ (parts H c).reverse.map cv))->Q .none σ') : FC C (.ref 411) [.ref a.st,cv c,.ref w] σ Q := by
 refine FC.top hn T (T.fn "push_arguments" rfl) (names := ["store","cell","work"]) (HB.three λ _ _ _ _ _ _ _ _ _ _ => rfl) rfl rfl rfl (by decide) (by decide) λ C' hn' sc T' X => ?_
 refine La.x1_5 (ok.comp hc) λ p hp hpl hw2 harg hk => ?_
 walk_at "b";walk_at "r"
 refine fc_base hn' T' ?_;walk_at "r"
 refine fc_width hn' T' SO SY FO hlen ok hc ?_;walk_at "r"
 refine fc_range3 rfl (by exact La.z43) (by exact La.z44 hw2) (by decide) (by decide) λ r hr => ?_
 refine it_rng up' (small_down _ (by exact La.z45 hw2)) λ it hit => ⟨it,rfl,λ R hR => ?_⟩
 rw [rsize_down]
 have hit0 : σ it = none := by
  have := hit
  unfold upd at this
  split at this
  ·cases this
  ·exact this
 have e0 : EB [w] σ (upd (upd σ r (.rng ((wd H c : Int) - 1) (-1) (-1))) it (.itR ((wd H c : Int) - 1) (wd H c) (-1))) := (EB.refl.updN hr).updN hit0
 have hw1 : upd (upd σ r (.rng ((wd H c : Int) - 1) (-1) (-1))) it (.itR ((wd H c : Int) - 1) (wd H c) (-1)) w = some (.list L) := by
  rw [un' (ne_of hit0 hw),un' (ne_of hr hw)]; exact hw
 have hwi : w ≠ it := ne_of hit0 hw
 have hst : a.st ∉ [w] := by simp; exact ne_mm SO.st hw (by simp)
 have hdst : a.dst ∉ [w] := by simp; exact ne_mm SO.dst hw (by simp)
 have hhp : a.hp ∉ [w] := by simp; exact λ q => hwh q.symm
 have hpn : (parts H c).length = wd H c := by simp [parts]
 refine FL.down X (by walk_at "kd2") (λ k ρ' σ' => k<=wd H c/\lk "store" ρ' = some (.ref a.st)/\lk "work" ρ' = some (.ref w)/\lk "place" ρ' = some (.int (bs c))/\EB [w] σ σ'/\σ' w = some (.list (L ++ ((parts H c).drop k).reverse.map cv)))
  (wd H c) _ _ ⟨Nat.le_refl _,rfl,rfl,rfl,e0,by rw [hw1,show (parts H c).drop (wd H c) = [] from List.drop_eq_nil_of_le (by rw [hpn]; exact Nat.le_refl _)]; simp⟩ up' ?_ ?_
 ·intro k ρ σ1 h'1 hi R hR; refine La.c6 h'1 λ lk0 l1 l2 l3 e1 w1 => ?_; clear h'1
  have e2 : EB [w] σ (upd σ1 it (.itR ((k : Int) - 1) k (-1))) := e1.updN hit0
  have w2 : upd σ1 it (.itR ((k : Int) - 1) k (-1)) w = some (.list (L ++ ((parts H c).drop (k + 1)).reverse.map cv)) := (un' hwi).trans w1
  have i2 : upd σ1 it (.itR ((k : Int) - 1) k (-1)) it = some (.itR ((k : Int) - 1) k (-1)) := up'
  generalize upd σ1 it (.itR ((k : Int) - 1) k (-1)) = σ2 at *
  have f1 := e2 _ _ hst SO.st
  have f2 := e2 _ _ hdst SO.dst
  have f3 := e2 _ _ hhp SO.hp
  walk_at "r"
  refine ⟨_,_,rfl,w2,?_⟩;walk_at "r"
  have hk1 : k < wd H c := by exact La.z46 lk0
  refine op_hp f3 (v := p + k) (by rw [hp]; rfl) (by exact La.z28 hpl lk0) hlen ?_
  refine ⟨_,w2,by simp; exact La.z110 hL hw2 hpn (La.sb _ _),?_⟩;walk_at "r"
  refine hR _ _ ⟨by exact La.z9 lk0,by walk_at "lk",by walk_at "lk",by walk_at "lk",e2.updO (by simp),?_⟩ ((un' hwi.symm).trans i2)
  rw [up']
  have : (parts H c).drop k = hat H (p + k : Nat) :: (parts H c).drop (k + 1) := by
   rw [List.drop_eq_getElem_cons (by exact La.z47 hpn lk0)]
   congr 1
   simp [parts,hp]
  rw [this]
  simp
 ·intro ρ σ1 h'1 l hi; refine La.c6 h'1 λ lk0 l1 l2 l3 e1 w1 => ?_; clear h'1
  walk_at "r"
  refine q _ (e1.delN hit0) ?_
  rw [del_ne hwi,w1]
  simp
end
end
section
set_option maxHeartbeats 4000000
inductive Met (H : List Cell) : List Cell->List Cell->List Cell->Prop
 | nil {f : List Cell} : Met H f [] f
 | old {f : List Cell} {c : Cell} {w r : List Cell} : der H c ∈ f->Met H f w r->Met H f (c :: w) r
 | new {f : List Cell} {c : Cell} {w r : List Cell} : der H c ∉ f->Met H (f ++ [der H c]) (parts H (der H c) ++ w) r->Met H f (c :: w) r
theorem Met.sub {H f w r : List Cell} (m : Met H f w r) : ∀ c ∈ f,c ∈ r := by
 induction m with
 | nil => exact λ _ h => h
 | old _ _ ih => exact ih
 | new _ _ ih => exact λ c h => ih c (List.mem_append_left _ h)
theorem Met.len {H f w r : List Cell} (m : Met H f w r) : f.length<=r.length := by
 induction m with
 | nil => exact Nat.le_refl _
 | old _ _ ih => exact ih
 | new _ _ ih => simp at ih; exact La.z9 ih
theorem Met.der {H : List Cell} (W : WF H) {f w r : List Cell} {c : Cell} (hc : okc H c) (m : Met H f (c :: w) r) : Met H f (der H c :: w) r := by
 cases m with
 | old h m => exact .old (by rw [der_der W hc]; exact h) m
 | new h m => exact .new (by rw [der_der W hc]; exact h) (by rw [der_der W hc]; exact m)
theorem comp_inj {H : List Cell} {c d : Cell} (oc : okc H c) (od : okc H d) (hc : isC c = true) (hd : isC d = true) (e : c.2 = d.2) : c = d := by
 cases oc with
 | str1 v h1 h2 h3 =>
  cases od with
  | str1 u _ _ _ => obtain rfl : v = u := (Int.ofNat.inj e); rfl
  | str2 u _ g _ _ => obtain rfl : v = u := (Int.ofNat.inj e); rfl
  | lis u _ g _ => obtain rfl : v = u := (Int.ofNat.inj e); rw [h2] at g; exact absurd rfl g
  | _ => simp [isC] at hd
 | str2 v h1 h2 h3 h4 =>
  cases od with
  | str1 u _ _ _ => obtain rfl : v = u := (Int.ofNat.inj e); rfl
  | str2 u _ g _ _ => obtain rfl : v = u := (Int.ofNat.inj e); rfl
  | lis u _ g _ => obtain rfl : v = u := (Int.ofNat.inj e); rw [h2] at g; exact absurd rfl g
  | _ => simp [isC] at hd
 | lis v h1 h2 h3 =>
  cases od with
  | str1 u _ g _ => obtain rfl : v = u := (Int.ofNat.inj e); rw [g] at h2; exact absurd rfl h2
  | str2 u _ g _ _ => obtain rfl : v = u := (Int.ofNat.inj e); rw [g] at h2; exact absurd rfl h2
  | lis u _ _ _ => obtain rfl : v = u := (Int.ofNat.inj e); rfl
  | _ => simp [isC] at hd
 | _ => simp [isC] at hc
theorem parts_non {H : List Cell} {c : Cell} (h : isC c = false) : parts H c = [] := by
 simp [isC] at h
 simp [parts,wd,h.1,h.2]
theorem parts_len {H : List Cell} {c : Cell} : (parts H c).length<=2 := by
 simp only [parts,List.length_map,List.length_range]
 unfold wd
 split
 ·exact La.z77
 ·split
  ·split <;> (first | exact La.z77 | exact La.l0  (.L .l1 (.l 2)) [[1]] rfl [] [])
  ·exact La.z78
theorem parts_ok {H : List Cell} (W : WF H) {c : Cell} (ok : okc H c) : ∀ d ∈ parts H c,okc H d/\d.1 ≠ 1 := by
 intro d hd
 by_cases hc : isC c = true
 ·refine La.x1_5 (ok.comp hc) λ p hp hpl hw2 harg hk => ?_
  simp only [parts,List.mem_map,List.mem_range] at hd
  refine La.x1_2 hd λ k hk h'1 => ?_; clear hd; subst h'1
  rw [hp]
  have := W.at (v := p + k) (by exact La.z79 hpl hk) (harg k hk)
  exact ⟨this.1,this.2.1⟩
 ·rw [parts_non (by simpa using hc)] at hd; cases hd
noncomputable def Mk (M : Int->Bool) (f : List Cell) : Prop := ∀ a,M a = true ↔ ∃ c ∈ f,isC c = true/\c.2 = a
theorem Mk.mem {H : List Cell} {M : Int->Bool} {f : List Cell} (h : Mk M f) (hf : ∀ c ∈ f,okc H c) {c : Cell} (ok : okc H c) (hc : isC c = true) : M c.2 = true ↔ c ∈ f := by
 rw [h]
 constructor
 ·refine La.y1_3 λ d hd h1 h2 => ?_
  rw [<- comp_inj (hf d hd) ok h1 hc h2]; exact hd
 ·exact λ h => ⟨c,h,hc,rfl⟩
theorem Mk.add {M : Int->Bool} {f : List Cell} (h : Mk M f) {c : Cell} (hc : isC c = true) : Mk (λ k => M k || decide (k = c.2)) (f ++ [c]) := by
 intro a
 simp only [Bool.or_eq_true,decide_eq_true_eq,List.mem_append,List.mem_singleton]
 rw [h]
 constructor
 ·rintro (⟨d,h1,h2⟩ | rfl)
  ·exact ⟨d,.inl h1,h2⟩
  ·exact ⟨c,.inr rfl,hc,rfl⟩
 ·refine La.y1_3 λ d h'1 h2 h3 => ?_; rcases h'1 with h1 | rfl
  ·exact .inl ⟨d,h1,h2,h3⟩
  ·exact .inr h3.symm
theorem Mk.non {M : Int->Bool} {f : List Cell} (h : Mk M f) {c : Cell} (hc : isC c = false) : Mk M (f ++ [c]) := by
 intro a
 rw [h]
 constructor
 ·refine La.y1_2 λ d h1 h2 => ?_; exact ⟨d,List.mem_append_left _ h1,h2⟩
 ·refine La.y1_3 λ d h1 h2 h3 => ?_
  rcases List.mem_append.mp h1 with h1 | h1
  ·exact ⟨d,h1,h2,h3⟩
  ·simp at h1; subst h1; rw [hc] at h2; cases h2
theorem Ext.updN {σ₀ σ : CH} {a : Addr} {m : MO} (e : Ext σ₀ σ) (h : σ₀ a = none) : Ext σ₀ (upd σ a m) := λ x m' g => by
 rw [un']
 ·exact e x m' g
 ·rintro rfl; rw [h] at g; cases g
theorem Ext.thru {σ₀ σ σ' : CH} {w : Addr} (e : Ext σ₀ σ) (x : EB [w] σ σ') (h : σ₀ w = none) : Ext σ₀ σ' := λ a m g => x a m (by simp; rintro rfl; rw [h] at g; cases g) (e a m g)
theorem uN' {σ : CH} {a x : Addr} {m : MO} (h : upd σ a m x = none) : σ x = none := by
 unfold upd at h
 split at h
 ·cases h
 ·exact h
section
variable {C : Cx} {σ : CH} {mg : Str->Option Value} {a : SA} {H S : List Cell} {TX : List PV} {AN : List (Str × PV)} {FU : List Cell} {FN : List (List Int × PV)}
theorem fc_occurs_in {n : Nat} (hn : C.n = n + 4) (T : TC C mg) (SO : StOk σ a H S) (SY : SyOk σ a TX AN FU FN) (FO : FuOk FU) (W : WF H) (hlen : H.length < 1000) {c v : Cell} (ok : okc H c) (h1 : c.1 ≠ 1) (hv : v.1 = 0) {r : List Cell} (m : Met H [] [c] r) (hr : r.length<=400)
  {Q : PV->CH->Prop} (q : ∀ σ',Ext σ σ'->Q (.bool (decide (v ∈ r))) σ') : FC C (.ref 439) [.ref a.st,cv v,cv c] σ Q := by
 refine FC.top hn T (T.fn "occurs_in" rfl) (names := ["store","variable","cell"]) (HB.three λ _ _ _ _ _ _ _ _ _ _ => rfl) rfl rfl rfl (by decide) (by decide) λ C' hn' sc T' X => ?_
 walk_at "b";walk_at "r"
 refine fc_deref hn' T' SO W hlen ok (λ h => absurd h h1) ?_
 have okd := der_ok W ok
 have m := m.der W ok
 have dd := der_der W ok
 generalize der H c = d at *
 walk_at "r"
 refine ite_of (λ h => ?_) λ h => ?_
 ·have h : d = v := by simpa using h
  walk_at "r"
  have : v ∈ r := by
   cases m with
   | old h _ => cases h
   | new _ m => exact m.sub v (by rw [dd,h]; simp)
  have e := q σ Ext.refl
  rw [decide_eq_true this] at e; exact e
 have hdv : d ≠ v := by simpa using h
 walk_at "r"
 refine ite_of (λ h => absurd h (by simp [hv])) λ _ => ?_;walk_at "r"
 refine fc_is_compound hn' T' ?_;walk_at "r"
 refine ite_b (c := !(isC d)) (by cases isC d <;> rfl) ?_
 refine ite_of (λ h => ?_) λ h => ?_
 ·have hc : isC d = false := by simpa using h
  refine ite_t ?_;walk_at "r"
  have : v ∉ r := by
   cases m with
   | old h _ => cases h
   | new _ m =>
    rw [dd,parts_non hc] at m
    cases m
    simp; exact λ q => hdv q.symm
  have e := q σ Ext.refl
  rw [decide_eq_false this] at e; exact e
 have hc : isC d = true := by simpa using h
 walk_at "r"
 refine ite_f ?_;walk_at "r"
 refine fc_set0 λ mt hm0 => ?_;walk_at "r"
 refine ⟨by simp,λ w hw0' => ?_⟩
 have hw0 : σ w = none := uN' hw0'
 have hwm : w ≠ mt := λ q => by rw [q,up'] at hw0'; cases hw0'
 refine EX.while X λ R hR => ?_
 have hE : Ext σ (upd (upd σ mt (.set (λ _ => false) 0)) w (.list [cv d])) := (Ext.refl.updN hm0).updN hw0
 have fw : upd (upd σ mt (.set (λ _ => false) 0)) w (.list [cv d]) w = some (.list (([d] : List Cell).reverse.map cv)) := up'
 have fm : upd (upd σ mt (.set (λ _ => false) 0)) w (.list [cv d]) mt = some (.set (λ _ => false) 0) := (un' hwm.symm).trans up'
 generalize upd (upd σ mt (.set (λ _ => false) 0)) w (.list [cv d]) = σ1 at *
 refine (?_ : ∀ (f wk r : List Cell),Met H f wk r->∀ (ρ : Loc') (σ1 : CH) (M : Int->Bool) (k : Nat),Ext σ σ1->σ1 w = some (.list (wk.reverse.map cv))->σ1 mt = some (.set M k)->Mk M f->k<=f.length ->
  (∀ c ∈ f,okc H c)->(∀ c ∈ wk,okc H c/\c.1 ≠ 1)->v ∉ f->wk.length<=1 + 2 * f.length->r.length<=400->(∀ σ',Ext σ σ'->Q (.bool (decide (v ∈ r))) σ') ->
  lk "store" ρ = some (.ref a.st)->lk "variable" ρ = some (cv v)->lk "work" ρ = some (.ref w)->lk "met" ρ = some (.ref mt)->WH C' _ _ ρ σ1 R)
  [] [d] r m _ _ _ 0 hE fw fm (λ a => by simp) (Nat.le_refl _) (λ c h => by cases h) (λ c h => by simp at h; subst h; exact ⟨okd,λ h => by simp [isC,h] at hc⟩) (by simp) (by simp) hr q rfl rfl rfl rfl
 intro f wk r m
 clear hE fw fm q hr
 induction m with
 | nil =>
  intro ρ σ1 M k hE fw fm hM hk okf okw hvf hwl hr q l1 l2 l3 l4
  refine WH.go X λ R' hR' => ?_;walk_at "r"
  refine fcl' fw (by simp) ?_;walk_at "r"
  refine ite_of (λ h => absurd h (by simp)) λ _ => ?_;walk_at "r"
  have e := q _ hE
  rw [decide_eq_false hvf] at e; exact e
 | @old f c wk r hd m ih =>
  intro ρ σ1 M k hE fw fm hM hk okf okw hvf hwl hr q l1 l2 l3 l4
  have SO1 := SO.ext hE
  have fl := m.len
  refine La.c2 (okw c List.mem_cons_self) λ okc1 nc1 => ?_
  have okd := der_ok W okc1
  have fw' : σ1 w = some (.list (wk.reverse.map cv ++ [cv c])) := by rw [fw]; simp
  refine WH.go X λ R' hR' => ?_;walk_at "r"
  refine fcl' fw (by simp at hwl fl ⊢; exact La.z20 hwl hr fl) ?_;walk_at "r"
  refine ite_of (λ _ => ?_) λ h => absurd h (by simp);walk_at "r"
  refine ⟨_,_,_,rfl,fw',by simp at hwl fl ⊢; exact La.z13 hwl hr fl,?_⟩;walk_at "r"
  have hE2 : Ext σ (upd σ1 w (.list (wk.reverse.map cv))) := hE.updN hw0
  have fw2 : upd σ1 w (.list (wk.reverse.map cv)) w = some (.list (wk.reverse.map cv)) := up'
  have fm2 : upd σ1 w (.list (wk.reverse.map cv)) mt = some (.set M k) := (un' hwm.symm).trans fm
  generalize upd σ1 w (.list (wk.reverse.map cv)) = σ2 at *
  have SO2 := SO.ext hE2
  refine fc_deref hn' T' SO2 W hlen okc1 (λ h => absurd h nc1) ?_
  generalize hdd : der H c = d at *
  walk_at "r"
  refine ite_of (λ h => absurd (by simpa using h) (λ e : d = v => hvf (e ▸ hd))) λ h => ?_;walk_at "r"
  refine fc_is_compound hn' T' ?_;walk_at "r"
  have again := λ (ρ : Loc') (h1 : lk "store" ρ = some (.ref a.st)) h2 h3 h4 =>
   ih ρ σ2 M k hE2 fw2 fm2 hM hk okf (λ c h => okw c (List.mem_cons_of_mem _ h)) hvf (by simp at hwl; exact La.z14 hwl) hr q h1 h2 h3 h4
  refine ite_of (λ hc => ?_) λ hc => ?_
  ·walk_at "r"
   refine op_ninS fm2 ?_;walk_at "r"
   rw [(hM.mem okf okd hc).mpr hd]
   refine ite_f ?_
   refine ite_f ?_;walk_at "r"
   exact again _ (by walk_at "lk") (by walk_at "lk") (by walk_at "lk") (by walk_at "lk")
  ·refine ite_f ?_
   walk_at "r"
   exact again _ (by walk_at "lk") (by walk_at "lk") (by walk_at "lk") (by walk_at "lk")
 | @new f c wk r hd m ih =>
  intro ρ σ1 M k hE fw fm hM hk okf okw hvf hwl hr q l1 l2 l3 l4
  have SO1 := SO.ext hE
  have fl := m.len
  refine La.c2 (okw c List.mem_cons_self) λ okc1 nc1 => ?_
  have okd := der_ok W okc1
  have fw' : σ1 w = some (.list (wk.reverse.map cv ++ [cv c])) := by rw [fw]; simp
  refine WH.go X λ R' hR' => ?_;walk_at "r"
  refine fcl' fw (by simp at hwl fl ⊢; exact La.z21 hwl hr fl) ?_;walk_at "r"
  refine ite_of (λ _ => ?_) λ h => absurd h (by simp);walk_at "r"
  refine ⟨_,_,_,rfl,fw',by simp at hwl fl ⊢; exact La.z15 hwl hr fl,?_⟩;walk_at "r"
  have hE2 : Ext σ (upd σ1 w (.list (wk.reverse.map cv))) := hE.updN hw0
  have fw2 : upd σ1 w (.list (wk.reverse.map cv)) w = some (.list (wk.reverse.map cv)) := up'
  have fm2 : upd σ1 w (.list (wk.reverse.map cv)) mt = some (.set M k) := (un' hwm.symm).trans fm
  generalize upd σ1 w (.list (wk.reverse.map cv)) = σ2 at *
  have SO2 := SO.ext hE2
  refine fc_deref hn' T' SO2 W hlen okc1 (λ h => absurd h nc1) ?_
  generalize hdd : der H c = d at *
  walk_at "r"
  refine ite_of (λ h => ?_) λ h => ?_
  ·have h : d = v := by simpa using h
   walk_at "r"
   have e := q _ hE2
   rw [decide_eq_true (h ▸ m.sub d (by simp))] at e; exact e
  have hdv : d ≠ v := by simpa using h
  walk_at "r"
  refine fc_is_compound hn' T' ?_;walk_at "r"
  have hvf' : v ∉ f ++ [d] := by simp; exact ⟨hvf,λ e => hdv e.symm⟩
  have okf' : ∀ c ∈ f ++ [d],okc H c := λ c h => by
   rcases List.mem_append.mp h with h | h
   ·exact okf c h
   ·simp at h; subst h; exact okd
  refine ite_of (λ hc => ?_) λ hc => ?_
  ·walk_at "r"
   refine op_ninS fm2 ?_;walk_at "r"
   have hMd : M d.2 = false := by
    cases q : M d.2 with
    | false => rfl
    | true => exact absurd ((hM.mem okf okd hc).mp q) hd
   rw [hMd]
   refine ite_t ?_;walk_at "r"
   refine ite_t ?_;walk_at "r"
   refine EV.sadd T' rfl rfl rfl rfl ?_;walk_at "r"
   refine ⟨_,_,_,rfl,fm2,?_⟩;walk_at "r"
   refine ⟨_,_,_,rfl,fm2,by simp at fl; exact La.z10 hk hr fl,?_⟩
   rw [hMd]
   have hE3 : Ext σ (upd σ2 mt (.set (λ k => M k || decide (k = d.2)) (k + 1))) := hE2.updN hm0
   have fw3 : upd σ2 mt (.set (λ k => M k || decide (k = d.2)) (k + 1)) w = some (.list (wk.reverse.map cv)) := (un' hwm).trans fw2
   have fm3 : upd σ2 mt (.set (λ k => M k || decide (k = d.2)) (k + 1)) mt = some (.set (λ k => M k || decide (k = d.2)) (k + 1)) := up'
   simp only [Bool.false_eq_true,if_false]
   generalize upd σ2 mt (.set (λ k => M k || decide (k = d.2)) (k + 1)) = σ3 at *
   walk_at "r"
   have hwh : w ≠ a.hp := (ne_of hw0 SO.hp).symm
   refine fc_push_arguments hn' T' (SO.ext hE3) (SY.ext hE3) FO hlen okd hc fw3 hwh (by simp at hwl fl ⊢; exact La.z22 hwl hr fl) λ σ4 e4 fw4 => ?_;walk_at "r"
   have fm4 := e4 _ _ (by simp; exact hwm.symm) fm3
   have pl := parts_len (H := H) (c := d)
   refine ih _ σ4 _ (k + 1) (hE3.thru e4 hw0) (by rw [fw4]; simp) fm4 (hM.add hc) (by simp; assumption) okf' (λ c h => ?_) hvf' (by simp at hwl ⊢; exact La.z16 hwl pl) hr q (by walk_at "lk") (by walk_at "lk") (by walk_at "lk") (by walk_at "lk")
   rcases List.mem_append.mp h with h | h
   ·exact parts_ok W okd c h
   ·exact okw c (List.mem_cons_of_mem _ h)
  ·refine ite_f ?_
   walk_at "r"
   have hc' : isC d = false := hc
   rw [parts_non hc',List.nil_append] at ih
   exact (ih _ σ2 M k hE2 fw2 fm2 (hM.non hc') (by simp; exact La.z3 hk) okf' (λ c h => okw c (List.mem_cons_of_mem _ h)) hvf' (by simp at hwl ⊢; exact La.z11 hwl) hr q (by walk_at "lk") (by walk_at "lk") (by walk_at "lk") (by walk_at "lk"))
end
end
section
set_option maxHeartbeats 4000000
section
variable {C : Cx} {σ : CH} {mg : Str->Option Value} {a : SA} {H S : List Cell} {TX : List PV} {AN : List (Str × PV)} {FU : List Cell} {FN : List (List Int × PV)}
theorem fc_reaches {n : Nat} (hn : C.n = n + 4) (T : TC C mg) (SO : StOk σ a H S) (SY : SyOk σ a TX AN FU FN) (FO : FuOk FU) (W : WF H) (hlen : H.length < 1000) {c v : Cell} (ok : okc H c) (h1 : c.1 = 1->S = [(1,0)]) (hv : isC v = true) {r : List Cell} (m : Met H [] [c] r) (hr : r.length<=400)
  {Q : PV->CH->Prop} (q : ∀ σ',Ext σ σ'->Q (.bool (decide (v ∈ r))) σ') : FC C (.ref 446) [.ref a.st,cv c,cv v] σ Q := by
 refine FC.top hn T (T.fn "reaches" rfl) (names := ["store","cell","target"]) (HB.three λ _ _ _ _ _ _ _ _ _ _ => rfl) rfl rfl rfl (by decide) (by decide) λ C' hn' sc T' X => ?_
 walk_at "b";walk_at "r"
 refine fc_set0 λ mt hm0 => ?_;walk_at "r"
 refine ⟨by simp,λ w hw0' => ?_⟩
 have hw0 : σ w = none := uN' hw0'
 have hwm : w ≠ mt := λ q => by rw [q,up'] at hw0'; cases hw0'
 refine EX.while X λ R hR => ?_
 have hE : Ext σ (upd (upd σ mt (.set (λ _ => false) 0)) w (.list [cv c])) := (Ext.refl.updN hm0).updN hw0
 have fw : upd (upd σ mt (.set (λ _ => false) 0)) w (.list [cv c]) w = some (.list (([c] : List Cell).reverse.map cv)) := up'
 have fm : upd (upd σ mt (.set (λ _ => false) 0)) w (.list [cv c]) mt = some (.set (λ _ => false) 0) := (un' hwm.symm).trans up'
 generalize upd (upd σ mt (.set (λ _ => false) 0)) w (.list [cv c]) = σ1 at *
 refine (?_ : ∀ (f wk r : List Cell),Met H f wk r->∀ (ρ : Loc') (σ1 : CH) (M : Int->Bool) (k : Nat),Ext σ σ1->σ1 w = some (.list (wk.reverse.map cv))->σ1 mt = some (.set M k)->Mk M f->k<=f.length ->
  (∀ c ∈ f,okc H c)->(∀ c ∈ wk,okc H c/\(c.1 = 1->S = [(1,0)]))->v ∉ f->wk.length<=1 + 2 * f.length->r.length<=400->(∀ σ',Ext σ σ'->Q (.bool (decide (v ∈ r))) σ') ->
  lk "store" ρ = some (.ref a.st)->lk "target" ρ = some (cv v)->lk "work" ρ = some (.ref w)->lk "met" ρ = some (.ref mt)->WH C' _ _ ρ σ1 R)
  [] [c] r m _ _ _ 0 hE fw fm (λ a => by simp) (Nat.le_refl _) (λ c h => by cases h) (λ c' h => by simp at h; subst h; exact ⟨ok,h1⟩) (by simp) (by simp) hr q rfl rfl rfl rfl
 intro f wk r m
 clear hE fw fm q hr
 induction m with
 | nil =>
  intro ρ σ1 M k hE fw fm hM hk okf okw hvf hwl hr q l1 l2 l3 l4
  refine WH.go X λ R' hR' => ?_;walk_at "r"
  refine fcl' fw (by simp) ?_;walk_at "r"
  refine ite_of (λ h => absurd h (by simp)) λ _ => ?_;walk_at "r"
  have e := q _ hE
  rw [decide_eq_false hvf] at e; exact e
 | @old f c wk r hd m ih =>
  intro ρ σ1 M k hE fw fm hM hk okf okw hvf hwl hr q l1 l2 l3 l4
  have SO1 := SO.ext hE
  have fl := m.len
  refine La.c2 (okw c List.mem_cons_self) λ okc1 nc1 => ?_
  have okd := der_ok W okc1
  have fw' : σ1 w = some (.list (wk.reverse.map cv ++ [cv c])) := by rw [fw]; simp
  refine WH.go X λ R' hR' => ?_;walk_at "r"
  refine fcl' fw (by simp at hwl fl ⊢; exact La.z20 hwl hr fl) ?_;walk_at "r"
  refine ite_of (λ _ => ?_) λ h => absurd h (by simp);walk_at "r"
  refine ⟨_,_,_,rfl,fw',by simp at hwl fl ⊢; exact La.z13 hwl hr fl,?_⟩;walk_at "r"
  have hE2 : Ext σ (upd σ1 w (.list (wk.reverse.map cv))) := hE.updN hw0
  have fw2 : upd σ1 w (.list (wk.reverse.map cv)) w = some (.list (wk.reverse.map cv)) := up'
  have fm2 : upd σ1 w (.list (wk.reverse.map cv)) mt = some (.set M k) := (un' hwm.symm).trans fm
  generalize upd σ1 w (.list (wk.reverse.map cv)) = σ2 at *
  have SO2 := SO.ext hE2
  refine fc_deref hn' T' SO2 W hlen okc1 nc1 ?_
  generalize hdd : der H c = d at *
  walk_at "r"
  refine fc_is_compound hn' T' ?_;walk_at "r"
  have again := λ (ρ : Loc') (h1 : lk "store" ρ = some (.ref a.st)) h2 h3 h4 =>
   ih ρ σ2 M k hE2 fw2 fm2 hM hk okf (λ c h => okw c (List.mem_cons_of_mem _ h)) hvf (by simp at hwl; exact La.z14 hwl) hr q h1 h2 h3 h4
  refine ite_of (λ hc => ?_) λ hc => ?_
  ·walk_at "r"
   exact again _ (by walk_at "lk") (by walk_at "lk") (by walk_at "lk") (by walk_at "lk")
  ·have hc : isC d = true := by simpa using hc
   walk_at "r"
   refine ite_of (λ h => absurd (by simpa using h) (λ e : d = v => hvf (e ▸ hd))) λ h => ?_;walk_at "r"
   refine op_ninS fm2 ?_;walk_at "r"
   rw [(hM.mem okf okd hc).mpr hd]
   refine ite_f ?_;walk_at "r"
   exact again _ (by walk_at "lk") (by walk_at "lk") (by walk_at "lk") (by walk_at "lk")
 | @new f c wk r hd m ih =>
  intro ρ σ1 M k hE fw fm hM hk okf okw hvf hwl hr q l1 l2 l3 l4
  have SO1 := SO.ext hE
  have fl := m.len
  refine La.c2 (okw c List.mem_cons_self) λ okc1 nc1 => ?_
  have okd := der_ok W okc1
  have fw' : σ1 w = some (.list (wk.reverse.map cv ++ [cv c])) := by rw [fw]; simp
  refine WH.go X λ R' hR' => ?_;walk_at "r"
  refine fcl' fw (by simp at hwl fl ⊢; exact La.z21 hwl hr fl) ?_;walk_at "r"
  refine ite_of (λ _ => ?_) λ h => absurd h (by simp);walk_at "r"
  refine ⟨_,_,_,rfl,fw',by simp at hwl fl ⊢; exact La.z15 hwl hr fl,?_⟩;walk_at "r"
  have hE2 : Ext σ (upd σ1 w (.list (wk.reverse.map cv))) := hE.updN hw0
  have fw2 : upd σ1 w (.list (wk.reverse.map cv)) w = some (.list (wk.reverse.map cv)) := up'
  have fm2 : upd σ1 w (.list (wk.reverse.map cv)) mt = some (.set M k) := (un' hwm.symm).trans fm
  generalize upd σ1 w (.list (wk.reverse.map cv)) = σ2 at *
  have SO2 := SO.ext hE2
  refine fc_deref hn' T' SO2 W hlen okc1 nc1 ?_
  generalize hdd : der H c = d at *
  walk_at "r"
  refine fc_is_compound hn' T' ?_;walk_at "r"
  have okf' : ∀ c ∈ f ++ [d],okc H c := λ c h => by
   rcases List.mem_append.mp h with h | h
   ·exact okf c h
   ·simp at h; subst h; exact okd
  refine ite_of (λ hc => ?_) λ hc => ?_
  ·have hc' : isC d = false := by simpa using hc
   walk_at "r"
   have hvf' : v ∉ f ++ [d] := by simp; exact ⟨hvf,λ e => by rw [e,hc'] at hv; cases hv⟩
   rw [parts_non hc',List.nil_append] at ih
   exact (ih _ σ2 M k hE2 fw2 fm2 (hM.non hc') (by simp; exact La.z3 hk) okf' (λ c h => okw c (List.mem_cons_of_mem _ h)) hvf' (by simp at hwl ⊢; exact La.z11 hwl) hr q (by walk_at "lk") (by walk_at "lk") (by walk_at "lk") (by walk_at "lk"))
  ·have hc : isC d = true := by simpa using hc
   walk_at "r"
   refine ite_of (λ h => ?_) λ h => ?_
   ·have h : d = v := by simpa using h
    walk_at "r"
    have e := q _ hE2
    rw [decide_eq_true (h ▸ m.sub d (by simp))] at e; exact e
   have hdv : d ≠ v := by simpa using h
   have hvf' : v ∉ f ++ [d] := by simp; exact ⟨hvf,λ e => hdv e.symm⟩
   walk_at "r"
   refine op_ninS fm2 ?_;walk_at "r"
   have hMd : M d.2 = false := by
    cases q : M d.2 with
    | false => rfl
    | true => exact absurd ((hM.mem okf okd hc).mp q) hd
   rw [hMd]
   refine ite_t ?_;walk_at "r"
   refine EV.sadd T' rfl rfl rfl rfl ?_;walk_at "r"
   refine ⟨_,_,_,rfl,fm2,?_⟩;walk_at "r"
   refine ⟨_,_,_,rfl,fm2,by simp at fl; exact La.z10 hk hr fl,?_⟩
   rw [hMd]
   have hE3 : Ext σ (upd σ2 mt (.set (λ k => M k || decide (k = d.2)) (k + 1))) := hE2.updN hm0
   have fw3 : upd σ2 mt (.set (λ k => M k || decide (k = d.2)) (k + 1)) w = some (.list (wk.reverse.map cv)) := (un' hwm).trans fw2
   have fm3 : upd σ2 mt (.set (λ k => M k || decide (k = d.2)) (k + 1)) mt = some (.set (λ k => M k || decide (k = d.2)) (k + 1)) := up'
   simp only [Bool.false_eq_true,if_false]
   generalize upd σ2 mt (.set (λ k => M k || decide (k = d.2)) (k + 1)) = σ3 at *
   walk_at "r"
   have hwh : w ≠ a.hp := (ne_of hw0 SO.hp).symm
   refine fc_push_arguments hn' T' (SO.ext hE3) (SY.ext hE3) FO hlen okd hc fw3 hwh (by simp at hwl fl ⊢; exact La.z22 hwl hr fl) λ σ4 e4 fw4 => ?_;walk_at "r"
   have fm4 := e4 _ _ (by simp; exact hwm.symm) fm3
   have pl := parts_len (H := H) (c := d)
   refine ih _ σ4 _ (k + 1) (hE3.thru e4 hw0) (by rw [fw4]; simp) fm4 (hM.add hc) (by simp; assumption) okf' (λ c h => ?_) hvf' (by simp at hwl ⊢; exact La.z16 hwl pl) hr q (by walk_at "lk") (by walk_at "lk") (by walk_at "lk") (by walk_at "lk")
   rcases List.mem_append.mp h with h | h
   ·have := parts_ok W okd c h; exact ⟨this.1,λ e => absurd e this.2⟩
   ·exact okw c (List.mem_cons_of_mem _ h)
end
end
section
set_option maxHeartbeats 4000000
noncomputable def nv (c : Cell) : Bool := !(c.1 == 0 || c.1 == 1)
section
variable {C : Cx} {σ : CH} {mg : Str->Option Value} {a : SA} {H S : List Cell} {TX : List PV} {AN : List (Str × PV)} {FU : List Cell} {FN : List (List Int × PV)}
theorem fc_ground {n : Nat} (hn : C.n = n + 4) (T : TC C mg) (SO : StOk σ a H S) (SY : SyOk σ a TX AN FU FN) (FO : FuOk FU) (W : WF H) (hlen : H.length < 1000) {c : Cell} (ok : okc H c) (h1 : c.1 = 1->S = [(1,0)]) {r : List Cell} (m : Met H [] [c] r) (hr : r.length<=400)
  {Q : PV->CH->Prop} (q : ∀ σ',Ext σ σ'->Q (.bool (r.all nv)) σ') : FC C (.ref 502) [.ref a.st,cv c] σ Q := by
 refine FC.top hn T (T.fn "ground" rfl) (names := ["store","cell"]) (HB.two λ _ _ _ _ _ _ _ _ _ => rfl) rfl rfl rfl (by decide) (by decide) λ C' hn' sc T' X => ?_
 walk_at "b";walk_at "r"
 refine fc_set0 λ mt hm0 => ?_;walk_at "r"
 refine ⟨by simp,λ w hw0' => ?_⟩
 have hw0 : σ w = none := uN' hw0'
 have hwm : w ≠ mt := λ q => by rw [q,up'] at hw0'; cases hw0'
 refine EX.while X λ R hR => ?_
 have hE : Ext σ (upd (upd σ mt (.set (λ _ => false) 0)) w (.list [cv c])) := (Ext.refl.updN hm0).updN hw0
 have fw : upd (upd σ mt (.set (λ _ => false) 0)) w (.list [cv c]) w = some (.list (([c] : List Cell).reverse.map cv)) := up'
 have fm : upd (upd σ mt (.set (λ _ => false) 0)) w (.list [cv c]) mt = some (.set (λ _ => false) 0) := (un' hwm.symm).trans up'
 generalize upd (upd σ mt (.set (λ _ => false) 0)) w (.list [cv c]) = σ1 at *
 refine (?_ : ∀ (f wk r : List Cell),Met H f wk r->∀ (ρ : Loc') (σ1 : CH) (M : Int->Bool) (k : Nat),Ext σ σ1->σ1 w = some (.list (wk.reverse.map cv))->σ1 mt = some (.set M k)->Mk M f->k<=f.length ->
  (∀ c ∈ f,okc H c)->(∀ c ∈ wk,okc H c/\(c.1 = 1->S = [(1,0)]))->(∀ c ∈ f,nv c = true)->wk.length<=1 + 2 * f.length->r.length<=400->(∀ σ',Ext σ σ'->Q (.bool (r.all nv)) σ') ->
  lk "store" ρ = some (.ref a.st)->lk "work" ρ = some (.ref w)->lk "met" ρ = some (.ref mt)->WH C' _ _ ρ σ1 R)
  [] [c] r m _ _ _ 0 hE fw fm (λ a => by simp) (Nat.le_refl _) (λ c h => by cases h) (λ c' h => by simp at h; subst h; exact ⟨ok,h1⟩) (by simp) (by simp) hr q rfl rfl rfl
 intro f wk r m
 clear hE fw fm q hr
 induction m with
 | @nil f =>
  intro ρ σ1 M k hE fw fm hM hk okf okw hvf hwl hr q l1 l2 l3
  refine WH.go X λ R' hR' => ?_;walk_at "r"
  refine fcl' fw (by simp) ?_;walk_at "r"
  refine ite_of (λ h => absurd h (by simp)) λ _ => ?_;walk_at "r"
  have e := q _ hE
  rw [show f.all nv = true from List.all_eq_true.mpr hvf] at e; exact e
 | @old f c wk r hd m ih =>
  intro ρ σ1 M k hE fw fm hM hk okf okw hvf hwl hr q l1 l2 l3
  have SO1 := SO.ext hE
  have fl := m.len
  refine La.c2 (okw c List.mem_cons_self) λ okc1 nc1 => ?_
  have okd := der_ok W okc1
  have fw' : σ1 w = some (.list (wk.reverse.map cv ++ [cv c])) := by rw [fw]; simp
  refine WH.go X λ R' hR' => ?_;walk_at "r"
  refine fcl' fw (by simp at hwl fl ⊢; exact La.z20 hwl hr fl) ?_;walk_at "r"
  refine ite_of (λ _ => ?_) λ h => absurd h (by simp);walk_at "r"
  refine ⟨_,_,_,rfl,fw',by simp at hwl fl ⊢; exact La.z13 hwl hr fl,?_⟩;walk_at "r"
  have hE2 : Ext σ (upd σ1 w (.list (wk.reverse.map cv))) := hE.updN hw0
  have fw2 : upd σ1 w (.list (wk.reverse.map cv)) w = some (.list (wk.reverse.map cv)) := up'
  have fm2 : upd σ1 w (.list (wk.reverse.map cv)) mt = some (.set M k) := (un' hwm.symm).trans fm
  generalize upd σ1 w (.list (wk.reverse.map cv)) = σ2 at *
  have SO2 := SO.ext hE2
  refine fc_deref hn' T' SO2 W hlen okc1 nc1 ?_
  generalize hdd : der H c = d at *
  walk_at "r"
  refine fc_is_variable hn' T' ?_;walk_at "r"
  refine ite_of (λ h => absurd (hvf d hd) (by simp only [nv,h]; decide)) λ h => ?_;walk_at "r"
  refine fc_is_compound hn' T' ?_;walk_at "r"
  have again := λ (ρ : Loc') (h1 : lk "store" ρ = some (.ref a.st)) h2 h3 =>
   ih ρ σ2 M k hE2 fw2 fm2 hM hk okf (λ c h => okw c (List.mem_cons_of_mem _ h)) hvf (by simp at hwl; exact La.z14 hwl) hr q h1 h2 h3
  refine ite_of (λ hc => ?_) λ hc => ?_
  ·walk_at "r"
   refine op_ninS fm2 ?_;walk_at "r"
   rw [(hM.mem okf okd hc).mpr hd]
   refine ite_f ?_
   refine ite_f ?_;walk_at "r"
   exact again _ (by walk_at "lk") (by walk_at "lk") (by walk_at "lk")
  ·refine ite_f ?_
   walk_at "r"
   exact again _ (by walk_at "lk") (by walk_at "lk") (by walk_at "lk")
 | @new f c wk r hd m ih =>
  intro ρ σ1 M k hE fw fm hM hk okf okw hvf hwl hr q l1 l2 l3
  have SO1 := SO.ext hE
  have fl := m.len
  refine La.c2 (okw c List.mem_cons_self) λ okc1 nc1 => ?_
  have okd := der_ok W okc1
  have fw' : σ1 w = some (.list (wk.reverse.map cv ++ [cv c])) := by rw [fw]; simp
  refine WH.go X λ R' hR' => ?_;walk_at "r"
  refine fcl' fw (by simp at hwl fl ⊢; exact La.z21 hwl hr fl) ?_;walk_at "r"
  refine ite_of (λ _ => ?_) λ h => absurd h (by simp);walk_at "r"
  refine ⟨_,_,_,rfl,fw',by simp at hwl fl ⊢; exact La.z15 hwl hr fl,?_⟩;walk_at "r"
  have hE2 : Ext σ (upd σ1 w (.list (wk.reverse.map cv))) := hE.updN hw0
  have fw2 : upd σ1 w (.list (wk.reverse.map cv)) w = some (.list (wk.reverse.map cv)) := up'
  have fm2 : upd σ1 w (.list (wk.reverse.map cv)) mt = some (.set M k) := (un' hwm.symm).trans fm
  generalize upd σ1 w (.list (wk.reverse.map cv)) = σ2 at *
  have SO2 := SO.ext hE2
  refine fc_deref hn' T' SO2 W hlen okc1 nc1 ?_
  generalize hdd : der H c = d at *
  walk_at "r"
  refine fc_is_variable hn' T' ?_;walk_at "r"
  refine ite_of (λ h => ?_) λ h => ?_
  ·walk_at "r"
   have e := q _ hE2
   rw [show r.all nv = false from by
    cases z : r.all nv with
    | false => rfl
    | true => exact absurd (List.all_eq_true.mp z d (m.sub d (by simp))) (by simp only [nv,h]; decide)] at e
   exact e
  have hdv : nv d = true := by simp only [nv,h]; rfl
  walk_at "r"
  refine fc_is_compound hn' T' ?_;walk_at "r"
  have hvf' : ∀ c ∈ f ++ [d],nv c = true := λ c h => by
   rcases List.mem_append.mp h with h | h
   ·exact hvf c h
   ·simp at h; subst h; exact hdv
  have okf' : ∀ c ∈ f ++ [d],okc H c := λ c h => by
   rcases List.mem_append.mp h with h | h
   ·exact okf c h
   ·simp at h; subst h; exact okd
  refine ite_of (λ hc => ?_) λ hc => ?_
  ·walk_at "r"
   refine op_ninS fm2 ?_;walk_at "r"
   have hMd : M d.2 = false := by
    cases q : M d.2 with
    | false => rfl
    | true => exact absurd ((hM.mem okf okd hc).mp q) hd
   rw [hMd]
   refine ite_t ?_;walk_at "r"
   refine ite_t ?_;walk_at "r"
   refine EV.sadd T' rfl rfl rfl rfl ?_;walk_at "r"
   refine ⟨_,_,_,rfl,fm2,?_⟩;walk_at "r"
   refine ⟨_,_,_,rfl,fm2,by simp at fl; exact La.z10 hk hr fl,?_⟩
   rw [hMd]
   have hE3 : Ext σ (upd σ2 mt (.set (λ k => M k || decide (k = d.2)) (k + 1))) := hE2.updN hm0
   have fw3 : upd σ2 mt (.set (λ k => M k || decide (k = d.2)) (k + 1)) w = some (.list (wk.reverse.map cv)) := (un' hwm).trans fw2
   have fm3 : upd σ2 mt (.set (λ k => M k || decide (k = d.2)) (k + 1)) mt = some (.set (λ k => M k || decide (k = d.2)) (k + 1)) := up'
   simp only [Bool.false_eq_true,if_false]
   generalize upd σ2 mt (.set (λ k => M k || decide (k = d.2)) (k + 1)) = σ3 at *
   walk_at "r"
   have hwh : w ≠ a.hp := (ne_of hw0 SO.hp).symm
   refine fc_push_arguments hn' T' (SO.ext hE3) (SY.ext hE3) FO hlen okd hc fw3 hwh (by simp at hwl fl ⊢; exact La.z22 hwl hr fl) λ σ4 e4 fw4 => ?_;walk_at "r"
   have fm4 := e4 _ _ (by simp; exact hwm.symm) fm3
   have pl := parts_len (H := H) (c := d)
   refine ih _ σ4 _ (k + 1) (hE3.thru e4 hw0) (by rw [fw4]; simp) fm4 (hM.add hc) (by simp; assumption) okf' (λ c h => ?_) hvf' (by simp at hwl ⊢; exact La.z16 hwl pl) hr q (by walk_at "lk") (by walk_at "lk") (by walk_at "lk")
   rcases List.mem_append.mp h with h | h
   ·have := parts_ok W okd c h; exact ⟨this.1,λ e => absurd e this.2⟩
   ·exact okw c (List.mem_cons_of_mem _ h)
  ·refine ite_f ?_
   walk_at "r"
   have hc' : isC d = false := hc
   rw [parts_non hc',List.nil_append] at ih
   exact (ih _ σ2 M k hE2 fw2 fm2 (hM.non hc') (by simp; exact La.z3 hk) okf' (λ c h => okw c (List.mem_cons_of_mem _ h)) hvf' (by simp at hwl ⊢; exact La.z11 hwl) hr q (by walk_at "lk") (by walk_at "lk") (by walk_at "lk"))
end
end
section
set_option maxHeartbeats 4000000
theorem der_ne1 {H : List Cell} (W : WF H) {c : Cell} (ok : okc H c) (h : c.1 ≠ 1) : (der H c).1 ≠ 1 :=
 der_ind W (P := λ c d => c.1 ≠ 1->d.1 ≠ 1) (λ _ _ _ h => h) (λ _ _ _ _ => by simp) (λ v d _ _ n1 _ _ ih _ => ih n1) ok h
noncomputable def isR (c : Cell) : Bool := c.1 == 0
noncomputable def Nk (M : Int->Bool) (f : List Cell) : Prop := ∀ a,M a = true ↔ (0,a) ∈ f
section
variable {C : Cx} {σ : CH} {mg : Str->Option Value} {a : SA} {H S : List Cell} {TX : List PV} {AN : List (Str × PV)} {FU : List Cell} {FN : List (List Int × PV)}
theorem fc_globalise {n : Nat} (hn : C.n = n + 2) (T : TC C mg) (SO : StOk σ a H S) (W : WF H) (hlen : H.length < 1000) {c : Cell} (ok : okc H c) (h1 : c.1 ≠ 1) {Q : PV->CH->Prop} (q : Q (cv (der H c)) σ) : FC C (.ref 258) [.ref a.st,cv c] σ Q := by
 refine FC.mth hn T (T.mt "globalise" rfl) (names := ["self","cell"]) (HB.two λ _ _ _ _ _ _ _ _ _ => rfl) rfl rfl rfl (by decide) (by decide) λ C' hn' sc T' X => ?_
 walk_at "b";walk_at "r"
 refine fc_deref hn' T' SO W hlen ok (λ h => absurd h h1) ?_;walk_at "r"
 refine ite_of (λ h => absurd (by simpa using h) (der_ne1 W ok h1)) λ h => ?_;walk_at "r"
 exact q
theorem fc_variables {n : Nat} (hn : C.n = n + 4) (T : TC C mg) (SO : StOk σ a H S) (SY : SyOk σ a TX AN FU FN) (FO : FuOk FU) (W : WF H) (hlen : H.length < 1000) {c : Cell} (ok : okc H c) (h1 : c.1 ≠ 1) {r : List Cell} (m : Met H [] [c] r) (hr : r.length<=400)
  {Q : PV->CH->Prop} (q : ∀ fa σ',Ext σ σ'->σ' fa = some (.list ((r.filter isR).map cv))->Q (.ref fa) σ') : FC C (.ref 495) [.ref a.st,cv c] σ Q := by
 refine FC.top hn T (T.fn "variables" rfl) (names := ["store","cell"]) (HB.two λ _ _ _ _ _ _ _ _ _ => rfl) rfl rfl rfl (by decide) (by decide) λ C' hn' sc T' X => ?_
 walk_at "b";walk_at "r"
 refine ⟨by simp,λ fa hf0 => ?_⟩;walk_at "r"
 refine fc_set0 λ nt hn0' => ?_
 have hn0 : σ nt = none := uN' hn0'
 have hnf : nt ≠ fa := λ q => by rw [q,up'] at hn0'; cases hn0'
 walk_at "r"
 refine fc_set0 λ mt hm0' => ?_
 have hm0'' := uN' hm0'
 have hm0 : σ mt = none := uN' hm0''
 have hmn : mt ≠ nt := λ q => by rw [q,up'] at hm0'; cases hm0'
 have hmf : mt ≠ fa := λ q => by rw [q,up'] at hm0''; cases hm0''
 walk_at "r"
 have hE0 : Ext σ (upd (upd (upd σ fa (.list [])) nt (.set (λ _ => false) 0)) mt (.set (λ _ => false) 0)) := ((Ext.refl.updN hf0).updN hn0).updN hm0
 have SO0 := SO.ext hE0
 have ff0 : upd (upd (upd σ fa (.list [])) nt (.set (λ _ => false) 0)) mt (.set (λ _ => false) 0) fa = some (.list ((([] : List Cell).filter isR).map cv)) := ((un' hmf.symm).trans (un' hnf.symm)).trans up'
 have fn0 : upd (upd (upd σ fa (.list [])) nt (.set (λ _ => false) 0)) mt (.set (λ _ => false) 0) nt = some (.set (λ _ => false) 0) := (un' hmn.symm).trans up'
 have fm0 : upd (upd (upd σ fa (.list [])) nt (.set (λ _ => false) 0)) mt (.set (λ _ => false) 0) mt = some (.set (λ _ => false) 0) := up'
 generalize upd (upd (upd σ fa (.list [])) nt (.set (λ _ => false) 0)) mt (.set (λ _ => false) 0) = σ0 at *
 walk_at "r"
 refine fc_globalise hn' T' SO0 W hlen ok h1 ?_
 have okd := der_ok W ok
 have m := m.der W ok
 have dd := der_der W ok
 have d1 := der_ne1 W ok h1
 generalize der H c = d at *
 walk_at "r"
 refine ⟨by simp,λ w hw0' => ?_⟩
 have hwm : w ≠ mt := λ q => by rw [q,fm0] at hw0'; cases hw0'
 have hwn : w ≠ nt := λ q => by rw [q,fn0] at hw0'; cases hw0'
 have hwf : w ≠ fa := λ q => by rw [q,ff0] at hw0'; cases hw0'
 have hw0 : σ w = none := by
  cases z : σ w with
  | none => rfl
  | some m => rw [hE0 _ _ z] at hw0'; cases hw0'
 refine EX.while X λ R hR => ?_
 refine (?_ : ∀ (f wk r : List Cell),Met H f wk r->∀ (ρ : Loc') (σ1 : CH) (M N : Int->Bool) (k kn : Nat),Ext σ σ1->σ1 w = some (.list (wk.reverse.map cv))->σ1 mt = some (.set M k)->σ1 nt = some (.set N kn)->σ1 fa = some (.list ((f.filter isR).map cv))->Mk M f->Nk N f->k<=f.length->kn<=f.length ->
  (∀ c ∈ f,okc H c)->(∀ c ∈ wk,okc H c/\c.1 ≠ 1)->wk.length<=1 + 2 * f.length->r.length<=400->(∀ σ',Ext σ σ'->σ' fa = some (.list ((r.filter isR).map cv))->Q (.ref fa) σ') ->
  lk "store" ρ = some (.ref a.st)->lk "work" ρ = some (.ref w)->lk "met" ρ = some (.ref mt)->lk "noted" ρ = some (.ref nt)->lk "found" ρ = some (.ref fa)->WH C' _ _ ρ σ1 R)
  [] [d] r m _ _ _ _ 0 0 (hE0.updN hw0) up' ((un' hwm.symm).trans fm0) ((un' hwn.symm).trans fn0) ((un' hwf.symm).trans ff0) (λ a => by simp) (λ a => by simp) (Nat.le_refl _) (Nat.le_refl _) (λ c h => by cases h) (λ c h => by simp at h; subst h; exact ⟨okd,d1⟩) (by simp) hr (q fa) rfl rfl rfl rfl rfl
 intro f wk r m
 clear q hr SO0
 induction m with
 | @nil f =>
  intro ρ σ1 M N k kn hE fw fm fn ff hM hN hk hkn okf okw hwl hr q l1 l2 l3 l4 l5
  refine WH.go X λ R' hR' => ?_;walk_at "r"
  refine fcl' fw (by simp) ?_;walk_at "r"
  refine ite_of (λ h => absurd h (by simp)) λ _ => ?_;walk_at "r"
  exact q _ hE ff
 | @old f c wk r hd m ih =>
  intro ρ σ1 M N k kn hE fw fm fn ff hM hN hk hkn okf okw hwl hr q l1 l2 l3 l4 l5
  have SO1 := SO.ext hE
  have fl := m.len
  refine La.c2 (okw c List.mem_cons_self) λ okc1 nc1 => ?_
  have okd := der_ok W okc1
  have fw' : σ1 w = some (.list (wk.reverse.map cv ++ [cv c])) := by rw [fw]; simp
  refine WH.go X λ R' hR' => ?_;walk_at "r"
  refine fcl' fw (by simp at hwl fl ⊢; exact La.z20 hwl hr fl) ?_;walk_at "r"
  refine ite_of (λ _ => ?_) λ h => absurd h (by simp);walk_at "r"
  refine ⟨_,_,_,rfl,fw',by simp at hwl fl ⊢; exact La.z13 hwl hr fl,?_⟩;walk_at "r"
  have hE2 : Ext σ (upd σ1 w (.list (wk.reverse.map cv))) := hE.updN hw0
  have fw2 : upd σ1 w (.list (wk.reverse.map cv)) w = some (.list (wk.reverse.map cv)) := up'
  have fm2 : upd σ1 w (.list (wk.reverse.map cv)) mt = some (.set M k) := (un' hwm.symm).trans fm
  have fn2 : upd σ1 w (.list (wk.reverse.map cv)) nt = some (.set N kn) := (un' hwn.symm).trans fn
  have ff2 : upd σ1 w (.list (wk.reverse.map cv)) fa = some (.list ((f.filter isR).map cv)) := (un' hwf.symm).trans ff
  generalize upd σ1 w (.list (wk.reverse.map cv)) = σ2 at *
  have SO2 := SO.ext hE2
  refine fc_deref hn' T' SO2 W hlen okc1 (λ h => absurd h nc1) ?_
  generalize hdd : der H c = d at *
  have again := λ (ρ : Loc') (h1 : lk "store" ρ = some (.ref a.st)) h2 h3 h4 h5 =>
   ih ρ σ2 M N k kn hE2 fw2 fm2 fn2 ff2 hM hN hk hkn okf (λ c h => okw c (List.mem_cons_of_mem _ h)) (by simp at hwl; exact La.z14 hwl) hr q h1 h2 h3 h4 h5
  walk_at "r"
  refine ite_of (λ h => ?_) λ h => ?_
  ·have h0 : d.1 = 0 := by simpa using h
   walk_at "r"
   refine op_ninS fn2 ?_;walk_at "r"
   rw [(hN d.2).mpr (by rw [<- h0]; exact hd)]
   refine ite_f ?_;walk_at "r"
   exact again _ (by walk_at "lk") (by walk_at "lk") (by walk_at "lk") (by walk_at "lk") (by walk_at "lk")
  ·walk_at "r"
   refine fc_is_compound hn' T' ?_;walk_at "r"
   refine ite_of (λ hc => ?_) λ hc => ?_
   ·walk_at "r"
    refine op_ninS fm2 ?_;walk_at "r"
    rw [(hM.mem okf okd hc).mpr hd]
    refine ite_f ?_
    refine ite_f ?_;walk_at "r"
    exact again _ (by walk_at "lk") (by walk_at "lk") (by walk_at "lk") (by walk_at "lk") (by walk_at "lk")
   ·refine ite_f ?_
    walk_at "r"
    exact again _ (by walk_at "lk") (by walk_at "lk") (by walk_at "lk") (by walk_at "lk") (by walk_at "lk")
 | @new f c wk r hd m ih =>
  intro ρ σ1 M N k kn hE fw fm fn ff hM hN hk hkn okf okw hwl hr q l1 l2 l3 l4 l5
  have SO1 := SO.ext hE
  have fl := m.len
  refine La.c2 (okw c List.mem_cons_self) λ okc1 nc1 => ?_
  have okd := der_ok W okc1
  have fw' : σ1 w = some (.list (wk.reverse.map cv ++ [cv c])) := by rw [fw]; simp
  refine WH.go X λ R' hR' => ?_;walk_at "r"
  refine fcl' fw (by simp at hwl fl ⊢; exact La.z21 hwl hr fl) ?_;walk_at "r"
  refine ite_of (λ _ => ?_) λ h => absurd h (by simp);walk_at "r"
  refine ⟨_,_,_,rfl,fw',by simp at hwl fl ⊢; exact La.z15 hwl hr fl,?_⟩;walk_at "r"
  have hE2 : Ext σ (upd σ1 w (.list (wk.reverse.map cv))) := hE.updN hw0
  have fw2 : upd σ1 w (.list (wk.reverse.map cv)) w = some (.list (wk.reverse.map cv)) := up'
  have fm2 : upd σ1 w (.list (wk.reverse.map cv)) mt = some (.set M k) := (un' hwm.symm).trans fm
  have fn2 : upd σ1 w (.list (wk.reverse.map cv)) nt = some (.set N kn) := (un' hwn.symm).trans fn
  have ff2 : upd σ1 w (.list (wk.reverse.map cv)) fa = some (.list ((f.filter isR).map cv)) := (un' hwf.symm).trans ff
  generalize upd σ1 w (.list (wk.reverse.map cv)) = σ2 at *
  have SO2 := SO.ext hE2
  refine fc_deref hn' T' SO2 W hlen okc1 (λ h => absurd h nc1) ?_
  generalize hdd : der H c = d at *
  have okf' : ∀ c ∈ f ++ [d],okc H c := λ c h => by
   rcases List.mem_append.mp h with h | h
   ·exact okf c h
   ·simp at h; subst h; exact okd
  walk_at "r"
  refine ite_of (λ h => ?_) λ h => ?_
  ·have h0 : d.1 = 0 := by simpa using h
   have hNd : N d.2 = false := by
    cases z : N d.2 with
    | false => rfl
    | true => have := (hN d.2).mp z; rw [<- h0] at this; exact absurd this hd
   have hc' : isC d = false := by simp [isC,h0]
   have hRd : isR d = true := by simp [isR,h0]
   walk_at "r"
   refine op_ninS fn2 ?_;walk_at "r"
   rw [hNd]
   refine ite_t ?_;walk_at "r"
   refine EV.sadd T' rfl rfl rfl rfl ?_;walk_at "r"
   refine ⟨_,_,_,rfl,fn2,?_⟩;walk_at "r"
   refine ⟨_,_,_,rfl,fn2,by simp at fl; exact La.z10 hkn hr fl,?_⟩
   rw [hNd]
   simp only [Bool.false_eq_true,if_false]
   walk_at "r"
   refine ⟨_,_,rfl,(un' hnf.symm).trans ff2,?_⟩;walk_at "r"
   refine ⟨_,(un' hnf.symm).trans ff2,by simp at fl ⊢; have := List.length_filter_le isR f; exact La.l3 (.L .x0 (.l 400)) (.L (.a .x1 .l1) .x0) (.L .x2 .x1) (.T .x2 (.l 100000)) [[1,1,1,1]] rfl [_,_,_] [] hr fl this,?_⟩;walk_at "r"
   rw [parts_non hc',List.nil_append] at ih
   refine ih _ _ M (λ k => N k || decide (k = d.2)) k (kn + 1) ((hE2.updN hn0).updN hf0) ?_ ?_ ?_ ?_ (hM.non hc') ?_ (by simp; exact La.z3 hk) (by simp; assumption) okf' (λ c h => okw c (List.mem_cons_of_mem _ h)) (by simp at hwl ⊢; exact La.z11 hwl) hr q (by walk_at "lk") (by walk_at "lk") (by walk_at "lk") (by walk_at "lk") (by walk_at "lk")
   ·exact ((un' hwf).trans (un' hwn)).trans fw2
   ·exact ((un' hmf).trans (un' hmn)).trans fm2
   ·exact (un' hnf).trans up'
   ·rw [up']; simp [hRd]
   ·intro x
    simp only [Bool.or_eq_true,decide_eq_true_eq,List.mem_append,List.mem_singleton]
    rw [hN x]
    constructor
    ·rintro (h | rfl)
     ·exact .inl h
     ·exact .inr (by rw [<- h0])
    ·rintro (h | h)
     ·exact .inl h
     ·exact .inr (by rw [<- h])
  ·have h0 : d.1 ≠ 0 := by simpa using h
   have hRd : isR d = false := by simp [isR,h0]
   have hN' : Nk N (f ++ [d]) := λ x => by
    rw [hN x]
    simp only [List.mem_append,List.mem_singleton]
    exact ⟨.inl,λ h => h.elim id λ e => absurd (by rw [<- e]) h0⟩
   have ff3 : ((f ++ [d]).filter isR) = f.filter isR := by simp [hRd]
   rw [<- ff3] at ff2
   walk_at "r"
   refine fc_is_compound hn' T' ?_;walk_at "r"
   refine ite_of (λ hc => ?_) λ hc => ?_
   ·walk_at "r"
    refine op_ninS fm2 ?_;walk_at "r"
    have hMd : M d.2 = false := by
     cases q : M d.2 with
     | false => rfl
     | true => exact absurd ((hM.mem okf okd hc).mp q) hd
    rw [hMd]
    refine ite_t ?_;walk_at "r"
    refine ite_t ?_;walk_at "r"
    refine EV.sadd T' rfl rfl rfl rfl ?_;walk_at "r"
    refine ⟨_,_,_,rfl,fm2,?_⟩;walk_at "r"
    refine ⟨_,_,_,rfl,fm2,by simp at fl; exact La.z10 hk hr fl,?_⟩
    rw [hMd]
    have hE3 : Ext σ (upd σ2 mt (.set (λ k => M k || decide (k = d.2)) (k + 1))) := hE2.updN hm0
    have fw3 : upd σ2 mt (.set (λ k => M k || decide (k = d.2)) (k + 1)) w = some (.list (wk.reverse.map cv)) := (un' hwm).trans fw2
    have fm3 : upd σ2 mt (.set (λ k => M k || decide (k = d.2)) (k + 1)) mt = some (.set (λ k => M k || decide (k = d.2)) (k + 1)) := up'
    have fn3 : upd σ2 mt (.set (λ k => M k || decide (k = d.2)) (k + 1)) nt = some (.set N kn) := (un' hmn.symm).trans fn2
    have ff4 : upd σ2 mt (.set (λ k => M k || decide (k = d.2)) (k + 1)) fa = some (.list (((f ++ [d]).filter isR).map cv)) := (un' hmf.symm).trans ff2
    simp only [Bool.false_eq_true,if_false]
    generalize upd σ2 mt (.set (λ k => M k || decide (k = d.2)) (k + 1)) = σ3 at *
    walk_at "r"
    have hwh : w ≠ a.hp := (ne_of hw0 SO.hp).symm
    refine fc_push_arguments hn' T' (SO.ext hE3) (SY.ext hE3) FO hlen okd hc fw3 hwh (by simp at hwl fl ⊢; exact La.z22 hwl hr fl) λ σ4 e4 fw4 => ?_;walk_at "r"
    have pl := parts_len (H := H) (c := d)
    refine ih _ σ4 _ N (k + 1) kn (hE3.thru e4 hw0) (by rw [fw4]; simp) (e4 _ _ (by simp; exact hwm.symm) fm3) (e4 _ _ (by simp; exact hwn.symm) fn3) (e4 _ _ (by simp; exact hwf.symm) ff4) (hM.add hc) hN' (by simp; assumption) (by simp; exact La.z3 hkn) okf' (λ c h => ?_) (by simp at hwl ⊢; exact La.z16 hwl pl) hr q (by walk_at "lk") (by walk_at "lk") (by walk_at "lk") (by walk_at "lk") (by walk_at "lk")
    rcases List.mem_append.mp h with h | h
    ·exact parts_ok W okd c h
    ·exact okw c (List.mem_cons_of_mem _ h)
   ·refine ite_f ?_
    walk_at "r"
    have hc' : isC d = false := hc
    rw [parts_non hc',List.nil_append] at ih
    exact ih _ σ2 M N k kn hE2 fw2 fm2 fn2 ff2 (hM.non hc') hN' (by simp; exact La.z3 hk) (by simp; exact La.z3 hkn) okf' (λ c h => okw c (List.mem_cons_of_mem _ h)) (by simp at hwl ⊢; exact La.z11 hwl) hr q (by walk_at "lk") (by walk_at "lk") (by walk_at "lk") (by walk_at "lk") (by walk_at "lk")
end
end
section
set_option maxHeartbeats 4000000
noncomputable def pv (c : Cell) : PV := .tup [cv c,cv c]
section
variable {C : Cx} {ρ : Loc'} {σ : CH} {mg : Str->Option Value} {a : SA} {H S : List Cell} {TX : List PV} {AN : List (Str × PV)} {FU : List Cell} {FN : List (List Int × PV)}
theorem fc_push_pairs {n : Nat} (hn : C.n = n + 3) (T : TC C mg) (SO : StOk σ a H S) (SY : SyOk σ a TX AN FU FN) (FO : FuOk FU) (hlen : H.length < 1000) {c : Cell} (ok : okc H c) (hc : isC c = true) {w : Addr} {L : List PV} (hw : σ w = some (.list L)) (hwh : w ≠ a.hp) (hL : L.length < 1000)
  {Q : PV->CH->Prop} (q : ∀ σ',EB [w] σ σ'->σ' w = some (.list (L ++ (parts H c).reverse.map pv))->Q .none σ') : FC C (.ref 418) [.ref a.st,cv c,cv c,.ref w] σ Q := by
 refine FC.top hn T (T.fn "push_pairs" rfl) (names := ["store","left","right","work"]) (HB.four λ _ _ _ _ _ _ _ _ _ _ _ => rfl) rfl rfl rfl (by decide) (by decide) λ C' hn' sc T' X => ?_
 refine La.x1_5 (ok.comp hc) λ p hp hpl hw2 harg hk => ?_
 walk_at "b";walk_at "r"
 refine fc_base hn' T' ?_;walk_at "r"
 refine fc_base hn' T' ?_;walk_at "r"
 refine fc_width hn' T' SO SY FO hlen ok hc ?_;walk_at "r"
 refine fc_range3 rfl (by exact La.z43) (by exact La.z44 hw2) (by decide) (by decide) λ r hr => ?_
 refine it_rng up' (small_down _ (by exact La.z45 hw2)) λ it hit => ⟨it,rfl,λ R hR => ?_⟩
 rw [rsize_down]
 have hit0 : σ it = none := by
  have := hit
  unfold upd at this
  split at this
  ·cases this
  ·exact this
 have e0 : EB [w] σ (upd (upd σ r (.rng ((wd H c : Int) - 1) (-1) (-1))) it (.itR ((wd H c : Int) - 1) (wd H c) (-1))) := (EB.refl.updN hr).updN hit0
 have hw1 : upd (upd σ r (.rng ((wd H c : Int) - 1) (-1) (-1))) it (.itR ((wd H c : Int) - 1) (wd H c) (-1)) w = some (.list L) := by
  rw [un' (ne_of hit0 hw),un' (ne_of hr hw)]; exact hw
 have hwi : w ≠ it := ne_of hit0 hw
 have hst : a.st ∉ [w] := by simp; exact ne_mm SO.st hw (by simp)
 have hdst : a.dst ∉ [w] := by simp; exact ne_mm SO.dst hw (by simp)
 have hhp : a.hp ∉ [w] := by simp; exact λ q => hwh q.symm
 have hpn : (parts H c).length = wd H c := by simp [parts]
 refine FL.down X (by walk_at "kd2") (λ k ρ' σ' => k<=wd H c/\lk "store" ρ' = some (.ref a.st)/\lk "work" ρ' = some (.ref w)/\lk "left_place" ρ' = some (.int (bs c))/\lk "right_place" ρ' = some (.int (bs c))/\EB [w] σ σ'/\σ' w = some (.list (L ++ ((parts H c).drop k).reverse.map pv)))
  (wd H c) _ _ ⟨Nat.le_refl _,rfl,rfl,rfl,rfl,e0,by rw [hw1,show (parts H c).drop (wd H c) = [] from List.drop_eq_nil_of_le (by rw [hpn]; exact Nat.le_refl _)]; simp⟩ up' ?_ ?_
 ·intro k ρ σ1 h'1 hi R hR; refine La.c7 h'1 λ lk0 l1 l2 l3 l4 e1 w1 => ?_; clear h'1
  have e2 : EB [w] σ (upd σ1 it (.itR ((k : Int) - 1) k (-1))) := e1.updN hit0
  have w2 : upd σ1 it (.itR ((k : Int) - 1) k (-1)) w = some (.list (L ++ ((parts H c).drop (k + 1)).reverse.map pv)) := (un' hwi).trans w1
  have i2 : upd σ1 it (.itR ((k : Int) - 1) k (-1)) it = some (.itR ((k : Int) - 1) k (-1)) := up'
  generalize upd σ1 it (.itR ((k : Int) - 1) k (-1)) = σ2 at *
  have f1 := e2 _ _ hst SO.st
  have f2 := e2 _ _ hdst SO.dst
  have f3 := e2 _ _ hhp SO.hp
  have hk1 : k < wd H c := by exact La.z46 lk0
  walk_at "r"
  refine ⟨_,_,rfl,w2,?_⟩;walk_at "r"
  refine op_hp f3 (v := p + k) (by rw [hp]; rfl) (by exact La.z28 hpl lk0) hlen ?_;walk_at "r"
  refine op_hp f3 (v := p + k) (by rw [hp]; rfl) (by exact La.z28 hpl lk0) hlen ?_;walk_at "r"
  refine ⟨by simp,?_⟩
  refine ⟨_,w2,by simp; exact La.z110 hL hw2 hpn (La.sb _ _),?_⟩;walk_at "r"
  refine hR _ _ ⟨by exact La.z9 lk0,by walk_at "lk",by walk_at "lk",by walk_at "lk",by walk_at "lk",e2.updO (by simp),?_⟩ ((un' hwi.symm).trans i2)
  rw [up']
  have : (parts H c).drop k = hat H (p + k : Nat) :: (parts H c).drop (k + 1) := by
   rw [List.drop_eq_getElem_cons (by exact La.z47 hpn lk0)]
   congr 1
   simp [parts,hp]
  rw [this]
  simp [pv]
 ·intro ρ σ1 h'1 l hi; refine La.c7 h'1 λ lk0 l1 l2 l3 l4 e1 w1 => ?_; clear h'1
  walk_at "r"
  refine q _ (e1.delN hit0) ?_
  rw [del_ne hwi,w1]
  simp
theorem EV.ccall (T : TC C mg) {x : Str} {p : Pos} {es : List Expr} {pos : Pos} {Q : PV->CH->Prop} {Cl fI : Addr} {q : Str} {i : Nat} (hg : ClT C.b C.K mg x Cl fI q i) (hk : C.env.kindOf x = some .globalImplicit)
  (h : EL C pos es ρ σ λ vs σ₂ => FC C (.ref Cl) vs σ₂ Q) (hne : es ≠ [] := by simp) (hs : starEach es C.env = es.map λ e => (false,eval e C.env) := by rfl) (hd : (x == ("__debug__" : Str)) = false := by decide)
  (he : eval (.Call (.Name x p) es [] pos) C.env = (do callWith pos (<- eval (.Name x p) C.env) [] (backTo pos (starEach es C.env)) (backToKw pos (keywordEach [] C.env))) := by rfl) : EV C (.Call (.Name x p) es [] pos) ρ σ Q :=
 EV.call T.bs (EV.glob (V := .any (.ref Cl)) T.bs hk ⟨_,hg.1,λ _ => rfl⟩ ⟨_,rfl,.inr (.inr hg.2.1),h⟩ hd) hne hs he
theorem EV.ccall0 (T : TC C mg) {x : Str} {p : Pos} {pos : Pos} {Q : PV->CH->Prop} {Cl fI : Addr} {q : Str} {i : Nat} (hg : ClT C.b C.K mg x Cl fI q i) (hk : C.env.kindOf x = some .globalImplicit)
  (h : FC C (.ref Cl) [] σ Q) (hd : (x == ("__debug__" : Str)) = false := by decide)
  (he : eval (.Call (.Name x p) [] [] pos) C.env = (do callWith pos (<- eval (.Name x p) C.env) [] (backTo pos (starEach [] C.env)) (backToKw pos (keywordEach [] C.env))) := by rfl) : EV C (.Call (.Name x p) [] [] pos) ρ σ Q :=
 EV.call0 T.bs (EV.glob (V := .any (.ref Cl)) T.bs hk ⟨_,hg.1,λ _ => rfl⟩ ⟨_,rfl,.inr (.inr hg.2.1),h⟩ hd) he
theorem fc_PairSet {n : Nat} (hn : C.n = n + 2) (T : TC C mg) (SO : StOk σ a H S) (hlen : H.length < 1000)
  {Q : PV->CH->Prop} (q : ∀ x dx mt σ',Ext σ σ'->σ x = none->σ dx = none->σ mt = none->mt ≠ x->mt ≠ dx->σ' x = some (.inst 400 dx)->σ' dx = some (.ns [("span",.int (H.length + 1)),("met",.ref mt)])->σ' mt = some (.set (λ _ => false) 0)->Q (.ref x) σ') : FC C (.ref 400) [.ref a.st] σ Q := by
 refine La.c6 (T.c_PairSet) λ c1 c2 c3 c4 c5 h'1 => ?_; refine La.x1_3 h'1 λ dV fa dN _ => ?_; clear h'1
 refine FC.cls (n := n + 1) T.bs hn c3 c4 c5 λ x dx hx hdx hne => ?_
 have T2 : TC { C with n := n + 1 } mg := T
 have hdV := dN (by decide)
 subst hdV
 refine FCc.fn (C := { C with n := n + 1 }) (n := n) (names := ["self","store"]) rfl T2.bs fa (HB.two λ _ _ _ _ _ _ _ _ _ => rfl) rfl rfl rfl (by decide) (by decide) λ C' F X => ?_
 have T' := T2.fits F
 have sc := F.sc
 have hn' := F.n
 have hE : Ext σ (upd (upd σ dx (.ns [])) x (.inst 400 dx)) := (Ext.refl.updN hdx).updN hx
 have f1 : upd (upd σ dx (.ns [])) x (.inst 400 dx) x = some (.inst 400 dx) := up'
 have f2 : upd (upd σ dx (.ns [])) x (.inst 400 dx) dx = some (.ns []) := (un' hne.symm).trans up'
 generalize upd (upd σ dx (.ns [])) x (.inst 400 dx) = σ1 at *
 have SO1 := SO.ext hE
 refine EX.setattr T' (T'.at "span" rfl) rfl ?_;walk_at "r"
 refine fcl' SO1.hp (by simp; exact La.z23 hlen) ?_;walk_at "r"
 refine ⟨x,dx,[],rfl,f1,f2,by decide,?_⟩
 have e : (putF "span" (PV.int (((H.map cv).length : Nat) + 1 : Int)) []) = ([(("span" : Str),PV.int ((H.length : Int) + 1))] : List (Str × PV)) := by simp [putF]
 rw [e]
 have hE2 : Ext σ (upd σ1 dx (.ns [("span",PV.int ((H.length : Int) + 1))])) := hE.updN hdx
 have g1 : upd σ1 dx (.ns [("span",PV.int ((H.length : Int) + 1))]) x = some (.inst 400 dx) := (un' hne).trans f1
 have g2 : upd σ1 dx (.ns [("span",PV.int ((H.length : Int) + 1))]) dx = some (.ns [("span",PV.int ((H.length : Int) + 1))]) := up'
 generalize upd σ1 dx (.ns [("span",PV.int ((H.length : Int) + 1))]) = σ2 at *
 refine EX.setattr T' (T'.at "met" rfl) rfl ?_;walk_at "r"
 refine fc_set0 λ mt hm0' => ?_
 have hm0 : σ mt = none := by
  cases z : σ mt with
  | none => rfl
  | some m => rw [hE2 _ _ z] at hm0'; cases hm0'
 have hmx : mt ≠ x := λ q => by rw [q,g1] at hm0'; cases hm0'
 have hmd : mt ≠ dx := λ q => by rw [q,g2] at hm0'; cases hm0'
 walk_at "r"
 refine ⟨x,dx,_,rfl,(un' hmx.symm).trans g1,(un' hmd.symm).trans g2,by simp,?_⟩;walk_at "r"
 refine ⟨rfl,q x dx mt _ ((hE2.updN hm0).updN hdx) hx hdx hm0 hmx hmd ?_ ?_ ?_⟩
 ·exact (un' hne).trans ((un' hmx.symm).trans g1)
 ·rw [up']; rfl
 ·exact (un' hmd).trans up'
theorem fc_padd {n : Nat} (hn : C.n = n + 1) (T : TC C mg) {x dx mt : Addr} {s : Int} {M : Int->Bool} {k : Nat} (hx : σ x = some (.inst 400 dx)) (hdx : σ dx = some (.ns [("span",.int s),("met",.ref mt)])) (hm : σ mt = some (.set M k)) (hk : k < 4000)
  (hs : 0<=s) (hs1 : s < 1000000) {c : Cell} (h0 : 0<=c.2) (h1 : c.2 < 1000000) {Q : PV->CH->Prop} (q : M (c.2 * s + c.2) = true->Q (.bool false) σ)
  (q' : M (c.2 * s + c.2) = false->Q (.bool true) (upd σ mt (.set (λ k => M k || decide (k = c.2 * s + c.2)) (k + 1)))) : FC C (.ref 397) [.ref x,cv c,cv c] σ Q := by
 refine FC.mth hn T T.m400_add (names := ["self","left","right"]) (HB.three λ _ _ _ _ _ _ _ _ _ _ => rfl) rfl rfl rfl (by decide) (by decide) λ C' hn' sc T' X => ?_
 walk_at "b";walk_at "r"
 refine op_mul h0 h1 hs hs1 ?_;walk_at "r"
 refine op_inS hm ?_;walk_at "r"
 refine ite_of (λ h => ?_) λ h => ?_
 ·walk_at "r"
  exact q h
 ·walk_at "r"
  refine EV.sadd T' rfl rfl rfl rfl ?_;walk_at "r"
  refine ⟨_,_,_,rfl,hm,?_⟩;walk_at "r"
  refine ⟨_,_,_,rfl,hm,hk,?_⟩;walk_at "r"
  have e := q' h
  rw [h]
  exact e
end
end
section
set_option maxHeartbeats 4000000
noncomputable def Pk (s : Int) (M : Int->Bool) (f : List Cell) : Prop := ∀ x,M x = true ↔ ∃ c ∈ f,isC c = true/\x = c.2 * s + c.2
theorem okc.addr {H : List Cell} {c : Cell} (ok : okc H c) (hc : isC c = true) : 0<=c.2/\c.2 < H.length := by
 cases ok with
 | str1 v h1 h2 h3 => simp; exact La.z4 h1
 | str2 v h1 h2 h3 h4 => simp; exact La.z42 h1
 | lis v h1 h2 h3 => simp; exact La.z4 h1
 | _ => simp [isC] at hc
theorem Pk.mem {H : List Cell} {s : Int} (hs : 0<=s) {M : Int->Bool} {f : List Cell} (h : Pk s M f) (hf : ∀ c ∈ f,okc H c) {c : Cell} (ok : okc H c) (hc : isC c = true) : M (c.2 * s + c.2) = true ↔ c ∈ f := by
 rw [h]
 constructor
 ·refine La.y1_3 λ d hd h1 h2 => ?_
  have e : c.2 = d.2 := by
   have a1 : c.2 * (s + 1) = d.2 * (s + 1) := by rw [Int.mul_add,Int.mul_add,Int.mul_one,Int.mul_one]; exact h2
   exact Int.eq_of_mul_eq_mul_right (by exact La.l1 (.l .l0 .x0) (.n (.q (.a .x0 .l1) .l0)) [[1,1,0]] rfl [] [_] hs) a1
  rw [comp_inj ok (hf d hd) hc h1 e]; exact hd
 ·exact λ h => ⟨c,h,hc,rfl⟩
theorem Pk.add {s : Int} {M : Int->Bool} {f : List Cell} (h : Pk s M f) {c : Cell} (hc : isC c = true) : Pk s (λ k => M k || decide (k = c.2 * s + c.2)) (f ++ [c]) := by
 intro a
 simp only [Bool.or_eq_true,decide_eq_true_eq,List.mem_append,List.mem_singleton]
 rw [h]
 constructor
 ·rintro (⟨d,h1,h2⟩ | rfl)
  ·exact ⟨d,.inl h1,h2⟩
  ·exact ⟨c,.inr rfl,hc,rfl⟩
 ·refine La.y1_3 λ d h'1 h2 h3 => ?_; rcases h'1 with h1 | rfl
  ·exact .inl ⟨d,h1,h2,h3⟩
  ·exact .inr h3
theorem Pk.non {s : Int} {M : Int->Bool} {f : List Cell} (h : Pk s M f) {c : Cell} (hc : isC c = false) : Pk s M (f ++ [c]) := by
 intro a
 rw [h]
 constructor
 ·refine La.y1_2 λ d h1 h2 => ?_; exact ⟨d,List.mem_append_left _ h1,h2⟩
 ·refine La.y1_3 λ d h1 h2 h3 => ?_
  rcases List.mem_append.mp h1 with h1 | h1
  ·exact ⟨d,h1,h2,h3⟩
  ·simp at h1; subst h1; rw [hc] at h2; cases h2
noncomputable def Dk (D : List (Int × PV)) (f : List Cell) : Prop := ∀ x,at? x D = if (0,x) ∈ f then some (.int x) else none
theorem at?_put {k i : Int} {U : PV} : ∀ {l : List (Int × PV)},at? k (putD i U l) = if k = i then some U else at? k l
 | [] => by
  simp only [putD,at?]
  by_cases h : i = k
  ·subst h; simp
  ·simp [h,Ne.symm h]
 | (x,W) :: r => by
  unfold putD
  by_cases h : x = i
  ·subst h
   simp only [if_true,at?]
   by_cases h2 : x = k
   ·subst h2; simp
   ·simp [h2,Ne.symm h2]
  ·simp only [h,if_false,at?]
   by_cases h2 : x = k
   ·subst h2; simp [h]
   ·simp only [h2,if_false]; exact at?_put
theorem putD_len {α : Type} [DecidableEq α] {i : α} {U : PV} : ∀ {l : List (α × PV)},(putD i U l).length<=l.length + 1
 | [] => by simp [putD]
 | (x,W) :: r => by unfold putD; split <;> simp; have := putD_len (i := i) (U := U) (l := r); assumption
theorem Dk.add {D : List (Int × PV)} {f : List Cell} (h : Dk D f) {d : Cell} (hd : d.1 = 0) : Dk (putD d.2 (.int d.2) D) (f ++ [d]) := by
 intro x
 rw [at?_put,h x]
 by_cases e : x = d.2
 ·subst e
  have : (0,d.2) ∈ f ++ [d] := by simp; right; rw [<- hd]
  simp only [if_true]
  rw [if_pos this]
 ·have : (0,x) ∈ f ++ [d] ↔ (0,x) ∈ f := by
   simp
   intro h
   exact absurd (by rw [<- h]) e
  simp only [e,if_false,this]
theorem Dk.non {D : List (Int × PV)} {f : List Cell} (h : Dk D f) {d : Cell} (hd : d.1 ≠ 0) : Dk D (f ++ [d]) := by
 intro x
 rw [h x]
 have : (0,x) ∈ f ++ [d] ↔ (0,x) ∈ f := by
  simp
  intro h
  exact absurd (by rw [<- h]) hd
 simp only [this]
theorem okc.sort {H : List Cell} {c : Cell} (ok : okc H c) (h1 : c.1 ≠ 1) : c.1 = 0\/isC c = true\/(c.1 ≠ 0/\isC c = false) := by
 by_cases h0 : c.1 = 0
 ·exact .inl h0
 ·cases h : isC c with
  | true => exact .inr (.inl rfl)
  | false => exact .inr (.inr ⟨h0,rfl⟩)
section
variable {C : Cx} {ρ : Loc'} {σ : CH} {mg : Str->Option Value} {a : SA} {H S : List Cell} {TX : List PV} {AN : List (Str × PV)} {FU : List Cell} {FN : List (List Int × PV)}
theorem fc_compare {n : Nat} (hn : C.n = n + 3) (T : TC C mg) (SO : StOk σ a H S) (W : WF H) (hlen : H.length < 1000) {c : Cell} (ok : okc H c) (h1 : c.1 ≠ 1)
  {Q : PV->CH->Prop} (q : ∀ σ',Ext σ σ'->Q (.int 0) σ') : FC C (.ref 481) [.ref a.st,cv c,cv c] σ Q := by
 refine FC.top hn T (T.fn "compare" rfl) (names := ["store","c1","c2"]) (HB.three λ _ _ _ _ _ _ _ _ _ _ => rfl) rfl rfl rfl (by decide) (by decide) λ C' hn' sc T' X => ?_
 walk_at "b"
 refine EV.ccall T' T'.c_PairSet (by walk_at "kd") ?_;walk_at "r"
 refine fc_PairSet hn' T' SO hlen λ x dx mt σ1 hE hx hdx hm hmx hmd f1 f2 f3 => ?_;walk_at "r"
 refine ⟨by simp,?_⟩;walk_at "r"
 refine ⟨by simp,λ w hw0' => ?_⟩
 have hw0 : σ w = none := by
  cases z : σ w with
  | none => rfl
  | some m => rw [hE _ _ z] at hw0'; cases hw0'
 refine EX.while X λ R hR => ?_
 refine WH.go X λ R' hR' => ?_;walk_at "r"
 refine fcl' up' (by simp) ?_;walk_at "r"
 refine ite_of (λ _ => ?_) λ h => absurd h (by simp);walk_at "r"
 refine ⟨w,[],.tup [cv c,cv c],rfl,up',by simp,?_⟩
 have hE2 : Ext σ (upd (upd σ1 w (.list [.tup [cv c,cv c]])) w (.list [])) := (hE.updN hw0).updN hw0
 have fw2 : upd (upd σ1 w (.list [.tup [cv c,cv c]])) w (.list []) w = some (.list []) := up'
 generalize upd (upd σ1 w (.list [.tup [cv c,cv c]])) w (.list []) = σ2 at *
 have SO2 := SO.ext hE2
 refine ⟨_,_,rfl,?_⟩;walk_at "r"
 refine fc_deref hn' T' SO2 W hlen ok (λ h => absurd h h1) ?_;walk_at "r"
 refine fc_deref hn' T' SO2 W hlen ok (λ h => absurd h h1) ?_;walk_at "r"
 refine ite_of (λ _ => ?_) λ h => absurd h (by simp);walk_at "r"
 refine WH.go X λ R' hR' => ?_;walk_at "r"
 refine fcl' fw2 (by simp) ?_;walk_at "r"
 refine ite_of (λ h => absurd h (by simp)) λ _ => ?_;walk_at "r"
 exact q _ hE2
theorem fc_identical {n : Nat} (hn : C.n = n + 4) (T : TC C mg) (SO : StOk σ a H S) (W : WF H) (hlen : H.length < 1000) {c : Cell} (ok : okc H c) (h1 : c.1 ≠ 1)
  {Q : PV->CH->Prop} (q : ∀ σ',Ext σ σ'->Q (.bool true) σ') : FC C (.ref 488) [.ref a.st,cv c,cv c] σ Q := by
 refine FC.top hn T (T.fn "identical" rfl) (names := ["store","c1","c2"]) (HB.three λ _ _ _ _ _ _ _ _ _ _ => rfl) rfl rfl rfl (by decide) (by decide) λ C' hn' sc T' X => ?_
 walk_at "b";walk_at "r"
 refine fc_compare hn' T' SO W hlen ok h1 λ σ1 hE => ?_;walk_at "r"
 exact q _ hE
end
end
section
set_option maxHeartbeats 4000000
section
variable {C : Cx} {ρ : Loc'} {σ : CH} {mg : Str->Option Value} {a : SA} {H S : List Cell} {TX : List PV} {AN : List (Str × PV)} {FU : List Cell} {FN : List (List Int × PV)}
theorem fc_variant {n : Nat} (hn : C.n = n + 4) (T : TC C mg) (SO : StOk σ a H S) (SY : SyOk σ a TX AN FU FN) (FO : FuOk FU) (W : WF H) (hlen : H.length < 1000) {c : Cell} (ok : okc H c) (h1 : c.1 ≠ 1) {r : List Cell} (m : Met H [] [c] r) (hr : r.length<=400)
  {Q : PV->CH->Prop} (q : ∀ σ',Ext σ σ'->Q (.bool true) σ') : FC C (.ref 516) [.ref a.st,cv c,cv c] σ Q := by
 refine FC.top hn T (T.fn "variant" rfl) (names := ["store","c1","c2"]) (HB.three λ _ _ _ _ _ _ _ _ _ _ => rfl) rfl rfl rfl (by decide) (by decide) λ C' hn' sc T' X => ?_
 have B' := T'.sys
 walk_at "b"
 refine EV.dict0 λ fd hf0 => ?_;walk_at "r"
 refine EV.dict0 λ bd hb0' => ?_
 have hb0 : σ bd = none := uN' hb0'
 have hbf : bd ≠ fd := λ q => by rw [q,up'] at hb0'; cases hb0'
 have hE : Ext σ (upd (upd σ fd (.dictI [])) bd (.dictI [])) := (Ext.refl.updN hf0).updN hb0
 have ff : upd (upd σ fd (.dictI [])) bd (.dictI []) fd = some (.dictI []) := (un' hbf.symm).trans up'
 have fb : upd (upd σ fd (.dictI [])) bd (.dictI []) bd = some (.dictI []) := up'
 generalize upd (upd σ fd (.dictI [])) bd (.dictI []) = σ1 at *
 have SO1 := SO.ext hE
 walk_at "r"
 refine EV.ccall T' T'.c_PairSet (by walk_at "kd") ?_;walk_at "r"
 refine fc_PairSet hn' T' SO1 hlen λ x dx mt σ2 hE2' hx1 hdx1 hm1 hmx hmd f1 f2 f3 => ?_
 have hE2 := hE.trans hE2'
 have ff := hE2' _ _ ff
 have fb := hE2' _ _ fb
 have non : ∀ {x : Addr},σ1 x = none->σ x = none := λ {x} h => by
  cases z : σ x with
  | none => rfl
  | some m => rw [hE _ _ z] at h; cases h
 have hx := non hx1
 have hdx := non hdx1
 have hm0 := non hm1
 have hmf : mt ≠ fd := λ q => by rw [q,ff] at f3; cases f3
 have hmb : mt ≠ bd := λ q => by rw [q,fb] at f3; cases f3
 have hxf : x ≠ fd := λ q => by rw [q,ff] at f1; cases f1
 have hxb : x ≠ bd := λ q => by rw [q,fb] at f1; cases f1
 have hdf : dx ≠ fd := λ q => by rw [q,ff] at f2; cases f2
 have hdb : dx ≠ bd := λ q => by rw [q,fb] at f2; cases f2
 clear hE2' hx1 hdx1 hm1 SO1
 walk_at "r"
 refine ⟨by simp,?_⟩;walk_at "r"
 refine ⟨by simp,λ w hw0' => ?_⟩
 have hw0 : σ w = none := by
  cases z : σ w with
  | none => rfl
  | some m => rw [hE2 _ _ z] at hw0'; cases hw0'
 have hwm : w ≠ mt := λ q => by rw [q,f3] at hw0'; cases hw0'
 have hwx : w ≠ x := λ q => by rw [q,f1] at hw0'; cases hw0'
 have hwd : w ≠ dx := λ q => by rw [q,f2] at hw0'; cases hw0'
 have hwf : w ≠ fd := λ q => by rw [q,ff] at hw0'; cases hw0'
 have hwb : w ≠ bd := λ q => by rw [q,fb] at hw0'; cases hw0'
 refine EX.while X λ R hR => ?_
 refine (?_ : ∀ (f wk r : List Cell),Met H f wk r->∀ (ρ : Loc') (σ1 : CH) (M : Int->Bool) (D : List (Int × PV)) (k : Nat),Ext σ σ1->σ1 w = some (.list (wk.reverse.map pv))->σ1 fd = some (.dictI D)->σ1 bd = some (.dictI D) ->
  σ1 x = some (.inst 400 dx)->σ1 dx = some (.ns [("span",.int (H.length + 1)),("met",.ref mt)])->σ1 mt = some (.set M k)->Pk (H.length + 1) M f->Dk D f->k<=f.length->D.length<=f.length ->
  (∀ c ∈ f,okc H c)->(∀ c ∈ wk,okc H c/\c.1 ≠ 1)->wk.length<=1 + 2 * f.length->r.length<=400 ->
  lk "store" ρ = some (.ref a.st)->lk "work" ρ = some (.ref w)->lk "met" ρ = some (.ref x)->lk "forward" ρ = some (.ref fd)->lk "backward" ρ = some (.ref bd)->WH C' _ _ ρ σ1 R)
  [] [c] r m _ _ _ [] 0 (hE2.updN hw0) up' ((un' hwf.symm).trans ff) ((un' hwb.symm).trans fb) ((un' hwx.symm).trans f1) ((un' hwd.symm).trans f2) ((un' hwm.symm).trans f3)
  (λ a => by simp) (λ a => by simp [at?]) (Nat.le_refl _) (Nat.le_refl _) (λ c h => by cases h) (λ c' h => by simp at h; subst h; exact ⟨ok,h1⟩) (by simp) hr rfl rfl rfl rfl rfl
 intro f wk r m
 clear hr ff fb f1 f2 f3
 induction m with
 | @nil f =>
  intro ρ σ1 M D k hE fw ff fb f1 f2 fm hM hD hk hkD okf okw hwl hr l1 l2 l3 l4 l5
  refine WH.go X λ R' hR' => ?_;walk_at "r"
  refine fcl' fw (by simp) ?_;walk_at "r"
  refine ite_of (λ h => absurd h (by simp)) λ _ => ?_;walk_at "r"
  exact q _ hE
 | @old f c wk r hd m ih =>
  intro ρ σ1 M D k hE fw ff fb f1 f2 fm hM hD hk hkD okf okw hwl hr l1 l2 l3 l4 l5
  have fl := m.len
  refine La.c2 (okw c List.mem_cons_self) λ okc1 nc1 => ?_
  have okd := der_ok W okc1
  have d1 := der_ne1 W okc1 nc1
  have fw' : σ1 w = some (.list (wk.reverse.map pv ++ [pv c])) := by rw [fw]; simp
  refine WH.go X λ R' hR' => ?_;walk_at "r"
  refine fcl' fw (by simp at hwl fl ⊢; exact La.z20 hwl hr fl) ?_;walk_at "r"
  refine ite_of (λ _ => ?_) λ h => absurd h (by simp);walk_at "r"
  refine ⟨_,_,_,rfl,fw',by simp at hwl fl ⊢; exact La.z13 hwl hr fl,?_⟩
  have hE2 : Ext σ (upd σ1 w (.list (wk.reverse.map pv))) := hE.updN hw0
  have fw2 : upd σ1 w (.list (wk.reverse.map pv)) w = some (.list (wk.reverse.map pv)) := up'
  have ff2 := (un' (m := .list (wk.reverse.map pv)) hwf.symm).trans ff
  have fb2 := (un' (m := .list (wk.reverse.map pv)) hwb.symm).trans fb
  have f12 := (un' (m := .list (wk.reverse.map pv)) hwx.symm).trans f1
  have f22 := (un' (m := .list (wk.reverse.map pv)) hwd.symm).trans f2
  have fm2 := (un' (m := .list (wk.reverse.map pv)) hwm.symm).trans fm
  generalize upd σ1 w (.list (wk.reverse.map pv)) = σ2 at *
  have SO2 := SO.ext hE2
  refine ⟨_,_,rfl,?_⟩;walk_at "r"
  refine fc_deref hn' T' SO2 W hlen okc1 (λ h => absurd h nc1) ?_;walk_at "r"
  refine fc_deref hn' T' SO2 W hlen okc1 (λ h => absurd h nc1) ?_
  generalize hdd : der H c = d at *
  have again := λ (ρ : Loc') (h1 : lk "store" ρ = some (.ref a.st)) h2 h3 h4 h5 =>
   ih ρ σ2 M D k hE2 fw2 ff2 fb2 f12 f22 fm2 hM hD hk hkD okf (λ c h => okw c (List.mem_cons_of_mem _ h)) (by simp at hwl; exact La.z14 hwl) hr h1 h2 h3 h4 h5
  walk_at "r"
  refine fc_is_variable hn' T' ?_;walk_at "r"
  rcases okd.sort d1 with h0 | hc | ⟨h0,hc⟩
  ·have hDd : at? d.2 D = some (.int d.2) := by rw [hD d.2,if_pos (by rw [<- h0]; exact hd)]
   rw [show (d.1 == 0 || d.1 == 1) = true by rw [h0]; rfl]
   refine ite_t ?_;walk_at "r"
   refine fc_is_variable hn' T' ?_;walk_at "r"
   rw [show (d.1 == 0 || d.1 == 1) = true by rw [h0]; rfl]
   refine ite_t ?_;walk_at "r"
   refine ite_t ?_;walk_at "r"
   refine fc_variable_number hn' T' h0 ?_;walk_at "r"
   refine fc_variable_number hn' T' h0 ?_;walk_at "r"
   refine op_ninD B' ff2 ?_;walk_at "r"
   rw [hDd]
   refine ite_f ?_
   refine ite_f ?_;walk_at "r"
   refine op_ninD B' ff2 ?_;walk_at "r"
   rw [hDd]
   refine ite_f ?_;walk_at "r"
   refine op_subD ff2 hDd ?_;walk_at "r"
   rw [show (d.2 != d.2) = false by simp]
   refine ite_f ?_;walk_at "r"
   refine ite_f ?_;walk_at "r"
   exact again _ (by walk_at "lk") (by walk_at "lk") (by walk_at "lk") (by walk_at "lk") (by walk_at "lk")
  ·have hv : (d.1 == 0 || d.1 == 1) = false := by
    simp [isC] at hc
    rcases hc with h | h <;> rw [h] <;> rfl
   rw [hv]
   refine ite_f ?_
   refine ite_f ?_;walk_at "r"
   refine fc_is_variable hn' T' ?_;walk_at "r"
   rw [hv]
   refine ite_f ?_;walk_at "r"
   refine fc_is_variable hn' T' ?_;walk_at "r"
   rw [hv]
   refine ite_f ?_;walk_at "r"
   refine ite_f ?_;walk_at "r"
   refine fc_is_compound hn' T' ?_;walk_at "r"
   rw [hc]
   refine ite_t ?_;walk_at "r"
   refine fc_is_compound hn' T' ?_;walk_at "r"
   rw [hc]
   refine ite_f ?_;walk_at "r"
   refine fc_same_shape hn' T' SO2 hlen okd hc ?_;walk_at "r"
   refine ite_f ?_;walk_at "r"
   refine ite_f ?_;walk_at "r"
   refine EV.imeth T' T'.m400_add ?_;walk_at "r"
   have ad := okd.addr hc
   refine fc_padd hn' T' f12 f22 fm2 (by first | exact La.l3 (.L .x0 .x1) (.L .x2 (.l 400)) (.L .x1 .x2) (.T .x0 (.l 4000)) [[1,1,1,1]] rfl [_,_,_] [] hk hr fl | (simp at fl; omega)) (by exact La.z29) (by exact La.z80 hlen) ad.1 (by exact La.z81 hlen ad) (λ _ => ?_) λ h => ?_
   ·walk_at "r"
    refine ite_f ?_;walk_at "r"
    exact again _ (by walk_at "lk") (by walk_at "lk") (by walk_at "lk") (by walk_at "lk") (by walk_at "lk")
   ·rw [(hM.mem (by exact La.z29) okf okd hc).mpr hd] at h; cases h
  ·have hv : (d.1 == 0 || d.1 == 1) = false := by simp [h0,d1]
   rw [hv]
   refine ite_f ?_
   refine ite_f ?_;walk_at "r"
   refine fc_is_variable hn' T' ?_;walk_at "r"
   rw [hv]
   refine ite_f ?_;walk_at "r"
   refine fc_is_variable hn' T' ?_;walk_at "r"
   rw [hv]
   refine ite_f ?_;walk_at "r"
   refine ite_f ?_;walk_at "r"
   refine fc_is_compound hn' T' ?_;walk_at "r"
   rw [hc]
   refine ite_f ?_;walk_at "r"
   rw [show decide (d ≠ d) = false by simp]
   refine ite_f ?_;walk_at "r"
   exact again _ (by walk_at "lk") (by walk_at "lk") (by walk_at "lk") (by walk_at "lk") (by walk_at "lk")
 | @new f c wk r hd m ih =>
  intro ρ σ1 M D k hE fw ff fb f1 f2 fm hM hD hk hkD okf okw hwl hr l1 l2 l3 l4 l5
  have fl := m.len
  refine La.c2 (okw c List.mem_cons_self) λ okc1 nc1 => ?_
  have okd := der_ok W okc1
  have d1 := der_ne1 W okc1 nc1
  have fw' : σ1 w = some (.list (wk.reverse.map pv ++ [pv c])) := by rw [fw]; simp
  refine WH.go X λ R' hR' => ?_;walk_at "r"
  refine fcl' fw (by simp at hwl fl ⊢; exact La.z21 hwl hr fl) ?_;walk_at "r"
  refine ite_of (λ _ => ?_) λ h => absurd h (by simp);walk_at "r"
  refine ⟨_,_,_,rfl,fw',by simp at hwl fl ⊢; exact La.z15 hwl hr fl,?_⟩
  have hE2 : Ext σ (upd σ1 w (.list (wk.reverse.map pv))) := hE.updN hw0
  have fw2 : upd σ1 w (.list (wk.reverse.map pv)) w = some (.list (wk.reverse.map pv)) := up'
  have ff2 := (un' (m := .list (wk.reverse.map pv)) hwf.symm).trans ff
  have fb2 := (un' (m := .list (wk.reverse.map pv)) hwb.symm).trans fb
  have f12 := (un' (m := .list (wk.reverse.map pv)) hwx.symm).trans f1
  have f22 := (un' (m := .list (wk.reverse.map pv)) hwd.symm).trans f2
  have fm2 := (un' (m := .list (wk.reverse.map pv)) hwm.symm).trans fm
  generalize upd σ1 w (.list (wk.reverse.map pv)) = σ2 at *
  have SO2 := SO.ext hE2
  refine ⟨_,_,rfl,?_⟩;walk_at "r"
  refine fc_deref hn' T' SO2 W hlen okc1 (λ h => absurd h nc1) ?_;walk_at "r"
  refine fc_deref hn' T' SO2 W hlen okc1 (λ h => absurd h nc1) ?_
  generalize hdd : der H c = d at *
  have okf' : ∀ c ∈ f ++ [d],okc H c := λ c h => by
   rcases List.mem_append.mp h with h | h
   ·exact okf c h
   ·simp at h; subst h; exact okd
  walk_at "r"
  refine fc_is_variable hn' T' ?_;walk_at "r"
  rcases okd.sort d1 with h0 | hc | ⟨h0,hc⟩
  ·have hDd : at? d.2 D = none := by rw [hD d.2,if_neg (by rw [<- h0]; exact hd)]
   have hc' : isC d = false := by simp [isC,h0]
   rw [show (d.1 == 0 || d.1 == 1) = true by rw [h0]; rfl]
   refine ite_t ?_;walk_at "r"
   refine fc_is_variable hn' T' ?_;walk_at "r"
   rw [show (d.1 == 0 || d.1 == 1) = true by rw [h0]; rfl]
   refine ite_t ?_;walk_at "r"
   refine ite_t ?_;walk_at "r"
   refine fc_variable_number hn' T' h0 ?_;walk_at "r"
   refine fc_variable_number hn' T' h0 ?_;walk_at "r"
   refine op_ninD B' ff2 ?_;walk_at "r"
   rw [hDd]
   refine ite_t ?_;walk_at "r"
   refine op_ninD B' fb2 ?_;walk_at "r"
   rw [hDd]
   refine ite_t ?_;walk_at "r"
   refine ite_t ?_;walk_at "r"
   refine si_dict ff2 (by simp at fl; exact La.z48 hkD hr fl) ?_;walk_at "r"
   refine si_dict ((un' hbf).trans fb2) (by simp at fl; exact La.z48 hkD hr fl) ?_;walk_at "r"
   rw [parts_non hc',List.nil_append] at ih
   have pl := putD_len (i := d.2) (U := .int d.2) (l := D)
   refine ih _ _ M (putD d.2 (.int d.2) D) k ((hE2.updN hf0).updN hb0) ?_ ?_ ?_ ?_ ?_ ?_ (hM.non hc') (hD.add h0) (by simp; exact La.z3 hk) (by simp; exact La.l2 (.L .x0 .x1) (.L .x2 (.a .x0 .l1)) (.L .x2 (.a .x1 .l1)) [[1,1,1]] rfl [_,_,_] [] hkD pl) okf' (λ c h => okw c (List.mem_cons_of_mem _ h)) (by simp at hwl ⊢; exact La.z11 hwl) hr (by walk_at "lk") (by walk_at "lk") (by walk_at "lk") (by walk_at "lk") (by walk_at "lk")
   ·exact ((un' hwb).trans (un' hwf)).trans fw2
   ·exact (un' hbf.symm).trans up'
   ·exact up'
   ·exact ((un' hxb).trans (un' hxf)).trans f12
   ·exact ((un' hdb).trans (un' hdf)).trans f22
   ·exact ((un' hmb).trans (un' hmf)).trans fm2
  ·have hv : (d.1 == 0 || d.1 == 1) = false := by
    simp [isC] at hc
    rcases hc with h | h <;> rw [h] <;> rfl
   rw [hv]
   refine ite_f ?_
   refine ite_f ?_;walk_at "r"
   refine fc_is_variable hn' T' ?_;walk_at "r"
   rw [hv]
   refine ite_f ?_;walk_at "r"
   refine fc_is_variable hn' T' ?_;walk_at "r"
   rw [hv]
   refine ite_f ?_;walk_at "r"
   refine ite_f ?_;walk_at "r"
   refine fc_is_compound hn' T' ?_;walk_at "r"
   rw [hc]
   refine ite_t ?_;walk_at "r"
   refine fc_is_compound hn' T' ?_;walk_at "r"
   rw [hc]
   refine ite_f ?_;walk_at "r"
   refine fc_same_shape hn' T' SO2 hlen okd hc ?_;walk_at "r"
   refine ite_f ?_;walk_at "r"
   refine ite_f ?_;walk_at "r"
   refine EV.imeth T' T'.m400_add ?_;walk_at "r"
   have ad := okd.addr hc
   refine fc_padd hn' T' f12 f22 fm2 (by first | omega | (simp at fl; exact La.z10 hk hr fl)) (by exact La.z29) (by exact La.z80 hlen) ad.1 (by exact La.z81 hlen ad) (λ h => absurd ((hM.mem (by exact La.z29) okf okd hc).mp h) hd) λ h => ?_;walk_at "r"
   refine ite_t ?_
   have hE3 : Ext σ (upd σ2 mt (.set (λ k => M k || decide (k = d.2 * ((H.length : Int) + 1) + d.2)) (k + 1))) := hE2.updN hm0
   have fm3 : upd σ2 mt (.set (λ k => M k || decide (k = d.2 * ((H.length : Int) + 1) + d.2)) (k + 1)) mt = some (.set (λ k => M k || decide (k = d.2 * ((H.length : Int) + 1) + d.2)) (k + 1)) := up'
   have fw3 := (un' (m := .set (λ k => M k || decide (k = d.2 * ((H.length : Int) + 1) + d.2)) (k + 1)) hwm).trans fw2
   have ff3 := (un' (m := .set (λ k => M k || decide (k = d.2 * ((H.length : Int) + 1) + d.2)) (k + 1)) hmf.symm).trans ff2
   have fb3 := (un' (m := .set (λ k => M k || decide (k = d.2 * ((H.length : Int) + 1) + d.2)) (k + 1)) hmb.symm).trans fb2
   have f13 := (un' (m := .set (λ k => M k || decide (k = d.2 * ((H.length : Int) + 1) + d.2)) (k + 1)) hmx.symm).trans f12
   have f23 := (un' (m := .set (λ k => M k || decide (k = d.2 * ((H.length : Int) + 1) + d.2)) (k + 1)) hmd.symm).trans f22
   generalize upd σ2 mt (.set (λ k => M k || decide (k = d.2 * ((H.length : Int) + 1) + d.2)) (k + 1)) = σ3 at *
   walk_at "r"
   have hwh : w ≠ a.hp := (ne_of hw0 SO.hp).symm
   refine fc_push_pairs hn' T' (SO.ext hE3) (SY.ext hE3) FO hlen okd hc fw3 hwh (by simp at hwl fl ⊢; exact La.z22 hwl hr fl) λ σ4 e4 fw4 => ?_;walk_at "r"
   have pl := parts_len (H := H) (c := d)
   have h0 : d.1 ≠ 0 := by
    simp [isC] at hc
    rcases hc with h | h <;> rw [h] <;> decide
   refine ih _ σ4 _ D (k + 1) (hE3.thru e4 hw0) (by rw [fw4]; simp) (e4 _ _ (by simp; exact hwf.symm) ff3) (e4 _ _ (by simp; exact hwb.symm) fb3) (e4 _ _ (by simp; exact hwx.symm) f13) (e4 _ _ (by simp; exact hwd.symm) f23) (e4 _ _ (by simp; exact hwm.symm) fm3)
    (hM.add hc) (hD.non h0) (by simp; assumption) (by simp; exact La.z3 hkD) okf' (λ c h => ?_) (by simp at hwl ⊢; exact La.z16 hwl pl) hr (by walk_at "lk") (by walk_at "lk") (by walk_at "lk") (by walk_at "lk") (by walk_at "lk")
   rcases List.mem_append.mp h with h | h
   ·exact parts_ok W okd c h
   ·exact okw c (List.mem_cons_of_mem _ h)
  ·have hv : (d.1 == 0 || d.1 == 1) = false := by simp [h0,d1]
   rw [hv]
   refine ite_f ?_
   refine ite_f ?_;walk_at "r"
   refine fc_is_variable hn' T' ?_;walk_at "r"
   rw [hv]
   refine ite_f ?_;walk_at "r"
   refine fc_is_variable hn' T' ?_;walk_at "r"
   rw [hv]
   refine ite_f ?_;walk_at "r"
   refine ite_f ?_;walk_at "r"
   refine fc_is_compound hn' T' ?_;walk_at "r"
   rw [hc]
   refine ite_f ?_;walk_at "r"
   rw [show decide (d ≠ d) = false by simp]
   refine ite_f ?_;walk_at "r"
   rw [parts_non hc,List.nil_append] at ih
   exact ih _ σ2 M D k hE2 fw2 ff2 fb2 f12 f22 fm2 (hM.non hc) (hD.non h0) (by simp; exact La.z3 hk) (by simp; exact La.z3 hkD) okf' (λ c h => okw c (List.mem_cons_of_mem _ h)) (by simp at hwl ⊢; exact La.z11 hwl) hr (by walk_at "lk") (by walk_at "lk") (by walk_at "lk") (by walk_at "lk") (by walk_at "lk")
end
end
section
set_option maxHeartbeats 4000000
theorem cvs_pls : ∀ l : List Cell,Pls (l.map cv) = true
 | [] => rfl
 | c :: l => by
  show (Pl (cv c) && Pls (l.map cv)) = true
  rw [cv_pl,cvs_pls l]; rfl
theorem cvs_dep : ∀ l : List Cell,PyData.depthAll (dats (l.map cv))<=3
 | [] => by simp [dats,PyData.depthAll]
 | c :: l => by
  have := cvs_dep l
  simp [dats,PyData.depthAll,cv,dat,PyData.depth] at this ⊢
  exact La.l2 (.L .x0 (.l 3)) (.o (.w (.L .l1 .x0) (.Q .x1 .x0)) (.w (.L (.a .x0 .l1) .l1) (.Q .x1 .l1))) (.L .x1 (.l 3)) [[1,0,1,0,1],[0,0,1,0,1]] rfl [_,_] [] this (La.mx _ _)
theorem cvs_mem {c : Cell} {l : List Cell} : cv c ∈ l.map cv ↔ c ∈ l := by
 simp only [List.mem_map]
 exact ⟨λ ⟨d,h,e⟩ => (cv_inj.mp e) ▸ h,λ h => ⟨c,h,rfl⟩⟩
section
variable {C : Cx} {ρ : Loc'} {σ : CH} {mg : Str->Option Value} {a : SA} {H S : List Cell} {TX : List PV} {AN : List (Str × PV)} {FU : List Cell} {FN : List (List Int × PV)}
theorem op_ninC {x : Addr} {c : Cell} {l : List Cell} {Q : PV->CH->Prop} (hx : σ x = some (.list (l.map cv))) (q : Q (.bool (!decide (c ∈ l))) σ) : O2 C Rel (compareOp .NotIn) (cv c) (.ref x) ρ σ Q :=
 op_ninL hx (cv_pl c) (cvs_pls l) (cv_dp c) (by rw [decide_eq_true_iff,cvs_mem]) q
theorem op_inC {x : Addr} {c : Cell} {l : List Cell} {Q : PV->CH->Prop} (hx : σ x = some (.list (l.map cv))) (q : Q (.bool (decide (c ∈ l))) σ) : O2 C Rel (compareOp .In) (cv c) (.ref x) ρ σ Q :=
 op_inL hx (cv_pl c) (cvs_pls l) (cv_dp c) (by rw [decide_eq_true_iff,cvs_mem]) q
theorem cvs_inj : ∀ {l m : List Cell},l.map cv = m.map cv ↔ l = m
 | [],[] => by simp
 | [],_ :: _ => by simp
 | _ :: _,[] => by simp
 | c :: l,d :: m => by simp only [List.map_cons,List.cons.injEq,cv_inj,cvs_inj]
theorem op_neCs {x y : Addr} {l m : List Cell} {Q : PV->CH->Prop} (hx : σ x = some (.list (l.map cv))) (hy : σ y = some (.list (m.map cv))) (q : Q (.bool (decide (l ≠ m))) σ) : O2 C Rel (compareOp .NotEq) (.ref x) (.ref y) ρ σ Q :=
 op_neL hx hy (cvs_pls l) (cvs_pls m) (Nat.le_trans (cvs_dep l) (by decide)) (Nat.le_trans (cvs_dep m) (by decide)) (by rw [decide_eq_true_iff,ne_eq,ne_eq,cvs_inj]) q
theorem op_eqCs {x y : Addr} {l m : List Cell} {Q : PV->CH->Prop} (hx : σ x = some (.list (l.map cv))) (hy : σ y = some (.list (m.map cv))) (q : Q (.bool (decide (l = m))) σ) : O2 C Rel (compareOp .Eq) (.ref x) (.ref y) ρ σ Q :=
 op_eqL hx hy (cvs_pls l) (cvs_pls m) (Nat.le_trans (cvs_dep l) (by decide)) (Nat.le_trans (cvs_dep m) (by decide)) (by rw [decide_eq_true_iff,cvs_inj]) q
theorem fc_law_end {n : Nat} (hn : C.n = n + 1) (T : TC C mg) {hc : Addr} (hh : σ hc = some (.list (H.map cv))) (W : WF H) (hlen : H.length < 1000) {c : Cell} (ok : okc H c) {Q : PV->CH->Prop} (q : Q (cv (der H c)) σ) :
  FC C (.ref 544) [.ref hc,cv c] σ Q := by
 refine FC.top hn T (T.fn "_law_end" rfl) (names := ["heap","cell"]) (HB.two λ _ _ _ _ _ _ _ _ _ => rfl) rfl rfl rfl (by decide) (by decide) λ C' hn' sc T' X => ?_
 refine EX.while X λ R hR => ?_
 have hQ : ∀ (ρ : Loc') d,lk "cell" ρ = some (cv d)->der H c = d->R .next ρ σ := λ ρ d l e => hR.next (by
  subst e
  walk_at "r"
  exact q)
 refine der_ind W (P := λ c' d => der H c = d->∀ ρ,lk "heap" ρ = some (.ref hc)->lk "cell" ρ = some (cv c')->WH C' _ _ ρ σ R) ?_ ?_ ?_ ok rfl _ rfl rfl
 ·intro c' ok' h0 e ρ l1 l2
  refine WH.go X λ R' hR' => ?_;walk_at "r"
  refine ite_of (λ h => absurd (by simpa using h) h0) λ _ => ?_
  refine ite_f ?_
  exact hQ _ c' (by walk_at "lk") e
 ·intro v hv e0 e ρ l1 l2
  refine WH.go X λ R' hR' => ?_;walk_at "r"
  refine ite_of (λ _ => ?_) λ h => absurd h (by simp);walk_at "r"
  refine op_hp hh (v := v) rfl hv hlen ?_;walk_at "r"
  refine ite_of (λ h => absurd h (by simp [e0])) λ _ => ?_
  refine ite_f ?_
  exact hQ _ (0,v) (by walk_at "lk") e
 ·intro v d hv h6 h1' e0 ok' ih e ρ l1 l2
  refine WH.go X λ R' hR' => ?_;walk_at "r"
  refine ite_of (λ _ => ?_) λ h => absurd h (by simp);walk_at "r"
  refine op_hp hh (v := v) rfl hv hlen ?_;walk_at "r"
  refine ite_of (λ _ => ?_) λ h => absurd h (by simp [e0]);walk_at "r"
  refine ite_t ?_;walk_at "r"
  refine op_hp hh (v := v) rfl hv hlen ?_;walk_at "r"
  exact ih e _ (by walk_at "lk") (by walk_at "lk")
theorem fc_law_parts {n : Nat} (hn : C.n = n + 2) (T : TC C mg) {hc : Addr} (hh : σ hc = some (.list (H.map cv))) (SY : SyOk σ a TX AN FU FN) (FO : FuOk FU) (hlen : H.length < 1000) {c : Cell} (ok : okc H c)
  {Q : PV->CH->Prop} (q : ∀ l σ',Ext σ σ'->σ l = none->σ' l = some (.list ((parts H c).map cv))->Q (.ref l) σ') : FC C (.ref 551) [.ref a.sy,.ref hc,cv c] σ Q := by
 refine FC.top hn T (T.fn "_law_parts" rfl) (names := ["signs","heap","cell"]) (HB.three λ _ _ _ _ _ _ _ _ _ _ => rfl) rfl rfl rfl (by decide) (by decide) λ C' hn' sc T' X => ?_
 walk_at "b";walk_at "r"
 refine ite_of (λ h => ?_) λ h => ?_
 ·have h3 : c.1 = 3 := by simpa using h
  cases ok with
  | lis v g1 g2 g3 =>
   walk_at "r"
   refine op_hp hh (v := v) rfl (by exact La.z4 g1) hlen ?_;walk_at "r"
   refine op_hp hh (v := v + 1) rfl (by assumption) hlen ?_;walk_at "r"
   refine ⟨by simp,λ l hl => ?_⟩;walk_at "r"
   refine q l _ (Ext.new hl) hl ?_
   rw [up']
   simp [parts,wd,bs,List.range_succ]
  | _ => simp at h3
 ·have h3 : c.1 ≠ 3 := by simpa using h
  walk_at "r"
  refine ite_of (λ h => ?_) λ h => ?_
  ·have h2 : c.1 = 2 := by simpa using h
   have hc2 : isC c = true := by simp [isC,h2]
   refine La.x1_5 (ok.comp hc2) λ p hp hpl hw2 harg hk => ?_
   rcases hk with hk | ⟨_,v,hv,hvl,hk⟩
   ·exact absurd hk.1 h3
   ·have hpv : p = v + 1 := by
     have : bs c = c.2 + 1 := by simp [bs,h2]
     exact La.l3 (.q .x0 (.c .x0)) (.q .x1 (.c .x1)) (.q .x0 (.a .x1 .l1)) (.Q .x0 (.a .x1 .l1)) [[1,0,0,1,0,1,1],[0,1,1,0,1,0,1]] rfl [_,_] [_,_] hp hv this
    subst hpv
    refine EX.ret (EV.sliceLH ?_);walk_at "r"
    refine op_hp hh hv hvl hlen ?_;walk_at "r"
    have fin : (∃ w : Nat,wd H c = w/\∃ f : Nat,(hat H v).2 = f/\f < FU.length/\(hat FU f).2 = w) := by
     rcases hk with ⟨e1,e2⟩ | ⟨e1,e2⟩
     ·exact ⟨1,e2,12,by rw [e1]; rfl,by have := FO.l; exact La.z27 this,FO.a⟩
     ·exact ⟨2,e2,13,by rw [e1]; rfl,FO.l,FO.b⟩
    refine La.x1_2 fin λ w e1 h'1 => ?_; clear fin; refine La.x1_3 h'1 λ f e2 e3 e4 => ?_; clear h'1
    refine fc_arity hn' T' SY e3 FO.z e2 ?_
    rw [e4]
    walk_at "r"
    refine ⟨hc,H.map cv,v + 1,v + 1 + w,rfl,by rw [hv]; rfl,by rw [hv]; rfl,hh,by exact La.l0  (.L (.a .x0 .l1) (.a (.a .x0 .l1) .x1)) [[1]] rfl [_,_] [],by simp; exact La.l2 (.L (.a (.a .x0 .l1) .x1) .x2) (.Q .x1 .x3) (.L (.a (.a .x0 .l1) .x3) .x2) [[1,0,1,1]] rfl [_,_,_,_] [] hpl e1,by simp; exact La.l1 (.T .x0 (.l 1000)) (.L .x0 (.l 100000)) [[1,1]] rfl [_] [] hlen,λ l hl => ?_⟩;walk_at "r"
    refine q l _ (Ext.new hl) hl ?_
    rw [up']
    congr 2
    rw [<- List.map_drop,<- List.map_take]
    congr 1
    apply List.ext_getElem
    ·simp [parts,e1]; exact Nat.min_eq_left (Nat.le_sub_of_add_le (by rw [<- e1,Nat.add_comm]; exact hpl))
    ·intro i h1 h2
     simp only [List.getElem_take,List.getElem_drop,parts,List.getElem_map,List.getElem_range]
     rw [hp]
     have hi : v + 1 + i < H.length := by
      have h2 : i < H.length - (v + 1) := by simp at h1; exact Nat.lt_of_lt_of_le h1 (Nat.min_le_right _ _)
      rw [Nat.add_comm]; exact Nat.add_lt_of_lt_sub h2
     have := hat_get hi
     rw [List.getElem?_eq_getElem hi] at this
     exact Option.some.inj this
  ·have h2 : c.1 ≠ 2 := by simpa using h
   walk_at "r"
   refine ⟨by simp,λ l hl => ?_⟩;walk_at "r"
   refine q l _ (Ext.new hl) hl ?_
   rw [up',parts_non (by simp [isC,h2,h3])]
   rfl
end
end
section
set_option maxHeartbeats 4000000
inductive LL (H : List Cell) : List Cell->List Cell->Cell->List Cell × Cell->Prop
 | stop {s f : List Cell} {c : Cell} : (c.1 ≠ 3\/c ∈ s)->LL H s f c (f,c)
 | go {s f : List Cell} {v : Nat} {r : List Cell × Cell} : (3,(v : Int)) ∉ s->LL H (s ++ [(3,(v : Int))]) (f ++ [der H (hat H v)]) (der H (hat H (v + 1 : Nat))) r->LL H s f (3,(v : Int)) r
theorem LL.len {H s f : List Cell} {c : Cell} {r : List Cell × Cell} (m : LL H s f c r) : f.length<=r.1.length := by
 induction m with
 | stop _ => exact Nat.le_refl _
 | go _ _ ih => simp at ih; exact La.z9 ih
noncomputable def Sk (M : Int->Bool) (s : List Cell) : Prop := ∀ a,M a = true ↔ (3,a) ∈ s
theorem Ext.none {σ σ' : CH} (e : Ext σ σ') {x : Addr} (h : σ' x = none) : σ x = none := by
 cases z : σ x with
 | none => rfl
 | some m => rw [e _ _ z] at h; cases h
section
variable {C : Cx} {ρ : Loc'} {σ : CH} {mg : Str->Option Value} {a : SA} {H S : List Cell} {TX : List PV} {AN : List (Str × PV)} {FU : List Cell} {FN : List (List Int × PV)}
theorem fc_law_met {n : Nat} (hn : C.n = n + 3) (T : TC C mg) {hc : Addr} (hh : σ hc = some (.list (H.map cv))) (SY : SyOk σ a TX AN FU FN) (FO : FuOk FU) (W : WF H) (hlen : H.length < 1000) {c : Cell} (ok : okc H c) {r : List Cell} (m : Met H [] [c] r) (hr : r.length<=400)
  {Q : PV->CH->Prop} (q : ∀ l σ',Ext σ σ'->σ l = none->σ' l = some (.list (r.map cv))->Q (.ref l) σ') : FC C (.ref 558) [.ref a.sy,.ref hc,cv c] σ Q := by
 refine FC.top hn T (T.fn "_law_met" rfl) (names := ["signs","heap","cell"]) (HB.three λ _ _ _ _ _ _ _ _ _ _ => rfl) rfl rfl rfl (by decide) (by decide) λ C' hn' sc T' X => ?_
 walk_at "b";walk_at "r"
 refine ⟨by simp,λ fa hf0 => ?_⟩;walk_at "r"
 refine ⟨by simp,λ w0 hw0' => ?_⟩
 have hwf0 : w0 ≠ fa := λ q => by rw [q,up'] at hw0'; cases hw0'
 refine EX.while X λ R hR => ?_
 refine (?_ : ∀ (f wk r : List Cell),Met H f wk r->∀ (ρ : Loc') (σ1 : CH) (w : Addr),Ext σ σ1->σ w = none->w ≠ fa->σ1 w = some (.list (wk.map cv))->σ1 fa = some (.list (f.map cv))->(∀ c ∈ f,okc H c)->(∀ c ∈ wk,okc H c)->wk.length<=1 + 2 * f.length->r.length<=400 ->
  (∀ l σ',Ext σ σ'->σ l = none->σ' l = some (.list (r.map cv))->Q (.ref l) σ') ->
  lk "signs" ρ = some (.ref a.sy)->lk "heap" ρ = some (.ref hc)->lk "work" ρ = some (.ref w)->lk "found" ρ = some (.ref fa)->WH C' _ _ ρ σ1 R)
  [] [c] r m _ _ w0 ((Ext.refl.updN hf0).updN (uN' hw0')) (uN' hw0') hwf0 up' ((un' hwf0.symm).trans up') (λ c h => by cases h) (λ c' h => by simp at h; subst h; exact ok) (by simp) hr q rfl rfl rfl rfl
 intro f wk r m
 clear hr q
 induction m with
 | @nil f =>
  intro ρ σ1 w hE hw0 hwf fw ff okf okw hwl hr q l1 l2 l3 l4
  refine WH.go X λ R' hR' => ?_;walk_at "r"
  refine ⟨by simp,λ e he => ?_⟩;walk_at "r"
  refine op_neCs (l := []) (m := []) (upd_old he fw) up' ?_;walk_at "r"
  refine ite_of (λ h => absurd h (by simp)) λ _ => ?_;walk_at "r"
  exact q _ _ (hE.updN (hE.none he)) hf0 (upd_old he ff)
 | @old f c wk r hd m ih =>
  intro ρ σ1 w hE hw0 hwf fw ff okf okw hwl hr q l1 l2 l3 l4
  have fl := m.len
  have okc1 := okw c List.mem_cons_self
  refine WH.go X λ R' hR' => ?_;walk_at "r"
  refine ⟨by simp,λ e he => ?_⟩
  have hE1 := hE.updN (m := .list []) (hE.none he)
  have fw1 := upd_old (m' := .list []) he fw
  have ff1 := upd_old (m' := .list []) he ff
  have fe1 : upd σ1 e (.list []) e = some (.list []) := up'
  generalize upd σ1 e (.list []) = σ2 at *
  walk_at "r"
  refine op_neCs (m := []) fw1 fe1 ?_;walk_at "r"
  refine ite_of (λ _ => ?_) λ h => absurd h (by simp);walk_at "r"
  refine EV.lpop0 T' rfl rfl rfl rfl ?_;walk_at "r"
  refine ⟨w,wk.map cv,cv c,rfl,fw1,?_⟩;walk_at "r"
  refine ⟨rfl,fw1,by simp at hwl ⊢; exact La.z13 hwl hr fl,?_⟩
  have hE2 := hE1.updN (m := .list (wk.map cv)) hw0
  have fw2 : upd σ2 w (.list (wk.map cv)) w = some (.list (wk.map cv)) := up'
  have ff2 := (un' (m := .list (wk.map cv)) hwf.symm).trans ff1
  generalize upd σ2 w (.list (wk.map cv)) = σ3 at *
  walk_at "r"
  refine fc_law_end hn' T' (hE2 _ _ hh) W hlen okc1 ?_;walk_at "r"
  refine op_ninC ff2 ?_;walk_at "r"
  rw [decide_eq_true hd]
  refine ite_f ?_;walk_at "r"
  exact ih _ _ w hE2 hw0 hwf fw2 ff2 okf (λ c h => okw c (List.mem_cons_of_mem _ h)) (by simp at hwl; exact La.z14 hwl) hr q (by walk_at "lk") (by walk_at "lk") (by walk_at "lk") (by walk_at "lk")
 | @new f c wk r hd m ih =>
  intro ρ σ1 w hE hw0 hwf fw ff okf okw hwl hr q l1 l2 l3 l4
  have fl := m.len
  have okc1 := okw c List.mem_cons_self
  have okd := der_ok W okc1
  refine WH.go X λ R' hR' => ?_;walk_at "r"
  refine ⟨by simp,λ e he => ?_⟩
  have hE1 := hE.updN (m := .list []) (hE.none he)
  have fw1 := upd_old (m' := .list []) he fw
  have ff1 := upd_old (m' := .list []) he ff
  have fe1 : upd σ1 e (.list []) e = some (.list []) := up'
  generalize upd σ1 e (.list []) = σ2 at *
  walk_at "r"
  refine op_neCs (m := []) fw1 fe1 ?_;walk_at "r"
  refine ite_of (λ _ => ?_) λ h => absurd h (by simp);walk_at "r"
  refine EV.lpop0 T' rfl rfl rfl rfl ?_;walk_at "r"
  refine ⟨w,wk.map cv,cv c,rfl,fw1,?_⟩;walk_at "r"
  refine ⟨rfl,fw1,by simp at hwl fl ⊢; exact La.z15 hwl hr fl,?_⟩
  have hE2 := hE1.updN (m := .list (wk.map cv)) hw0
  have fw2 : upd σ2 w (.list (wk.map cv)) w = some (.list (wk.map cv)) := up'
  have ff2 := (un' (m := .list (wk.map cv)) hwf.symm).trans ff1
  generalize upd σ2 w (.list (wk.map cv)) = σ3 at *
  walk_at "r"
  refine fc_law_end hn' T' (hE2 _ _ hh) W hlen okc1 ?_;walk_at "r"
  refine op_ninC ff2 ?_;walk_at "r"
  rw [decide_eq_false hd]
  refine ite_t ?_;walk_at "r"
  refine ⟨_,_,rfl,ff2,?_⟩;walk_at "r"
  refine ⟨_,ff2,by simp at fl ⊢; exact La.z49 hr fl,?_⟩
  have hE3 := hE2.updN (m := .list (f.map cv ++ [cv (der H c)])) hf0
  have fw3 := (un' (m := .list (f.map cv ++ [cv (der H c)])) hwf).trans fw2
  have ff3 : upd σ3 fa (.list (f.map cv ++ [cv (der H c)])) fa = some (.list ((f ++ [der H c]).map cv)) := by rw [up']; simp
  generalize upd σ3 fa (.list (f.map cv ++ [cv (der H c)])) = σ4 at *
  walk_at "r"
  refine fc_law_parts hn' T' (hE3 _ _ hh) (SY.ext hE3) FO hlen okd λ p σ5 e5 hp0 fp => ?_;walk_at "r"
  have pl := parts_len (H := H) (c := der H c)
  refine op_addL fp (e5 _ _ fw3) (by simp at hwl fl ⊢; exact La.la [.L (.a .x0 .l1) (.a .l1 (.m 2 .x1)),.L .x2 (.l 400),.L .x3 (.l 2),.L (.a .x1 .l1) .x2] (.L (.a .x3 .x0) (.l 100000)) [[1,2,1,2,1]] rfl [_,_,_,_] [] ⟨hwl,hr,pl,fl,trivial⟩) λ nw hnw => ?_;walk_at "r"
  have hE5 := hE3.trans e5
  have ff5 := e5 _ _ ff3
  refine ih _ _ nw (hE5.updN (hE5.none hnw)) (hE5.none hnw) (ne_of hnw ff5).symm (by rw [up']; simp) (upd_old hnw ff5) (λ c h => ?_) (λ c h => ?_) (by simp at hwl ⊢; exact La.z16 hwl pl) hr q (by walk_at "lk") (by walk_at "lk") (by walk_at "lk") (by walk_at "lk")
  ·rcases List.mem_append.mp h with h | h
   ·exact okf c h
   ·simp at h; subst h; exact okd
  ·rcases List.mem_append.mp h with h | h
   ·exact (parts_ok W okd c h).1
   ·exact okw c (List.mem_cons_of_mem _ h)
end
end
section
set_option maxHeartbeats 4000000
section
variable {C : Cx} {ρ : Loc'} {σ : CH} {mg : Str->Option Value} {a : SA} {H S : List Cell} {TX : List PV} {AN : List (Str × PV)} {FU : List Cell} {FN : List (List Int × PV)}
theorem fc_list_cells {n : Nat} (hn : C.n = n + 2) (T : TC C mg) (SO : StOk σ a H S) (W : WF H) (hlen : H.length < 1000) {c : Cell} (ok : okc H c) (h1 : c.1 ≠ 1) {r : List Cell × Cell} (m : LL H [] [] (der H c) r) (hr : r.1.length<=400)
  {Q : PV->CH->Prop} (q : ∀ fa σ',Ext σ σ'->σ fa = none->σ' fa = some (.list (r.1.map cv))->Q (.tup [.ref fa,cv r.2]) σ') : FC C (.ref 357) [.ref a.st,cv c] σ Q := by
 refine FC.mth hn T (T.mt "list_cells" rfl) (names := ["self","cell"]) (HB.two λ _ _ _ _ _ _ _ _ _ => rfl) rfl rfl rfl (by decide) (by decide) λ C' hn' sc T' X => ?_
 walk_at "b";walk_at "r"
 refine ⟨by simp,λ fa hf0 => ?_⟩;walk_at "r"
 refine fc_set0 λ mt hm0' => ?_
 have hm0 := uN' hm0'
 have hmf : mt ≠ fa := λ q => by rw [q,up'] at hm0'; cases hm0'
 have hE := (Ext.refl.updN (m := .list []) hf0).updN (m := .set (λ _ => false) 0) hm0
 have ff := (un' (m := .set (λ _ => false) 0) hmf.symm).trans (up' (σ := σ) (a := fa) (m := .list []))
 have fm := up' (σ := upd σ fa (.list [])) (a := mt) (m := .set (λ _ => false) 0)
 generalize upd (upd σ fa (.list [])) mt (.set (λ _ => false) 0) = σ1 at *
 have SO1 := SO.ext hE
 walk_at "r"
 refine fc_deref hn' T' SO1 W hlen ok (λ h => absurd h h1) ?_
 have okd := der_ok W ok
 generalize der H c = d at *
 walk_at "r"
 refine EX.while X λ R hR => ?_
 refine (?_ : ∀ (s f : List Cell) (c : Cell) (r : List Cell × Cell),LL H s f c r->∀ (ρ : Loc') (σ1 : CH) (M : Int->Bool) (k : Nat),Ext σ σ1->σ1 fa = some (.list (f.map cv))->σ1 mt = some (.set M k)->Sk M s->k<=f.length->okc H c->r.1.length<=400 ->
  (∀ fa σ',Ext σ σ'->σ fa = none->σ' fa = some (.list (r.1.map cv))->Q (.tup [.ref fa,cv r.2]) σ') ->
  lk "self" ρ = some (.ref a.st)->lk "cell" ρ = some (cv c)->lk "seen" ρ = some (.ref mt)->lk "found" ρ = some (.ref fa)->WH C' _ _ ρ σ1 R)
  [] [] d r m _ _ _ 0 hE ff fm (λ a => by simp) (Nat.le_refl _) okd hr q rfl rfl rfl rfl
 intro s f c r m
 clear hr q ff fm
 induction m with
 | @stop s f c h =>
  intro ρ σ1 M k hE ff fm hM hk okc1 hr q l1 l2 l3 l4
  refine WH.go X λ R' hR' => ?_
  have fin : R Fl.next ρ σ1 := hR.next (by
   walk_at "r"
   refine ⟨by simp,?_⟩;walk_at "r"
   exact q _ _ hE hf0 ff)
  walk_at "r"
  refine ite_of (λ h3 => ?_) λ _ => ?_
  ·have h3 : c.1 = 3 := by simpa using h3
   walk_at "r"
   refine op_ninS fm ?_;walk_at "r"
   have : M c.2 = true := (hM c.2).mpr (by
    rcases h with h | h
    ·exact absurd h3 h
    ·rw [<- h3]; exact h)
   rw [this]
   refine ite_f ?_
   refine ite_f ?_
   exact fin
  ·refine ite_f ?_
   exact fin
 | @go s f v r hv m ih =>
  intro ρ σ1 M k hE ff fm hM hk okc1 hr q l1 l2 l3 l4
  have fl := m.len
  have SO1 := SO.ext hE
  have okv : v + 1 < H.length/\(hat H v).1 ≠ 6/\(hat H (v + 1 : Nat)).1 ≠ 6 := by
   generalize hcc : ((3,(v : Int)) : Cell) = cc at okc1
   cases okc1 with
   | lis u g1 g2 g3 =>
    have : (v : Int) = u := (Prod.mk.inj hcc).2
    obtain rfl : v = u := by exact La.z82 this
    exact ⟨g1,g2,g3⟩
   | _ => simp at hcc
  refine La.c3 okv λ g1 g2 g3 => ?_; clear okv
  refine La.c3 (W.at (v := v) (by exact La.z4 g1) g2) λ o1 n1 _ => ?_
  refine La.c3 (W.at (v := v + 1) (by assumption) g3) λ o2 n2 _ => ?_
  refine WH.go X λ R' hR' => ?_;walk_at "r"
  refine ite_of (λ _ => ?_) λ h => absurd h (by simp);walk_at "r"
  refine op_ninS fm ?_;walk_at "r"
  have hMv : M v = false := by
   cases z : M v with
   | false => rfl
   | true => exact absurd ((hM v).mp z) hv
  rw [hMv]
  refine ite_t ?_;walk_at "r"
  refine ite_t ?_;walk_at "r"
  refine EV.sadd T' rfl rfl rfl rfl ?_;walk_at "r"
  refine ⟨_,_,_,rfl,fm,?_⟩;walk_at "r"
  refine ⟨_,_,_,rfl,fm,by simp at fl; exact La.z10 hk hr fl,?_⟩
  rw [hMv]
  simp only [Bool.false_eq_true,if_false]
  have hE2 := hE.updN (m := .set (λ k => M k || decide (k = (v : Int))) (k + 1)) hm0
  have ff2 := (un' (m := .set (λ k => M k || decide (k = (v : Int))) (k + 1)) hmf.symm).trans ff
  have fm2 := up' (σ := σ1) (a := mt) (m := .set (λ k => M k || decide (k = (v : Int))) (k + 1))
  generalize upd σ1 mt (.set (λ k => M k || decide (k = (v : Int))) (k + 1)) = σ2 at *
  have SO2 := SO.ext hE2
  walk_at "r"
  refine ⟨_,_,rfl,ff2,?_⟩;walk_at "r"
  refine op_hp SO2.hp (v := v) rfl (by exact La.z4 g1) hlen ?_;walk_at "r"
  refine fc_deref hn' T' SO2 W hlen o1 (λ h => absurd h n1) ?_
  refine ⟨_,ff2,by simp at fl ⊢; exact La.z49 hr fl,?_⟩
  have hE3 := hE2.updN (m := .list (f.map cv ++ [cv (der H (hat H v))])) hf0
  have ff3 : upd σ2 fa (.list (f.map cv ++ [cv (der H (hat H v))])) fa = some (.list ((f ++ [der H (hat H v)]).map cv)) := by rw [up']; simp
  have fm3 := (un' (m := .list (f.map cv ++ [cv (der H (hat H v))])) hmf).trans fm2
  generalize upd σ2 fa (.list (f.map cv ++ [cv (der H (hat H v))])) = σ3 at *
  have SO3 := SO.ext hE3
  walk_at "r"
  refine op_hp SO3.hp (v := v + 1) rfl (by assumption) hlen ?_;walk_at "r"
  refine fc_deref hn' T' SO3 W hlen o2 (λ h => absurd h n2) ?_;walk_at "r"
  refine ih _ _ _ (k + 1) hE3 ff3 fm3 (λ x => ?_) (by simp; assumption) (der_ok W o2) hr q (by walk_at "lk") (by walk_at "lk") (by walk_at "lk") (by walk_at "lk")
  simp only [Bool.or_eq_true,decide_eq_true_eq,List.mem_append,List.mem_singleton,Prod.mk.injEq,true_and]
  rw [hM x]
theorem fc_law_list {n : Nat} (hn : C.n = n + 2) (T : TC C mg) {hc : Addr} (hh : σ hc = some (.list (H.map cv))) (W : WF H) (hlen : H.length < 1000) {c : Cell} (ok : okc H c) {r : List Cell × Cell} (m : LL H [] [] (der H c) r) (hr : r.1.length<=400)
  {Q : PV->CH->Prop} (q : ∀ fa σ',Ext σ σ'->σ fa = none->σ' fa = some (.list (r.1.map cv))->Q (.tup [.ref fa,cv r.2]) σ') : FC C (.ref 575) [.ref hc,cv c] σ Q := by
 refine FC.top hn T (T.fn "_law_list" rfl) (names := ["heap","cell"]) (HB.two λ _ _ _ _ _ _ _ _ _ => rfl) rfl rfl rfl (by decide) (by decide) λ C' hn' sc T' X => ?_
 walk_at "b";walk_at "r"
 refine ⟨by simp,λ fa hf0 => ?_⟩;walk_at "r"
 refine ⟨by simp,λ mt hm0' => ?_⟩
 have hm0 := uN' hm0'
 have hmf : mt ≠ fa := λ q => by rw [q,up'] at hm0'; cases hm0'
 have hE := (Ext.refl.updN (m := .list []) hf0).updN (m := .list []) hm0
 have ff := (un' (m := .list []) hmf.symm).trans (up' (σ := σ) (a := fa) (m := .list []))
 have fm := up' (σ := upd σ fa (.list [])) (a := mt) (m := .list [])
 generalize upd (upd σ fa (.list [])) mt (.list []) = σ1 at *
 walk_at "r"
 refine fc_law_end hn' T' (hE _ _ hh) W hlen ok ?_
 have okd := der_ok W ok
 generalize der H c = d at *
 walk_at "r"
 refine EX.while X λ R hR => ?_
 refine (?_ : ∀ (s f : List Cell) (c : Cell) (r : List Cell × Cell),LL H s f c r->∀ (ρ : Loc') (σ1 : CH),Ext σ σ1->σ1 fa = some (.list (f.map cv))->σ1 mt = some (.list (s.map cv))->s.length<=f.length->okc H c->r.1.length<=400 ->
  (∀ fa σ',Ext σ σ'->σ fa = none->σ' fa = some (.list (r.1.map cv))->Q (.tup [.ref fa,cv r.2]) σ') ->
  lk "heap" ρ = some (.ref hc)->lk "cell" ρ = some (cv c)->lk "seen" ρ = some (.ref mt)->lk "found" ρ = some (.ref fa)->WH C' _ _ ρ σ1 R)
  [] [] d r m _ _ hE ff fm (Nat.le_refl _) okd hr q rfl rfl rfl rfl
 intro s f c r m
 clear hr q ff fm
 induction m with
 | @stop s f c h =>
  intro ρ σ1 hE ff fm hk okc1 hr q l1 l2 l3 l4
  refine WH.go X λ R' hR' => ?_
  have fin : R Fl.next ρ σ1 := hR.next (by
   walk_at "r"
   refine ⟨by simp,?_⟩;walk_at "r"
   exact q _ _ hE hf0 ff)
  walk_at "r"
  refine ite_of (λ h3 => ?_) λ _ => ?_
  ·have h3 : c.1 = 3 := by simpa using h3
   walk_at "r"
   refine op_ninC fm ?_;walk_at "r"
   rw [decide_eq_true (h.elim (λ h => absurd h3 h) id)]
   refine ite_f ?_
   refine ite_f ?_
   exact fin
  ·refine ite_f ?_
   exact fin
 | @go s f v r hv m ih =>
  intro ρ σ1 hE ff fm hk okc1 hr q l1 l2 l3 l4
  have fl := m.len
  have okv : v + 1 < H.length/\(hat H v).1 ≠ 6/\(hat H (v + 1 : Nat)).1 ≠ 6 := by
   generalize hcc : ((3,(v : Int)) : Cell) = cc at okc1
   cases okc1 with
   | lis u g1 g2 g3 =>
    have : (v : Int) = u := (Prod.mk.inj hcc).2
    obtain rfl : v = u := by exact La.z82 this
    exact ⟨g1,g2,g3⟩
   | _ => simp at hcc
  refine La.c3 okv λ g1 g2 g3 => ?_; clear okv
  refine La.c3 (W.at (v := v) (by exact La.z4 g1) g2) λ o1 n1 _ => ?_
  refine La.c3 (W.at (v := v + 1) (by assumption) g3) λ o2 n2 _ => ?_
  refine WH.go X λ R' hR' => ?_;walk_at "r"
  refine ite_of (λ _ => ?_) λ h => absurd h (by simp);walk_at "r"
  refine op_ninC fm ?_;walk_at "r"
  rw [decide_eq_false hv]
  refine ite_t ?_;walk_at "r"
  refine ite_t ?_;walk_at "r"
  refine ⟨_,_,rfl,fm,?_⟩;walk_at "r"
  refine ⟨_,fm,by simp at fl ⊢; exact La.z48 hk hr fl,?_⟩
  have hE2 := hE.updN (m := .list (s.map cv ++ [cv (3,(v : Int))])) hm0
  have ff2 := (un' (m := .list (s.map cv ++ [cv (3,(v : Int))])) hmf.symm).trans ff
  have fm2 : upd σ1 mt (.list (s.map cv ++ [cv (3,(v : Int))])) mt = some (.list ((s ++ [(3,(v : Int))]).map cv)) := by rw [up']; simp
  generalize upd σ1 mt (.list (s.map cv ++ [cv (3,(v : Int))])) = σ2 at *
  walk_at "r"
  refine ⟨_,_,rfl,ff2,?_⟩;walk_at "r"
  refine op_hp (hE2 _ _ hh) (v := v) rfl (by exact La.z4 g1) hlen ?_;walk_at "r"
  refine fc_law_end hn' T' (hE2 _ _ hh) W hlen o1 ?_
  refine ⟨_,ff2,by simp at fl ⊢; exact La.z49 hr fl,?_⟩
  have hE3 := hE2.updN (m := .list (f.map cv ++ [cv (der H (hat H v))])) hf0
  have ff3 : upd σ2 fa (.list (f.map cv ++ [cv (der H (hat H v))])) fa = some (.list ((f ++ [der H (hat H v)]).map cv)) := by rw [up']; simp
  have fm3 := (un' (m := .list (f.map cv ++ [cv (der H (hat H v))])) hmf).trans fm2
  generalize upd σ2 fa (.list (f.map cv ++ [cv (der H (hat H v))])) = σ3 at *
  walk_at "r"
  refine op_hp (hE3 _ _ hh) (v := v + 1) rfl (by assumption) hlen ?_;walk_at "r"
  refine fc_law_end hn' T' (hE3 _ _ hh) W hlen o2 ?_;walk_at "r"
  exact ih _ _ hE3 ff3 fm3 (by simp; assumption) (der_ok W o2) hr q (by walk_at "lk") (by walk_at "lk") (by walk_at "lk") (by walk_at "lk")
end
end
section
set_option maxHeartbeats 4000000
noncomputable def iv (i : Int) : PV := .int i
theorem ivs_pls : ∀ l : List Int,Pls (l.map PV.int) = true
 | [] => rfl
 | c :: l => by
  show (Pl (.int c) && Pls (l.map PV.int)) = true
  rw [ivs_pls l]; rfl
theorem ivs_dep : ∀ l : List Int,PyData.depthAll (dats (l.map PV.int))<=3
 | [] => by simp [dats,PyData.depthAll]
 | c :: l => by
  have := ivs_dep l
  simp [dats,PyData.depthAll,dat,PyData.depth] at this ⊢
  assumption
inductive Tm where
 | at (n : Int)
 | it (i : Int)
 | vr (k : Int)
 | s1 (t : Tm)
 | s2 (f : Int) (t u : Tm)
noncomputable def tmV : Tm->PV
 | .at n => .tup [.str "a",.int n]
 | .it i => .tup [.str "i",.int i]
 | .vr k => .tup [.str "v",.int k]
 | .s1 t => .tup [.str "s",.int 12,.tup [tmV t]]
 | .s2 f t u => .tup [.str "s",.int f,.tup [tmV t,tmV u]]
noncomputable def Tm.ok : Tm->Prop
 | .at n => n = 0\/n = 4
 | .it _ => True
 | .vr k => 0<=k/\k < 4
 | .s1 t => t.ok
 | .s2 f t u => (f = 0\/f = 13)/\t.ok/\u.ok
noncomputable def Tm.dp : Tm->Nat
 | .s1 t => t.dp + 1
 | .s2 _ t u => max t.dp u.dp + 1
 | _ => 0
section
variable {C : Cx} {ρ : Loc'} {σ : CH} {mg : Str->Option Value}
theorem fc_law_next {n : Nat} (hn : C.n = n + 1) (T : TC C mg) {rw' : Addr} {L : List Int} (hr : σ rw' = some (.list (L.map PV.int))) (hL : L.length < 1000) {Q : PV->CH->Prop}
  (q : ∀ (i : Int) (L' : List Int) (σ' : CH),EB [rw'] σ σ'->σ' rw' = some (.list (L'.map PV.int))->L'.length < 1000->Q (.int i) σ') : FC C (.ref 530) [.ref rw'] σ Q := by
 refine FC.top hn T (T.fn "_law_next" rfl) (names := ["row"]) (HB.one λ _ _ _ _ _ _ _ _ => rfl) rfl rfl rfl (by decide) (by decide) λ C' hn' sc T' X => ?_
 walk_at "b";walk_at "r"
 refine ⟨by simp,λ e he => ?_⟩;walk_at "r"
 refine op_neL (b := decide (L ≠ [])) (upd_old he hr) up' (ivs_pls L) rfl (Nat.le_trans (ivs_dep L) (by decide)) (by decide) (by
  rw [decide_eq_true_iff]
  cases L <;> simp) ?_
 walk_at "r"
 refine ite_of (λ h => ?_) λ h => ?_
 ·have h : L ≠ [] := by simpa using h
  refine La.x2_1 (⟨L.dropLast,L.getLast h,(List.dropLast_concat_getLast h).symm⟩ : ∃ L' i,L = L' ++ [i]) λ L' i h'1 => ?_; subst h'1;walk_at "r"
  refine ⟨rw',L'.map PV.int,.int i,rfl,(upd_old he hr).trans (by simp),by simp at hL ⊢; exact La.l1 (.T (.a .x0 .l1) (.l 1000)) (.T .x0 (.l 100000)) [[1,1]] rfl [_] [] hL,?_⟩;walk_at "r"
  exact q i L' _ ((EB.refl.updN he).updO (by simp)) up' (by simp at hL; exact La.l1 (.T (.a .x0 .l1) (.l 1000)) (.T .x0 (.l 1000)) [[1,1]] rfl [_] [] hL)
 ·have h : L = [] := by simpa using h
  walk_at "r"
  exact q 0 L _ (EB.refl.updN he) (upd_old he hr) hL
theorem fmod_rng (i : Int) (j : Int) (hj : 0 < j) : 0<=i.fmod j/\i.fmod j < j := ⟨Int.fmod_nonneg_of_pos i hj,Int.fmod_lt_of_pos i hj⟩
theorem fc_law_term : ∀ (d : Nat) {C : Cx} {σ : CH} {n : Nat} (hn : C.n = n + d + 2) (T : TC C mg) {rw' : Addr} {L : List Int} (hr : σ rw' = some (.list (L.map PV.int))) (hL : L.length < 1000) {Q : PV->CH->Prop}
  (q : ∀ (t : Tm) (L' : List Int) (σ' : CH),Tm.ok t->t.dp<=d->EB [rw'] σ σ'->σ' rw' = some (.list (L'.map PV.int))->L'.length < 1000->Q (tmV t) σ'),FC C (.ref 537) [.ref rw',.int d] σ Q := by
 intro d
 induction d using Nat.strongRecOn with
 | ind d ih =>
  intro C σ n hn T rw' L hr hL Q q
  refine FC.top hn T (T.fn "_law_term" rfl) (names := ["row","deep"]) (HB.two λ _ _ _ _ _ _ _ _ _ => rfl) rfl rfl rfl (by decide) (by decide) λ C' hn' sc T' X => ?_
  walk_at "b";walk_at "r"
  refine fc_law_next (n := n + d) (by assumption) T' hr hL λ i L1 σ1 e1 r1 z1 => ?_;walk_at "r"
  refine ite_of (λ h' => ?_) λ h' => ?_
  all_goals walk_at "r"
  all_goals refine op_mod (by decide) ?_
  ·refine La.c2 (fmod_rng i 8 (by decide)) λ m1 m2 => ?_
   have m3 : d = 0->i.fmod 8 < 3 := λ e => by subst e; simp at h'
   generalize i.fmod 8 = k at *
   clear h'
   walk_at "r"
   refine ite_of (λ h => ?_) λ h1 => ?_
   ·walk_at "r"
    refine ⟨by simp,λ l hl => ?_⟩;walk_at "r"
    refine fc_law_next (n := n + d) (by assumption) T' (upd_old hl r1) z1 λ i L2 σ2 e2 r2 z2 => ?_;walk_at "r"
    refine op_mod (by decide) ?_
    refine La.c2 (fmod_rng i 2 (by decide)) λ p1 p2 => ?_
    generalize i.fmod 2 = j at *
    have hl2 := e2 l _ (by simp; exact (ne_of hl r1).symm) up'
    have : j = 0\/j = 1 := by exact La.z83 p1 p2
    rcases this with rfl | rfl
    ·refine op_subL hl2 (by decide) rfl (by decide) ?_
     walk_at "r"
     refine ⟨by simp,?_⟩;walk_at "r"
     exact q (.at 0) L2 σ2 (.inl rfl) (Nat.zero_le _) (e1.trans ((EB.new hl).trans e2)) r2 z2
    ·refine op_subL hl2 (by decide) rfl (by decide) ?_
     walk_at "r"
     refine ⟨by simp,?_⟩;walk_at "r"
     exact q (.at 4) L2 σ2 (.inr rfl) (Nat.zero_le _) (e1.trans ((EB.new hl).trans e2)) r2 z2
   ·walk_at "r"
    refine ite_of (λ h => ?_) λ h2 => ?_
    ·walk_at "r"
     refine fc_law_next (n := n + d) (by assumption) T' r1 z1 λ i L2 σ2 e2 r2 z2 => ?_;walk_at "r"
     refine op_mod (by decide) ?_;walk_at "r"
     refine ⟨by simp,?_⟩;walk_at "r"
     exact q (.it _) L2 σ2 trivial (Nat.zero_le _) (e1.trans e2) r2 z2
    ·walk_at "r"
     refine ite_of (λ h => ?_) λ h3 => ?_
     ·have h : k = 4 := by simpa using h
      refine La.x1_1 (⟨d - 1,by by_cases z : d = 0; (have := m3 z; exact False.elim (La.l2 (.q .x0 (.l 4)) (.t .x0 (.l 3)) .F [[0,1,1]] rfl [] [_] h this)); exact La.z111 z (La.sb _ _)⟩ : ∃ e,d = e + 1) λ d h'1 => ?_; subst h'1;walk_at "r"
      rw [show ((d + 1 : Nat) : Int) - 1 = (d : Int) by exact La.z17]
      refine ih d (by exact La.z12) (n := n) (by assumption) T' r1 z1 λ t L2 σ2 t1 t2 e2 r2 z2 => ?_;walk_at "r"
      refine ⟨by simp,?_⟩;walk_at "r"
      refine ⟨by simp,?_⟩;walk_at "r"
      exact q (.s1 t) L2 σ2 t1 (Nat.succ_le_succ t2) (e1.trans e2) r2 z2
     ·have h3 : k ≠ 4 := by simpa using h3
      walk_at "r"
      refine ite_of (λ h => ?_) λ h4 => ?_
      ·have h : 4 < k := by simpa using h
       refine La.x1_1 (⟨d - 1,by by_cases z : d = 0; (have := m3 z; exact False.elim (La.l2 (.t (.l 4) .x0) (.t .x0 (.l 3)) .F [[1,1]] rfl [] [_] h this)); exact La.z111 z (La.sb _ _)⟩ : ∃ e,d = e + 1) λ d h'1 => ?_; subst h'1;walk_at "r"
       rw [show ((d + 1 : Nat) : Int) - 1 = (d : Int) by exact La.z17]
       refine ih d (by exact La.z12) (n := n) (by assumption) T' r1 z1 λ t L2 σ2 t1 t2 e2 r2 z2 => ?_;walk_at "r"
       refine ite_of (λ h5 => ?_) λ h5 => ?_
       ·walk_at "r"
        rw [show ((d + 1 : Nat) : Int) - 1 = (d : Int) by exact La.z17]
        refine ih d (by exact La.z12) (n := n) (by assumption) T' r2 z2 λ u L3 σ3 u1 u2 e3 r3 z3 => ?_;walk_at "r"
        refine ⟨by simp,?_⟩;walk_at "r"
        refine ⟨by simp,?_⟩;walk_at "r"
        exact q (.s2 0 t u) L3 σ3 ⟨.inl rfl,t1,u1⟩ (Nat.succ_le_succ (Nat.max_le.mpr ⟨t2,u2⟩)) ((e1.trans e2).trans e3) r3 z3
       ·walk_at "r"
        rw [show ((d + 1 : Nat) : Int) - 1 = (d : Int) by exact La.z17]
        refine ih d (by exact La.z12) (n := n) (by assumption) T' r2 z2 λ u L3 σ3 u1 u2 e3 r3 z3 => ?_;walk_at "r"
        refine ⟨by simp,?_⟩;walk_at "r"
        refine ⟨by simp,?_⟩;walk_at "r"
        exact q (.s2 13 t u) L3 σ3 ⟨.inr rfl,t1,u1⟩ (Nat.succ_le_succ (Nat.max_le.mpr ⟨t2,u2⟩)) ((e1.trans e2).trans e3) r3 z3
      ·walk_at "r"
       refine fc_law_next (n := n + d) (by assumption) T' r1 z1 λ i L2 σ2 e2 r2 z2 => ?_;walk_at "r"
       refine op_mod (by decide) ?_;walk_at "r"
       refine ⟨by simp,?_⟩;walk_at "r"
       exact q (.vr _) L2 σ2 (fmod_rng i 4 (by decide)) (Nat.zero_le _) (e1.trans e2) r2 z2
  ·refine La.c2 (fmod_rng i 3 (by decide)) λ m1 m2 => ?_
   have m3 : d = 0->i.fmod 3 < 3 := λ _ => m2
   have m2 : i.fmod 3 < 8 := by exact La.l1 (.t .x0 (.l 3)) (.t .x0 (.l 8)) [[1,1]] rfl [] [_] m2
   generalize i.fmod 3 = k at *
   clear h'
   walk_at "r"
   refine ite_of (λ h => ?_) λ h1 => ?_
   ·walk_at "r"
    refine ⟨by simp,λ l hl => ?_⟩;walk_at "r"
    refine fc_law_next (n := n + d) (by assumption) T' (upd_old hl r1) z1 λ i L2 σ2 e2 r2 z2 => ?_;walk_at "r"
    refine op_mod (by decide) ?_
    refine La.c2 (fmod_rng i 2 (by decide)) λ p1 p2 => ?_
    generalize i.fmod 2 = j at *
    have hl2 := e2 l _ (by simp; exact (ne_of hl r1).symm) up'
    have : j = 0\/j = 1 := by exact La.z83 p1 p2
    rcases this with rfl | rfl
    ·refine op_subL hl2 (by decide) rfl (by decide) ?_
     walk_at "r"
     refine ⟨by simp,?_⟩;walk_at "r"
     exact q (.at 0) L2 σ2 (.inl rfl) (Nat.zero_le _) (e1.trans ((EB.new hl).trans e2)) r2 z2
    ·refine op_subL hl2 (by decide) rfl (by decide) ?_
     walk_at "r"
     refine ⟨by simp,?_⟩;walk_at "r"
     exact q (.at 4) L2 σ2 (.inr rfl) (Nat.zero_le _) (e1.trans ((EB.new hl).trans e2)) r2 z2
   ·walk_at "r"
    refine ite_of (λ h => ?_) λ h2 => ?_
    ·walk_at "r"
     refine fc_law_next (n := n + d) (by assumption) T' r1 z1 λ i L2 σ2 e2 r2 z2 => ?_;walk_at "r"
     refine op_mod (by decide) ?_;walk_at "r"
     refine ⟨by simp,?_⟩;walk_at "r"
     exact q (.it _) L2 σ2 trivial (Nat.zero_le _) (e1.trans e2) r2 z2
    ·walk_at "r"
     refine ite_of (λ h => ?_) λ h3 => ?_
     ·have h : k = 4 := by simpa using h
      refine La.x1_1 (⟨d - 1,by by_cases z : d = 0; (have := m3 z; exact False.elim (La.z30 (by assumption) h)); exact False.elim (La.z30 (by assumption) h)⟩ : ∃ e,d = e + 1) λ d h'1 => ?_; subst h'1;walk_at "r"
      rw [show ((d + 1 : Nat) : Int) - 1 = (d : Int) by exact False.elim (La.z30 (by assumption) h)]
      refine ih d (by exact False.elim (La.z30 (by assumption) h)) (n := n) (by assumption) T' r1 z1 λ t L2 σ2 t1 t2 e2 r2 z2 => ?_;walk_at "r"
      refine ⟨by simp,?_⟩;walk_at "r"
      refine ⟨by simp,?_⟩;walk_at "r"
      exact q (.s1 t) L2 σ2 t1 (Nat.succ_le_succ t2) (e1.trans e2) r2 z2
     ·have h3 : k ≠ 4 := by simpa using h3
      walk_at "r"
      refine ite_of (λ h => ?_) λ h4 => ?_
      ·have h : 4 < k := by simpa using h
       refine La.x1_1 (⟨d - 1,by by_cases z : d = 0; (have := m3 z; exact False.elim (La.z8 (by assumption) h)); exact False.elim (La.z8 (by assumption) h)⟩ : ∃ e,d = e + 1) λ d h'1 => ?_; subst h'1;walk_at "r"
       rw [show ((d + 1 : Nat) : Int) - 1 = (d : Int) by exact False.elim (La.z8 (by assumption) h)]
       refine ih d (by exact False.elim (La.z8 (by assumption) h)) (n := n) (by assumption) T' r1 z1 λ t L2 σ2 t1 t2 e2 r2 z2 => ?_;walk_at "r"
       refine ite_of (λ h5 => ?_) λ h5 => ?_
       ·walk_at "r"
        rw [show ((d + 1 : Nat) : Int) - 1 = (d : Int) by exact False.elim (La.z8 (by assumption) h)]
        refine ih d (by exact False.elim (La.z8 (by assumption) h)) (n := n) (by assumption) T' r2 z2 λ u L3 σ3 u1 u2 e3 r3 z3 => ?_;walk_at "r"
        refine ⟨by simp,?_⟩;walk_at "r"
        refine ⟨by simp,?_⟩;walk_at "r"
        exact q (.s2 0 t u) L3 σ3 ⟨.inl rfl,t1,u1⟩ (Nat.succ_le_succ (Nat.max_le.mpr ⟨t2,u2⟩)) ((e1.trans e2).trans e3) r3 z3
       ·walk_at "r"
        rw [show ((d + 1 : Nat) : Int) - 1 = (d : Int) by exact False.elim (La.z8 (by assumption) h)]
        refine ih d (by exact False.elim (La.z8 (by assumption) h)) (n := n) (by assumption) T' r2 z2 λ u L3 σ3 u1 u2 e3 r3 z3 => ?_;walk_at "r"
        refine ⟨by simp,?_⟩;walk_at "r"
        refine ⟨by simp,?_⟩;walk_at "r"
        exact q (.s2 13 t u) L3 σ3 ⟨.inr rfl,t1,u1⟩ (Nat.succ_le_succ (Nat.max_le.mpr ⟨t2,u2⟩)) ((e1.trans e2).trans e3) r3 z3
      ·walk_at "r"
       refine fc_law_next (n := n + d) (by assumption) T' r1 z1 λ i L2 σ2 e2 r2 z2 => ?_;walk_at "r"
       refine op_mod (by decide) ?_;walk_at "r"
       refine ⟨by simp,?_⟩;walk_at "r"
       exact q (.vr _) L2 σ2 (fmod_rng i 4 (by decide)) (Nat.zero_le _) (e1.trans e2) r2 z2
end
end
section
set_option maxHeartbeats 4000000
structure DS (a : SA) : Prop where
 skh : a.sk ≠ a.hp
 trh : a.tr ≠ a.hp
 txh : a.tx ≠ a.hp
 fuh : a.fu ≠ a.hp
 trs : a.tr ≠ a.sk
 txs : a.tx ≠ a.sk
 fus : a.fu ≠ a.sk
theorem StOk.mut {σ σ' : CH} {a : SA} {H H' S : List Cell} (SO : StOk σ a H S) (D : DS a) (e : EB [a.hp] σ σ') (h : σ' a.hp = some (.list (H'.map cv))) : StOk σ' a H' S :=
 ⟨e _ _ (by simp; exact ne_mm SO.st SO.hp (by simp)) SO.st,e _ _ (by simp; exact ne_mm SO.dst SO.hp (by simp)) SO.dst,h,e _ _ (by simp; exact D.skh) SO.sk,e _ _ (by simp; exact D.trh) SO.tr⟩
theorem SyOk.mut {σ σ' : CH} {a : SA} {H S : List Cell} {TX AN FU FN} (SY : SyOk σ a TX AN FU FN) (SO : StOk σ a H S) (D : DS a) (e : EB [a.hp] σ σ') : SyOk σ' a TX AN FU FN :=
 ⟨e _ _ (by simp; exact ne_mm SY.sy SO.hp (by simp)) SY.sy,e _ _ (by simp; exact ne_mm SY.dsy SO.hp (by simp)) SY.dsy,e _ _ (by simp; exact D.txh) SY.tx,e _ _ (by simp; exact ne_mm SY.an SO.hp (by simp)) SY.an,e _ _ (by simp; exact D.fuh) SY.fu,e _ _ (by simp; exact ne_mm SY.fn SO.hp (by simp)) SY.fn⟩
section
variable {C : Cx} {ρ : Loc'} {σ : CH} {mg : Str->Option Value} {a : SA} {H S : List Cell} {TX : List PV} {AN : List (Str × PV)} {FU : List Cell} {FN : List (List Int × PV)}
theorem fc_push {n : Nat} (hn : C.n = n + 1) (T : TC C mg) (SO : StOk σ a H S) (hlen : H.length < 1000) {c : Cell} {Q : PV->CH->Prop} (q : Q (.int H.length) (upd σ a.hp (.list ((H ++ [c]).map cv)))) : FC C (.ref 202) [.ref a.st,cv c] σ Q := by
 refine FC.mth hn T (T.mt "push" rfl) (names := ["self","cell"]) (HB.two λ _ _ _ _ _ _ _ _ _ => rfl) rfl rfl rfl (by decide) (by decide) λ C' hn' sc T' X => ?_
 walk_at "b";walk_at "r"
 refine fcl' SO.hp (by simp; exact La.z23 hlen) ?_;walk_at "r"
 refine ite_of (λ h => ?_) λ _ => ?_
 ·exfalso
  simp at h; exact La.l2 (.T .x0 (.l 1000)) (.l (.l 100000) (.c .x0)) .F [[1,1]] rfl [_] [] hlen h
 walk_at "r"
 refine ⟨_,_,rfl,SO.hp,?_⟩;walk_at "r"
 refine ⟨_,SO.hp,by simp; exact La.z18 hlen,?_⟩;walk_at "r"
 simpa [retV] using q
theorem fc_new_var {n : Nat} (hn : C.n = n + 2) (T : TC C mg) (SO : StOk σ a H S) (hlen : H.length < 1000) {Q : PV->CH->Prop} (q : Q (cv (0,(H.length : Int))) (upd σ a.hp (.list ((H ++ [(0,(H.length : Int))]).map cv)))) : FC C (.ref 209) [.ref a.st] σ Q := by
 refine FC.mth hn T (T.mt "new_var" rfl) (names := ["self"]) (HB.one λ _ _ _ _ _ _ _ _ => rfl) rfl rfl rfl (by decide) (by decide) λ C' hn' sc T' X => ?_
 walk_at "b";walk_at "r"
 refine fcl' SO.hp (by simp; exact La.z23 hlen) ?_;walk_at "r"
 refine ⟨by simp,?_⟩
 rw [show ((H.map cv).length : Int) = (H.length : Int) by simp]
 walk_at "r"
 refine fc_push (c := (0,(H.length : Int))) hn' T' SO hlen ?_;walk_at "r"
 exact q
noncomputable def selfs (n k : Nat) : List Cell := (List.range k).map λ i => (0,((n + i : Nat) : Int))
theorem fc_reserve {n : Nat} (hn : C.n = n + 1) (T : TC C mg) (SO : StOk σ a H S) (hlen : H.length < 900) {k : Nat} (hk : k < 10) {Q : PV->CH->Prop} (q : ∀ σ',EB [a.hp] σ σ'->σ' a.hp = some (.list ((H ++ selfs H.length k).map cv))->Q (.int H.length) σ') :
  FC C (.ref 216) [.ref a.st,.int k] σ Q := by
 refine FC.mth hn T (T.mt "reserve" rfl) (names := ["self","count"]) (HB.two λ _ _ _ _ _ _ _ _ _ => rfl) rfl rfl rfl (by decide) (by decide) λ C' hn' sc T' X => ?_
 walk_at "b";walk_at "r"
 refine fcl' SO.hp (by simp; exact La.l1 (.T .x0 (.l 900)) (.T .x0 (.l 1000000)) [[1,1]] rfl [_] [] hlen) ?_;walk_at "r"
 refine ite_of (λ h => ?_) λ _ => ?_
 ·exfalso
  simp at h; exact La.l3 (.T .x0 (.l 900)) (.T .x1 (.l 10)) (.t (.l 100000) (.a (.c .x0) (.c .x1))) .F [[1,1,1]] rfl [_,_] [] hlen hk h
 rw [show ((H.map cv).length : Int) = (H.length : Int) by simp]
 walk_at "r"
 refine fc_range1 λ r hr => ?_
 have small : Builtin.Range.small 0 (k : Int) 1 = true := by
  have f : ∀ x : Int,-10000 < x->x < 10000->Builtin.Range.rangeFitsLong x = true := λ x h1 h2 => by unfold Builtin.Range.rangeFitsLong; simp; exact La.z40 h1 h2
  have e : Builtin.Range.rangeSize 0 (k : Int) 1 = k := by unfold Builtin.Range.rangeSize; simp; omega
  unfold Builtin.Range.small
  rw [e,f _ (by exact La.z84) (by exact La.z85),f _ (by exact La.z41) (by exact La.l1 (.T .x0 (.l 10)) (.t (.c .x0) (.l 10000)) [[1,1]] rfl [_] [] hk),f _ (by exact La.z86) (by exact La.z87)]
  have : (if (1 : Int) > 0 then Builtin.Range.rangeFitsLong ((k : Int) + (1 - 1)) else Builtin.Range.rangeFitsLong ((k : Int) + (1 + 1))) = true := by rw [if_pos (by decide)]; exact f _ (by exact La.z88) (by exact La.l1 (.T .x0 (.l 10)) (.t (.a (.c .x0) (.s .l1 .l1)) (.l 10000)) [[1,1]] rfl [_] [] hk)
  rw [this]; simp
 have e : Builtin.Range.rangeSize 0 (k : Int) 1 = k := by unfold Builtin.Range.rangeSize; simp; omega
 refine it_rng up' small λ it hit => ⟨it,rfl,λ R hR => ?_⟩
 rw [e]
 clear e small
 have hit0 := uN' hit
 have hih : a.hp ≠ it := ne_of hit0 SO.hp
 have hst : a.st ≠ a.hp := ne_mm SO.st SO.hp (by simp)
 have hdst : a.dst ≠ a.hp := ne_mm SO.dst SO.hp (by simp)
 refine FL.up (N := k) X (by walk_at "kd2") (λ i ρ' σ' => i<=k/\lk "self" ρ' = some (.ref a.st)/\lk "first" ρ' = some (.int H.length)/\EB [a.hp] σ σ'/\σ' a.hp = some (.list ((H ++ selfs H.length i).map cv))) ?_ ?_
  k 0 _ _ (by exact La.l0  (.Q (.a .x0 .l0) .x0) [[1],[1]] rfl [_] []) ⟨Nat.zero_le _,rfl,rfl,(EB.refl.updN hr).updN hit0,by rw [un' hih,un' (ne_of hr SO.hp)]; simp [selfs]; exact SO.hp⟩ (by simpa using up')
 ·intro i ρ σ1 hi h'1 R hR' _ hit1; refine La.c5 h'1 λ hi' l1 l2 e1 h1 => ?_; clear h'1
  have e2 := e1.updN (m := .itR (i + 1 : Nat) (k - (i + 1 : Nat) : Int) 1) hit0
  have h2 := (un' (m := .itR (i + 1 : Nat) (k - (i + 1 : Nat) : Int) 1) hih).trans h1
  have i2 := up' (σ := σ1) (a := it) (m := .itR (i + 1 : Nat) (k - (i + 1 : Nat) : Int) 1)
  generalize upd σ1 it (.itR (i + 1 : Nat) (k - (i + 1 : Nat) : Int) 1) = σ2 at *
  have f1 := e2 _ _ (by simpa using hst) SO.st
  have f2 := e2 _ _ (by simpa using hdst) SO.dst
  walk_at "r"
  refine ⟨_,_,rfl,h2,?_⟩;walk_at "r"
  refine ⟨by simp,?_⟩
  refine ⟨_,h2,by simp [selfs]; exact La.l3 (.T .x0 (.l 900)) (.T .x1 (.l 10)) (.T .x2 .x1) (.T (.a .x0 .x2) (.l 100000)) [[1,1,1,1]] rfl [_,_,_] [] hlen hk hi,?_⟩;walk_at "r"
  refine hR' _ _ ⟨by exact La.z50 hi,by walk_at "lk",by walk_at "lk",e2.updO (by simp),?_⟩ ((un' hih.symm).trans i2)
  rw [up']
  simp [selfs,List.range_succ,cv]
 ·intro ρ σ1 h'1 m hm; refine La.c5 h'1 λ hi' l1 l2 e1 h1 => ?_; clear h'1
  walk_at "r"
  refine q _ (e1.delN hit0) ?_
  rw [del_ne hih,h1]
theorem fc_bind {n : Nat} (hn : C.n = n + 1) (T : TC C mg) (SO : StOk σ a H S) (hlen : H.length < 1000) {v : Nat} (hv : v < H.length) {c : Cell} {Q : PV->CH->Prop} (q : Q .none (upd σ a.hp (.list ((H.set v c).map cv)))) : FC C (.ref 244) [.ref a.st,cv (0,(v : Int)),cv c] σ Q := by
 refine FC.mth hn T (T.mt "bind" rfl) (names := ["self","cell","value"]) (HB.three λ _ _ _ _ _ _ _ _ _ _ => rfl) rfl rfl rfl (by decide) (by decide) λ C' hn' sc T' X => ?_
 have hst : a.st ≠ a.hp := ne_mm SO.st SO.hp (by simp)
 have hdst : a.dst ≠ a.hp := ne_mm SO.dst SO.hp (by simp)
 walk_at "b";walk_at "r"
 refine ite_of (λ _ => ?_) λ h => absurd h (by simp);walk_at "r"
 refine si_list SO.hp (by omega) (by simp; exact hv) (by simp; exact La.z18 hlen) ?_
 have f1 := (un' (m := .list ((H.map cv).set (v : Int).toNat (cv c))) hst).trans SO.st
 have f2 := (un' (m := .list ((H.map cv).set (v : Int).toNat (cv c))) hdst).trans SO.dst
 walk_at "r"
 refine ite_of (λ h => absurd h (by simp)) λ _ => ?_;walk_at "r"
 rw [show (H.map cv).set (v : Int).toNat (cv c) = (H.set v c).map cv by simp [List.map_set]]
 exact q
end
end
section
set_option maxHeartbeats 4000000
noncomputable def blk (f : Int) (n : Nat) : List Cell := if f = 0 then [(0,(n : Int)),(0,((n + 1 : Nat) : Int))] else if f = 12 then [(6,12),(0,((n + 1 : Nat) : Int))] else [(6,13),(0,((n + 1 : Nat) : Int)),(0,((n + 2 : Nat) : Int))]
noncomputable def made (f : Int) (n : Nat) : Cell := if f = 0 then (3,(n : Int)) else (2,(n : Int))
section
variable {C : Cx} {ρ : Loc'} {σ : CH} {mg : Str->Option Value} {a : SA} {H S : List Cell} {TX : List PV} {AN : List (Str × PV)} {FU : List Cell} {FN : List (List Int × PV)}
theorem fc_bind_pair {n : Nat} (hn : C.n = n + 2) (T : TC C mg) (SO : StOk σ a H S) (hlen : H.length < 1000) {u v : Nat} (hu : u < H.length) (hv : v < H.length) (hne : u ≠ v) {Q : PV->CH->Prop} (q : Q .none (upd σ a.hp (.list ((H.set (max u v) (0,((min u v : Nat) : Int))).map cv)))) :
  FC C (.ref 251) [.ref a.st,cv (0,(u : Int)),cv (0,(v : Int))] σ Q := by
 refine FC.mth hn T (T.mt "bind_pair" rfl) (names := ["self","c1","c2"]) (HB.three λ _ _ _ _ _ _ _ _ _ _ => rfl) rfl rfl rfl (by decide) (by decide) λ C' hn' sc T' X => ?_
 walk_at "b";walk_at "r"
 refine ite_of (λ h => absurd h (by simp; exact La.l1 (.n (.Q .x0 .x1)) (.n (.q (.c .x0) (.c .x1))) [[1,0,1],[1,1,0]] rfl [_,_] [] hne)) λ _ => ?_;walk_at "r"
 refine ite_of (λ _ => ?_) λ h => absurd h (by simp);walk_at "r"
 refine ite_of (λ h => ?_) λ h => ?_
 ·have h : u < v := by simp at h; assumption
  walk_at "r"
  refine fc_bind hn' T' SO hlen hv ?_;walk_at "r"
  rw [show max u v = v by exact La.l2 (.L (.a .x0 .l1) .x1) (.o (.w (.L .x0 .x1) (.Q .x2 .x1)) (.w (.L (.a .x1 .l1) .x0) (.Q .x2 .x0))) (.Q .x2 .x1) [[0,0,0,1,1],[0,0,1,0,1],[1,1,0,0,0],[1,1,0,0,0]] rfl [_,_,_] [] h (La.mx _ _),show min u v = u by exact La.l2 (.L (.a .x0 .l1) .x1) (.o (.w (.L .x0 .x1) (.Q .x2 .x0)) (.w (.L (.a .x1 .l1) .x0) (.Q .x2 .x1))) (.Q .x2 .x0) [[0,0,0,1,1],[0,0,1,0,1],[1,1,0,0,0],[1,1,0,0,0]] rfl [_,_,_] [] h (La.mi _ _)] at q
  exact q
 ·have h : v < u := by simp at h; exact La.l2 (.n (.Q .x0 .x1)) (.L .x1 .x0) (.T .x1 .x0) [[1,1,0],[1,0,1]] rfl [_,_] [] hne h
  walk_at "r"
  refine fc_bind hn' T' SO hlen hu ?_;walk_at "r"
  rw [show max u v = u by exact La.l2 (.L (.a .x0 .l1) .x1) (.o (.w (.L .x1 .x0) (.Q .x2 .x0)) (.w (.L (.a .x0 .l1) .x1) (.Q .x2 .x1))) (.Q .x2 .x1) [[1,1,0,0,0],[1,1,0,0,0],[0,0,0,1,1],[0,0,1,0,1]] rfl [_,_,_] [] h (La.mx _ _),show min u v = v by exact La.l2 (.L (.a .x0 .l1) .x1) (.o (.w (.L .x1 .x0) (.Q .x2 .x1)) (.w (.L (.a .x0 .l1) .x1) (.Q .x2 .x0))) (.Q .x2 .x0) [[1,1,0,0,0],[1,1,0,0,0],[0,0,0,1,1],[0,0,1,0,1]] rfl [_,_,_] [] h (La.mi _ _)] at q
  exact q
theorem fc_stack_put {n : Nat} (hn : C.n = n + 1) (T : TC C mg) (SO : StOk σ a H []) {c : Cell} {Q : PV->CH->Prop} (q : Q .none (upd σ a.sk (.list ([c].map cv)))) : FC C (.ref 279) [.ref a.st,.int 0,cv c] σ Q := by
 refine FC.mth hn T (T.mt "stack_put" rfl) (names := ["self","i","value"]) (HB.three λ _ _ _ _ _ _ _ _ _ _ => rfl) rfl rfl rfl (by decide) (by decide) λ C' hn' sc T' X => ?_
 walk_at "b";walk_at "r"
 refine fcl' SO.sk (by simp) ?_;walk_at "r"
 refine ite_of (λ h => absurd h (by simp)) λ _ => ?_;walk_at "r"
 refine EX.while X λ R hR => ?_
 refine WH.go X λ R' hR' => ?_;walk_at "r"
 refine fcl' SO.sk (by simp) ?_;walk_at "r"
 refine ite_of (λ h => absurd h (by simp)) λ _ => ?_;walk_at "r"
 refine ⟨_,_,rfl,SO.sk,?_⟩;walk_at "r"
 refine ⟨_,SO.sk,by simp,?_⟩;walk_at "r"
 exact q
theorem fc_new_block {n : Nat} (hn : C.n = n + 2) (T : TC C mg) (SO : StOk σ a H S) (SY : SyOk σ a TX AN FU FN) (FO : FuOk FU) (D : DS a) (hlen : H.length < 900) {f : Int} (hf : f = 0\/f = 12\/f = 13)
  {Q : PV->CH->Prop} (q : ∀ σ',EB [a.hp] σ σ'->σ' a.hp = some (.list ((H ++ blk f H.length).map cv))->Q (cv (made f H.length)) σ') : FC C (.ref 321) [.ref a.st,.int f] σ Q := by
 refine FC.mth hn T (T.mt "new_block" rfl) (names := ["self","f"]) (HB.two λ _ _ _ _ _ _ _ _ _ => rfl) rfl rfl rfl (by decide) (by decide) λ C' hn' sc T' X => ?_
 walk_at "b";walk_at "r"
 rcases hf with rfl | rfl | rfl
 ·refine ite_of (λ _ => ?_) λ h => absurd h (by decide)
  walk_at "r"
  refine fc_reserve (k := 2) hn' T' SO hlen (by decide) λ σ1 e1 h1 => ?_;walk_at "r"
  refine ⟨by simp,?_⟩;walk_at "r"
  exact q _ e1 h1
 ·refine ite_of (λ h => absurd h (by decide)) λ _ => ?_
  walk_at "r"
  refine fc_arity hn' T' SY (f := 12) (by have := FO.l; exact La.z27 this) FO.z rfl ?_
  rw [show (hat FU ((12 : Nat) : Int)).2 = 1 from FO.a]
  walk_at "r"
  refine fc_reserve (k := 2) hn' T' SO hlen (by decide) λ σ1 e1 h1 => ?_
  have SO1 := SO.mut D e1 h1
  have z1 : (H ++ selfs H.length 2).length = H.length + 2 := by simp [selfs]
  walk_at "r"
  refine ⟨by simp,?_⟩;walk_at "r"
  refine si_list h1 (by exact La.z7) (by simp [selfs]) (by simp [selfs]; exact La.l1 (.T .x0 (.l 900)) (.T (.a .x0 (.l 2)) (.l 100000)) [[1,1]] rfl [_] [] hlen) ?_;walk_at "r"
  refine ⟨by simp,?_⟩;walk_at "r"
  refine q _ (e1.updO (by simp)) ?_
  rw [up']
  rw [show ((H.length : Int)).toNat = H.length by exact La.z112 (La.tn _),show PV.tup [PV.int 6,PV.int 12] = cv (6,12) from rfl,<- List.map_set]
  congr 2
  rw [List.set_append]
  simp [selfs,blk,List.range_succ]
 ·refine ite_of (λ h => absurd h (by decide)) λ _ => ?_
  walk_at "r"
  refine fc_arity hn' T' SY (f := 13) (by have := FO.l; assumption) FO.z rfl ?_
  rw [show (hat FU ((13 : Nat) : Int)).2 = 2 from FO.b]
  walk_at "r"
  refine fc_reserve (k := 3) hn' T' SO hlen (by decide) λ σ1 e1 h1 => ?_
  have SO1 := SO.mut D e1 h1
  have z1 : (H ++ selfs H.length 3).length = H.length + 3 := by simp [selfs]
  walk_at "r"
  refine ⟨by simp,?_⟩;walk_at "r"
  refine si_list h1 (by exact La.z7) (by simp [selfs]) (by simp [selfs]; exact La.l1 (.T .x0 (.l 900)) (.T (.a .x0 (.l 3)) (.l 100000)) [[1,1]] rfl [_] [] hlen) ?_;walk_at "r"
  refine ⟨by simp,?_⟩;walk_at "r"
  refine q _ (e1.updO (by simp)) ?_
  rw [up']
  rw [show ((H.length : Int)).toNat = H.length by exact La.z112 (La.tn _),show PV.tup [PV.int 6,PV.int 13] = cv (6,13) from rfl,<- List.map_set]
  congr 2
  rw [List.set_append]
  simp [selfs,blk,List.range_succ]
end
end
section
set_option maxHeartbeats 4000000
theorem hat_app {H L : List Cell} {v : Nat} (h : v < H.length) : hat (H ++ L) v = hat H v := by
 simp [hat,List.getElem?_append_left h]
theorem hat_app2 {H L : List Cell} {k : Nat} : hat (H ++ L) ((H.length + k : Nat) : Int) = hat L k := by
 unfold hat
 rw [Int.toNat_natCast,Int.toNat_natCast,List.getElem?_append_right (by exact La.z51),show H.length + k - H.length = k by exact La.z113 (La.sb _ _)]
theorem hat_set {H : List Cell} {v u : Nat} {c : Cell} (h : v < H.length) : hat (H.set v c) u = if u = v then c else hat H u := by
 by_cases e : u = v
 ·subst e; simp [hat,h]
 ·simp [hat,e,Ne.symm e]
noncomputable def K6 (H H' : List Cell) : Prop := H.length<=H'.length/\∀ v : Nat,v < H.length->((hat H v).1 = 6->hat H' v = hat H v)/\((hat H v).1 ≠ 6->(hat H' v).1 ≠ 6)
theorem K6.refl {H : List Cell} : K6 H H := ⟨Nat.le_refl _,λ _ _ => ⟨λ _ => rfl,λ h => h⟩⟩
theorem K6.trans {H H' H'' : List Cell} (x : K6 H H') (y : K6 H' H'') : K6 H H'' := ⟨Nat.le_trans x.1 y.1,λ v hv => by
 refine La.c2 (x.2 v hv) λ a b => ?_
 refine La.c2 (y.2 v (Nat.lt_of_lt_of_le hv x.1)) λ c d => ?_
 exact ⟨λ h => by rw [c (by rw [a h]; exact h),a h],λ h => d (b h)⟩⟩
theorem K6.app {H L : List Cell} : K6 H (H ++ L) := ⟨by simp,λ v hv => by rw [hat_app hv]; exact ⟨λ _ => rfl,λ h => h⟩⟩
theorem K6.set {H : List Cell} {v : Nat} {c : Cell} (hv : v < H.length) (h6 : (hat H v).1 ≠ 6) (hc : c.1 ≠ 6) : K6 H (H.set v c) := ⟨by simp,λ u hu => by
 rw [hat_set hv]
 by_cases e : u = v
 ·subst e; simp only [if_true]; exact ⟨λ h => absurd h h6,λ _ => hc⟩
 ·simp only [e,if_false]; exact ⟨λ _ => trivial,λ h => h⟩⟩
theorem okc.keep {H H' : List Cell} (k : K6 H H') {c : Cell} (ok : okc H c) : okc H' c := by
 have lt : ∀ {v : Nat},v < H.length->v < H'.length := λ h => Nat.lt_of_lt_of_le h k.1
 cases ok with
 | ref v h1 h2 => exact .ref v (lt h1) ((k.2 v h1).2 h2)
 | srf => exact .srf
 | str1 v h1 h2 h3 => exact .str1 v (lt h1) (by rw [(k.2 v (by exact La.z4 h1)).1 (by rw [h2]),h2]) ((k.2 _ h1).2 h3)
 | str2 v h1 h2 h3 h4 => exact .str2 v (lt h1) (by rw [(k.2 v (by exact La.z42 h1)).1 (by rw [h2]),h2]) ((k.2 _ (by exact La.l1 (.T (.a .x0 (.l 2)) .x1) (.T (.a .x0 .l1) .x1) [[1,1]] rfl [_,_] [] h1)).2 h3) ((k.2 _ h1).2 h4)
 | lis v h1 h2 h3 => exact .lis v (lt h1) ((k.2 v (by exact La.z4 h1)).2 h2) ((k.2 _ h1).2 h3)
 | con0 => exact .con0
 | con4 => exact .con4
 | int i => exact .int i
theorem okc.ne6 {H : List Cell} {c : Cell} (ok : okc H c) : c.1 ≠ 6 := by cases ok <;> simp
theorem WF.set {H : List Cell} (W : WF H) {v : Nat} {c : Cell} (hv : v < H.length) (h6 : (hat H v).1 ≠ 6) (ok : okc H c) (h1 : c.1 ≠ 1) (h0 : c.1 = 0->c.2<=v) : WF (H.set v c) := by
 intro i d hd
 have k := K6.set hv h6 ok.ne6
 by_cases e : i = v
 ·subst e
  rw [List.getElem?_set_self hv] at hd
  cases hd
  exact .inr ⟨ok.keep k,h1,h0⟩
 ·rw [List.getElem?_set_ne (Ne.symm e)] at hd
  rcases W i d hd with h | ⟨a,b,c⟩
  ·exact .inl h
  ·exact .inr ⟨a.keep k,b,c⟩
theorem WF.app {H L : List Cell} (W : WF H) (hL : ∀ (k : Nat) (d : Cell),L[k]? = some d->d.1 = 6\/(d = (0,((H.length + k : Nat) : Int)))) : WF (H ++ L) := by
 intro i d hd
 by_cases hi : i < H.length
 ·rw [List.getElem?_append_left hi] at hd
  rcases W i d hd with h | ⟨a,b,c⟩
  ·exact .inl h
  ·exact .inr ⟨a.keep K6.app,b,c⟩
 ·refine La.x1_1 (⟨i - H.length,by exact La.l2 (.n (.L (.a .x0 .l1) .x1)) (.o (.w (.L .x1 .x0) (.Q (.a .x2 .x1) .x0)) (.w (.L (.a .x0 .l1) .x1) (.Q .x2 .l0))) (.Q .x0 (.a .x1 .x2)) [[0,0,1,0,1],[0,0,0,1,1],[1,1,0,0,0],[1,1,0,0,0]] rfl [_,_,_] [] hi (La.sb _ _)⟩ : ∃ k,i = H.length + k) λ k h'1 => ?_; subst h'1
  rw [List.getElem?_append_right (by exact La.z51),show H.length + k - H.length = k by exact La.z113 (La.sb _ _)] at hd
  rcases hL k d hd with h | rfl
  ·exact .inl h
  ·have hk := (List.getElem?_eq_some_iff.mp hd).1
   refine .inr ⟨.ref _ (by simp; assumption) ?_,by simp,by simp⟩
   rw [hat_app2]
   simp [hat,hd]
theorem blk_len {f : Int} {n : Nat} : (blk f n).length<=3 := by unfold blk; repeat (first | split | simp)
theorem WF.blk {H : List Cell} (W : WF H) (f : Int) : WF (H ++ blk f H.length) := W.app λ k d hd => by
 unfold Mine.blk at hd
 split at hd
 ·rcases k with _ | _ | k <;> simp at hd <;> subst hd <;> right <;> rfl
 ·split at hd
  ·rcases k with _ | _ | k <;> simp at hd <;> subst hd
   ·left; rfl
   ·right; rfl
  ·rcases k with _ | _ | _ | k <;> simp at hd <;> subst hd
   ·left; rfl
   ·right; rfl
   ·right; rfl
theorem made_ok {H : List Cell} {f : Int} (hf : f = 0\/f = 12\/f = 13) : okc (H ++ blk f H.length) (made f H.length) := by
 rcases hf with rfl | rfl | rfl
 ·refine .lis _ (by simp [blk]) ?_ ?_
  ·have := hat_app2 (H := H) (L := blk 0 H.length) (k := 0); rw [Nat.add_zero] at this; rw [this]; simp [blk,hat]
  ·rw [hat_app2]; simp [blk,hat]
 ·refine .str1 _ (by simp [blk]) ?_ ?_
  ·have := hat_app2 (H := H) (L := blk 12 H.length) (k := 0); rw [Nat.add_zero] at this; rw [this]; simp [blk,hat]
  ·rw [hat_app2]; simp [blk,hat]
 ·refine .str2 _ (by simp [blk]) ?_ ?_ ?_
  ·have := hat_app2 (H := H) (L := blk 13 H.length) (k := 0); rw [Nat.add_zero] at this; rw [this]; simp [blk,hat]
  ·rw [hat_app2]; simp [blk,hat]
  ·rw [hat_app2]; simp [blk,hat]
noncomputable def Tm.sz : Tm->Nat
 | .s1 t => 2 + t.sz
 | .s2 f t u => (if f = 0 then 2 else 3) + t.sz + u.sz
 | _ => 0
noncomputable def Tm.nd : Tm->Nat
 | .s1 t => 1 + t.nd
 | .s2 _ t u => 1 + t.nd + u.nd
 | _ => 0
theorem Tm.sz0 : ∀ {t : Tm},t.dp<=0->t.sz = 0
 | .at _,_ => rfl
 | .it _,_ => rfl
 | .vr _,_ => rfl
 | .s1 t,h => by simp [Tm.dp] at h
 | .s2 _ t u,h => by simp [Tm.dp] at h
theorem Tm.sz1 : ∀ {t : Tm},t.dp<=1->t.sz<=3
 | .at _,_ => by simp [Tm.sz]
 | .it _,_ => by simp [Tm.sz]
 | .vr _,_ => by simp [Tm.sz]
 | .s1 t,h => by
  have := Tm.sz0 (t := t) (by simp [Tm.dp] at h; exact La.l1 (.Q .x0 .l0) (.L .x0 .l0) [[1,0,1]] rfl [_] [] h)
  simp [Tm.sz,this]
 | .s2 _ t u,h => by
  have h1 := Tm.sz0 (t := t) (by simp [Tm.dp] at h; exact La.l1 (.w (.Q .x0 .l0) (.Q .x1 .l0)) (.L .x0 .l0) [[1,0,0,0,1]] rfl [_,_] [] h)
  have h2 := Tm.sz0 (t := u) (by simp [Tm.dp] at h; exact La.l1 (.w (.Q .x0 .l0) (.Q .x1 .l0)) (.L .x1 .l0) [[0,0,1,0,1]] rfl [_,_] [] h)
  simp only [Tm.sz,h1,h2]; split <;> (first | exact La.l0  (.L (.a (.a (.l 2) .l0) .l0) (.l 3)) [[1]] rfl [] [] | exact La.l0  (.L (.a (.a (.l 3) .l0) .l0) (.l 3)) [[1]] rfl [] [])
theorem Tm.sz2 : ∀ {t : Tm},t.dp<=2->t.sz<=9
 | .at _,_ => by simp [Tm.sz]
 | .it _,_ => by simp [Tm.sz]
 | .vr _,_ => by simp [Tm.sz]
 | .s1 t,h => by
  have := Tm.sz1 (t := t) (by simp [Tm.dp] at h; assumption)
  simp only [Tm.sz]; exact La.l1 (.L .x0 (.l 3)) (.L (.a (.l 2) .x0) (.l 9)) [[1,1]] rfl [_] [] this
 | .s2 _ t u,h => by
  have h1 := Tm.sz1 (t := t) (by simp [Tm.dp] at h; exact La.l2 (.L .x2 .l1) (.o (.w (.L .x0 .x1) (.Q .x2 .x1)) (.w (.L (.a .x1 .l1) .x0) (.Q .x2 .x0))) (.L .x0 .l1) [[1,1,0,1,1],[1,0,0,1,1]] rfl [_,_,_] [] h (La.mx _ _))
  have h2 := Tm.sz1 (t := u) (by simp [Tm.dp] at h; exact La.l2 (.L .x2 .l1) (.o (.w (.L .x0 .x1) (.Q .x2 .x1)) (.w (.L (.a .x1 .l1) .x0) (.Q .x2 .x0))) (.L .x1 .l1) [[1,0,0,1,1],[1,1,0,1,1]] rfl [_,_,_] [] h (La.mx _ _))
  simp only [Tm.sz]; split <;> (first | exact La.l2 (.L .x0 (.l 3)) (.L .x1 (.l 3)) (.L (.a (.a (.l 2) .x0) .x1) (.l 9)) [[1,1,1]] rfl [_,_] [] h1 h2 | exact La.l2 (.L .x0 (.l 3)) (.L .x1 (.l 3)) (.L (.a (.a (.l 3) .x0) .x1) (.l 9)) [[1,1,1]] rfl [_,_] [] h1 h2)
noncomputable def szs (l : List Tm) : Nat := (l.map Tm.sz).sum
noncomputable def nds (l : List Tm) : Nat := (l.map Tm.nd).sum
noncomputable def wV (p : Nat × List Tm) : PV := .tup [.int p.1,.tup (p.2.map tmV)]
noncomputable def szw (l : List (Nat × List Tm)) : Nat := (l.map λ p => szs p.2).sum
noncomputable def ndw (l : List (Nat × List Tm)) : Nat := (l.map λ p => 1 + nds p.2).sum
noncomputable def okw (H : List Cell) (p : Nat) (l : List Tm) : Prop := (∀ t ∈ l,t.ok)/\∀ k,k < l.length->p + k < H.length/\(hat H (p + k : Nat)).1 ≠ 6
theorem okw.keep {H H' : List Cell} (k : K6 H H') {p : Nat} {l : List Tm} (h : okw H p l) : okw H' p l := ⟨h.1,λ i hi => by
 refine La.c2 (h.2 i hi) λ a b => ?_
 exact ⟨Nat.lt_of_lt_of_le a k.1,(k.2 _ a).2 b⟩⟩
end
section
set_option maxHeartbeats 8000000
noncomputable def KN : List (Int × PV) := [(0,cv (0,0)),(1,cv (0,1)),(2,cv (0,2)),(3,cv (0,3))]
theorem KN_at {k : Int} (h : 0<=k/\k < 4) : at? k KN = some (cv (0,k)) := by
 have : k = 0\/k = 1\/k = 2\/k = 3 := by exact La.l1 (.w (.l .l0 .x0) (.t .x0 (.l 4))) (.o (.q .x0 .l0) (.o (.q .x0 .l1) (.o (.q .x0 (.l 2)) (.q .x0 (.l 3))))) [[1,0,1,0,0,0],[1,0,1,0,0,0],[1,0,1,0,0,0],[1,0,1,0,0,0],[1,0,1,0,0,0],[1,0,1,0,0,0],[1,0,1,0,0,0],[1,0,1,0,0,0],[0,0,1,1,0,0],[0,0,1,1,0,0],[0,0,1,1,0,0],[0,0,1,1,0,0],[0,0,0,1,1,0],[0,0,0,1,1,0],[0,0,0,0,1,1],[0,1,0,0,0,1]] rfl [] [_] h
 rcases this with rfl | rfl | rfl | rfl <;> rfl
noncomputable def wdf (f : Int) : Nat := if f = 12 then 1 else 2
noncomputable def pb (f : Int) (n : Nat) : Nat := if f = 0 then n else n + 1
theorem bs_made {f : Int} {n : Nat} : bs (made f n) = (pb f n : Nat) := by
 unfold made pb bs
 by_cases h : f = 0 <;> simp [h]
theorem Tm.split : ∀ t : Tm,t.ok->(∃ k,t = .vr k)\/(∃ k,t = .at k)\/(∃ k,t = .it k) \/
  ∃ f ts,(f = 0\/f = 12\/f = 13)/\tmV t = .tup [.str "s",.int f,.tup (ts.map tmV)]/\(∀ t ∈ ts,t.ok)/\ts.length = wdf f/\(∀ n,t.sz = (blk f n).length + szs ts)/\t.nd = 1 + nds ts
 | .vr k,_ => .inl ⟨k,rfl⟩
 | .at k,_ => .inr (.inl ⟨k,rfl⟩)
 | .it k,_ => .inr (.inr (.inl ⟨k,rfl⟩))
 | .s1 t,h => .inr (.inr (.inr ⟨12,[t],by simp,rfl,(λ x hx => by simp at hx; subst hx; exact h),rfl,λ n => by simp [Tm.sz,blk,szs],by simp [Tm.nd,nds]⟩))
 | .s2 f t u,h => .inr (.inr (.inr ⟨f,[t,u],by rcases h.1 with h | h <;> simp [h],rfl,by simp; exact h.2,by rcases h.1 with h | h <;> simp [h,wdf],λ n => by
   rcases h.1 with h | h <;> simp [h,Tm.sz,blk,szs] <;> (first | exact La.l0  (.Q (.a (.a (.l 2) .x0) .x1) (.a (.l 2) (.a .x0 .x1))) [[1],[1]] rfl [_,_] [] | exact La.l0  (.Q (.a (.a (.l 3) .x0) .x1) (.a (.l 3) (.a .x0 .x1))) [[1],[1]] rfl [_,_] []),by simp [Tm.nd,nds]; exact La.l0  (.Q (.a (.a .l1 .x0) .x1) (.a .l1 (.a .x0 .x1))) [[1],[1]] rfl [_,_] []⟩))
theorem blk_okw {H : List Cell} {f : Int} {ts : List Tm} (hf : f = 0\/f = 12\/f = 13) (h1 : ∀ t ∈ ts,t.ok) (h2 : ts.length = wdf f) : okw (H ++ blk f H.length) (pb f H.length) ts := by
 refine ⟨h1,λ k hk => ?_⟩
 rw [h2] at hk
 rcases hf with rfl | rfl | rfl
 ·have : k = 0\/k = 1 := by simp [wdf] at hk; exact La.z89 hk
  refine ⟨by simp [pb,blk]; exact La.l1 (.o (.Q .x0 .l0) (.Q .x0 .l1)) (.T .x0 (.l 2)) [[1,0,1],[1,0,1]] rfl [_] [] this,?_⟩
  rw [show pb 0 H.length = H.length from rfl,hat_app2]
  rcases this with rfl | rfl <;> simp [blk,hat]
 ·have : k = 0 := by simp [wdf] at hk; assumption
  subst this
  refine ⟨by simp [pb,blk],?_⟩
  rw [show pb 12 H.length + 0 = H.length + 1 from rfl,hat_app2]
  simp [blk,hat]
 ·have : k = 0\/k = 1 := by simp [wdf] at hk; exact La.z89 hk
  refine ⟨by simp [pb,blk]; exact La.l1 (.o (.Q .x0 .l0) (.Q .x0 .l1)) (.T (.a (.a .x1 .l1) .x0) (.a .x1 (.l 3))) [[1,0,1],[1,0,1]] rfl [_,_] [] this,?_⟩
  rw [show pb 13 H.length + k = H.length + (k + 1) by show H.length + 1 + k = _; exact La.z52,hat_app2]
  rcases this with rfl | rfl <;> simp [blk,hat]
theorem Tm.nd_le : ∀ t : Tm,t.nd<=t.sz
 | .at _ => Nat.le_refl _
 | .it _ => Nat.le_refl _
 | .vr _ => Nat.le_refl _
 | .s1 t => by have := t.nd_le; simp only [Tm.nd,Tm.sz]; exact La.l1 (.L .x0 .x1) (.L (.a .l1 .x0) (.a (.l 2) .x1)) [[1,1]] rfl [_,_] [] this
 | .s2 f t u => by have := t.nd_le; have := u.nd_le; simp only [Tm.nd,Tm.sz]; split <;> (first | exact La.l2 (.L .x0 .x1) (.L .x2 .x3) (.L (.a (.a .l1 .x0) .x2) (.a (.a (.l 2) .x1) .x3)) [[1,1,1]] rfl [_,_,_,_] [] (by assumption) this | exact La.l2 (.L .x0 .x1) (.L .x2 .x3) (.L (.a (.a .l1 .x0) .x2) (.a (.a (.l 3) .x1) .x3)) [[1,1,1]] rfl [_,_,_,_] [] (by assumption) this)
theorem nds_cons {t : Tm} {l : List Tm} : nds (t :: l) = t.nd + nds l := by simp [nds]
theorem szs_cons {t : Tm} {l : List Tm} : szs (t :: l) = t.sz + szs l := by simp [szs]
theorem ndw_cons {e : Nat × List Tm} {l : List (Nat × List Tm)} : ndw (e :: l) = 1 + nds e.2 + ndw l := by simp [ndw]
theorem szw_cons {e : Nat × List Tm} {l : List (Nat × List Tm)} : szw (e :: l) = szs e.2 + szw l := by simp [szw]
theorem ndw_snoc {e : Nat × List Tm} {l : List (Nat × List Tm)} : ndw (l ++ [e]) = ndw l + (1 + nds e.2) := by simp [ndw]
theorem szw_snoc {e : Nat × List Tm} {l : List (Nat × List Tm)} : szw (l ++ [e]) = szw l + szs e.2 := by simp [szw]
theorem ndw_len : ∀ l : List (Nat × List Tm),l.length<=ndw l
 | [] => Nat.le_refl _
 | e :: l => by have := ndw_len l; rw [ndw_cons]; simp; exact La.l1 (.L .x0 .x1) (.L (.a .x0 .l1) (.a (.a .l1 .x2) .x1)) [[1,1]] rfl [_,_,_] [] this
section
variable {C : Cx} {ρ : Loc'} {σ : CH} {mg : Str->Option Value} {a : SA} {H S : List Cell} {TX : List PV} {AN : List (Str × PV)} {FU : List Cell} {FN : List (List Int × PV)}
theorem fc_put_term {n : Nat} (hn : C.n = n + 3) (T : TC C mg) (SO : StOk σ a H S) (SY : SyOk σ a TX AN FU FN) (FO : FuOk FU) (D : DS a) (W : WF H) (hlen : H.length<=100) (h4 : 4<=H.length) (h46 : ∀ k : Nat,k < 4->(hat H k).1 ≠ 6)
  {kn : Addr} (hk : σ kn = some (.dictI KN)) {t : Tm} (ht : t.ok) (hz : t.sz<=9)
  {Q : PV->CH->Prop} (q : ∀ (c : Cell) (H' : List Cell) (σ' : CH),EB [a.hp] σ σ'->σ' a.hp = some (.list (H'.map cv))->WF H'->K6 H H'->H'.length<=H.length + t.sz->okc H' c->c.1 ≠ 1->Q (cv c) σ') :
  FC C (.ref 364) [.ref a.st,tmV t,.ref kn] σ Q := by
 refine FC.mth hn T (T.mt "put_term" rfl) (names := ["self","term","table"]) (HB.three λ _ _ _ _ _ _ _ _ _ _ => rfl) rfl rfl rfl (by decide) (by decide) λ C' hn' sc T' X => ?_
 have B' := T'.sys
 have hkh : kn ≠ a.hp := ne_mm hk SO.hp (by simp)
 walk_at "b";walk_at "r"
 refine fc_list_dict B' hk (by decide) λ lk0 hl0 => ?_
 refine it_list up' λ it hit => ⟨it,rfl,λ R hR => ?_⟩
 have hitl : lk0 ≠ it := λ q => by rw [<- q,up'] at hit; cases hit
 have hit0 := uN' hit
 refine FL.over (a := lk0) (l := [.int 0,.int 1,.int 2,.int 3]) X (by walk_at "kd2") (λ i ρ' σ' => lk "self" ρ' = some (.ref a.st)/\lk "term" ρ' = some (tmV t)/\lk "table" ρ' = some (.ref kn)/\Ext σ σ'/\σ' lk0 = some (.list [.int 0,.int 1,.int 2,.int 3])) ?_ ?_ ?_
  4 0 _ _ rfl ⟨rfl,rfl,rfl,(Ext.refl.updN hl0).updN hit0,(un' hitl).trans up'⟩ up'
 ·intro i V ρ σ1 hV h'1 hi1 R' hR' _; refine La.c5 h'1 λ l1 l2 l3 e1 h1 => ?_; clear h'1
  have e2 := e1.updN (m := .itL lk0 (i + 1)) hit0
  have h2 := (un' (m := .itL lk0 (i + 1)) hitl).trans h1
  have i2 := up' (σ := σ1) (a := it) (m := .itL lk0 (i + 1))
  generalize upd σ1 it (.itL lk0 (i + 1)) = σ2 at *
  have hV' : ∃ k : Int,V = .int k/\0<=k/\k < 4 := by
   rcases i with _ | _ | _ | _ | i <;> simp at hV <;> subst hV
   ·exact ⟨0,rfl,by decide⟩
   ·exact ⟨1,rfl,by decide⟩
   ·exact ⟨2,rfl,by decide⟩
   ·exact ⟨3,rfl,by decide⟩
  refine La.x1_2 hV' λ k h'1 hk4 => ?_; clear hV'; subst h'1;walk_at "r"
  refine op_subD (e2 _ _ hk) (KN_at hk4) ?_;walk_at "r"
  refine ite_of (λ h => absurd h (by simp)) λ _ => ?_;walk_at "r"
  exact hR' _ _ ⟨by walk_at "lk",by walk_at "lk",by walk_at "lk",e2,h2⟩ i2
 ·intro i ρ σ1; refine La.k5 λ l1 l2 l3 e1 h1 => ?_; exact h1
 ·intro ρ σ1 h'1 m hm; refine La.c5 h'1 λ l1 l2 l3 e1 h1 => ?_; clear h'1
  have e2 : EB [a.hp] σ (del σ1 it) := EB.delN e1.eb hit0
  have x2 : Ext σ (del σ1 it) := λ x m g => by rw [del_ne]; exact e1 _ _ g; rintro rfl; rw [hit0] at g; cases g
  have SO2 := SO.ext x2
  have SY2 := SY.ext x2
  have hk2 := x2 _ _ hk
  generalize del σ1 it = σ2 at *
  clear e1 h1 hm
  walk_at "r"
  have leaf : ∀ (c : Cell),t.sz = 0->okc H c->c.1 ≠ 1->Q (cv c) σ2 := λ c e o h => q c H σ2 x2.eb SO2.hp W K6.refl (by exact La.z51) o h
  rcases t.split ht with ⟨k,rfl⟩ | ⟨k,rfl⟩ | ⟨k,rfl⟩ | ⟨f,ts,hf,e,hts,htl,hsz,hnd⟩
  ·have ht : 0<=k/\k < 4 := ht
   walk_at "tt";walk_at "r"
   walk_at "yes";walk_at "r"
   walk_at "tt";walk_at "r"
   refine op_ninD B' hk2 ?_
   rw [KN_at ht]
   walk_at "r"
   refine ite_f ?_;walk_at "r"
   walk_at "tt";walk_at "r"
   refine op_subD hk2 (KN_at ht) ?_;walk_at "r"
   refine La.x1_1 (Int.eq_ofNat_of_zero_le ht.1) λ j h'1 => ?_; subst h'1
   exact leaf (0,(j : Int)) rfl (.ref j (by exact La.z90 h4 ht) (h46 j (by exact La.z91 ht))) (by simp)
  ·have ht : k = 0\/k = 4 := ht
   walk_at "tt";walk_at "r"
   walk_at "no";walk_at "r"
   walk_at "yes";walk_at "r"
   walk_at "tt";walk_at "r"
   refine ⟨by simp,?_⟩;walk_at "r"
   exact leaf (4,k) rfl (by rcases ht with rfl | rfl; exact .con0; exact .con4) (by simp)
  ·walk_at "tt"
   walk_at "r"
   walk_at "no";walk_at "r"
   walk_at "no";walk_at "r"
   walk_at "yes";walk_at "r"
   walk_at "tt";walk_at "r"
   refine ⟨by simp,?_⟩;walk_at "r"
   exact leaf (5,k) rfl (.int k) (by simp)
  ·clear leaf
   rw [e] at l2 ⊢
   walk_at "tt";walk_at "r"
   walk_at "no";walk_at "r"
   walk_at "no";walk_at "r"
   walk_at "no";walk_at "r"
   walk_at "tt";walk_at "r"
   refine fc_new_block hn' T' SO2 SY2 FO D (by exact La.l1 (.L .x0 (.l 100)) (.T .x0 (.l 900)) [[1,1]] rfl [_] [] hlen) hf λ σ3 e3 h3 => ?_
   have SO3 := SO2.mut D e3 h3
   have SY3 := SY2.mut SO2 D e3
   have k3 := e3 _ _ (by simpa using hkh) hk2
   have E3 := x2.eb.trans e3
   walk_at "r"
   refine fc_base hn' T' ?_
   rw [bs_made]
   walk_at "r"
   walk_at "tt";walk_at "r"
   refine ⟨by simp,?_⟩;walk_at "r"
   refine ⟨by simp,λ wt hwt3 => ?_⟩
   have hwth : wt ≠ a.hp := λ q => by rw [q,h3] at hwt3; cases hwt3
   have hwt0 : σ wt = none := by
    cases z : σ wt with
    | none => rfl
    | some m => rw [E3 _ _ (by simpa using hwth) z] at hwt3; cases hwt3
   walk_at "r"
   refine EX.while X λ R2 hR2 => ?_
   have hsz' := hsz H.length
   have hndl := t.nd_le
   have hst : a.st ≠ a.hp := ne_mm SO.st SO.hp (by simp)
   have hdst : a.dst ≠ a.hp := ne_mm SO.dst SO.hp (by simp)
   have mok := made_ok (H := H) hf
   have m1 : (made f H.length).1 ≠ 1 := by unfold made; split <;> simp
   generalize made f H.length = mc at *
   refine (?_ : ∀ (m : Nat) (ρ : Loc') (σ' : CH) (H1 : List Cell) (dn pend : List (Nat × List Tm)),ndw pend = m->EB [a.hp] σ σ'->σ' a.hp = some (.list (H1.map cv))->σ' wt = some (.list ((dn ++ pend).map wV))->WF H1->K6 H H1->okc H1 mc ->
    (∀ e ∈ pend,okw H1 e.1 e.2/\4<=e.1)->H1.length + szw pend<=H.length + t.sz->dn.length + ndw pend<=100->lk "self" ρ = some (.ref a.st)->lk "table" ρ = some (.ref kn)->lk "waiting" ρ = some (.ref wt)->lk "at" ρ = some (.int dn.length)->lk "made" ρ = some (cv mc)->WH C' _ _ ρ σ' R2)
    (ndw [(pb f H.length,ts)]) _ _ (H ++ blk f H.length) [] [(pb f H.length,ts)] rfl (E3.updN hwt0) ((un' hwth.symm).trans h3) up' (W.blk f) K6.app mok (λ e he => by
     simp at he; subst he
     exact ⟨blk_okw hf hts htl,by unfold pb; split <;> (first | assumption | omega)⟩) (by simp [szw]; exact La.l1 (.Q .x0 (.a .x1 .x2)) (.L (.a (.a .x3 .x1) .x2) (.a .x3 .x0)) [[0,1,1]] rfl [_,_,_,_] [] hsz') (by simp [ndw]; exact La.l3 (.L .x0 (.l 9)) (.Q .x1 (.a .l1 .x2)) (.L .x1 .x0) (.L (.a .l1 .x2) (.l 100)) [[1,0,1,1,1]] rfl [_,_,_] [] hz hnd hndl) (by walk_at "lk") (by walk_at "lk") (by walk_at "lk") rfl (by walk_at "lk")
   clear e3 h3 SO3 SY3 k3 E3 hwt3 mok SO2 SY2 hk2 x2 l1 l2 l3
   intro m
   induction m with
   | zero =>
    intro ρ σ' H1 dn pend hm E1 g1 g2 W1 k1 mok okp hsz1 hb l1 l2 l3 l4 l5
    have : pend = [] := by
     cases pend with
     | nil => rfl
     | cons e r => rw [ndw_cons] at hm; exact False.elim (La.l1 (.Q (.a (.a .l1 .x0) .x1) .l0) .F [[1,0]] rfl [_,_] [] hm)
    subst this
    refine WH.go X λ R' hR' => ?_;walk_at "r"
    refine fcl' g2 (by simp [ndw] at hb ⊢; exact La.l1 (.L .x0 (.l 100)) (.T .x0 (.l 1000000)) [[1,1]] rfl [_] [] hb) ?_;walk_at "r"
    refine ite_of (λ h => absurd h (by simp)) λ _ => ?_;walk_at "r"
    exact q mc H1 σ' E1 g1 W1 k1 (by simp [szw] at hsz1; assumption) mok m1
   | succ m ih =>
    intro ρ σ' H1 dn pend hm E1 g1 g2 W1 k1 mok okp hsz1 hb l1 l2 l3 l4 l5
    cases pend with
    | nil => simp [ndw] at hm
    | cons e rest =>
    obtain ⟨p,us⟩ := e
    refine La.c2 (okp _ List.mem_cons_self) λ oke p4 => ?_
    rw [ndw_cons] at hm hb
    rw [szw_cons] at hsz1
    dsimp only at hm hb hsz1 oke p4
    refine WH.go X λ R' hR' => ?_;walk_at "r"
    have hrl := ndw_len rest
    refine fcl' g2 (by simp; exact La.l2 (.L (.a .x0 (.a (.a .l1 .x1) .x2)) (.l 100)) (.L .x3 .x2) (.T (.a .x0 (.a .x3 .l1)) (.l 1000000)) [[1,1,1]] rfl [_,_,_,_] [] hb hrl) ?_;walk_at "r"
    refine ite_of (λ _ => ?_) λ h => absurd h (by simp; exact La.l0  (.t (.c .x0) (.a (.c .x0) (.a (.c .x1) .l1))) [[1]] rfl [_,_] []);walk_at "r"
    refine op_subL (V := wV (p,us)) g2 (by exact La.z7) (by simp) (by exact La.l1 (.L (.a .x0 (.a (.a .l1 .x1) .x2)) (.l 100)) (.t (.c .x0) (.l 1000000)) [[1,1]] rfl [_,_,_] [] hb) ?_
    refine ⟨_,_,rfl,?_⟩;walk_at "r"
    refine it_tup λ it hit' => ⟨it,rfl,λ R3 hR3 => ?_⟩
    have hith : a.hp ≠ it := ne_of hit' g1
    have hitw : wt ≠ it := ne_of hit' g2
    have hit0 : σ it = none := by
     cases z : σ it with
     | none => rfl
     | some m => rw [E1 _ _ (by simpa using hith.symm) z] at hit'; cases hit'
    refine FL.overT X (by walk_at "kd2") (λ i ρ' σ' => ∃ (H1 : List Cell) (pend : List (Nat × List Tm)),EB [a.hp] σ σ'/\σ' a.hp = some (.list (H1.map cv))/\σ' wt = some (.list (((dn ++ [(p,us)]) ++ pend).map wV))/\WF H1/\K6 H H1/\okc H1 mc /\
     (∀ e ∈ pend,okw H1 e.1 e.2/\4<=e.1)/\okw H1 (p + i) (us.drop i)/\H1.length + szw pend + szs (us.drop i)<=H.length + t.sz/\ndw pend + nds (us.drop i) = m/\i<=us.length /\
     lk "self" ρ' = some (.ref a.st)/\lk "table" ρ' = some (.ref kn)/\lk "waiting" ρ' = some (.ref wt)/\lk "at" ρ' = some (.int ((dn ++ [(p,us)]).length : Nat))/\lk "made" ρ' = some (cv mc)/\lk "place" ρ' = some (.int ((p + i : Nat) : Int))) ?_ ?_
     (us.map tmV).length 0 _ _ rfl ⟨H1,rest,E1.updN hit0,(un' hith).trans g1,(un' hitw).trans (by rw [g2]; simp),W1,k1,mok,λ e he => okp e (List.mem_cons_of_mem _ he),oke,by simp; exact La.l1 (.L (.a .x0 (.a .x1 .x2)) (.a .x3 .x4)) (.L (.a (.a .x0 .x2) .x1) (.a .x3 .x4)) [[1,1]] rfl [_,_,_,_,_] [] hsz1,by simp; exact La.l1 (.Q (.a (.a .l1 .x0) .x1) (.a .x2 .l1)) (.Q (.a .x1 .x0) .x2) [[0,1,1],[1,0,1]] rfl [_,_,_] [] hm,Nat.zero_le _,
      by walk_at "lk",by walk_at "lk",by walk_at "lk",by simp [lk],by walk_at "lk",(by show _ = some (PV.int (p : Int)); walk_at "lk")⟩ up'
    ·intro i V ρ σ1 hV h'1 hi2 R4 hR4 _; refine La.x2_17 h'1 λ H2 pd E2 g3 g4 W2 k2 mok2 okp2 okc2 hs2 hm2 hil l1 l2 l3 l4 l5 l6 => ?_; clear h'1
     have hi : i < us.length := by
      have := (List.getElem?_eq_some_iff.mp hV).1
      simpa using this
     refine La.x1_1 (⟨us[i],List.drop_eq_getElem_cons hi⟩ : ∃ x,us.drop i = x :: us.drop (i + 1)) λ x hx => ?_
     have hVx : V = tmV x := by
      have e1 : us[i]? = some x := by
       have := congrArg List.head? hx
       simpa [List.head?_drop] using this
      rw [List.getElem?_map,e1] at hV
      exact (Option.some.inj hV).symm
     subst hVx
     rw [hx] at okc2 hs2 hm2
     rw [szs_cons] at hs2
     rw [nds_cons] at hm2
     have hpi := okc2.2 0 (by simp)
     rw [Nat.add_zero] at hpi
     have okx := okc2.1 x List.mem_cons_self
     have okr : okw H2 (p + (i + 1)) (us.drop (i + 1)) := ⟨λ t ht => okc2.1 t (List.mem_cons_of_mem _ ht),λ k hk => by
      have := okc2.2 (k + 1) (by simp at hk ⊢; assumption)
      rw [show p + (i + 1) + k = p + i + (k + 1) by exact La.l0  (.Q (.a (.a .x0 (.a .x1 .l1)) .x2) (.a (.a .x0 .x1) (.a .x2 .l1))) [[1],[1]] rfl [_,_,_] []]; exact this⟩
     have E3 := E2.updN (m := .itT (us.map tmV) (i + 1)) hit0
     have g5 := (un' (m := .itT (us.map tmV) (i + 1)) hith).trans g3
     have g6 := (un' (m := .itT (us.map tmV) (i + 1)) hitw).trans g4
     have g7 := up' (σ := σ1) (a := it) (m := .itT (us.map tmV) (i + 1))
     generalize upd σ1 it (.itT (us.map tmV) (i + 1)) = σ2 at *
     have f1 := E3 _ _ (by simpa using hst) SO.st
     have f2 := E3 _ _ (by simpa using hdst) SO.dst
     have f3 := E3 _ _ (by simpa using hkh) hk
     have hb2 : pd.length<=ndw pd := ndw_len pd
     have fin : ∀ (c : Cell) (ρ : Loc'),okc H2 c->c.1 ≠ 1->(c.1 = 0->c.2<=(p + i : Nat))->x.sz = 0->x.nd = 0->lk "self" ρ = some (.ref a.st)->lk "table" ρ = some (.ref kn)->lk "waiting" ρ = some (.ref wt)->lk "at" ρ = some (.int ((dn ++ [(p,us)]).length : Nat))->lk "made" ρ = some (cv mc) ->
       lk "place" ρ = some (.int (((p + i : Nat) : Int) + 1))->R4 .next ρ (upd σ2 a.hp (.list ((H2.map cv).set (((p + i : Nat) : Int)).toNat (cv c)))) := λ c ρ o n1 le z1 z2 l1 l2 l3 l4 l5 l6 => by
      have K := K6.set hpi.1 hpi.2 o.ne6
      refine hR4 ρ _ ⟨H2.set (p + i) c,pd,E3.updO (by simp),?_,(un' hwth).trans g6,W2.set hpi.1 hpi.2 o n1 le,k2.trans K,mok2.keep K,λ e he => ⟨(okp2 e he).1.keep K,(okp2 e he).2⟩,okr.keep K,by simp; exact La.l1 (.L (.a (.a .x0 .x1) (.a .x2 .x3)) (.a .x4 .x5)) (.L (.a (.a .x0 .x1) .x3) (.a .x4 .x5)) [[1,1]] rfl [_,_,_,_,_,_] [] hs2,by exact La.l2 (.Q (.a .x0 (.a .x1 .x2)) .x3) (.Q .x1 .l0) (.Q (.a .x0 .x2) .x3) [[0,1,1,0,1],[1,0,0,1,1]] rfl [_,_,_,_] [] hm2 z2,by exact La.z50 hi,l1,l2,l3,l4,l5,?_⟩ ((un' hith.symm).trans g7)
      ·rw [up',Int.toNat_natCast,List.map_set]
      ·rw [l6]; congr 2
     walk_at "r"
     rcases x.split okx with ⟨k,rfl⟩ | ⟨k,rfl⟩ | ⟨k,rfl⟩ | ⟨g,vs,hg,e,hvs,hvl,hgz,hgn⟩
     ·have okx : 0<=k/\k < 4 := okx
      walk_at "tt";walk_at "r"
      walk_at "yes";walk_at "r"
      walk_at "tt";walk_at "r"
      refine op_inD B' f3 ?_
      rw [KN_at okx]
      walk_at "r"
      refine ite_t ?_;walk_at "r"
      walk_at "tt";walk_at "r"
      refine op_subD f3 (KN_at okx) ?_;walk_at "r"
      refine si_list g5 (by exact La.z31) (by simp; exact La.z106 hpi (La.tn _)) (by simp; exact La.z53 hlen hz hs2) ?_;walk_at "r"
      refine La.x1_1 (Int.eq_ofNat_of_zero_le okx.1) λ j h'1 => ?_; subst h'1
      refine fin (0,(j : Int)) _ ((okc.ref j (by exact La.z90 h4 okx) (h46 j (by exact La.z91 okx))).keep k2) (by simp) (λ _ => by show (j : Int)<=_; exact La.l2 (.L (.l 4) .x0) (.w (.l .l0 (.c .x1)) (.t (.c .x1) (.l 4))) (.l (.c .x1) (.c (.a .x0 .x2))) [[1,0,1,1]] rfl [_,_,_] [] p4 okx) rfl rfl (by walk_at "lk") (by walk_at "lk") (by walk_at "lk") (by walk_at "lk") (by walk_at "lk") (by walk_at "lk")
     ·have okx : k = 0\/k = 4 := okx
      walk_at "tt";walk_at "r"
      walk_at "no";walk_at "r"
      walk_at "yes";walk_at "r"
      walk_at "tt";walk_at "r"
      refine ⟨by simp,?_⟩;walk_at "r"
      refine si_list g5 (by exact La.z31) (by simp; exact La.z106 hpi (La.tn _)) (by simp; exact La.z53 hlen hz hs2) ?_;walk_at "r"
      refine fin (4,k) _ (by rcases okx with rfl | rfl; exact .con0; exact .con4) (by simp) (by simp) rfl rfl (by walk_at "lk") (by walk_at "lk") (by walk_at "lk") (by walk_at "lk") (by walk_at "lk") (by walk_at "lk")
     ·walk_at "tt"
      walk_at "r"
      walk_at "no";walk_at "r"
      walk_at "no";walk_at "r"
      walk_at "yes";walk_at "r"
      walk_at "tt";walk_at "r"
      refine ⟨by simp,?_⟩;walk_at "r"
      refine si_list g5 (by exact La.z31) (by simp; exact La.z106 hpi (La.tn _)) (by simp; exact La.z53 hlen hz hs2) ?_;walk_at "r"
      refine fin (5,k) _ (.int k) (by simp) (by simp) rfl rfl (by walk_at "lk") (by walk_at "lk") (by walk_at "lk") (by walk_at "lk") (by walk_at "lk") (by walk_at "lk")
     ·clear fin
      rw [e]
      walk_at "tt";walk_at "r"
      walk_at "no";walk_at "r"
      walk_at "no";walk_at "r"
      walk_at "no";walk_at "r"
      walk_at "tt";walk_at "r"
      have SO2 := SO.mut D E3 g5
      have SY2 := SY.mut SO D E3
      have hgz' := hgz H2.length
      refine fc_new_block hn' T' SO2 SY2 FO D (by exact La.l3 (.L .x0 (.l 100)) (.L .x1 (.l 9)) (.L (.a (.a .x2 .x3) (.a .x4 .x5)) (.a .x0 .x1)) (.T .x2 (.l 900)) [[1,1,1,1]] rfl [_,_,_,_,_,_] [] hlen hz hs2) hg λ σ3 e3 h3 => ?_
      have mok3 := made_ok (H := H2) hg
      have m3 : (made g H2.length).1 = 2\/(made g H2.length).1 = 3 := by unfold made; split <;> simp
      have E4 := E3.trans e3
      have f14 := E4 _ _ (by simpa using hst) SO.st
      have f24 := E4 _ _ (by simpa using hdst) SO.dst
      have g64 := e3 _ _ (by simpa using hwth) g6
      have g74 := e3 _ _ (by simpa using hith.symm) g7
      have K3 : K6 H2 (H2 ++ blk g H2.length) := K6.app
      have hpi3 : p + i < (H2 ++ blk g H2.length).length/\(hat (H2 ++ blk g H2.length) (p + i : Nat)).1 ≠ 6 := ⟨by simp; exact La.l1 (.w (.T (.a .x0 .x1) .x2) (.n (.q .x0 (.l 6)))) (.T (.a .x0 .x1) (.a .x2 .x3)) [[1,0,1],[1,0,1]] rfl [_,_,_,_] [_] hpi,by rw [hat_app hpi.1]; exact hpi.2⟩
      walk_at "r"
      refine si_list h3 (by exact La.z31) (by simp; exact La.l2 (.w (.L (.a (.a .x0 .x1) .l1) .x2) (.n (.q .x0 (.l 6)))) (.o (.w (.l .l0 (.a (.c .x0) (.c .x1))) (.q (.c .x3) (.a (.c .x0) (.c .x1)))) (.w (.l (.a (.a (.c .x0) (.c .x1)) .l1) .l0) (.Q .x3 .l0))) (.L (.a .x3 .l1) (.a .x2 .x4)) [[1,0,0,1,0,1],[0,0,1,0,0,0],[1,0,0,1,0,1],[0,0,1,0,0,0]] rfl [_,_,_,_,_] [_] hpi (La.tn _)) (by have := @blk_len g H2.length; simp; exact La.la [.L .x0 (.l 100),.L .x1 (.l 9),.L (.a (.a .x2 .x3) (.a .x4 .x5)) (.a .x0 .x1),.Q .x4 (.a (.v 6) (.v 7))] (.T (.a .x2 (.v 6)) (.l 100000)) [[1,1,1,0,1,1]] rfl [_,_,_,_,_,_,_,_] [] ⟨hlen,hz,hs2,hgz',trivial⟩) ?_
      have E5 := E4.updO (a := a.hp) (m := .list (((H2 ++ blk g H2.length).map cv).set (((p + i : Nat) : Int)).toNat (cv (made g H2.length)))) (by simp)
      have h5 : upd σ3 a.hp (.list (((H2 ++ blk g H2.length).map cv).set (((p + i : Nat) : Int)).toNat (cv (made g H2.length)))) a.hp = some (.list (((H2 ++ blk g H2.length).set (p + i) (made g H2.length)).map cv)) := by
       rw [up',Int.toNat_natCast,List.map_set]
      have g65 := (un' (m := .list (((H2 ++ blk g H2.length).map cv).set (((p + i : Nat) : Int)).toNat (cv (made g H2.length)))) hwth).trans g64
      have g75 := (un' (m := .list (((H2 ++ blk g H2.length).map cv).set (((p + i : Nat) : Int)).toNat (cv (made g H2.length)))) hith.symm).trans g74
      generalize upd σ3 a.hp (.list (((H2 ++ blk g H2.length).map cv).set (((p + i : Nat) : Int)).toNat (cv (made g H2.length)))) = σ4 at *
      have K4 := K6.set hpi3.1 hpi3.2 mok3.ne6
      have W4 := (W2.blk g).set hpi3.1 hpi3.2 mok3 (by rcases m3 with h | h <;> rw [h] <;> decide) (λ h => by rcases m3 with h' | h' <;> rw [h'] at h <;> cases h)
      have f15 := E5 _ _ (by simpa using hst) SO.st
      have f25 := E5 _ _ (by simpa using hdst) SO.dst
      have kk := K3.trans K4
      walk_at "r"
      refine ⟨_,_,rfl,g65,?_⟩;walk_at "r"
      refine fc_base hn' T' ?_
      rw [bs_made]
      walk_at "r"
      walk_at "tt";walk_at "r"
      refine ⟨by simp,?_⟩
      refine ⟨_,g65,by simp; exact La.la [.Q (.a (.a .l1 .x0) .x1) (.a .x2 .l1),.L (.a .x3 (.a (.a .l1 .x0) .x1)) (.l 100),.Q (.a .x4 (.a .x5 (.v 6))) .x2,.L (.v 7) .x4] (.T (.a .x3 (.a (.v 7) .l1)) (.l 100000)) [[0,1,1,1,0,1,1]] rfl [_,_,_,_,_,_,_,_] [] ⟨hm,hb,hm2,hb2,trivial⟩,?_⟩;walk_at "r"
      refine hR4 _ _ ⟨(H2 ++ blk g H2.length).set (p + i) (made g H2.length),pd ++ [(pb g H2.length,vs)],E5.updN hwt0,(un' hwth.symm).trans h5,?_,W4,k2.trans kk,mok2.keep kk,λ e he => ?_,okr.keep kk,?_,?_,by exact La.z50 hi,
       by walk_at "lk",by walk_at "lk",by walk_at "lk",by walk_at "lk",by walk_at "lk",?_⟩ ((un' hitw.symm).trans g75)
      ·rw [up']; simp [wV]
      ·rcases List.mem_append.mp he with he | he
       ·exact ⟨(okp2 e he).1.keep kk,(okp2 e he).2⟩
       ·simp at he; subst he
        refine ⟨(blk_okw hg hvs hvl).keep K4,?_⟩
        have := k2.1
        show 4<=pb g H2.length
        unfold pb; split <;> (first | exact La.l2 (.L (.l 4) .x0) (.w (.T (.a .x0 .x1) .x2) (.n (.q .x0 (.l 6)))) (.L (.l 4) .x2) [[1,1,0,1],[1,1,0,1]] rfl [_,_,_] [_] p4 hpi | exact La.l2 (.L (.l 4) .x0) (.w (.T (.a .x0 .x1) .x2) (.n (.q .x0 (.l 6)))) (.L (.l 4) (.a .x2 .l1)) [[1,1,0,1],[1,1,0,1]] rfl [_,_,_] [_] p4 hpi)
      ·rw [szw_snoc]; simp; exact La.l2 (.L (.a (.a .x0 .x1) (.a .x2 .x3)) (.a .x4 .x5)) (.Q .x2 (.a (.v 6) (.v 7))) (.L (.a (.a (.a .x0 (.v 6)) (.a .x1 (.v 7))) .x3) (.a .x4 .x5)) [[1,0,1,1]] rfl [_,_,_,_,_,_,_,_] [] hs2 hgz'
      ·rw [ndw_snoc]; simp; exact La.l2 (.Q (.a .x0 (.a .x1 .x2)) .x3) (.Q .x1 (.a .l1 .x4)) (.Q (.a (.a .x0 (.a .l1 .x4)) .x2) .x3) [[0,1,1,0,1],[1,0,0,1,1]] rfl [_,_,_,_,_] [] hm2 hgn
      ·refine Eq.trans (b := some (PV.int (((p + i : Nat) : Int) + 1))) (by walk_at "lk") ?_
       congr 2
    ·intro ρ σ1 h'1 x hx; refine La.x2_17 h'1 λ H2 pd E2 g3 g4 W2 k2 mok2 okp2 okc2 hs2 hm2 hil l1 l2 l3 l4 l5 l6 => ?_; clear h'1
     walk_at "r"
     rw [List.length_map,List.drop_length] at hs2 hm2
     simp only [szs,nds,List.map_nil,List.sum_nil,Nat.add_zero] at hs2 hm2
     refine ih _ _ H2 (dn ++ [(p,us)]) pd hm2 (E2.delN hit0) ((del_ne hith).trans g3) ((del_ne hitw).trans g4) W2 k2 mok2 okp2 hs2 (by simp; exact La.l3 (.Q (.a (.a .l1 .x0) .x1) (.a .x2 .l1)) (.L (.a .x3 (.a (.a .l1 .x0) .x1)) (.l 100)) (.Q .x4 .x2) (.L (.a (.a .x3 .l1) .x4) (.l 100)) [[0,1,1,1,0,1]] rfl [_,_,_,_,_] [] hm hb hm2) l1 l2 l3 l4 l5
end
end
section
set_option maxHeartbeats 4000000
noncomputable def idx {α κ : Type} (mk : α->κ) : Nat->List α->List (κ × PV)
 | _,[] => []
 | k,x :: r => (mk x,.int k) :: idx mk (k + 1) r
theorem idx_len {α κ : Type} {mk : α->κ} : ∀ {k : Nat} {l : List α},(idx mk k l).length = l.length
 | _,[] => rfl
 | k,x :: r => by simp [idx,idx_len (mk := mk) (k := k + 1) (l := r)]
theorem idx_snoc {α κ : Type} {mk : α->κ} {x : α} : ∀ {k : Nat} {l : List α},idx mk k (l ++ [x]) = idx mk k l ++ [(mk x,.int ((k + l.length : Nat) : Int))]
 | k,[] => by simp [idx]
 | k,y :: r => by
  simp only [List.cons_append,idx,idx_snoc (mk := mk) (k := k + 1) (l := r),List.length_cons]
  congr 4
  congr 2
  exact La.z52
theorem idx_at {α κ : Type} [BEq α] [LawfulBEq α] [DecidableEq κ] {mk : α->κ} (inj : ∀ x y,mk x = mk y->x = y) {x : α} : ∀ {k : Nat} {l : List α},at? (mk x) (idx mk k l) = if x ∈ l then some (.int ((k + l.idxOf x : Nat) : Int)) else none
 | k,[] => by simp [idx,at?]
 | k,y :: r => by
  simp only [idx,at?]
  by_cases h : y = x
  ·subst h; simp
  ·have h1 : mk y ≠ mk x := λ e => h (inj _ _ e)
   simp only [h1,if_false,idx_at inj (k := k + 1) (l := r),List.mem_cons,Ne.symm h,false_or]
   rw [show (y :: r).idxOf x = r.idxOf x + 1 by rw [List.idxOf_cons,beq_false_of_ne h]; rfl]
   split
   ·congr 2; congr 1; exact La.z52
   ·rfl
theorem putD_new {α : Type} [DecidableEq α] {k : α} {V : PV} : ∀ {l : List (α × PV)},at? k l = none->putD k V l = l ++ [(k,V)]
 | [],_ => rfl
 | (x,W) :: r,h => by
  unfold at? at h
  by_cases e : x = k
  ·simp [e] at h
  ·simp only [e,if_false] at h
   simp [putD,e,putD_new h]
noncomputable def addN {α : Type} [DecidableEq α] (l : List α) (x : α) : List α := if x ∈ l then l else l ++ [x]
noncomputable abbrev kF (c : Cell) : List Int := [c.1,c.2]
noncomputable def nm (A : List Str) (x : Str) : Int := ((addN A x).idxOf x : Nat)
noncomputable def SyS (σ : CH) (a : SA) (A : List Str) (F : List Cell) : Prop := SyOk σ a (A.map .str) (idx id 0 A) F (idx kF 0 F)
section
variable {C : Cx} {ρ : Loc'} {σ : CH} {mg : Str->Option Value} {a : SA} {A : List Str} {F : List Cell}
theorem EV.dget {o k d : Expr} {apos pos : Pos} (T : TC C mg) {Q : PV->CH->Prop} (hl : (apos.endLine == pos.line) = true) (hb : attributeBase o "get" C.env (eval o C.env) = eval o C.env) (hs : starEach [k,d] C.env = [k,d].map λ e => (false,eval e C.env))
  (he : starEach (k :: [d]) C.env = (false,eval k C.env) :: starEach [d] C.env) (he2 : starEach (d :: []) C.env = (false,eval d C.env) :: starEach [] C.env)
  (h : EV C o ρ σ λ V σ₁ => ∃ a,V = .ref a/\GM C (.ref a) "get" σ₁ (.builtin "dict.get")/\EV C k ρ σ₁ λ W σ₂ => EV C d ρ σ₂ λ U σ₃ => FC C (.builtin "dict.get") [.ref a,W,U] σ₃ Q) :
  EV C (.Call (.Attribute o "get" apos) [k,d] [] pos) ρ σ Q :=
 EV.meth T.bs (h.mono λ V σ₁ => La.y1_3 λ a e g q => by
  subst e
  exact ⟨_,g,.inl ⟨_,rfl⟩,EL.cons (q.mono λ W σ₂ q2 => EL.cons (q2.mono λ U σ₃ q3 => EL.nil q3) he2) he⟩) (by simp) hs hl (by simp) hb
theorem fc_atom {n : Nat} (hn : C.n = n + 1) (T : TC C mg) (SY : SyS σ a A F) (hA : A.length < 1000) (htf : a.tx ≠ a.fu) {x : Str} {Q : PV->CH->Prop} (q : ∀ σ',EB [a.tx,a.an] σ σ'->SyS σ' a (addN A x) F->Q (.int ((addN A x).idxOf x : Nat)) σ') : FC C (.ref 88) [.ref a.sy,.str x] σ Q := by
 refine FC.mth hn T (T.mt "atom" rfl) (names := ["self","text"]) (HB.two λ _ _ _ _ _ _ _ _ _ => rfl) rfl rfl rfl (by decide) (by decide) λ C' hn' sc T' X => ?_
 have SY0 : SyOk σ a _ _ _ _ := SY
 refine EX.assign ?k rfl ?_
 case k => walk_at "kd2"
 refine EV.dget T' rfl rfl rfl rfl rfl ?_;walk_at "r"
 refine ⟨GM.dictS SY0.an,?_⟩;walk_at "r"
 refine fc_getS T'.sys SY0.an ?_
 have hat := idx_at (mk := (id : Str->Str)) (λ _ _ h => h) (x := x) (k := 0) (l := A)
 rw [show (id x : Str) = x from rfl] at hat
 rw [hat]
 by_cases h : x ∈ A
 ·have e : addN A x = A := if_pos h
  rw [e] at q
  simp only [h,if_true,Option.getD_some,Nat.zero_add]
  walk_at "r"
  refine ite_of (λ _ => ?_) λ h => absurd h (by simp);walk_at "r"
  exact q σ EB.refl SY
 ·have e : addN A x = A ++ [x] := if_neg h
  rw [e] at q
  simp only [h,if_false,Option.getD_none]
  walk_at "r"
  refine ite_of (λ h => absurd h (by decide)) λ _ => ?_;walk_at "r"
  refine fcl' SY0.tx (by simp; exact La.z23 hA) ?_;walk_at "r"
  refine ⟨_,_,rfl,SY0.tx,?_⟩;walk_at "r"
  refine ⟨_,SY0.tx,by simp; exact La.z18 hA,?_⟩
  have n1 := ne_mm SY0.sy SY0.tx (by simp)
  have n2 := ne_mm SY0.dsy SY0.tx (by simp)
  have n3 := ne_mm SY0.an SY0.tx (by simp)
  have n4 := ne_mm SY0.fn SY0.tx (by simp)
  have n5 := ne_mm SY0.sy SY0.an (by simp)
  have n6 := ne_mm SY0.dsy SY0.an (by simp)
  have n8 := ne_mm SY0.fn SY0.an (by simp)
  have n9 := ne_mm SY0.fu SY0.an (by simp)
  have f1 := (un' (m := .list (A.map .str ++ [.str x])) n1).trans SY0.sy
  have f2 := (un' (m := .list (A.map .str ++ [.str x])) n2).trans SY0.dsy
  have f3 := (un' (m := .list (A.map .str ++ [.str x])) n3).trans SY0.an
  walk_at "r"
  refine si_dictS f3 (by rw [idx_len]; exact La.z18 hA) ?_
  rw [putD_new (by rw [hat,if_neg h])]
  walk_at "r"
  have z : ((A ++ [x]).idxOf x : Nat) = A.length := by
   rw [List.idxOf_append,if_neg h]; simp
  rw [z] at q
  have lenE : ((A.map PV.str).length : Int) = (A.length : Int) := by simp
  rw [lenE]
  refine q _ ((EB.refl.updO (by simp)).updO (by simp)) ⟨?_,?_,?_,?_,?_,?_⟩
  ·exact (un' n5).trans f1
  ·exact (un' n6).trans f2
  ·rw [un' n3.symm,up']; simp
  ·rw [up',idx_snoc]; simp
  ·exact (un' n9).trans ((un' htf.symm).trans SY0.fu)
  ·exact (un' n8).trans ((un' n4).trans SY0.fn)
theorem fc_functor {n : Nat} (hn : C.n = n + 1) (T : TC C mg) (SY : SyS σ a A F) (hF : F.length < 1000) (htf : a.tx ≠ a.fu) {c : Cell} {Q : PV->CH->Prop} (q : ∀ σ',EB [a.fu,a.fn] σ σ'->SyS σ' a A (addN F c)->Q (.int ((addN F c).idxOf c : Nat)) σ') : FC C (.ref 102) [.ref a.sy,.int c.1,.int c.2] σ Q := by
 refine FC.mth hn T (T.mt "functor" rfl) (names := ["self","atom","arity"]) (HB.three λ _ _ _ _ _ _ _ _ _ _ => rfl) rfl rfl rfl (by decide) (by decide) λ C' hn' sc T' X => ?_
 have SY0 : SyOk σ a _ _ _ _ := SY
 walk_at "b";walk_at "r"
 refine ⟨by simp,?_⟩;walk_at "r"
 refine EV.dget T' rfl rfl rfl rfl rfl ?_;walk_at "r"
 refine ⟨GM.dictT SY0.fn,?_⟩;walk_at "r"
 refine fc_getT (ks := [c.1,c.2]) T'.sys SY0.fn ?_
 have hat := idx_at (mk := kF) (λ x y h => by simp at h; exact Prod.ext h.1 h.2) (x := c) (k := 0) (l := F)
 rw [show kF c = [c.1,c.2] from rfl] at hat
 rw [hat]
 by_cases h : c ∈ F
 ·have e : addN F c = F := if_pos h
  rw [e] at q
  simp only [h,if_true,Option.getD_some,Nat.zero_add]
  walk_at "r"
  refine ite_of (λ _ => ?_) λ h => absurd h (by simp);walk_at "r"
  exact q σ EB.refl SY
 ·have e : addN F c = F ++ [c] := if_neg h
  rw [e] at q
  simp only [h,if_false,Option.getD_none]
  walk_at "r"
  refine ite_of (λ h => absurd h (by decide)) λ _ => ?_;walk_at "r"
  refine fcl' SY0.fu (by simp; exact La.z23 hF) ?_;walk_at "r"
  refine ⟨_,_,rfl,SY0.fu,?_⟩;walk_at "r"
  refine ⟨_,SY0.fu,by simp; exact La.z18 hF,?_⟩
  have n1 := ne_mm SY0.sy SY0.fu (by simp)
  have n2 := ne_mm SY0.dsy SY0.fu (by simp)
  have n3 := ne_mm SY0.fn SY0.fu (by simp)
  have n4 := ne_mm SY0.an SY0.fu (by simp)
  have n5 := ne_mm SY0.sy SY0.fn (by simp)
  have n6 := ne_mm SY0.dsy SY0.fn (by simp)
  have n8 := ne_mm SY0.an SY0.fn (by simp)
  have n9 := ne_mm SY0.tx SY0.fn (by simp)
  have f1 := (un' (m := .list (F.map cv ++ [.tup [.int c.1,.int c.2]])) n1).trans SY0.sy
  have f2 := (un' (m := .list (F.map cv ++ [.tup [.int c.1,.int c.2]])) n2).trans SY0.dsy
  have f3 := (un' (m := .list (F.map cv ++ [.tup [.int c.1,.int c.2]])) n3).trans SY0.fn
  walk_at "r"
  refine si_dictT (ks := [c.1,c.2]) f3 (by rw [idx_len]; exact La.z18 hF) (by rw [hat,if_neg h]) ?_;walk_at "r"
  have z : ((F ++ [c]).idxOf c : Nat) = F.length := by
   rw [List.idxOf_append,if_neg h]; simp
  rw [z] at q
  have lenE : ((F.map cv).length : Int) = (F.length : Int) := by simp
  rw [lenE]
  refine q _ ((EB.refl.updO (by simp)).updO (by simp)) ⟨?_,?_,?_,?_,?_,?_⟩
  ·exact (un' n5).trans f1
  ·exact (un' n6).trans f2
  ·exact (un' n9).trans ((un' htf).trans SY0.tx)
  ·exact (un' n8).trans ((un' n4).trans SY0.an)
  ·rw [un' n3.symm,up']; simp [cv]
  ·rw [up',idx_snoc]; simp
theorem fc_func {n : Nat} (hn : C.n = n + 2) (T : TC C mg) (SY : SyS σ a A F) (hA : A.length < 1000) (hF : F.length < 1000) (htf : a.tx ≠ a.fu) {x : Str} {k : Int}
  {Q : PV->CH->Prop} (q : ∀ σ',EB [a.tx,a.an,a.fu,a.fn] σ σ'->SyS σ' a (addN A x) (addN F (nm A x,k))->Q (.int ((addN F (nm A x,k)).idxOf (nm A x,k) : Nat)) σ') : FC C (.ref 109) [.ref a.sy,.str x,.int k] σ Q := by
 refine FC.mth hn T (T.mt "func" rfl) (names := ["self","text","arity"]) (HB.three λ _ _ _ _ _ _ _ _ _ _ => rfl) rfl rfl rfl (by decide) (by decide) λ C' hn' sc T' X => ?_
 have SY0 : SyOk σ a _ _ _ _ := SY
 walk_at "b";walk_at "r"
 refine fc_atom hn' T' SY hA htf λ σ1 e1 s1 => ?_;walk_at "r"
 refine fc_functor (c := (nm A x,k)) hn' T' s1 hF htf λ σ2 e2 s2 => ?_;walk_at "r"
 exact q σ2 ((e1.wider (by simp)).trans (e2.wider (by simp))) s2
end
end
section
set_option maxHeartbeats 4000000
noncomputable def strE : Expr->Str
 | .Constant (.str s) _ _ => s
 | _ => ""
noncomputable def intE : Expr->Int
 | .Constant (.int i) _ _ => i
 | _ => 0
noncomputable def retE : List Stmt->List Expr
 | [.Return (some (.Tuple es _ _)) _] => es
 | _ => []
noncomputable def rowE : Expr->Str × Int
 | .Tuple [x,y] _ _ => (strE x,intE y)
 | _ => ("",0)
noncomputable def atoms0 : List Str := (retE (fnB (stN 11))).map strE
noncomputable def funcs0 : List (Str × Int) := (retE (fnB (stN 12))).map rowE
noncomputable def stepF (s : List Str × List Cell) (r : Str × Int) : List Str × List Cell := (addN s.1 r.1,addN s.2 (nm s.1 r.1,r.2))
noncomputable def A0 : List Str := atoms0.foldl addN []
noncomputable def AF : List Str × List Cell := funcs0.foldl stepF (A0,[])
theorem addN_len {α : Type} [DecidableEq α] {l : List α} {x : α} : (addN l x).length<=l.length + 1 := by unfold addN; split <;> simp
theorem foldA_len : ∀ (l : List Str) (A : List Str),(l.foldl addN A).length<=A.length + l.length
 | [],_ => by simp
 | x :: l,A => by
  have h1 := foldA_len l (addN A x)
  have h2 := addN_len (l := A) (x := x)
  simp only [List.foldl_cons,List.length_cons]; exact La.l2 (.L .x0 (.a .x1 .x2)) (.L .x1 (.a .x3 .l1)) (.L .x0 (.a .x3 (.a .x2 .l1))) [[1,1,1]] rfl [_,_,_,_] [] h1 h2
theorem foldF_len : ∀ (l : List (Str × Int)) (s : List Str × List Cell),(l.foldl stepF s).1.length<=s.1.length + l.length/\(l.foldl stepF s).2.length<=s.2.length + l.length
 | [],_ => by simp
 | x :: l,s => by
  have h1 := foldF_len l (stepF s x)
  have h2 := addN_len (l := s.1) (x := x.1)
  have h3 := addN_len (l := s.2) (x := (nm s.1 x.1,x.2))
  simp only [List.foldl_cons,List.length_cons]
  constructor
  ·have : (stepF s x).1.length<=s.1.length + 1 := h2
   exact La.l2 (.w (.L .x0 (.a .x1 .x2)) (.L .x3 (.a .x4 .x2))) (.L .x1 (.a .x5 .l1)) (.L .x0 (.a .x5 (.a .x2 .l1))) [[1,0,1,1]] rfl [_,_,_,_,_,_] [] h1 this
  ·have : (stepF s x).2.length<=s.2.length + 1 := h3
   exact La.l2 (.w (.L .x0 (.a .x1 .x2)) (.L .x3 (.a .x4 .x2))) (.L .x4 (.a .x5 .l1)) (.L .x3 (.a .x5 (.a .x2 .l1))) [[0,1,1,1]] rfl [_,_,_,_,_,_] [] h1 this
theorem addN_pre {α : Type} [DecidableEq α] {l : List α} {x : α} : ∃ r,addN l x = l ++ r := by
 unfold addN; split
 ·exact ⟨[],by simp⟩
 ·exact ⟨[x],rfl⟩
theorem addN_mem {α : Type} [DecidableEq α] {l : List α} {x : α} : x ∈ addN l x := by
 unfold addN; split
 ·assumption
 ·simp
theorem foldF_pre : ∀ (l : List (Str × Int)) (s : List Str × List Cell),∃ r,(l.foldl stepF s).2 = s.2 ++ r
 | [],s => ⟨[],by simp⟩
 | x :: l,s => by
  refine La.x1_1 (foldF_pre l (stepF s x)) λ r h => ?_
  refine La.x1_1 (addN_pre (l := s.2) (x := (nm s.1 x.1,x.2))) λ r' h' => ?_
  exact ⟨r' ++ r,by rw [List.foldl_cons,h,show (stepF s x).2 = _ from h',List.append_assoc]⟩
theorem idxOf_app {x : Str} {A r : List Str} (h : x ∈ A) : (A ++ r).idxOf x = A.idxOf x := by rw [List.idxOf_append,if_pos h]
theorem idxOf_inj {x y : Str} : ∀ {l : List Str},x ∈ l->y ∈ l->l.idxOf x = l.idxOf y->x = y
 | [],h,_,_ => by cases h
 | z :: r,h1,h2,e => by
  rw [List.idxOf_cons,List.idxOf_cons] at e
  by_cases q1 : z = x
  ·subst q1
   by_cases q2 : z = y
   ·exact q2
   ·rw [beq_self_eq_true,beq_false_of_ne q2] at e; cases e
  ·by_cases q2 : z = y
   ·subst q2
    rw [beq_self_eq_true,beq_false_of_ne q1] at e; cases e
   ·rw [beq_false_of_ne q1,beq_false_of_ne q2] at e
    have e : r.idxOf x + 1 = r.idxOf y + 1 := e
    exact idxOf_inj ((List.mem_cons.mp h1).resolve_left (λ h => q1 h.symm)) ((List.mem_cons.mp h2).resolve_left (λ h => q2 h.symm)) (by exact La.l1 (.Q (.a .x0 .l1) (.a .x1 .l1)) (.Q .x0 .x1) [[0,1,1],[1,0,1]] rfl [_,_] [] e)
noncomputable def pr (A : List Str) (r : Str × Int) : Cell := (((A.idxOf r.1 : Nat) : Int),r.2)
theorem foldF_nodup : ∀ (l done : List (Str × Int)) (A : List Str),(done ++ l).Nodup->(∀ r ∈ done,r.1 ∈ A) ->
  ∃ A' : List Str,(l.foldl stepF (A,done.map (pr A))).2 = (done ++ l).map (pr A')
 | [],done,A,_,_ => ⟨A,by simp⟩
 | x :: l,done,A,hn,hd => by
  refine La.x1_1 (addN_pre (l := A) (x := x.1)) λ r hr => ?_
  have e1 : done.map (pr A) = done.map (pr (addN A x.1)) := by
   apply List.map_congr_left
   intro d h
   unfold pr; rw [hr,idxOf_app (hd d h)]
  have hd' : ∀ d ∈ done ++ [x],d.1 ∈ addN A x.1 := λ d h => by
   rcases List.mem_append.mp h with h | h
   ·rw [hr]; exact List.mem_append_left _ (hd d h)
   ·simp at h; subst h; exact addN_mem
  have nin : (nm A x.1,x.2) ∉ done.map (pr (addN A x.1)) := λ h => by
   refine La.x1_2 (List.mem_map.mp h) λ d h1 h2 => ?_
   simp only [nm,pr,Prod.mk.injEq] at h2
   have h3 : (addN A x.1).idxOf d.1 = (addN A x.1).idxOf x.1 := by exact La.l1 (.w (.q (.c .x0) (.c .x1)) (.q .x0 .x1)) (.Q .x0 .x1) [[0,1,0,0,1],[1,0,0,0,1]] rfl [_,_] [_,_] h2
   have m1 := hd' d (List.mem_append_left _ h1)
   have : d = x := Prod.ext (idxOf_inj m1 addN_mem h3) h2.2
   subst this
   have := (List.nodup_append.mp hn).2.2 d h1 d List.mem_cons_self
   exact this rfl
  have e2 : stepF (A,done.map (pr A)) x = (addN A x.1,(done ++ [x]).map (pr (addN A x.1))) := by
   unfold stepF
   rw [e1]
   simp only [Prod.mk.injEq,true_and]
   have : addN (done.map (pr (addN A x.1))) (nm A x.1,x.2) = _ := if_neg nin
   rw [this]
   simp [nm,pr]
  rw [List.foldl_cons,e2]
  obtain ⟨A',h⟩ := foldF_nodup l (done ++ [x]) (addN A x.1) (by simpa using hn) hd'
  exact ⟨A',by rw [h]; simp⟩
theorem AF_ok : FuOk AF.2/\AF.1.length < 100/\AF.2.length < 100 := by
 have l1 : atoms0.length = 29 := by kernel_rfl
 have l2 : funcs0.length = 32 := by kernel_rfl
 have b1 := foldA_len atoms0 []
 have b2 := foldF_len funcs0 (A0,[])
 have z1 : AF.1.length < 100 := by show (funcs0.foldl stepF (A0,[])).1.length < 100; unfold A0 at *; simp at b1 b2; exact La.la [.Q .x0 (.l 29),.Q .x1 (.l 32),.L .x2 .x0,.w (.L .x3 (.a .x2 .x1)) (.L .x4 .x1)] (.T .x3 (.l 100)) [[1,0,1,0,1,1,0,1]] rfl [_,_,_,_,_] [] ⟨l1,l2,b1,b2,trivial⟩
 have z2 : AF.2.length < 100 := by show (funcs0.foldl stepF (A0,[])).2.length < 100; simp at b2; exact La.l2 (.Q .x0 (.l 32)) (.w (.L .x1 (.a .x2 .x0)) (.L .x3 .x0)) (.T .x3 (.l 100)) [[1,0,0,1,1]] rfl [_,_,_,_] [] l2 b2
 have nd : (funcs0.take 14).Nodup := by decide +kernel
 obtain ⟨A',h⟩ := foldF_nodup (funcs0.take 14) [] A0 (by simpa using nd) (λ _ h => by cases h)
 obtain ⟨r,h2⟩ := foldF_pre (funcs0.drop 14) ((funcs0.take 14).foldl stepF (A0,[]))
 have h3 : AF.2 = ((funcs0.take 14).map (pr A')) ++ r := by
  show (funcs0.foldl stepF (A0,[])).2 = _
  rw [<- List.take_append_drop 14 funcs0,List.foldl_append,h2]
  rw [List.take_append_drop]
  simp only [List.map_nil,List.nil_append] at h
  rw [h]
 have e12 : (funcs0[12]?).map (·.2) = some 1 := by kernel_rfl
 have e13 : (funcs0[13]?).map (·.2) = some 2 := by kernel_rfl
 have k : ∀ i : Nat,i < 14->∀ x,(funcs0[i]?).map (·.2) = some x->(hat AF.2 i).2 = x := λ i hi x e => by
  unfold hat
  rw [Int.toNat_natCast,h3,List.getElem?_append_left (by simp [l2]; assumption),List.getElem?_map,List.getElem?_take_of_lt hi]
  cases z : funcs0[i]? with
  | none => rw [z] at e; cases e
  | some p => rw [z] at e; simp at e ⊢; exact e
 exact ⟨⟨by exact La.z54 z2,by rw [h3]; simp [l2]; exact La.l0  (.T (.l 13) (.a (.l 14) .x0)) [[1]] rfl [_] [],k 12 (by decide) 1 e12,k 13 (by decide) 2 e13⟩,z1,z2⟩
theorem Ext.thruL {σ₀ σ σ' : CH} {O : List Addr} (e : Ext σ₀ σ) (x : EB O σ σ') (h : ∀ a ∈ O,σ₀ a = Option.none) : Ext σ₀ σ' := λ a m g => x a m (λ q => by rw [h a q] at g; cases g) (e a m g)
section
variable {C : Cx} {ρ : Loc'} {σ : CH} {mg : Str->Option Value} {a : SA} {A : List Str} {F : List Cell}
noncomputable def rowV (r : Str × Int) : PV := .tup [.str r.1,.int r.2]
noncomputable def isStrE : Expr->Bool
 | .Constant (.str _) _ _ => true
 | _ => false
noncomputable def isIntE : Expr->Bool
 | .Constant (.int _) _ _ => true
 | _ => false
noncomputable def isRowE : Expr->Bool
 | .Tuple [x,y] _ _ => isStrE x && isIntE y
 | _ => false
theorem EV.strE {e : Expr} (h : isStrE e = true) {Q : PV->CH->Prop} (q : Q (.str (Mine.strE e)) σ) : EV C e ρ σ Q := by
 cases e with
 | Constant c k p => cases c with
  | str s => exact EV.str q
  | _ => exact (Bool.false_ne_true h).elim
 | _ => exact (Bool.false_ne_true h).elim
theorem EV.intE {e : Expr} (h : isIntE e = true) {Q : PV->CH->Prop} (q : Q (.int (Mine.intE e)) σ) : EV C e ρ σ Q := by
 cases e with
 | Constant c k p => cases c with
  | int s => exact EV.int q
  | _ => exact (Bool.false_ne_true h).elim
 | _ => exact (Bool.false_ne_true h).elim
theorem star_plain {e : Expr} (h : isStrE e = true\/isIntE e = true\/isRowE e = true) {env : Env} {rest : List Expr} : starEach (e :: rest) env = (false,eval e env) :: starEach rest env := by
 cases e <;> first | rfl | exact h.elim (λ h => (Bool.false_ne_true h).elim) λ h => h.elim (λ h => (Bool.false_ne_true h).elim) λ h => (Bool.false_ne_true h).elim
theorem EV.rowE {e : Expr} (h : isRowE e = true) {Q : PV->CH->Prop} (q : Q (rowV (Mine.rowE e)) σ) : EV C e ρ σ Q := by
 cases e with
 | Tuple l k p => match l,h,q with
  | [x,y],h,q =>
   have h := Bool.and_eq_true_iff.mp h
   exact EV.tup (EL.cons (EV.strE h.1 (EL.cons (EV.intE h.2 (EL.nil ⟨by simp,q⟩)) (star_plain (.inr (.inl h.2))))) (star_plain (.inl h.1)))
  | [],h,_ => exact (Bool.false_ne_true h).elim
  | [_],h,_ => exact (Bool.false_ne_true h).elim
  | _ :: _ :: _ :: _,h,_ => exact (Bool.false_ne_true h).elim
 | _ => exact (Bool.false_ne_true h).elim
theorem EL.strs {pos : Pos} : ∀ {es : List Expr} {Q : List PV->CH->Prop},es.all isStrE = true->Q (es.map λ e => .str (strE e)) σ->EL C pos es ρ σ Q
 | [],_,_,q => EL.nil q
 | e :: es,Q,h,q => by
  simp only [List.all_cons,Bool.and_eq_true] at h
  exact EL.cons (EV.strE h.1 (EL.strs (es := es) h.2 q)) (star_plain (.inl h.1))
theorem EL.rows {pos : Pos} : ∀ {es : List Expr} {Q : List PV->CH->Prop},es.all isRowE = true->Q (es.map λ e => rowV (rowE e)) σ->EL C pos es ρ σ Q
 | [],_,_,q => EL.nil q
 | e :: es,Q,h,q => by
  simp only [List.all_cons,Bool.and_eq_true] at h
  exact EL.cons (EV.rowE h.1 (EL.rows (es := es) h.2 q)) (star_plain (.inr (.inr h.1)))
theorem body11 : ∃ es k p pos,fnB (stN 11) = [.Return (some (.Tuple es k p)) pos]/\es.all isStrE = true/\es.length = 29 := ⟨_,_,_,_,rfl,by kernel_rfl,by kernel_rfl⟩
theorem body12 : ∃ es k p pos,fnB (stN 12) = [.Return (some (.Tuple es k p)) pos]/\es.all isRowE = true/\es.length = 32 := ⟨_,_,_,_,rfl,by kernel_rfl,by kernel_rfl⟩
theorem fc_fixed_atoms {n : Nat} (hn : C.n = n + 1) (T : TC C mg) {Q : PV->CH->Prop} (q : Q (.tup (atoms0.map .str)) σ) : FC C (.ref 60) [] σ Q := by
 refine FC.top hn T (T.fn "fixed_atoms" rfl) (names := []) (HB.zero λ _ _ _ _ _ _ _ => rfl) rfl rfl rfl (by decide) (by decide) λ C' hn' sc T' X => ?_
 obtain ⟨es,k,p,pos,hb,hall,hl⟩ := body11
 have e : atoms0 = es.map strE := by unfold atoms0; rw [hb]; rfl
 rw [e,List.map_map] at q
 rw [hb]
 exact EX.ret (EV.tup (EL.strs hall ⟨by rw [List.length_map]; exact La.l1 (.Q .x0 (.l 29)) (.L .x0 (.l 1000)) [[1,0,1]] rfl [_] [] hl,q⟩))
theorem fc_fixed_functors {n : Nat} (hn : C.n = n + 1) (T : TC C mg) {Q : PV->CH->Prop} (q : Q (.tup (funcs0.map rowV)) σ) : FC C (.ref 67) [] σ Q := by
 refine FC.top hn T (T.fn "fixed_functors" rfl) (names := []) (HB.zero λ _ _ _ _ _ _ _ => rfl) rfl rfl rfl (by decide) (by decide) λ C' hn' sc T' X => ?_
 obtain ⟨es,k,p,pos,hb,hall,hl⟩ := body12
 have e : funcs0 = es.map rowE := by unfold funcs0; rw [hb]; rfl
 rw [e,List.map_map] at q
 rw [hb]
 exact EX.ret (EV.tup (EL.rows hall ⟨by rw [List.length_map]; exact La.l1 (.Q .x0 (.l 32)) (.L .x0 (.l 1000)) [[1,0,1]] rfl [_] [] hl,q⟩))
end
end
section
set_option maxHeartbeats 4000000
section
variable {C : Cx} {ρ : Loc'} {σ : CH} {mg : Str->Option Value} {a : SA} {A : List Str} {F : List Cell}
theorem SyOk.updI {a : SA} {TX AN FU FN} {it : Addr} {l : List PV} {i : Nat} {m : MO} (S : SyOk σ a TX AN FU FN) (h : σ it = some (.itT l i)) : SyOk (upd σ it m) a TX AN FU FN :=
 ⟨(un' (ne_mm S.sy h (by simp))).trans S.sy,(un' (ne_mm S.dsy h (by simp))).trans S.dsy,(un' (ne_mm S.tx h (by simp))).trans S.tx,(un' (ne_mm S.an h (by simp))).trans S.an,(un' (ne_mm S.fu h (by simp))).trans S.fu,(un' (ne_mm S.fn h (by simp))).trans S.fn⟩
theorem SyOk.delI {σ₀ : CH} {a : SA} {TX AN FU FN TX' AN' FU' FN'} {it : Addr} (S₀ : SyOk σ₀ a TX' AN' FU' FN') (h : σ₀ it = none) (S : SyOk σ a TX AN FU FN) : SyOk (del σ it) a TX AN FU FN :=
 ⟨(del_ne (ne_of h S₀.sy)).trans S.sy,(del_ne (ne_of h S₀.dsy)).trans S.dsy,(del_ne (ne_of h S₀.tx)).trans S.tx,(del_ne (ne_of h S₀.an)).trans S.an,(del_ne (ne_of h S₀.fu)).trans S.fu,(del_ne (ne_of h S₀.fn)).trans S.fn⟩
theorem Ext.delN {σ₀ σ : CH} {a : Addr} (e : Ext σ₀ σ) (h : σ₀ a = Option.none) : Ext σ₀ (del σ a) := λ x m' g => by
 rw [del_ne]
 ·exact e x m' g
 ·rintro rfl; rw [h] at g; cases g
theorem fold_take {α β : Type} {f : β->α->β} {s : β} {l : List α} {i : Nat} {x : α} (h : l[i]? = some x) : (l.take (i + 1)).foldl f s = f ((l.take i).foldl f s) x := by
 rw [List.take_succ,h,List.foldl_append]; rfl
theorem fc_Symbols {n : Nat} (hn : C.n = n + 4) (T : TC C mg)
  {Q : PV->CH->Prop} (q : ∀ (b : SA) (σ' : CH),Ext σ σ'->σ b.sy = none->σ b.dsy = none->σ b.tx = none->σ b.an = none->σ b.fu = none->σ b.fn = none->b.tx ≠ b.fu->SyS σ' b AF.1 AF.2->Q (.ref b.sy) σ') : FC C (.ref 154) [] σ Q := by
 refine La.c6 (T.c_Symbols) λ c1 c2 c3 c4 c5 h'1 => ?_; refine La.x1_3 h'1 λ dV fa dN _ => ?_; clear h'1
 refine FC.cls (n := n + 3) T.bs hn c3 c4 c5 λ x dx hx hdx hne => ?_
 have T2 : TC { C with n := n + 3 } mg := T
 have hdV := dN (by decide)
 subst hdV
 refine FCc.fn (C := { C with n := n + 3 }) (n := n + 2) (names := ["self"]) rfl T2.bs fa (HB.one λ _ _ _ _ _ _ _ _ => rfl) rfl rfl rfl (by decide) (by decide) λ C' Fi X => ?_
 have T' := T2.fits Fi
 have sc := Fi.sc
 have hn' := Fi.n
 have hE : Ext σ (upd (upd σ dx (.ns [])) x (.inst 154 dx)) := (Ext.refl.updN hdx).updN hx
 have f1 : upd (upd σ dx (.ns [])) x (.inst 154 dx) x = some (.inst 154 dx) := up'
 have f2 : upd (upd σ dx (.ns [])) x (.inst 154 dx) dx = some (.ns []) := (un' hne.symm).trans up'
 generalize upd (upd σ dx (.ns [])) x (.inst 154 dx) = σ1 at *
 refine EX.setattr T' (T'.at "texts" rfl) rfl ?_
 refine EV.list (EL.nil ⟨by simp,λ tx htx => ?_⟩)
 have n1 : tx ≠ x := λ q => by rw [q,f1] at htx; cases htx
 have n2 : tx ≠ dx := λ q => by rw [q,f2] at htx; cases htx
 have htx0 := hE.none htx
 walk_at "r"
 refine ⟨x,dx,_,rfl,(un' n1.symm).trans f1,(un' n2.symm).trans f2,by decide,?_⟩
 have hE2 := (hE.updN (m := .list []) htx0).updN (m := .ns (putF "texts" (.ref tx) [])) hdx
 have f12 := (un' (σ := upd σ1 tx (.list [])) (m := .ns (putF "texts" (.ref tx) [])) hne).trans ((un' n1.symm).trans f1)
 have f22 := up' (σ := upd σ1 tx (.list [])) (a := dx) (m := .ns (putF "texts" (.ref tx) []))
 have t2 := (un' (σ := upd σ1 tx (.list [])) (m := .ns (putF "texts" (.ref tx) [])) n2).trans (up' (σ := σ1) (a := tx) (m := .list []))
 generalize upd (upd σ1 tx (.list [])) dx (.ns (putF "texts" (.ref tx) [])) = σ2 at *
 clear htx f1 f2 hE
 refine EX.setattr T' (T'.at "atom_numbers" rfl) rfl ?_
 refine EV.dict0S λ an han => ?_
 have n3 : an ≠ x := λ q => by rw [q,f12] at han; cases han
 have n4 : an ≠ dx := λ q => by rw [q,f22] at han; cases han
 have n5 : an ≠ tx := λ q => by rw [q,t2] at han; cases han
 have han0 := hE2.none han
 walk_at "r"
 refine ⟨x,dx,_,rfl,(un' n3.symm).trans f12,(un' n4.symm).trans f22,Nat.le_of_ble_eq_true rfl,?_⟩
 have hE3 := (hE2.updN (m := .dictS []) han0).updN (m := .ns (putF "atom_numbers" (.ref an) (putF "texts" (.ref tx) []))) hdx
 have f13 := (un' (σ := upd σ2 an (.dictS [])) (m := .ns (putF "atom_numbers" (.ref an) (putF "texts" (.ref tx) []))) hne).trans ((un' n3.symm).trans f12)
 have f23 := up' (σ := upd σ2 an (.dictS [])) (a := dx) (m := .ns (putF "atom_numbers" (.ref an) (putF "texts" (.ref tx) [])))
 have t3 := (un' (σ := upd σ2 an (.dictS [])) (m := .ns (putF "atom_numbers" (.ref an) (putF "texts" (.ref tx) []))) n2).trans ((un' n5.symm).trans t2)
 have a3 := (un' (σ := upd σ2 an (.dictS [])) (m := .ns (putF "atom_numbers" (.ref an) (putF "texts" (.ref tx) []))) n4).trans (up' (σ := σ2) (a := an) (m := .dictS []))
 generalize upd (upd σ2 an (.dictS [])) dx (.ns (putF "atom_numbers" (.ref an) (putF "texts" (.ref tx) []))) = σ3 at *
 clear han f12 f22 hE2 t2
 refine EX.setattr T' (T'.at "functors" rfl) rfl ?_
 refine EV.list (EL.nil ⟨by simp,λ fu hfu => ?_⟩)
 have n6 : fu ≠ x := λ q => by rw [q,f13] at hfu; cases hfu
 have n7 : fu ≠ dx := λ q => by rw [q,f23] at hfu; cases hfu
 have n8 : fu ≠ tx := λ q => by rw [q,t3] at hfu; cases hfu
 have n9 : fu ≠ an := λ q => by rw [q,a3] at hfu; cases hfu
 have hfu0 := hE3.none hfu
 walk_at "r"
 refine ⟨x,dx,_,rfl,(un' n6.symm).trans f13,(un' n7.symm).trans f23,Nat.le_of_ble_eq_true rfl,?_⟩
 have hE4 := (hE3.updN (m := .list []) hfu0).updN (m := .ns (putF "functors" (.ref fu) (putF "atom_numbers" (.ref an) (putF "texts" (.ref tx) [])))) hdx
 have f14 := (un' (σ := upd σ3 fu (.list [])) (m := .ns (putF "functors" (.ref fu) (putF "atom_numbers" (.ref an) (putF "texts" (.ref tx) [])))) hne).trans ((un' n6.symm).trans f13)
 have f24 := up' (σ := upd σ3 fu (.list [])) (a := dx) (m := .ns (putF "functors" (.ref fu) (putF "atom_numbers" (.ref an) (putF "texts" (.ref tx) []))))
 have t4 := (un' (σ := upd σ3 fu (.list [])) (m := .ns (putF "functors" (.ref fu) (putF "atom_numbers" (.ref an) (putF "texts" (.ref tx) [])))) n2).trans ((un' n8.symm).trans t3)
 have a4 := (un' (σ := upd σ3 fu (.list [])) (m := .ns (putF "functors" (.ref fu) (putF "atom_numbers" (.ref an) (putF "texts" (.ref tx) [])))) n4).trans ((un' n9.symm).trans a3)
 have u4 := (un' (σ := upd σ3 fu (.list [])) (m := .ns (putF "functors" (.ref fu) (putF "atom_numbers" (.ref an) (putF "texts" (.ref tx) [])))) n7).trans (up' (σ := σ3) (a := fu) (m := .list []))
 generalize upd (upd σ3 fu (.list [])) dx (.ns (putF "functors" (.ref fu) (putF "atom_numbers" (.ref an) (putF "texts" (.ref tx) [])))) = σ4 at *
 clear hfu f13 f23 hE3 t3 a3
 refine EX.setattr T' (T'.at "functor_numbers" rfl) rfl ?_
 refine EV.dict0T λ fn hfn => ?_
 have m1 : fn ≠ x := λ q => by rw [q,f14] at hfn; cases hfn
 have m2 : fn ≠ dx := λ q => by rw [q,f24] at hfn; cases hfn
 have m3 : fn ≠ tx := λ q => by rw [q,t4] at hfn; cases hfn
 have m4 : fn ≠ an := λ q => by rw [q,a4] at hfn; cases hfn
 have m5 : fn ≠ fu := λ q => by rw [q,u4] at hfn; cases hfn
 have hfn0 := hE4.none hfn
 walk_at "r"
 refine ⟨x,dx,_,rfl,(un' m1.symm).trans f14,(un' m2.symm).trans f24,Nat.le_of_ble_eq_true rfl,?_⟩
 generalize hN : putF "functor_numbers" (.ref fn) (putF "functors" (.ref fu) (putF "atom_numbers" (.ref an) (putF "texts" (.ref tx) []))) = N
 have hE5 := (hE4.updN (m := .dictT []) hfn0).updN (m := .ns N) hdx
 have S5 : SyS (upd (upd σ4 fn (.dictT [])) dx (.ns N)) ⟨0,0,0,0,0,x,dx,tx,an,fu,fn⟩ [] [] := by
  refine ⟨(un' hne).trans ((un' m1.symm).trans f14),?_,(un' n2).trans ((un' m3.symm).trans t4),(un' n4).trans ((un' m4.symm).trans a4),(un' n7).trans ((un' m5.symm).trans u4),(un' m2).trans up'⟩
  rw [up',<- hN]; rfl
 generalize upd (upd σ4 fn (.dictT [])) dx (.ns N) = σ5 at *
 clear hfn f14 f24 hE4 t4 a4 u4 hN N
 have htf : tx ≠ fu := n8.symm
 have l1 : atoms0.length = 29 := by kernel_rfl
 have l2 : funcs0.length = 32 := by kernel_rfl
 refine EX.for X (by intro _; rfl) ?_;walk_at "r"
 refine fc_fixed_atoms hn' T' ?_
 refine it_tup λ it hit => ⟨it,rfl,λ R hR => ?_⟩
 have hit0 := hE5.none hit
 have sit : ∀ {y : Addr} {m},σ5 y = some m->y ≠ it := λ h => ne_of hit h
 have e6 : SyS (upd σ5 it (.itT (atoms0.map .str) 0)) ⟨0,0,0,0,0,x,dx,tx,an,fu,fn⟩ [] [] := SyOk.ext S5 (Ext.new hit)
 refine FL.overT X (by walk_at "kd2") (λ i ρ' σ' => i<=29/\lk "self" ρ' = some (.ref x)/\Ext σ σ'/\SyS σ' ⟨0,0,0,0,0,x,dx,tx,an,fu,fn⟩ ((atoms0.take i).foldl addN []) []) ?_ ?_
  (atoms0.map PV.str).length 0 _ _ rfl ⟨Nat.zero_le _,rfl,hE5.updN hit0,e6⟩ up'
 ·intro i V ρ σ6 hV h'1 hit6 R' hR' _; refine La.c4 h'1 λ hi k1 E6 S6 => ?_; clear h'1
  obtain ⟨t,ht,rfl⟩ : ∃ t,atoms0[i]? = some t/\V = .str t := by
   rw [List.getElem?_map] at hV
   cases z : atoms0[i]? with
   | none => rw [z] at hV; cases hV
   | some t => rw [z] at hV; exact ⟨t,rfl,(Option.some.inj hV).symm⟩
  have hi' : i < 29 := by have := (List.getElem?_eq_some_iff.mp ht).1; exact La.l2 (.Q .x0 (.l 29)) (.T .x1 .x0) (.T .x1 (.l 29)) [[1,0,1,1]] rfl [_,_] [] l1 this
  have S7 : SyOk (upd σ6 it (.itT (atoms0.map .str) (i + 1))) ⟨0,0,0,0,0,x,dx,tx,an,fu,fn⟩ _ _ _ _ := SyOk.updI S6 hit6
  have E7 := E6.updN (m := .itT (atoms0.map .str) (i + 1)) hit0
  have i7 := up' (σ := σ6) (a := it) (m := .itT (atoms0.map .str) (i + 1))
  generalize upd σ6 it (.itT (atoms0.map .str) (i + 1)) = σ7 at *
  have bl := foldA_len (atoms0.take i) []
  walk_at "r"
  refine fc_atom (a := ⟨0,0,0,0,0,x,dx,tx,an,fu,fn⟩) hn' T' S7 (by simp at bl; exact La.l3 (.L (.a .x0 .l1) (.l 29)) (.L .x1 .x3) (.o (.w (.L .x0 .x2) (.Q .x3 .x0)) (.w (.L (.a .x2 .l1) .x0) (.Q .x3 .x2))) (.L (.a .x1 .l1) (.l 1000)) [[1,1,0,1,0,1],[1,1,1,1,0,1]] rfl [_,_,_,_] [] hi' bl (La.mi _ _)) htf λ σ8 e8 S8 => ?_;walk_at "r"
  refine hR' _ _ ⟨by exact La.l1 (.T .x0 (.l 29)) (.L (.a .x0 .l1) (.l 29)) [[1,1]] rfl [_] [] hi',by walk_at "lk",E7.thruL e8 (by simp; exact ⟨htx0,han0⟩),?_⟩ ?_
  ·rw [fold_take ht]; exact S8
  ·have x1 : it ≠ tx := ne_mm i7 S7.tx (by simp)
   have x2 : it ≠ an := ne_mm i7 S7.an (by simp)
   exact e8 _ _ (by simp [x1,x2]) i7
 ·intro ρ σ6 h'1 m hm; refine La.c4 h'1 λ hi k1 E6 S6 => ?_; clear h'1
  rw [List.length_map,List.take_length] at S6
  have S7 : SyS (del σ6 it) ⟨0,0,0,0,0,x,dx,tx,an,fu,fn⟩ A0 [] := SyOk.delI S5 hit S6
  have E7 : Ext σ (del σ6 it) := E6.delN hit0
  generalize del σ6 it = σ7 at *
  clear E6 S6 hm
  walk_at "r"
  refine fc_fixed_functors hn' T' ?_
  refine it_tup λ it2 hit2 => ⟨it2,rfl,λ R2 hR2 => ?_⟩
  have hit20 := E7.none hit2
  have e8 : SyS (upd σ7 it2 (.itT (funcs0.map rowV) 0)) ⟨0,0,0,0,0,x,dx,tx,an,fu,fn⟩ A0 [] := SyOk.ext S7 (Ext.new hit2)
  have bl := foldA_len atoms0 []
  refine FL.overT X (by walk_at "kd2") (λ i ρ' σ' => i<=32/\lk "self" ρ' = some (.ref x)/\Ext σ σ'/\SyS σ' ⟨0,0,0,0,0,x,dx,tx,an,fu,fn⟩ ((funcs0.take i).foldl stepF (A0,[])).1 ((funcs0.take i).foldl stepF (A0,[])).2) ?_ ?_
   (funcs0.map rowV).length 0 _ _ rfl ⟨Nat.zero_le _,by walk_at "lk",E7.updN hit20,e8⟩ up'
  ·intro i V ρ σ8 hV h'1 hit8 R' hR' _; refine La.c4 h'1 λ hi k1 E8 S8 => ?_; clear h'1
   obtain ⟨t,ht,rfl⟩ : ∃ t,funcs0[i]? = some t/\V = rowV t := by
    rw [List.getElem?_map] at hV
    cases z : funcs0[i]? with
    | none => rw [z] at hV; cases hV
    | some t => rw [z] at hV; exact ⟨t,rfl,(Option.some.inj hV).symm⟩
   have hi' : i < 32 := by have := (List.getElem?_eq_some_iff.mp ht).1; exact La.l2 (.Q .x0 (.l 32)) (.T .x1 .x0) (.T .x1 (.l 32)) [[1,0,1,1]] rfl [_,_] [] l2 this
   have S9 : SyOk (upd σ8 it2 (.itT (funcs0.map rowV) (i + 1))) ⟨0,0,0,0,0,x,dx,tx,an,fu,fn⟩ _ _ _ _ := SyOk.updI S8 hit8
   have E9 := E8.updN (m := .itT (funcs0.map rowV) (i + 1)) hit20
   have i9 := up' (σ := σ8) (a := it2) (m := .itT (funcs0.map rowV) (i + 1))
   generalize upd σ8 it2 (.itT (funcs0.map rowV) (i + 1)) = σ9 at *
   have b2 := foldF_len (funcs0.take i) (A0,[])
   have b3 : A0.length<=29 := by unfold A0; simp at bl; exact La.l2 (.Q .x0 (.l 29)) (.L .x1 .x0) (.L .x1 (.l 29)) [[1,0,1,1]] rfl [_,_] [] l1 bl
   walk_at "r"
   walk_at "tt";walk_at "r"
   walk_at "tt";walk_at "r"
   refine fc_func (a := ⟨0,0,0,0,0,x,dx,tx,an,fu,fn⟩) hn' T' S9 (by simp at b2; exact La.la [.L (.a .x0 .l1) (.l 32),.L .x1 (.l 29),.w (.L .x2 (.a .x1 .x4)) (.L .x5 .x4),.o (.w (.L .x0 .x3) (.Q .x4 .x0)) (.w (.L (.a .x3 .l1) .x0) (.Q .x4 .x3))] (.L (.a .x2 .l1) (.l 1000)) [[1,1,1,0,0,1,0,1],[1,1,1,0,1,1,0,1]] rfl [_,_,_,_,_,_] [] ⟨hi',b3,b2,(La.mi _ _),trivial⟩) (by simp at b2; exact La.l3 (.L (.a .x0 .l1) (.l 32)) (.w (.L .x1 (.a .x2 .x4)) (.L .x5 .x4)) (.o (.w (.L .x0 .x3) (.Q .x4 .x0)) (.w (.L (.a .x3 .l1) .x0) (.Q .x4 .x3))) (.L (.a .x5 .l1) (.l 1000)) [[1,0,1,0,1,0,1],[1,0,1,1,1,0,1]] rfl [_,_,_,_,_,_] [] hi' b2 (La.mi _ _)) htf λ σ10 e10 S10 => ?_;walk_at "r"
   refine hR' _ _ ⟨by exact La.l1 (.T .x0 (.l 32)) (.L (.a .x0 .l1) (.l 32)) [[1,1]] rfl [_] [] hi',by walk_at "lk",E9.thruL e10 (by simp; exact ⟨htx0,han0,hfu0,hfn0⟩),?_⟩ ?_
   ·rw [fold_take ht]; exact S10
   ·have x1 : it2 ≠ tx := ne_mm i9 S9.tx (by simp)
    have x2 : it2 ≠ an := ne_mm i9 S9.an (by simp)
    have x3 : it2 ≠ fu := ne_mm i9 S9.fu (by simp)
    have x4 : it2 ≠ fn := ne_mm i9 S9.fn (by simp)
    exact e10 _ _ (by simp [x1,x2,x3,x4]) i9
  ·intro ρ σ8 h'1 m hm; refine La.c4 h'1 λ hi k1 E8 S8 => ?_; clear h'1
   rw [List.length_map,List.take_length] at S8
   walk_at "r"
   exact ⟨rfl,q ⟨0,0,0,0,0,x,dx,tx,an,fu,fn⟩ _ (E8.delN hit20) hx hdx htx0 han0 hfu0 hfn0 htf (SyOk.delI S7 hit2 S8)⟩
end
end
section
set_option maxHeartbeats 4000000
section
variable {C : Cx} {ρ : Loc'} {σ : CH} {mg : Str->Option Value} {A : List Str} {F : List Cell}
theorem young {σ₀ σ : CH} {x dx : Addr} {Cl : Addr} {fs fs' : List (Str × PV)} (hE : Ext σ₀ σ) (hdx : σ₀ dx = none) (hne : x ≠ dx) (f1 : σ x = some (.inst Cl dx)) (f2 : σ dx = some (.ns fs)) :
  Ext σ₀ (upd σ dx (.ns fs'))/\upd σ dx (.ns fs') x = some (.inst Cl dx)/\upd σ dx (.ns fs') dx = some (.ns fs') :=
 ⟨hE.updN hdx,(un' hne).trans f1,up'⟩
theorem fc_Store {n : Nat} (hn : C.n = n + 2) (T : TC C mg) {b : SA} {TX AN FU FN} (S : SyOk σ b TX AN FU FN)
  {Q : PV->CH->Prop} (q : ∀ (st dst hp sk tr : Addr) (σ' : CH),Ext σ σ'->σ st = none->σ dst = none->σ hp = none->σ sk = none->σ tr = none->StOk σ' ⟨st,dst,hp,sk,tr,b.sy,b.dsy,b.tx,b.an,b.fu,b.fn⟩ [] []->DS ⟨st,dst,hp,sk,tr,b.sy,b.dsy,b.tx,b.an,b.fu,b.fn⟩->Q (.ref st) σ') : FC C (.ref 374) [.ref b.sy] σ Q := by
 refine La.c6 (T.c_Store) λ c1 c2 c3 c4 c5 h'1 => ?_; refine La.x1_3 h'1 λ dV fa _ dN => ?_; clear h'1
 refine La.x1_2 (dN rfl) λ da h'1 h'2 => ?_; subst h'1; refine La.x2_1 h'2 λ tk tn hda => ?_; clear h'2
 refine FC.cls (n := n + 1) T.bs hn c3 c4 c5 λ x dx hx hdx hne => ?_
 have T2 : TC { C with n := n + 1 } mg := T
 refine FCc.fn (C := { C with n := n + 1 }) (n := n) (names := ["self","symbols","max_heap"]) (vs' := [.ref x,.ref b.sy,.int 100000]) rfl T2.bs fa ?_ rfl rfl rfl (by decide) (by decide) λ C' Fi X => ?_
 ·intro nm kV doc pm an cdv ct s vals hk r
  refine La.x2_3 (r.cons_inv) λ v l h'1 p1 r2 => ?_; subst h'1
  refine La.x2_3 (r2.cons_inv) λ w l h'1 p2 r3 => ?_; subst h'1
  cases r3.nil_inv
  exact ⟨[v,w,.int 100000 tk],BindsTo.of_defaults rfl (hk _ _ hda) rfl rfl rfl,.cons p1 (.cons p2 (.cons ⟨_,rfl⟩ .nil))⟩
 have T' := T2.fits Fi
 have sc := Fi.sc
 have hn' := Fi.n
 have hE : Ext σ (upd (upd σ dx (.ns [])) x (.inst 374 dx)) := (Ext.refl.updN hdx).updN hx
 have f1 : upd (upd σ dx (.ns [])) x (.inst 374 dx) x = some (.inst 374 dx) := up'
 have f2 : upd (upd σ dx (.ns [])) x (.inst 374 dx) dx = some (.ns []) := (un' hne.symm).trans up'
 generalize upd (upd σ dx (.ns [])) x (.inst 374 dx) = σ1 at *
 refine EX.setattr T' (T'.at "symbols" rfl) rfl ?_;walk_at "r"
 refine ⟨x,dx,_,rfl,f1,f2,by decide,?_⟩
 refine La.c3 (young (fs' := putF "symbols" (.ref b.sy) []) hE hdx hne f1 f2) λ hE f1 f2 => ?_
 generalize upd σ1 dx (.ns (putF "symbols" (.ref b.sy) [])) = σ1 at *
 refine EX.setattr T' (T'.at "max_heap" rfl) rfl ?_;walk_at "r"
 refine ⟨x,dx,_,rfl,f1,f2,Nat.le_of_ble_eq_true rfl,?_⟩
 generalize hN : putF "max_heap" (.int 100000) (putF "symbols" (.ref b.sy) []) = N
 have hNl : N.length = 2 := by rw [<- hN]; rfl
 refine La.c3 (young (fs' := N) hE hdx hne f1 f2) λ hE f1 f2 => ?_
 generalize upd σ1 dx (.ns N) = σ1 at *
 refine EX.setattr T' (T'.at "heap" rfl) rfl ?_
 refine EV.list (EL.nil ⟨by simp,λ hp hhp => ?_⟩)
 have n1 : hp ≠ x := λ q => by rw [q,f1] at hhp; cases hhp
 have n2 : hp ≠ dx := λ q => by rw [q,f2] at hhp; cases hhp
 have hhp0 := hE.none hhp
 have hE := hE.updN (m := .list []) hhp0
 have f1 := (un' (m := .list []) n1.symm).trans f1
 have f2 := (un' (m := .list []) n2.symm).trans f2
 have g1 := up' (σ := σ1) (a := hp) (m := .list [])
 generalize upd σ1 hp (.list []) = σ1 at *
 walk_at "r"
 refine ⟨x,dx,_,rfl,f1,f2,by exact La.l1 (.Q .x0 (.l 2)) (.L .x0 (.l 900)) [[1,0,1]] rfl [_] [] hNl,?_⟩
 generalize hN2 : putF "heap" (.ref hp) N = N2
 have hNl2 : N2.length = 3 := by rw [<- hN2,<- hN]; rfl
 refine La.c3 (young (fs' := N2) hE hdx hne f1 f2) λ hE f1 f2 => ?_
 have g1 := (un' (m := .ns N2) n2).trans g1
 generalize upd σ1 dx (.ns N2) = σ1 at *
 refine EX.setattr T' (T'.at "stack" rfl) rfl ?_
 refine EV.list (EL.nil ⟨by simp,λ sk hsk => ?_⟩)
 have m1 : sk ≠ x := λ q => by rw [q,f1] at hsk; cases hsk
 have m2 : sk ≠ dx := λ q => by rw [q,f2] at hsk; cases hsk
 have m3 : sk ≠ hp := λ q => by rw [q,g1] at hsk; cases hsk
 have hsk0 := hE.none hsk
 have hE := hE.updN (m := .list []) hsk0
 have f1 := (un' (m := .list []) m1.symm).trans f1
 have f2 := (un' (m := .list []) m2.symm).trans f2
 have g1 := (un' (m := .list []) m3.symm).trans g1
 have g2 := up' (σ := σ1) (a := sk) (m := .list [])
 generalize upd σ1 sk (.list []) = σ1 at *
 walk_at "r"
 refine ⟨x,dx,_,rfl,f1,f2,by exact La.l1 (.Q .x0 (.l 3)) (.L .x0 (.l 900)) [[1,0,1]] rfl [_] [] hNl2,?_⟩
 generalize hN3 : putF "stack" (.ref sk) N2 = N3
 have hNl3 : N3.length = 4 := by rw [<- hN3,<- hN2,<- hN]; rfl
 refine La.c3 (young (fs' := N3) hE hdx hne f1 f2) λ hE f1 f2 => ?_
 have g1 := (un' (m := .ns N3) n2).trans g1
 have g2 := (un' (m := .ns N3) m2).trans g2
 generalize upd σ1 dx (.ns N3) = σ1 at *
 refine EX.setattr T' (T'.at "trail" rfl) rfl ?_
 refine EV.list (EL.nil ⟨by simp,λ tr htr => ?_⟩)
 have k1 : tr ≠ x := λ q => by rw [q,f1] at htr; cases htr
 have k2 : tr ≠ dx := λ q => by rw [q,f2] at htr; cases htr
 have k3 : tr ≠ hp := λ q => by rw [q,g1] at htr; cases htr
 have k4 : tr ≠ sk := λ q => by rw [q,g2] at htr; cases htr
 have htr0 := hE.none htr
 have hE := hE.updN (m := .list []) htr0
 have f1 := (un' (m := .list []) k1.symm).trans f1
 have f2 := (un' (m := .list []) k2.symm).trans f2
 have g1 := (un' (m := .list []) k3.symm).trans g1
 have g2 := (un' (m := .list []) k4.symm).trans g2
 have g3 := up' (σ := σ1) (a := tr) (m := .list [])
 generalize upd σ1 tr (.list []) = σ1 at *
 walk_at "r"
 refine ⟨x,dx,_,rfl,f1,f2,by exact La.l1 (.Q .x0 (.l 4)) (.L .x0 (.l 900)) [[1,0,1]] rfl [_] [] hNl3,?_⟩
 generalize hN4 : putF "trail" (.ref tr) N3 = N4
 have hNl4 : N4.length = 5 := by rw [<- hN4,<- hN3,<- hN2,<- hN]; rfl
 refine La.c3 (young (fs' := N4) hE hdx hne f1 f2) λ hE f1 f2 => ?_
 have g1 := (un' (m := .ns N4) n2).trans g1
 have g2 := (un' (m := .ns N4) m2).trans g2
 have g3 := (un' (m := .ns N4) k2).trans g3
 generalize upd σ1 dx (.ns N4) = σ1 at *
 refine EX.setattr T' (T'.at "hb" rfl) rfl ?_;walk_at "r"
 refine ⟨x,dx,_,rfl,f1,f2,by exact La.l1 (.Q .x0 (.l 5)) (.L .x0 (.l 900)) [[1,0,1]] rfl [_] [] hNl4,?_⟩
 generalize hN5 : putF "hb" (.int 0) N4 = N5
 have hNl5 : N5.length = 6 := by rw [<- hN5,<- hN4,<- hN3,<- hN2,<- hN]; rfl
 refine La.c3 (young (fs' := N5) hE hdx hne f1 f2) λ hE f1 f2 => ?_
 have g1 := (un' (m := .ns N5) n2).trans g1
 have g2 := (un' (m := .ns N5) m2).trans g2
 have g3 := (un' (m := .ns N5) k2).trans g3
 generalize upd σ1 dx (.ns N5) = σ1 at *
 refine EX.setattr T' (T'.at "bb" rfl) rfl ?_;walk_at "r"
 refine ⟨x,dx,_,rfl,f1,f2,by exact La.l1 (.Q .x0 (.l 6)) (.L .x0 (.l 900)) [[1,0,1]] rfl [_] [] hNl5,?_⟩
 refine La.c3 (young (fs' := putF "bb" (.int 0) N5) hE hdx hne f1 f2) λ hE f1 f2 => ?_
 have g1 := (un' (m := .ns (putF "bb" (.int 0) N5)) n2).trans g1
 have g2 := (un' (m := .ns (putF "bb" (.int 0) N5)) m2).trans g2
 have g3 := (un' (m := .ns (putF "bb" (.int 0) N5)) k2).trans g3
 generalize upd σ1 dx (.ns (putF "bb" (.int 0) N5)) = σ1 at *
 walk_at "r"
 refine ⟨rfl,q x dx hp sk tr σ1 hE hx hdx hhp0 hsk0 htr0 ⟨f1,?_,g1,g2,g3⟩ ⟨m3,k3,(ne_of hhp0 S.tx),(ne_of hhp0 S.fu),k4,(ne_of hsk0 S.tx),(ne_of hsk0 S.fu)⟩⟩
 rw [f2,<- hN5,<- hN4,<- hN3,<- hN2,<- hN]; rfl
end
end
section
set_option maxHeartbeats 4000000
theorem small_up (n : Nat) (h : n < 1000) : Builtin.Range.small 0 (n : Int) 1 = true/\Builtin.Range.rangeSize 0 (n : Int) 1 = n := by
 have f : ∀ x : Int,-10000 < x->x < 10000->Builtin.Range.rangeFitsLong x = true := λ x h1 h2 => by unfold Builtin.Range.rangeFitsLong; simp; exact La.z40 h1 h2
 have e : Builtin.Range.rangeSize 0 (n : Int) 1 = n := by unfold Builtin.Range.rangeSize; simp; omega
 refine ⟨?_,e⟩
 unfold Builtin.Range.small
 rw [e,f _ (by exact La.z84) (by exact La.z85),f _ (by exact La.z41) (by exact La.z74 h),f _ (by exact La.z86) (by exact La.z87)]
 have : (if (1 : Int) > 0 then Builtin.Range.rangeFitsLong ((n : Int) + (1 - 1)) else Builtin.Range.rangeFitsLong ((n : Int) + (1 + 1))) = true := by rw [if_pos (by decide)]; exact f _ (by exact La.z88) (by exact La.l1 (.T .x0 (.l 1000)) (.t (.a (.c .x0) (.s .l1 .l1)) (.l 10000)) [[1,1]] rfl [_] [] h)
 rw [this]; simp
section
variable {C : Cx} {ρ : Loc'} {σ : CH} {mg : Str->Option Value}
noncomputable def Scr (b : Heap) (sa : Addr) (L : List Int) : Prop := ∃ o items n,b.get? sa = some o/\o.cls = .type "list"/\o.data = .seq items n/\∀ h,Rels h (L.map PV.int) items.toList
theorem EV.sliceB {value hi : Expr} {p pos : Pos} {sa : Addr} {L : List Int} {k : Nat} (hs : Scr C.b sa L) (hL : L.length<=1000) {Q : PV->CH->Prop} (h : EV C value ρ σ λ V σ₁ => EV C hi ρ σ₁ λ W σ₂ => V = .any (.ref sa)/\W = .int k/\∀ c,σ₂ c = .none->Q (.ref c) (upd σ₂ c (.list ((L.take k).map PV.int)))) :
  EV C (.Subscript value (.Slice none (some hi) none p) pos) ρ σ Q :=
 λ A s G S => Subscript_ (h.seq G S λ V a σ₁ s₁ h₁ r₁ S₁ st₁ _ => wpAny_Slice (wpAny_evalPart_none (wpAny_evalPart_some (h₁.seqE G S₁ (λ _ _ x => PX.up st₁ x) (λ W b σ₂ s₂ h₂ r₂ S₂ st₂ k₂ => wpAny_evalPart_none (by
  refine La.c3 h₂ λ h'1 h'2 q => ?_; clear h₂; subst h'1; subst h'2
  have r₁' := k₂.rel r₁
  cases r₁'
  refine La.x1_1 r₂ λ t h'1 => ?_; clear r₂; subst h'1
  refine La.x3_4 hs λ o1 i1 n1 gb cb db r1 => ?_; clear hs
  have g1 := (S₂.inv.2 _ _ gb).1
  have el := (r1 s₂.heap).length
  simp at el
  have I₂ := S₂.inv.grow (s := s₂) (t := s₂.toks) (h' := s₂.heap.push { cls := .type "slice",data := .fields #[.none,.int k t,.none] }) (λ a o e => Heap.get?_push_of_some _ e) []
  have S₃ := S₂.step I₂.1 I₂.2
  refine up ((st₁.trans st₂).trans I₂.2) ?_
  have g1' : (s₂.heap.push { cls := .type "slice",data := .fields #[.none,.int k t,.none] }).get? sa = some o1 := Heap.get?_push_of_some _ g1
  refine subTail (s := { s₂ with heap := s₂.heap.push { cls := .type "slice",data := .fields #[.none,.int k t,.none] } }) (T := "list") (ops := [.ref s₂.heap.objs.size,.ref sa]) ⟨_,g1',cb⟩ slot_list_getitem.lookup rfl ?_
  refine wpAny_getItem_list_slice (lo := none) (hi := some (k : Int)) (st := none) ⟨_,g1',cb,_,db⟩ (Heap.IsSliceOf.new ..) .none (.int _ _) .none (by simp) ?_ (by rw [sizeLine_eq]; exact La.l2 (.L .x0 (.l 1000)) (.Q .x0 .x1) (.L .x1 (.l 16777216)) [[1,0,1,1]] rfl [_,_] [] hL el)
  refine PG.made (t := s₂.toks) S₃ ?_ q
  refine ⟨_,0,Heap.get?_push_size _ rfl,?_⟩
  rw [slicePick_upto',List.map_take]
  exact (r1 _).take k))))))
theorem ife_int {b : Bool} {x y : Expr} {Q : PV->CH->Prop} (h : ∀ z,Q (.int z) σ) (h1 : EV C x ρ σ λ V σ' => ∃ z,V = .int z/\σ' = σ) (h2 : EV C y ρ σ λ V σ' => ∃ z,V = .int z/\σ' = σ) : if b = true then EV C x ρ σ Q else EV C y ρ σ Q := by
 cases b with
 | true => exact h1.mono λ V σ' => La.y1_2 λ z e1 e2 => by subst e1 e2; exact h z
 | false => exact h2.mono λ V σ' => La.y1_2 λ z e1 e2 => by subst e1 e2; exact h z
theorem fc_law_row {n : Nat} (hn : C.n = n + 1) (T : TC C mg) {sa : Addr} {L : List Int} (hs : Scr C.b sa L) (hL : L.length<=1000)
  {Q : PV->CH->Prop} (q : ∀ (ra : Addr) (L' : List Int) (σ' : CH),Ext σ σ'->σ ra = none->σ' ra = some (.list (L'.map PV.int))->L'.length < 1000->Q (.ref ra) σ') : FC C (.ref 523) [.any (.ref sa)] σ Q := by
 refine La.c3 ((T.fn "_law_row" rfl)) λ _ _ fa => ?_
 refine FC.fn (n := n) (names := ["script"]) hn T.bs fa (HB.one λ _ _ _ _ _ _ _ _ => rfl) rfl rfl rfl (by decide) (by decide) λ C' Fi X => ?_
 have T' := T.fits Fi
 have sc := Fi.sc
 have hs' : Scr C'.b sa L := by rw [Fi.b]; exact hs
 walk_at "b";walk_at "r"
 refine ⟨by simp,λ r0 hr0 => ?_⟩
 refine EX.for X (by intro _; rfl) ?_
 refine EV.sliceB (k := 40) hs' hL ?_;walk_at "r"
 refine ⟨rfl,rfl,λ c hc => ?_⟩
 have hrc : c ≠ r0 := λ q => by rw [q,up'] at hc; cases hc
 have hc0 := uN' hc
 refine it_list up' λ it hit => ⟨it,rfl,λ R hR => ?_⟩
 have hci : c ≠ it := λ q => by rw [<- q,up'] at hit; cases hit
 have hit' := uN' hit
 have hri : r0 ≠ it := λ q => by rw [<- q,up'] at hit'; cases hit'
 have hit0 := uN' hit'
 refine FL.over (a := c) (l := (L.take 40).map PV.int) X (by walk_at "kd2") (λ i ρ' σ' => i<=40/\lk "row" ρ' = some (.ref r0)/\Ext σ σ'/\σ' c = some (.list ((L.take 40).map PV.int))/\∃ R : List Int,σ' r0 = some (.list (R.map PV.int))/\R.length<=31 * i) ?_ ?_ ?_
  ((L.take 40).map PV.int).length 0 _ _ rfl ⟨Nat.zero_le _,by walk_at "lk",((Ext.refl.updN hr0).updN hc0).updN hit0,(un' hci).trans up',[],(un' hri).trans ((un' hrc.symm).trans up'),Nat.zero_le _⟩ up'
 ·intro i V ρ σ1 hV h'1 hi1 R' hR' _; refine La.c5 h'1 λ hi l1 e1 c1 h'2 => ?_; clear h'1; refine La.x1_2 h'2 λ R1 r1 z1 => ?_; clear h'2
  obtain ⟨z,rfl⟩ : ∃ z,V = .int z := by
   rw [List.getElem?_map] at hV
   cases q : (L.take 40)[i]? with
   | none => rw [q] at hV; cases hV
   | some z => rw [q] at hV; exact ⟨z,(Option.some.inj hV).symm⟩
  have hi40 : i < 40 := by
   have := (List.getElem?_eq_some_iff.mp hV).1
   simp at this; exact La.l2 (.L (.a .x0 .l1) .x2) (.o (.w (.L (.l 40) .x1) (.Q .x2 (.l 40))) (.w (.L (.a .x1 .l1) (.l 40)) (.Q .x2 .x1))) (.L (.a .x0 .l1) (.l 40)) [[1,0,1,0,1],[1,1,1,0,1]] rfl [_,_,_] [] this (La.mi _ _)
  have e2 := e1.updN (m := .itL c (i + 1)) hit0
  have c2 := (un' (m := .itL c (i + 1)) hci).trans c1
  have r2 := (un' (m := .itL c (i + 1)) hri).trans r1
  have i2 := up' (σ := σ1) (a := it) (m := .itL c (i + 1))
  generalize upd σ1 it (.itL c (i + 1)) = σ2 at *
  walk_at "r"
  refine ife_int (λ z' => ?_) ?_ ?_
  rotate_left
  ·walk_at "r"
   rfl
  ·walk_at "r"
   rfl
  walk_at "r"
  refine ⟨_,_,rfl,r2,?_⟩;walk_at "r"
  refine op_mod (by decide) ?_
  refine ⟨_,r2,by simp; exact La.l2 (.L .x0 (.m 31 .x1)) (.T .x1 (.l 40)) (.T .x0 (.l 100000)) [[1,31,1]] rfl [_,_] [] z1 hi40,?_⟩
  have e3 := e2.updN (m := .list (R1.map PV.int ++ [.int (z'.fmod 1013)])) hr0
  have c3 := (un' (m := .list (R1.map PV.int ++ [.int (z'.fmod 1013)])) hrc).trans c2
  have i3 := (un' (m := .list (R1.map PV.int ++ [.int (z'.fmod 1013)])) hri.symm).trans i2
  have r3 : upd σ2 r0 (.list (R1.map PV.int ++ [.int (z'.fmod 1013)])) r0 = some (.list ((R1 ++ [z'.fmod 1013]).map PV.int)) := by rw [up']; simp
  have z3 : (R1 ++ [z'.fmod 1013]).length<=31 * i + 1 := by simp; assumption
  generalize upd σ2 r0 (.list (R1.map PV.int ++ [.int (z'.fmod 1013)])) = σ3 at *
  generalize R1 ++ [z'.fmod 1013] = R3 at *
  walk_at "r"
  refine op_div1013 ?_
  generalize z'.fdiv 1013 = z4
  walk_at "r"
  refine fc_range1 (n := 30) λ rg hrg => ?_
  refine La.c2 (small_up 30 (by decide)) λ sm sz => ?_
  refine it_rng up' sm λ it2 hit2 => ⟨it2,rfl,λ R5 hR5 => ?_⟩
  rw [show (30 : Int) = ((30 : Nat) : Int) from rfl,sz]
  have hit2' := uN' hit2
  have a1 : c ≠ it2 := ne_of hit2' c3
  have a2 : r0 ≠ it2 := ne_of hit2' r3
  have a3 : it ≠ it2 := ne_of hit2' i3
  have hit20 := e3.none hit2'
  have hrg0 := e3.none hrg
  refine FL.up (N := 30) X (by walk_at "kd2") (λ j ρ' σ' => j<=30/\lk "row" ρ' = some (.ref r0)/\Ext σ σ'/\σ' c = some (.list ((L.take 40).map PV.int))/\σ' it = some (.itL c (i + 1))/\∃ (R : List Int) (y : Int),σ' r0 = some (.list (R.map PV.int))/\R.length<=31 * i + 1 + j/\lk "number" ρ' = some (.int y)) ?_ ?_
   30 0 _ _ rfl ⟨Nat.zero_le _,by walk_at "lk",(e3.updN hrg0).updN hit20,(un' a1).trans ((un' (ne_of hrg c3)).trans c3),(un' a3).trans ((un' (ne_of hrg i3)).trans i3),R3,z4,(un' a2).trans ((un' (ne_of hrg r3)).trans r3),by assumption,by walk_at "lk"⟩ (by simpa using up')
  ·intro j ρ σ5 hj h'1 R7 hR7 _ hit5; refine La.c6 h'1 λ hj' k1 e5 c5 i5 h'2 => ?_; clear h'1; refine La.x2_3 h'2 λ R6 y r5 z5 ln => ?_; clear h'2
   have e6 := e5.updN (m := .itR (j + 1 : Nat) ((30 : Nat) - (j + 1 : Nat) : Int) 1) hit20
   have c6 := (un' (m := .itR (j + 1 : Nat) ((30 : Nat) - (j + 1 : Nat) : Int) 1) a1).trans c5
   have i6 := (un' (m := .itR (j + 1 : Nat) ((30 : Nat) - (j + 1 : Nat) : Int) 1) a3).trans i5
   have r6 := (un' (m := .itR (j + 1 : Nat) ((30 : Nat) - (j + 1 : Nat) : Int) 1) a2).trans r5
   have u6 := up' (σ := σ5) (a := it2) (m := .itR (j + 1 : Nat) ((30 : Nat) - (j + 1 : Nat) : Int) 1)
   generalize upd σ5 it2 (.itR (j + 1 : Nat) ((30 : Nat) - (j + 1 : Nat) : Int) 1) = σ6 at *
   walk_at "r"
   refine ite_of (λ _ => ?_) λ _ => ?_
   ·walk_at "r"
    refine ⟨_,_,rfl,r6,?_⟩;walk_at "r"
    refine op_mod (by decide) ?_
    refine ⟨_,r6,by simp; exact La.l3 (.T .x0 (.l 40)) (.T .x1 (.l 30)) (.L .x2 (.a (.a (.m 31 .x0) .l1) .x1)) (.T .x2 (.l 100000)) [[31,1,1,1]] rfl [_,_,_] [] hi40 hj z5,?_⟩;walk_at "r"
    refine op_div1013 ?_;walk_at "r"
    refine hR7 _ _ ⟨by exact La.z92 hj,by walk_at "lk",e6.updN hr0,(un' hrc).trans c6,(un' hri.symm).trans i6,R6 ++ [y.fmod 1013],y.fdiv 1013,by rw [up']; simp,by simp; exact La.l1 (.L .x0 (.a (.a (.m 31 .x1) .l1) .x2)) (.L (.a .x0 .l1) (.a (.a (.m 31 .x1) .l1) (.a .x2 .l1))) [[1,1]] rfl [_,_,_] [] z5,by walk_at "lk"⟩ ((un' a2.symm).trans u6)
   ·walk_at "r"
    exact hR7 _ _ ⟨by exact La.z92 hj,by walk_at "lk",e6,c6,i6,R6,y,r6,by exact La.l1 (.L .x0 (.a (.a (.m 31 .x1) .l1) .x2)) (.L .x0 (.a (.a (.m 31 .x1) .l1) (.a .x2 .l1))) [[1,1]] rfl [_,_,_] [] z5,by walk_at "lk"⟩ u6
  ·intro ρ σ5 h'1 m hm; refine La.c6 h'1 λ hj' k1 e5 c5 i5 h'2 => ?_; clear h'1; refine La.x2_3 h'2 λ R6 y r5 z5 ln => ?_; clear h'2
   walk_at "r"
   exact hR' _ _ ⟨by exact La.l1 (.T .x0 (.l 40)) (.L (.a .x0 .l1) (.l 40)) [[1,1]] rfl [_] [] hi40,by walk_at "lk",e5.delN hit20,(del_ne a1).trans c5,R6,(del_ne a2).trans r5,by assumption⟩ ((del_ne a3).trans i5)
 ·intro i ρ σ1; refine La.k5 λ hi l1 e1 c1 _ => ?_; exact c1
 ·intro ρ σ1 h'1 m hm; refine La.c5 h'1 λ hi l1 e1 c1 h'2 => ?_; clear h'1; refine La.x1_2 h'2 λ R1 r1 z1 => ?_; clear h'2
  have E2 := e1.delN hit0
  have r2 := (del_ne hri).trans r1
  generalize del σ1 it = σ2 at *
  refine hR.next ?_
  refine EX.assign (by walk_at "kd2") rfl (EV.sliceHi ?_);walk_at "r"
  refine ⟨r0,R1.map PV.int,120,rfl,rfl,r2,by simp; simp at hi z1; exact La.l2 (.L .x0 (.l 40)) (.L .x1 (.m 31 .x0)) (.L .x1 (.l 100000)) [[31,1,1]] rfl [_,_] [] hi z1,λ r3 hr3 => ?_⟩
  have hr30 := E2.none hr3
  refine EX.expr rfl (EV.lreverse T' rfl rfl ?_);walk_at "r"
  refine ⟨_,_,rfl,up',by simp; exact La.l1 (.o (.w (.L (.l 120) .x0) (.Q .x1 (.l 120))) (.w (.L (.a .x0 .l1) (.l 120)) (.Q .x1 .x0))) (.L (.a .x1 .l1) (.l 100000)) [[0,1,0,1],[1,1,0,1]] rfl [_,_] [] (La.mi _ _),?_⟩;walk_at "r"
  refine q r3 ((R1.take 120).reverse) _ ((E2.updN hr30).updN hr30) hr30 ?_ (by simp; exact La.l1 (.o (.w (.L (.l 120) .x0) (.Q .x1 (.l 120))) (.w (.L (.a .x0 .l1) (.l 120)) (.Q .x1 .x0))) (.L (.a .x1 .l1) (.l 1000)) [[0,1,0,1],[1,1,0,1]] rfl [_,_] [] (La.mi _ _))
  rw [up']; simp
end
end
section
set_option maxHeartbeats 4000000
noncomputable def leafV (N : List Int) (d : Cell) : PV × List Int :=
 if d.1 = 0 then (.tup [.str "v",.int (((addN N d.2).idxOf d.2 : Nat) : Int)],addN N d.2)
 else (.tup [.str (if d.1 = 4 then "a" else "i"),.int d.2],N)
noncomputable def srcs (f : List Int->Cell->PV × List Int) : List Int->List Cell->List PV × List Int
 | N,[] => ([],N)
 | N,c :: l => ((f N c).1 :: (srcs f (f N c).2 l).1,(srcs f (f N c).2 l).2)
noncomputable def src (H : List Cell) : Nat->List Int->Cell->PV × List Int
 | 0,N,c => leafV N (der H c)
 | n + 1,N,c => if isC (der H c) = true then (.tup [.str "s",.int (fctr H (der H c)),.tup (srcs (src H n) N (parts H (der H c))).1],(srcs (src H n) N (parts H (der H c))).2) else leafV N (der H c)
noncomputable def FinN (H : List Cell) : Nat->Cell->Prop
 | 0,c => isC (der H c) = false
 | n + 1,c => ∀ p ∈ parts H (der H c),FinN H n p
theorem FinN.succ {H : List Cell} : ∀ {n : Nat} {c : Cell},FinN H n c->FinN H (n + 1) c
 | 0,c,h => by intro p hp; rw [parts_non h] at hp; cases hp
 | n + 1,c,h => λ p hp => (h p hp).succ
theorem nodup_len {α : Type} [DecidableEq α] : ∀ {l m : List α},l.Nodup->(∀ x ∈ l,x ∈ m)->l.length<=m.length
 | [],_,_,_ => Nat.zero_le _
 | x :: l,m,hn,hs => by
  refine La.c2 (List.nodup_cons.mp hn) λ h1 h2 => ?_
  have hm := hs x List.mem_cons_self
  have := nodup_len (l := l) (m := m.erase x) h2 λ y hy => (List.mem_erase_of_ne (λ e : y = x => h1 (by rw [<- e]; exact hy))).mpr (hs y (List.mem_cons_of_mem _ hy))
  rw [List.length_erase_of_mem hm] at this
  have : 0 < m.length := List.length_pos_of_mem hm
  simp; omega
noncomputable def NOk (H : List Cell) (N : List Int) : Prop := N.Nodup/\∀ v ∈ N,0<=v/\v < H.length
theorem NOk.len {H : List Cell} {N : List Int} (h : NOk H N) : N.length<=H.length := by
 have := nodup_len (l := N) (m := (List.range H.length).map λ i : Nat => (i : Int)) h.1 λ x hx => by
  refine La.c2 (h.2 x hx) λ a b => ?_
  exact List.mem_map.mpr ⟨x.toNat,by simp; exact La.l3 (.l .l0 .x0) (.l (.a .x0 .l1) (.c .x0)) (.o (.w (.l .l0 .x0) (.q (.c .x1) .x0)) (.w (.l (.a .x0 .l1) .l0) (.Q .x1 .l0))) (.L (.a .x1 .l1) .x0) [[0,1,0,1,0,1],[1,0,1,0,0,0]] rfl [_,_] [_] a b (La.tn _),by exact La.l2 (.l .l0 .x0) (.o (.w (.l .l0 .x0) (.q (.c .x0) .x0)) (.w (.l (.a .x0 .l1) .l0) (.Q .x0 .l0))) (.q (.c .x0) .x0) [[0,0,0,1,1],[0,0,1,0,1],[1,1,0,0,0],[1,1,0,0,0]] rfl [_] [_] a (La.tn _)⟩
 simpa using this
theorem NOk.add {H : List Cell} {N : List Int} (h : NOk H N) {v : Int} (h0 : 0<=v) (h1 : v < H.length) : NOk H (addN N v) := by
 unfold addN
 split
 ·exact h
 ·rename_i hv
  refine ⟨?_,λ x hx => ?_⟩
  ·rw [List.nodup_append]
   exact ⟨h.1,by simp,λ a ha b hb => by simp at hb; subst hb; rintro rfl; exact hv ha⟩
  ·rcases List.mem_append.mp hx with hx | hx
   ·exact h.2 x hx
   ·simp at hx; subst hx; exact ⟨h0,h1⟩
theorem leafV_ok {H : List Cell} {N : List Int} (h : NOk H N) {d : Cell} (ok : okc H d) : NOk H (leafV N d).2 := by
 unfold leafV
 split
 ·rename_i h0
  cases ok with
  | ref v hv _ => exact h.add (by simp) (by show (v : Int) < _; exact La.l1 (.T .x0 .x1) (.t (.c .x0) (.c .x1)) [[1,1]] rfl [_,_] [] hv)
  | _ => simp at h0
 ·exact h
theorem src_ok {H : List Cell} (W : WF H) : ∀ (n : Nat) {N : List Int} {c : Cell},NOk H N->okc H c->NOk H (src H n N c).2
 | 0,_,_,h,ok => leafV_ok h (der_ok W ok)
 | n + 1,N,c,h,ok => by
  unfold src
  split
  ·have key : ∀ (l : List Cell) (N : List Int),(∀ p ∈ l,okc H p)->NOk H N->NOk H (srcs (src H n) N l).2 := by
    intro l
    induction l with
    | nil => exact λ _ _ h => h
    | cons p l ih => exact λ N hl h => ih _ (λ q hq => hl q (List.mem_cons_of_mem _ hq)) (src_ok W n h (hl p List.mem_cons_self))
   exact key _ _ (λ p hp => (parts_ok W (der_ok W ok) p hp).1) h
  ·exact leafV_ok h (der_ok W ok)
theorem kinG {scope : Scope} {cl : List (Str × Addr)} {L : Addr} {env : Env} {x : Str} {k : NameKind} (h : scope.names.lookup x = some k) (hk : k ≠ .free) : (compEnvC scope cl L env).kindOf x = some k := by
 rw [show (compEnvC scope cl L env).kindOf x = _ from lookup_relabel,h]
 cases k <;> first | rfl | exact absurd rfl hk
theorem kinC {scope : Scope} {cl : List (Str × Addr)} {L : Addr} {env : Env} {x : Str} (h : scope.names.lookup x = some .free) (hf : env.scope.kind = .function) (hc : env.kindOf x = some .cell) : (compEnvC scope cl L env).kindOf x = some .cell := by
 rw [show (compEnvC scope cl L env).kindOf x = _ from lookup_relabel,h]
 simp [hf,hc]
end
section
local macro_rules | `(tactic| walk_at "kd") => `(tactic| first | ((refine kinG ?h ?n); (case h => rfl); (case n => decide)) | ((refine kinC ?h ?f ?c); (case h => rfl); (case f => assumption); (case c => walk_at "kd")))
set_option maxHeartbeats 4000000
section
variable {mg : Str->Option Value} {a : SA} {H : List Cell} {TX : List PV} {AN : List (Str × PV)} {FU : List Cell} {FN : List (List Int × PV)}
theorem ife_to {C : Cx} {ρ : Loc'} {σ : CH} {b : Bool} {x y : Expr} {V : PV} {Q : PV->CH->Prop} (h : Q V σ) (h1 : b = true->EV C x ρ σ λ V' σ' => V' = V/\σ' = σ) (h2 : b = false->EV C y ρ σ λ V' σ' => V' = V/\σ' = σ) : if b = true then EV C x ρ σ Q else EV C y ρ σ Q := by
 cases b with
 | true => exact (h1 rfl).mono λ V' σ' => La.k2 λ e1 e2 => by subst e1 e2; exact h
 | false => exact (h2 rfl).mono λ V' σ' => La.k2 λ e1 e2 => by subst e1 e2; exact h
theorem SyOk.ebD {σ σ' : CH} {nb : Addr} {D : List (Int × PV)} (S : SyOk σ a TX AN FU FN) (h : σ nb = some (.dictI D)) (e : EB [nb] σ σ') : SyOk σ' a TX AN FU FN :=
 ⟨e _ _ (by simp; exact ne_mm S.sy h (by simp)) S.sy,e _ _ (by simp; exact ne_mm S.dsy h (by simp)) S.dsy,e _ _ (by simp; exact ne_mm S.tx h (by simp)) S.tx,e _ _ (by simp; exact ne_mm S.an h (by simp)) S.an,e _ _ (by simp; exact ne_mm S.fu h (by simp)) S.fu,e _ _ (by simp; exact ne_mm S.fn h (by simp)) S.fn⟩
theorem src_leaf {H : List Cell} {n : Nat} {N : List Int} {c : Cell} (h : isC (der H c) = false) : src H n N c = leafV N (der H c) := by
 cases n with
 | zero => rfl
 | succ n => unfold src; rw [if_neg (by rw [h]; decide)]
theorem fc_law_source (W : WF H) (hlen : H.length < 900) (FO : FuOk FU) : ∀ (n : Nat) {C : Cx} {σ : CH} {m : Nat} (hn : C.n = m + n + 3) (T : TC C mg) (SY : SyOk σ a TX AN FU FN) {hc : Addr} (hh : σ hc = some (.list (H.map cv))) {c : Cell} (ok : okc H c) (c1 : c.1 ≠ 1) (fin : FinN H n c)
  {N : List Int} (hN : NOk H N) {nb : Addr} (hnb : σ nb = some (.dictI (idx id 0 N))) {Q : PV->CH->Prop} (q : ∀ σ',EB [nb] σ σ'->σ' nb = some (.dictI (idx id 0 (src H n N c).2))->Q (src H n N c).1 σ'),FC C (.ref 568) [.ref a.sy,.ref hc,cv c,.ref nb] σ Q := by
 intro n
 induction n using Nat.strongRecOn with
 | ind n ih =>
  intro C σ m hn T SY hc hh c ok c1 fin N hN nb hnb Q q
  refine FC.top (n := m + n + 2) (by assumption) T (T.fn "_law_source" rfl) (names := ["signs","heap","cell","numbers"]) (HB.four λ _ _ _ _ _ _ _ _ _ _ _ => rfl) rfl rfl rfl (by decide) (by decide) λ C' hn' sc T' X => ?_
  have B' := T'.sys
  walk_at "b"
  refine EV.fcall T' (T'.fn "_law_end" rfl) (by walk_at "kd") ?_;walk_at "r"
  refine fc_law_end hn' T' hh W (by exact La.z2 hlen) ok ?_
  have okd := der_ok W ok
  have d1 := der_ne1 W ok c1
  have hat := idx_at (mk := (id : Int->Int)) (λ _ _ h => h) (x := (der H c).2) (k := 0) (l := N)
  rw [show (id (der H c).2 : Int) = (der H c).2 from rfl] at hat
  have nl := hN.len
  walk_at "r"
  refine ite_of (λ h => ?_) λ h => ?_
  ·have h0 : (der H c).1 = 0 := by simpa using h
   have hC : isC (der H c) = false := by simp [isC,h0]
   rw [src_leaf hC] at q
   generalize der H c = d at *
   have lv : leafV N d = (.tup [.str "v",.int (((addN N d.2).idxOf d.2 : Nat) : Int)],addN N d.2) := if_pos h0
   rw [lv] at q
   walk_at "r"
   refine op_ninD B' hnb ?_
   rw [hat]
   walk_at "r"
   by_cases hm : d.2 ∈ N
   ·have ea : addN N d.2 = N := if_pos hm
    rw [ea] at q
    simp only [hm,if_true] at hat ⊢
    refine ite_f ?_;walk_at "r"
    refine op_subD hnb (by rw [hat]) ?_;walk_at "r"
    refine ⟨by simp,?_⟩;walk_at "r"
    have := q σ EB.refl hnb
    simpa [retV] using this
   ·have ea : addN N d.2 = N ++ [d.2] := if_neg hm
    have ei : (addN N d.2).idxOf d.2 = N.length := by rw [ea,List.idxOf_append,if_neg hm]; simp
    rw [ei,ea] at q
    simp only [hm,if_false] at hat ⊢
    refine ite_t ?_;walk_at "r"
    refine fc_len_dict B' hnb (by rw [idx_len]; exact La.z93 hlen nl) ?_;walk_at "r"
    refine si_dict hnb (by rw [idx_len]; exact La.z94 hlen nl) ?_
    rw [idx_len,putD_new hat]
    have en : idx id 0 N ++ [(d.2,PV.int (N.length : Int))] = idx id 0 (N ++ [d.2]) := by rw [idx_snoc]; simp
    rw [en]
    have h1 := up' (σ := σ) (a := nb) (m := .dictI (idx id 0 (N ++ [d.2])))
    have e1 : EB [nb] σ (upd σ nb (.dictI (idx id 0 (N ++ [d.2])))) := EB.refl.updO (by simp)
    generalize upd σ nb (.dictI (idx id 0 (N ++ [d.2]))) = σ1 at *
    walk_at "r"
    have hat2 := idx_at (mk := (id : Int->Int)) (λ _ _ h => h) (x := d.2) (k := 0) (l := N ++ [d.2])
    rw [show (id d.2 : Int) = d.2 from rfl,if_pos (by simp),<- ea,ei,ea] at hat2
    refine op_subD h1 hat2 ?_;walk_at "r"
    refine ⟨by simp,?_⟩;walk_at "r"
    have := q σ1 e1 h1
    simpa [retV] using this
  ·have h0 : (der H c).1 ≠ 0 := by simpa using h
   walk_at "r"
   refine ⟨by simp,?_⟩
   refine op_inT (b := isC (der H c)) rfl rfl (by simp [Dp,dat,PyData.depth]) (by simp [isC]) ?_;walk_at "r"
   refine ite_of (λ hC => ?_) λ hC => ?_
   ·obtain ⟨n,rfl⟩ : ∃ k,n = k + 1 := ⟨n - 1,by
     cases n with
     | zero => have fin : isC (der H c) = false := fin; rw [fin] at hC; cases hC
     | succ n => rfl⟩
    have fin : ∀ p ∈ parts H (der H c),FinN H n p := fin
    have sv : src H (n + 1) N c = (.tup [.str "s",.int (fctr H (der H c)),.tup (srcs (src H n) N (parts H (der H c))).1],(srcs (src H n) N (parts H (der H c))).2) := by
     rw [src,if_pos hC]
    rw [sv] at q
    clear sv hat
    generalize der H c = d at *
    refine La.x1_5 (okd.comp hC) λ p hp hpl hw2 harg hk => ?_;walk_at "r"
    refine ife_to (V := .int (fctr H d)) ?_ (λ h => ?_) (λ h => ?_)
    rotate_left
    ·have h3 : d.1 = 3 := by simpa using h
     walk_at "r"
     exact ⟨by simp [fctr,h3],rfl⟩
    ·have h3 : d.1 ≠ 3 := by simpa using h
     rcases hk with hk | ⟨h2,v,hv,hvl,hk⟩
     ·exact absurd hk.1 h3
     ·walk_at "r"
      refine op_hp hh hv hvl (by exact La.z2 hlen) ?_;walk_at "r"
      exact ⟨by simp [fctr,h2,hv],rfl⟩
    walk_at "r"
    refine EV.comp ⟨rfl,by decide,by decide,rfl,?_⟩ ?_
    ·intro y hy hf
     simp only [List.mem_cons,List.not_mem_nil,or_false] at hy
     rcases hy with rfl | rfl | rfl | rfl | rfl | rfl
     ·cases hf
     ·cases hf
     ·cases hf
     ·exact ⟨.inl (by walk_at "kd"),rfl⟩
     ·exact ⟨.inl (by walk_at "kd"),rfl⟩
     ·exact ⟨.inl (by walk_at "kd"),rfl⟩
    ·walk_at "r"
     refine fc_law_parts hn' T' hh SY FO (by exact La.z2 hlen) okd λ l σ1 e1 hl0 hl1 => ?_
     refine it_list hl1 λ it hit => ⟨it,rfl,⟨_,up',.inl ⟨_,_,rfl⟩⟩,λ acc hacc L cl C2 hC2 => ?_⟩
     have hfk : C'.env.scope.kind = .function := by rw [sc]; rfl
     have T2 : TC C2 mg := by rw [hC2]; exact T'
     have X2 : ∀ e σ s,¬ C2.X e σ s := by rw [hC2]; exact X
     have n2 : C2.n = m + n + 3 := by rw [hC2]; show C'.n = _; assumption
     have hai : acc ≠ it := λ q => by rw [q,up'] at hacc; cases hacc
     have hacc1 := uN' hacc
     have hal : acc ≠ l := λ q => by rw [q,hl1] at hacc1; cases hacc1
     have hil : it ≠ l := λ q => by rw [q,hl1] at hit; cases hit
     have hin : it ≠ nb := λ q => by rw [q,e1 _ _ hnb] at hit; cases hit
     have han : acc ≠ nb := λ q => by rw [q,e1 _ _ hnb] at hacc1; cases hacc1
     have hln : l ≠ nb := λ q => by rw [q,hnb] at hl0; cases hl0
     have it0 := e1.none hit
     have acc0 := e1.none hacc1
     refine (?_ : ∀ (l2 : List Cell) (i : Nat) (N' : List Int) (ts : List PV) (ρ' : Loc') (σ' : CH),(parts H d).drop i = l2->EB [nb] σ σ'->σ' l = some (.list ((parts H d).map cv))->σ' it = some (.itL l i)->σ' acc = some (.list ts)->σ' nb = some (.dictI (idx id 0 N'))->NOk H N'->ts.length<=i->i<=2 ->
      srcs (src H n) N (parts H d) = (ts ++ (srcs (src H n) N' l2).1,(srcs (src H n) N' l2).2)->lk "signs" ρ' = some (.ref a.sy)->lk "heap" ρ' = some (.ref hc)->lk "numbers" ρ' = some (.ref nb)->CP C2 _ it acc ρ' σ' _)
      (parts H d) 0 N [] _ _ rfl (((Ext.eb e1).updN it0).updN acc0) ((un' hal.symm).trans ((un' hil.symm).trans hl1)) ((un' hai.symm).trans up') up' ((un' han.symm).trans ((un' hin.symm).trans (e1 _ _ hnb))) hN (Nat.le_refl _) (by exact La.z78) (by simp) rfl rfl rfl
     intro l2
     induction l2 with
     | nil =>
      intro i N' ts ρ' σ' hd E1 g1 g2 g3 g4 hN' ht hi hs l1 l2' l3
      refine CP.turn X2 (by subst hC2; walk_at "kd") ?_
      refine nx_listE g2 g1 (by have := List.drop_eq_nil_iff.mp hd; simpa using this) ?_
      simp only [srcs,List.append_nil] at hs
      rw [hs] at q
      walk_at "r"
      refine fc_tuple ((del_ne hai).trans g3) (by exact La.l2 (.L .x0 .x1) (.L .x1 (.l 2)) (.T .x0 (.l 100000)) [[1,1,1]] rfl [_,_] [] ht hi) ?_;walk_at "r"
      refine ⟨by simp,?_⟩;walk_at "r"
      exact q _ (E1.delN it0) ((del_ne hin.symm).trans g4)
     | cons c2 l2 ih2 =>
      intro i N' ts ρ' σ' hd E1 g1 g2 g3 g4 hN' ht hi hs l1 l2' l3
      have hc2 : (parts H d)[i]? = some c2 := by
       have := congrArg List.head? hd
       simpa [List.head?_drop] using this
      have hd2 : (parts H d).drop (i + 1) = l2 := by
       have := congrArg List.tail hd
       simpa [List.tail_drop] using this
      have hm2 : c2 ∈ parts H d := List.mem_of_getElem? hc2
      refine La.c2 (parts_ok W okd c2 hm2) λ o2 n12 => ?_
      have hi2 : i < 2 := by have := (List.getElem?_eq_some_iff.mp hc2).1; have := parts_len (H := H) (c := d); exact La.l2 (.T .x0 .x1) (.L .x1 (.l 2)) (.T .x0 (.l 2)) [[1,1,1]] rfl [_,_] [] (by assumption) this
      refine CP.turn X2 (by subst hC2; walk_at "kd") ?_
      refine nx_list g2 g1 (V := cv c2) (by rw [List.getElem?_map,hc2]; rfl) ?_
      have E2 := E1.updN (m := .itL l (i + 1)) it0
      have k1 := (un' (m := .itL l (i + 1)) hil.symm).trans g1
      have k2 := up' (σ := σ') (a := it) (m := .itL l (i + 1))
      have k3 := (un' (m := .itL l (i + 1)) hai).trans g3
      have k4 := (un' (m := .itL l (i + 1)) hin.symm).trans g4
      generalize upd σ' it (.itL l (i + 1)) = σ2 at *
      refine IFS.nil (ite_t ?_)
      have sg := SY.ebD hnb E2
      have hh2 : σ2 hc = some (.list (H.map cv)) := E2 _ _ (by simp; exact ne_mm hh hnb (by simp)) hh
      subst hC2
      walk_at "r"
      refine ih n (by exact La.z12) n2 T2 sg hh2 o2 n12 (fin c2 hm2) hN' k4 λ σ3 e3 h3 => ?_;walk_at "r"
      have x1 := e3 _ _ (by simpa using hln) k1
      have x2 := e3 _ _ (by simpa using hin) k2
      have x3 := e3 _ _ (by simpa using han) k3
      refine fc_append x3 (by exact La.l2 (.L .x0 .x1) (.T .x1 (.l 2)) (.T .x0 (.l 100000)) [[1,1,1]] rfl [_,_] [] ht hi2) ?_
      refine ih2 (i + 1) (src H n N' c2).2 (ts ++ [(src H n N' c2).1]) _ _ hd2 ((E2.trans e3).updN acc0) ((un' hal.symm).trans x1) ((un' hai.symm).trans x2) up' ((un' han.symm).trans h3) (src_ok W n hN' o2) (by simp; assumption) (by exact La.l1 (.T .x0 (.l 2)) (.L (.a .x0 .l1) (.l 2)) [[1,1]] rfl [_] [] hi2) ?_ (by walk_at "lk") (by walk_at "lk") (by walk_at "lk")
      rw [hs]
      simp [srcs]
   ·rw [src_leaf hC] at q
    generalize der H c = d at *
    have lv : leafV N d = (.tup [.str (if d.1 = 4 then "a" else "i"),.int d.2],N) := if_neg h0
    rw [lv] at q
    walk_at "r"
    refine ⟨by simp,?_⟩;walk_at "r"
    refine ⟨by simp,?_⟩;walk_at "r"
    refine ⟨by simp,λ l hl => ?_⟩
    refine op_inC (l := [(4,0),(4,4)]) up' ?_
    have nl2 := ne_of hl hnb
    walk_at "r"
    have fin : ∀ (z : Str),(if d.1 = 4 then ("a" : Str) else "i") = z->Q (.tup [.str z,.int d.2]) (upd σ l (.list (([(4,0),(4,4)] : List Cell).map cv))) := λ z hz => by
     rw [hz] at q
     exact q _ (EB.new hl) (upd_old hl hnb)
    refine ite_of (λ h => ?_) λ h => ?_
    ·have h4 : d.1 = 4 := by
      have h := of_decide_eq_true h
      simp at h
      rcases h with h | h <;> rw [h]
     walk_at "r"
     refine ⟨by simp,?_⟩;walk_at "r"
     exact fin "a" (by rw [if_pos h4])
    ·have h4 : d.1 ≠ 4 := by
      have h := of_decide_eq_false h
      intro e
      apply h
      cases okd with
      | con0 => simp
      | con4 => simp
      | _ => simp at e
     walk_at "r"
     refine ⟨by simp,?_⟩;walk_at "r"
     exact fin "i" (by rw [if_neg h4])
end
end
section
local macro_rules | `(tactic| walk_at "kd") => `(tactic| first | ((refine kinG ?h ?n); (case h => rfl); (case n => decide)) | ((refine kinC ?h ?f ?c); (case h => rfl); (case f => assumption); (case c => walk_at "kd")))
set_option maxHeartbeats 4000000
section
variable {C : Cx} {ρ : Loc'} {σ : CH} {mg : Str->Option Value} {a : SA} {H : List Cell} {TX : List PV} {AN : List (Str × PV)} {FU : List Cell} {FN : List (List Int × PV)}
theorem lk_inLoc' {scope : Scope} {x : Str} (hx : scope.names.lookup x = some .free) : ∀ {ρ : Loc'} {V : PV},lk x ρ = some V->lk x (inLoc scope ρ) = some V
 | [],_,e => by simp [lk] at e
 | (y,W) :: r,V,e => by
  unfold inLoc
  rw [List.filter_cons]
  unfold lk at e
  by_cases h : x = y
  ·subst h
   simp only [if_true] at e
   rw [if_pos (by rw [hx]; rfl)]
   simp only [lk,if_true]; exact e
  ·simp only [h,if_false] at e
   have ih := lk_inLoc' hx (ρ := r) e
   by_cases hy : (scope.names.lookup y == some .free) = true
   ·rw [if_pos hy]; simp only [lk,h,if_false]; exact ih
   ·rw [if_neg hy]; exact ih
theorem swaps_not {elt : Expr} {gens : List Comprehension} {scope : Scope} {pos py : Pos} {y : Str} {n : Nat} {env : Env} (hk : env.kindOf y = some .cell) : swapsWith (.ListComp elt gens scope pos) (some (.Name y py)) n env = pure false := by
 show (pure (env.blockKind == .function && env.kindOf y == some .local && py.line == pos.line && !(scope.names.any λ (n,k) => n == y && (k == .local || k == .cell))) : Sem Bool) = pure false
 rw [hk,show (some NameKind.cell == some NameKind.local) = false from rfl,Bool.and_false]; rfl
theorem swaps_yes {elt : Expr} {gens : List Comprehension} {scope : Scope} {pos py : Pos} {y : Str} {n : Nat} {env : Env} (hb : env.blockKind = .function) (hk : env.kindOf y = some .local) (hl : (py.line == pos.line) = true) (hs : (scope.names.any λ (n,k) => n == y && (k == .local || k == .cell)) = false) :
  swapsWith (.ListComp elt gens scope pos) (some (.Name y py)) n env = pure true := by
 show (pure (env.blockKind == .function && env.kindOf y == some .local && py.line == pos.line && !(scope.names.any λ (n,k) => n == y && (k == .local || k == .cell))) : Sem Bool) = pure true
 rw [hb,hk,hl,hs]; rfl
theorem EX.comp {elt iter : Expr} {x y : Str} {px py pos spos : Pos} {ifs : List Expr} {scope : Scope} {rest : List Stmt} {Q : Fl->Loc'->CH->Prop} (ok : CompOk C ρ scope x) (hy : C.env.kindOf y = some .local)
  (hsw : swapsWith (.ListComp elt [⟨.Name x px,iter,ifs,0⟩] scope pos) (some (.Name y py)) spos.line C.env = pure true) (hs : ∀ x,foldedSetIterable iter C.env x = pure x)
  (h : EV C iter ρ σ λ V σ₁ => O1 C Rel (λ v => pyIter v) V ρ σ₁ λ W σ₂ => ∃ it,W = .ref it/\(∃ m,σ₂ it = some m/\((∃ a i,m = .itL a i)\/(∃ x left c,m = .itR x left c))) /\
   ∀ acc,σ₂ acc = none->∀ L cl C',C' = inCx C scope cl L->CP C' (.ListComp elt [⟨.Name x px,iter,ifs,0⟩] scope pos) it acc (inLoc scope ρ) (upd σ₂ acc (.list [])) λ σ₃ => EX C rest ((y,.ref acc) :: ρ) σ₃ Q) :
  EX C (.Assign [.Name y py] (.ListComp elt [⟨.Name x px,iter,ifs,0⟩] scope pos) spos :: rest) ρ σ Q := EX.cons (ES.comp ok hy hsw h hs)
end
end
section
set_option maxHeartbeats 4000000
theorem FinN.der {H : List Cell} (W : WF H) {c : Cell} (ok : okc H c) : ∀ {n : Nat},FinN H n (Mine.der H c) ↔ FinN H n c
 | 0 => by unfold FinN; rw [der_der W ok]
 | n + 1 => by unfold FinN; rw [der_der W ok]
theorem FinN.le {H : List Cell} {c : Cell} {n m : Nat} (h : FinN H n c) (hm : n<=m) : FinN H m c := by
 induction hm with
 | refl => exact h
 | step _ ih => exact ih.succ
theorem Met.closed {H f w r : List Cell} (m : Met H f w r) : (∀ c ∈ f,∀ p ∈ parts H c,Mine.der H p ∈ f\/p ∈ w)->∀ c ∈ r,∀ p ∈ parts H c,Mine.der H p ∈ r := by
 induction m with
 | nil => exact λ h c hc p hp => (h c hc p hp).resolve_right (by simp)
 | @old f c w r hd m ih =>
  intro h
  refine ih λ d hd' p hp => ?_
  rcases h d hd' p hp with h | h
  ·exact .inl h
  ·rcases List.mem_cons.mp h with rfl | h
   ·exact .inl hd
   ·exact .inr h
 | @new f c w r hd m ih =>
  intro h
  refine ih λ d hd' p hp => ?_
  rcases List.mem_append.mp hd' with hd' | hd'
  ·rcases h d hd' p hp with h | h
   ·exact .inl (List.mem_append_left _ h)
   ·rcases List.mem_cons.mp h with rfl | h
    ·exact .inl (by simp)
    ·exact .inr (List.mem_append_right _ h)
  ·simp at hd'; subst hd'
   exact .inr (List.mem_append_left _ hp)
theorem Met.good {H f w r : List Cell} (W : WF H) (m : Met H f w r) : (∀ c ∈ f,okc H c/\Mine.der H c = c)->(∀ c ∈ w,okc H c)->f.Nodup->(∀ c ∈ r,okc H c/\Mine.der H c = c)/\r.Nodup := by
 induction m with
 | nil => exact λ h _ n => ⟨h,n⟩
 | @old f c w r hd m ih => exact λ h hw n => ih h (λ c hc => hw c (List.mem_cons_of_mem _ hc)) n
 | @new f c w r hd m ih =>
  intro h hw n
  have okc1 := hw c List.mem_cons_self
  have okd := der_ok W okc1
  refine ih (λ d hd' => ?_) (λ d hd' => ?_) ?_
  ·rcases List.mem_append.mp hd' with hd' | hd'
   ·exact h d hd'
   ·simp at hd'; subst hd'; exact ⟨okd,der_der W okc1⟩
  ·rcases List.mem_append.mp hd' with hd' | hd'
   ·exact (parts_ok W okd d hd').1
   ·exact hw d (List.mem_cons_of_mem _ hd')
  ·rw [List.nodup_append]
   exact ⟨n,by simp,λ a ha b hb => by simp at hb; subst hb; rintro rfl; exact hd ha⟩
theorem Met.root {H r : List Cell} {c : Cell} (m : Met H [] [c] r) : Mine.der H c ∈ r := by
 cases m with
 | old h _ => cases h
 | new _ m => exact m.sub _ (by simp)
theorem Met.fin {H f w r : List Cell} (W : WF H) (m : Met H f w r) : (∀ c ∈ w,okc H c)->(∀ c ∈ f,∃ n,FinN H n c)->(∀ c ∈ w,∃ n,FinN H n c)->∀ c ∈ r,∃ n,FinN H n c := by
 induction m with
 | nil => exact λ _ h _ => h
 | @old f c w r hd m ih => exact λ hw h h2 => ih (λ c hc => hw c (List.mem_cons_of_mem _ hc)) h λ c hc => h2 c (List.mem_cons_of_mem _ hc)
 | @new f c w r hd m ih =>
  intro hw h h2
  have okc1 := hw c List.mem_cons_self
  have okd := der_ok W okc1
  refine La.x1_1 (h2 c List.mem_cons_self) λ n hn => ?_
  refine ih (λ d hd' => ?_) (λ d hd' => ?_) (λ d hd' => ?_)
  ·rcases List.mem_append.mp hd' with hd' | hd'
   ·exact (parts_ok W okd d hd').1
   ·exact hw d (List.mem_cons_of_mem _ hd')
  ·rcases List.mem_append.mp hd' with hd' | hd'
   ·exact h d hd'
   ·simp at hd'; subst hd'; exact ⟨n,(FinN.der W okc1).mpr hn⟩
  ·rcases List.mem_append.mp hd' with hd' | hd'
   ·have hn' : FinN H (n + 1) c := hn.succ
    exact ⟨n,hn' d hd'⟩
   ·exact h2 d (List.mem_cons_of_mem _ hd')
theorem trap {H L : List Cell} (W : WF H) (hL : ∀ c ∈ L,okc H c/\Mine.der H c = c/\isC c = true/\∃ p ∈ parts H c,Mine.der H p ∈ L) : ∀ (n : Nat),∀ c ∈ L,¬ FinN H n c
 | 0,c,hc,h => by
  refine La.c4 (hL c hc) λ _ e hC _ => ?_
  have h : isC (Mine.der H c) = false := h
  rw [e,hC] at h; cases h
 | n + 1,c,hc,h => by
  refine La.c4 (hL c hc) λ ok e hC h'1 => ?_; refine La.x1_2 h'1 λ p hp hd => ?_; clear h'1
  have h : ∀ p ∈ parts H (Mine.der H c),FinN H n p := h
  rw [e] at h
  have := h p hp
  exact trap W hL n _ hd ((FinN.der W (parts_ok W ok p hp).1).mpr this)
structure Elim (H r L : List Cell) (k : Nat) : Prop where
 sub : ∀ c ∈ L,c ∈ r/\isC c = true
 nd : L.Nodup
 fin : ∀ c ∈ r,isC c = true->c ∉ L->FinN H k c
 cnt : k + L.length<=(r.filter isC).length
theorem Elim.start {H r : List Cell} (hn : r.Nodup) : Elim H r (r.filter isC) 0 :=
 ⟨λ c hc => List.mem_filter.mp hc,hn.filter _,λ c hc hC hnot => absurd (List.mem_filter.mpr ⟨hc,hC⟩) hnot,by exact La.l0  (.L (.a .l0 .x0) .x0) [[1]] rfl [_] []⟩
theorem Elim.rem {H r L : List Cell} {k : Nat} (W : WF H) (E : Elim H r L k) (hg : ∀ c ∈ r,okc H c/\Mine.der H c = c) (hcl : ∀ c ∈ r,∀ p ∈ parts H c,Mine.der H p ∈ r) {c : Cell} (hc : c ∈ L) (hi : ∀ p ∈ parts H c,Mine.der H p ∉ L) : Elim H r (L.erase c) (k + 1) := by
 refine La.c2 (E.sub c hc) λ cr cC => ?_
 refine La.c2 (hg c cr) λ okc1 dc => ?_
 have hf : FinN H (k + 1) c := by
  show ∀ p ∈ parts H (Mine.der H c),FinN H k p
  rw [dc]
  intro p hp
  have okp := (parts_ok W okc1 p hp).1
  refine (FinN.der W okp).mp ?_
  cases hC : isC (Mine.der H p) with
  | true => exact E.fin _ (hcl c cr p hp) hC (hi p hp)
  | false =>
   refine FinN.le (n := 0) ?_ (Nat.zero_le _)
   show isC (Mine.der H (Mine.der H p)) = false
   rw [der_der W okp]; exact hC
 refine ⟨λ d hd => E.sub d (List.mem_of_mem_erase hd),E.nd.erase _,λ d hd hC hnot => ?_,?_⟩
 ·by_cases e : d = c
  ·subst e; exact hf
  ·exact (E.fin d hd hC λ h => hnot ((List.mem_erase_of_ne e).mpr h)).succ
 ·rw [List.length_erase_of_mem hc]
  have := List.length_pos_of_mem hc
  have := E.cnt
  exact La.l3 (.L (.a .l0 .l1) .x0) (.L (.a .x1 .x0) .x2) (.o (.w (.L .l1 .x0) (.Q (.a .x3 .l1) .x0)) (.w (.L (.a .x0 .l1) .l1) (.Q .x3 .l0))) (.L (.a (.a .x1 .l1) .x3) .x2) [[0,1,0,1,0,1],[1,0,1,0,0,0]] rfl [_,_,_,_] [] (by assumption) this (La.sb _ _)
end
section
set_option maxHeartbeats 4000000
theorem hat_mem {H : List Cell} {v : Nat} (h : v < H.length) : hat H v ∈ H := List.mem_of_getElem? (hat_get h)
theorem der_mem {H : List Cell} (W : WF H) {c : Cell} (ok : okc H c) : der H c = c\/der H c ∈ H :=
 der_ind W (P := λ c d => d = c\/d ∈ H) (λ _ _ _ => .inl rfl) (λ _ _ _ => .inl rfl) (λ v d hv _ _ _ _ ih => .inr (by
  rcases ih with rfl | h
  ·exact hat_mem hv
  ·exact h)) ok
theorem parts_mem {H : List Cell} {c : Cell} (ok : okc H c) : ∀ p ∈ parts H c,p ∈ H := by
 intro p hp
 by_cases hc : isC c = true
 ·refine La.x1_5 (ok.comp hc) λ q hq hpl hw2 harg hk => ?_
  simp only [parts,List.mem_map,List.mem_range] at hp
  refine La.x1_2 hp λ k hk h'1 => ?_; clear hp; subst h'1
  rw [hq]
  exact hat_mem (v := q + k) (by exact La.z79 hpl hk)
 ·rw [parts_non (by simpa using hc)] at hp; cases hp
theorem met_run {H : List Cell} (W : WF H) (U : List Cell) (hU : ∀ x ∈ H,x ∈ U) : ∀ (n : Nat) (f w : List Cell),3 * (U.length + 1 - f.length) + w.length<=n->f.Nodup->(∀ c ∈ f,c ∈ U)->(∀ c ∈ w,okc H c/\der H c ∈ U)->∃ r,Met H f w r/\r.Nodup/\∀ c ∈ r,c ∈ U
 | n,f,[],_,hn,hf,_ => ⟨f,.nil,hn,hf⟩
 | 0,f,c :: w,h,_,_,_ => by simp at h
 | n + 1,f,c :: w,h,hn,hf,hw => by
  refine La.c2 (hw c List.mem_cons_self) λ okc1 dU => ?_
  by_cases hd : der H c ∈ f
  ·refine La.x1_2 (met_run W U hU n f w (by simp at h; exact La.l1 (.L (.a (.m 3 .x0) (.a .x1 .l1)) (.a .x2 .l1)) (.L (.a (.m 3 .x0) .x1) .x2) [[1,1]] rfl [_,_,_] [] h) hn hf λ d hd => hw d (List.mem_cons_of_mem _ hd)) λ r h1 h2 => ?_
   exact ⟨r,.old hd h1,h2⟩
  ·have hn' : (f ++ [der H c]).Nodup := by
    rw [List.nodup_append]
    exact ⟨hn,by simp,λ a ha b hb => by simp at hb; subst hb; rintro rfl; exact hd ha⟩
   have hf' : ∀ d ∈ f ++ [der H c],d ∈ U := λ d hd' => by
    rcases List.mem_append.mp hd' with hd' | hd'
    ·exact hf d hd'
    ·simp at hd'; subst hd'; exact dU
   have := nodup_len hn' hf'
   have pl := parts_len (H := H) (c := der H c)
   have okd := der_ok W okc1
   obtain ⟨r,h1,h2⟩ := met_run W U hU n (f ++ [der H c]) (parts H (der H c) ++ w) (by simp at h this ⊢; exact La.la [.L (.a (.m 3 .x2) (.a .x3 .l1)) (.a .x4 .l1),.L .x5 (.l 2),.L (.a .x1 .l1) .x0,.o (.w (.L .x1 (.a .x0 .l1)) (.Q (.a .x2 .x1) (.a .x0 .l1))) (.w (.L (.a (.a .x0 .l1) .l1) .x1) (.Q .x2 .l0)),.o (.w (.L .x1 .x0) (.Q (.a (.v 6) .x1) .x0)) (.w (.L (.a .x0 .l1) .x1) (.Q (.v 6) .l0))] (.L (.a (.m 3 (.v 6)) (.a .x5 .x3)) .x4) [[1,1,0,0,0,3,0,3,0,1],[0,0,1,0,0,0,1,0,0,0],[0,0,1,1,0,0,0,0,0,0],[0,0,1,1,0,0,0,0,0,0]] rfl [_,_,_,_,_,_,_] [] ⟨h,pl,this,(La.sb _ _),(La.sb _ _),trivial⟩) hn' hf' λ d hd' => by
    rcases List.mem_append.mp hd' with hd' | hd'
    ·have okp := (parts_ok W okd d hd').1
     refine ⟨okp,?_⟩
     rcases der_mem W okp with e | e
     ·rw [e]; exact hU _ (parts_mem okd d hd')
     ·exact hU _ e
    ·exact hw d (List.mem_cons_of_mem _ hd')
   exact ⟨r,.new hd h1,h2⟩
theorem met_ex {H : List Cell} (W : WF H) {c : Cell} (ok : okc H c) : ∃ r,Met H [] [c] r/\r.length<=H.length + 1 := by
 obtain ⟨r,h1,h2,h3⟩ := met_run W (H ++ [der H c]) (λ x hx => List.mem_append_left _ hx) _ [] [c] (Nat.le_refl _) (by simp) (λ _ h => by cases h) λ d hd => by
  simp at hd; subst hd; exact ⟨ok,by simp⟩
 exact ⟨r,h1,by have := nodup_len h2 h3; simpa using this⟩
theorem ll_run {H : List Cell} (W : WF H) : ∀ (n : Nat) (s f : List Cell) (c : Cell),H.length - s.length<=n->s.Nodup->(∀ x ∈ s,∃ v : Nat,x = (3,(v : Int))/\v < H.length)->f.length = s.length->okc H c->∃ r,LL H s f c r/\r.1.length<=H.length := by
 have lenS : ∀ {s : List Cell},s.Nodup->(∀ x ∈ s,∃ v : Nat,x = (3,(v : Int))/\v < H.length)->s.length<=H.length := λ {s} hn hs => by
  have := nodup_len (m := (List.range H.length).map λ v : Nat => ((3,(v : Int)) : Cell)) hn λ x hx => by
   refine La.x1_2 (hs x hx) λ v h'1 hv => ?_; subst h'1
   exact List.mem_map.mpr ⟨v,by simpa using hv,rfl⟩
  simpa using this
 intro n
 induction n with
 | zero =>
  intro s f c h hn hs hf ok
  by_cases h3 : c.1 = 3/\c ∉ s
  ·exfalso
   revert h3; refine La.k2 λ h3 hc => ?_
   cases ok with
   | lis v g1 _ _ =>
    have hn' : (s ++ [(3,(v : Int))]).Nodup := by
     rw [List.nodup_append]
     exact ⟨hn,by simp,λ a ha b hb => by simp at hb; subst hb; rintro rfl; exact hc ha⟩
    have := lenS hn' λ x hx => by
     rcases List.mem_append.mp hx with hx | hx
     ·exact hs x hx
     ·simp at hx; exact ⟨v,hx,by exact La.z4 g1⟩
    simp at this; exact La.l3 (.L .x2 .l0) (.L (.a .x1 .l1) .x0) (.o (.w (.L .x1 .x0) (.Q (.a .x2 .x1) .x0)) (.w (.L (.a .x0 .l1) .x1) (.Q .x2 .l0))) .F [[1,1,0,0,1],[0,1,1,0,0]] rfl [_,_,_] [] h this (La.sb _ _)
   | _ => simp at h3
  ·refine ⟨(f,c),.stop ?_,by rw [hf]; exact lenS hn hs⟩
   by_cases q : c.1 = 3
   ·exact .inr (by
     by_cases z : c ∈ s
     ·exact z
     ·exact absurd ⟨q,z⟩ h3)
   ·exact .inl q
 | succ n ih =>
  intro s f c h hn hs hf ok
  by_cases h3 : c.1 = 3/\c ∉ s
  ·revert h3; refine La.k2 λ h3 hc => ?_
   cases ok with
   | lis v g1 g2 g3 =>
    have hn' : (s ++ [(3,(v : Int))]).Nodup := by
     rw [List.nodup_append]
     exact ⟨hn,by simp,λ a ha b hb => by simp at hb; subst hb; rintro rfl; exact hc ha⟩
    have hs' : ∀ x ∈ s ++ [(3,(v : Int))],∃ v : Nat,x = (3,(v : Int))/\v < H.length := λ x hx => by
     rcases List.mem_append.mp hx with hx | hx
     ·exact hs x hx
     ·simp at hx; exact ⟨v,hx,by exact La.z4 g1⟩
    have := lenS hn' hs'
    refine La.x1_2 (ih (s ++ [(3,(v : Int))]) (f ++ [der H (hat H v)]) (der H (hat H (v + 1 : Nat))) (by simp at this ⊢; exact La.l2 (.L .x2 (.a .x3 .l1)) (.o (.w (.L .x1 .x0) (.Q (.a .x2 .x1) .x0)) (.w (.L (.a .x0 .l1) .x1) (.Q .x2 .l0))) (.L .x0 (.a .x3 (.a .x1 .l1))) [[1,0,0,1,1],[0,1,0,0,1]] rfl [_,_,_,_] [] h (La.sb _ _)) hn' hs' (by simp [hf]) (der_ok W (W.at (v := v + 1) g1 g3).1)) λ r h1 h2 => ?_
    exact ⟨r,.go hc h1,h2⟩
   | _ => simp at h3
  ·refine ⟨(f,c),.stop ?_,by rw [hf]; exact lenS hn hs⟩
   by_cases q : c.1 = 3
   ·exact .inr (by
     by_cases z : c ∈ s
     ·exact z
     ·exact absurd ⟨q,z⟩ h3)
   ·exact .inl q
theorem ll_ex {H : List Cell} (W : WF H) {c : Cell} (ok : okc H c) : ∃ r,LL H [] [] c r/\r.1.length<=H.length := ll_run W _ [] [] c (Nat.le_refl _) (by simp) (λ _ h => by cases h) rfl ok
end
section
set_option maxHeartbeats 4000000
section
variable {C : Cx} {σ : CH} {mg : Str->Option Value} {a : SA} {H S : List Cell}
theorem fc_occurs_srf {n : Nat} (hn : C.n = n + 2) (T : TC C mg) (SO : StOk σ a H [(1,0)]) (W : WF H) (hlen : H.length < 1000) {c : Cell} (ok : okc H c) {Q : PV->CH->Prop} (q : Q (.bool (decide (c.1 = 1))) σ) : FC C (.ref 439) [.ref a.st,cv (1,0),cv c] σ Q := by
 refine FC.top hn T (T.fn "occurs_in" rfl) (names := ["store","variable","cell"]) (HB.three λ _ _ _ _ _ _ _ _ _ _ => rfl) rfl rfl rfl (by decide) (by decide) λ C' hn' sc T' X => ?_
 walk_at "b";walk_at "r"
 refine fc_deref hn' T' SO W hlen ok (λ _ => rfl) ?_
 have okd := der_ok W ok
 by_cases h1 : c.1 = 1
 ·have e : der H c = (1,0) := by
   rw [der_non (by rw [h1]; decide)]
   cases ok with
   | srf => rfl
   | _ => simp at h1
  rw [decide_eq_true h1] at q
  rw [e]
  walk_at "r"
  refine ite_of (λ _ => ?_) λ h => absurd h (by simp);walk_at "r"
  exact q
 ·have d1 := der_ne1 W ok h1
  rw [decide_eq_false h1] at q
  generalize der H c = d at *
  walk_at "r"
  refine ite_of (λ h => absurd (of_decide_eq_true h) (λ e => d1 (by rw [e]))) λ _ => ?_;walk_at "r"
  refine ite_of (λ _ => ?_) λ h => absurd h (by simp)
  refine ite_t ?_;walk_at "r"
  exact q
end
end
section
local macro_rules | `(tactic| walk_at "kd") => `(tactic| first | ((refine kinG ?h ?n); (case h => rfl); (case n => decide)) | ((refine kinC ?h ?f ?c); (case h => rfl); (case f => assumption); (case c => walk_at "kd")))
set_option maxHeartbeats 4000000
section
variable {C : Cx} {σ : CH} {mg : Str->Option Value} {a : SA} {H S : List Cell} {TX : List PV} {AN : List (Str × PV)} {FU : List Cell} {FN : List (List Int × PV)}
theorem ET.listv {ρ : Loc'} {e : Expr} {Q : Bool->CH->Prop} (h : EV C e ρ σ λ V σ₁ => ∃ a l,V = .ref a/\σ₁ a = some (.list l)/\l.length < 1000000/\Q (!l.isEmpty) σ₁) (he : isTrue e C.env (eval e C.env) = (do let v <- eval e C.env; standAt e.pos; holding [v] (truthy v)) := by rfl) : ET C e ρ σ Q :=
 λ A s G S => wpAny_isTrue_value (h.seq G S λ V a σ₁ s₁ hb r₁ S₁ st₁ _ => La.x2_4 hb λ x l e hx hl q => by
  subst e
  cases r₁
  refine La.x2_2 (S₁.inv.1 _ _ hx) λ items n g rl => ?_
  have el := rl.length
  refine wpAny_truthy_list ⟨_,g,rfl,n,rfl⟩ (by simp at el; omega) ?_
  refine PG.up st₁ (PG.now S₁ q ?_)
  show (!items.isEmpty) = (!l.isEmpty)
  rw [show items.isEmpty = items.toList.isEmpty by simp]
  cases l <;> cases hq : items.toList <;> simp [hq] at el ⊢) he
theorem cvs_erase {L : List Cell} {d : Cell} : (L.map cv).eraseIdx (L.idxOf d) = (L.erase d).map cv := by
 induction L with
 | nil => rfl
 | cons x L ih =>
  by_cases h : x = d
  ·subst h; simp
  ·rw [List.idxOf_cons,show (x == d) = false from by simpa using h,List.erase_cons_tail (by simpa using h)]
   simp [ih]
theorem cvs_first {L : List Cell} {d : Cell} : ∀ m,m < L.idxOf d->(L.map cv)[m]? ≠ some (cv d) := by
 induction L with
 | nil => intro m _ h; simp at h
 | cons x L ih =>
  intro m hm h
  by_cases e : x = d
  ·subst e; simp at hm
  ·rw [List.idxOf_cons,show (x == d) = false from by simpa using e] at hm
   simp only [cond_false] at hm
   cases m with
   | zero => simp [cv_inj] at h; exact e h
   | succ m => exact ih m (by exact La.l1 (.T (.a .x0 .l1) (.a .x1 .l1)) (.T .x0 .x1) [[1,1]] rfl [_,_] [] hm) (by simpa using h)
theorem cvs_at {L : List Cell} {d : Cell} (h : d ∈ L) : (L.map cv)[L.idxOf d]? = some (cv d) := by
 have := List.idxOf_lt_length_iff.mpr h
 rw [List.getElem?_map,List.getElem?_eq_getElem this,List.getElem_idxOf]; rfl
theorem fc_law_finite {n : Nat} (hn : C.n = n + 4) (T : TC C mg) {hc : Addr} (hh : σ hc = some (.list (H.map cv))) (SY : SyOk σ a TX AN FU FN) (FO : FuOk FU) (W : WF H) (hlen : H.length < 900) {c : Cell} (ok : okc H c) {r : List Cell} (m : Met H [] [c] r) (hr : r.length<=400)
  {Q : PV->CH->Prop} (q : ∀ (b : Bool) σ',Ext σ σ'->(b = true->FinN H (r.filter isC).length c)->(b = false->∀ n,¬ FinN H n c)->Q (.bool b) σ') : FC C (.ref 563) [.ref a.sy,.ref hc,cv c] σ Q := by
 refine FC.top hn T (T.fn "_law_finite" rfl) (names := ["signs","heap","cell"]) (HB.three λ _ _ _ _ _ _ _ _ _ _ => rfl) rfl rfl rfl (by decide) (by decide) λ C' hn' sc T' X => ?_
 walk_at "b"
 refine EV.fcall T' (T'.fn "_law_met" rfl) (by walk_at "kd") ?_;walk_at "r"
 refine fc_law_met hn' T' hh SY FO W (by exact La.z2 hlen) ok m hr λ wh σ1 e1 wh0 wh1 => ?_
 have hfk : C'.env.scope.kind = .function := by rw [sc]; rfl
 refine EX.assign (.inr (by walk_at "kd")) (swaps_not (by walk_at "kd")) ?_
 refine EV.comp ⟨rfl,by decide,by decide,rfl,?_⟩ ?_
 ·intro y hy hf
  simp only [List.mem_cons,List.not_mem_nil,or_false] at hy
  rcases hy with rfl | rfl | rfl | rfl <;> cases hf
 walk_at "r"
 refine it_list wh1 λ it hit => ⟨it,rfl,⟨_,up',.inl ⟨_,_,rfl⟩⟩,λ acc hacc L cl C2 hC2 => ?_⟩
 have T2 : TC C2 mg := by rw [hC2]; exact T'
 have X2 : ∀ e σ s,¬ C2.X e σ s := by rw [hC2]; exact X
 have hai : acc ≠ it := λ q => by rw [q,up'] at hacc; cases hacc
 have hacc1 := uN' hacc
 have hal : acc ≠ wh := λ q => by rw [q,wh1] at hacc1; cases hacc1
 have hil : it ≠ wh := λ q => by rw [q,wh1] at hit; cases hit
 have it0 := e1.none hit
 have acc0 := e1.none hacc1
 refine (?_ : ∀ (l2 : List Cell) (i : Nat) (ρ' : Loc') (σ' : CH),r.drop i = l2->Ext σ σ'->σ' wh = some (.list (r.map cv))->σ' it = some (.itL wh i)->σ' acc = some (.list (((r.take i).filter isC).map cv))->CP C2 _ it acc ρ' σ' _)
  r 0 _ _ rfl ((e1.updN it0).updN acc0) ((un' hal.symm).trans ((un' hil.symm).trans wh1)) ((un' hai.symm).trans up') (by rw [up']; rfl)
 intro l2
 induction l2 with
 | nil =>
  intro i ρ' σ' hd E1 g1 g2 g3
  refine CP.turn X2 (by subst hC2; walk_at "kd") ?_
  have hi := List.drop_eq_nil_iff.mp hd
  refine nx_listE g2 g1 (by simpa using hi) ?_
  rw [List.take_of_length_le hi] at g3
  have E2 := E1.delN it0
  have h3 := (del_ne hai).trans g3
  generalize del σ' it = σ2 at *
  clear E1 g1 g2 g3 hd hi
  walk_at "r"
  refine EX.while X λ R hR => ?_
  have gd := m.good W (λ _ h => by cases h) (λ x hx => by simp at hx; subst hx; exact ok) (by simp)
  have hcl := m.closed (λ _ h => by cases h)
  have hroot := m.root
  have mfin := m.fin W (λ x hx => by simp at hx; subst hx; exact ok) (λ _ h => by cases h)
  have done : ∀ (L : List Cell) (k : Nat) (ρ : Loc') (σ' : CH),Elim H r L k->Ext σ σ'->σ' acc = some (.list (L.map cv))->(∀ c ∈ L,∃ p ∈ parts H c,der H p ∈ L)->lk "left" ρ = some (.ref acc)->R .next ρ σ' := λ L k ρ σ' E e1 h1 htr hl => by
   refine hR.next ?_;walk_at "r"
   refine ⟨by simp,λ e he => ?_⟩;walk_at "r"
   refine op_eqCs (l := L) (m := []) (upd_old he h1) up' ?_;walk_at "r"
   refine q _ _ (e1.updN (e1.none he)) (λ hb => ?_) λ hb n hf => ?_
   ·have hL : L = [] := of_decide_eq_true hb
    subst hL
    refine (FinN.der W ok).mp (FinN.le (n := k) ?_ (by have := E.cnt; simpa using this))
    cases hC : isC (der H c) with
    | true => exact E.fin _ hroot hC (by simp)
    | false =>
     refine FinN.le (n := 0) ?_ (Nat.zero_le _)
     show isC (der H (der H c)) = false
     rw [der_der W ok]; exact hC
   ·have hL : L ≠ [] := of_decide_eq_false hb
    obtain ⟨x,L',rfl⟩ : ∃ x L',L = x :: L' := by
     cases L with
     | nil => exact absurd rfl hL
     | cons x L' => exact ⟨x,L',rfl⟩
    refine La.x1_1 (mfin (λ y hy => by simp at hy; subst hy; exact ⟨n,hf⟩) x (E.sub x List.mem_cons_self).1) λ n' hn' => ?_
    exact trap W (L := x :: L') (λ y hy => ⟨(gd.1 y (E.sub y hy).1).1,(gd.1 y (E.sub y hy).1).2,(E.sub y hy).2,htr y hy⟩) n' x List.mem_cons_self hn'
  clear hR
  refine (?_ : ∀ (N : Nat) (L : List Cell) (k : Nat) (g : Bool) (ρ : Loc') (σ' : CH),2 * L.length + (if g = true then 1 else 0)<=N->Elim H r L k->Ext σ σ'->σ' acc = some (.list (L.map cv))->(g = false->∀ c ∈ L,∃ p ∈ parts H c,der H p ∈ L) ->
   lk "left" ρ = some (.ref acc)->lk "signs" ρ = some (.ref a.sy)->lk "heap" ρ = some (.ref hc)->lk "going" ρ = some (.bool g)->WH C' _ _ ρ σ' R) (2 * (r.filter isC).length + 1) (r.filter isC) 0 true _ _ (by simp) (Elim.start gd.2) E2 h3 (λ h => by cases h) (by walk_at "lk") (by walk_at "lk") (by walk_at "lk") (by walk_at "lk")
  intro N
  induction N using Nat.strongRecOn with
  | ind N ihN =>
   intro L k g ρ σ' hN E e1 h1 htr l1 l2 l3 l4
   refine WH.go X λ R' hR' => ?_;walk_at "r"
   cases g with
   | false =>
    refine ite_f ?_
    exact done L k ρ σ' E e1 h1 (htr rfl) l1
   | true =>
    refine ite_t ?_;walk_at "r"
    have Ll : L.length<=r.length := by have := E.cnt; have := List.length_filter_le isC r; exact La.z95 (by assumption) this
    refine fc_list h1 (by simp; exact La.z96 hr Ll) λ cp hcp => ?_
    refine it_list up' λ it2 hit2 => ⟨it2,rfl,λ R2 hR2 => ?_⟩
    have hit2' := uN' hit2
    have hci : cp ≠ it2 := λ q => by rw [<- q,up'] at hit2; cases hit2
    have hca : cp ≠ acc := (ne_of hcp h1).symm
    have hia : it2 ≠ acc := (ne_of hit2' h1).symm
    have cp0 := e1.none hcp
    have it20 := e1.none hit2'
    refine FL.over (a := cp) (l := L.map cv) X (by walk_at "kd2") (λ i ρ' σ'' => ∃ (L' : List Cell) (k' : Nat) (g' : Bool),Elim H r L' k'/\Ext σ σ''/\σ'' cp = some (.list (L.map cv))/\σ'' acc = some (.list (L'.map cv))/\(g' = false->L' = L/\∀ c ∈ L.take i,∃ p ∈ parts H c,der H p ∈ L) /\
     (g' = true->L'.length < L.length)/\(∀ x ∈ L.drop i,x ∈ L')/\lk "left" ρ' = some (.ref acc)/\lk "signs" ρ' = some (.ref a.sy)/\lk "heap" ρ' = some (.ref hc)/\lk "going" ρ' = some (.bool g')) ?_ ?_ ?_
     (L.map cv).length 0 _ _ rfl ⟨L,k,false,E,(e1.updN cp0).updN it20,(un' hci).trans up',(un' hia.symm).trans ((un' hca.symm).trans h1),λ _ => ⟨rfl,λ c h => by simp at h⟩,λ h => (by cases h),λ x h => by simpa using h,by walk_at "lk",by walk_at "lk",by walk_at "lk",by walk_at "lk"⟩ up'
    ·intro i V ρ σ5 hV h'1 hi5 R3 hR3 _; refine La.x3_11 h'1 λ L' k' g' E5 e5 c5 a5 hg0 hg1 hsub m1 m2 m3 m4 => ?_; clear h'1
     have e6 := e5.updN (m := .itL cp (i + 1)) it20
     have c6 := (un' (m := .itL cp (i + 1)) hci).trans c5
     have a6 := (un' (m := .itL cp (i + 1)) hia.symm).trans a5
     have i6 := up' (σ := σ5) (a := it2) (m := .itL cp (i + 1))
     generalize upd σ5 it2 (.itL cp (i + 1)) = σ6 at *
     obtain ⟨d,hd,rfl⟩ : ∃ d,L[i]? = some d/\V = cv d := by
      rw [List.getElem?_map] at hV
      cases z : L[i]? with
      | none => rw [z] at hV; cases hV
      | some d => rw [z] at hV; exact ⟨d,rfl,(Option.some.inj hV).symm⟩
     have hil2 : i < L.length := (List.getElem?_eq_some_iff.mp hd).1
     have hdrop : L.drop i = d :: L.drop (i + 1) := by
      rw [List.drop_eq_getElem_cons hil2]
      congr 1
      exact (List.getElem?_eq_some_iff.mp hd).2
     have hdL' : d ∈ L' := hsub d (by rw [hdrop]; exact List.mem_cons_self)
     have hdr := (E5.sub d hdL').1
     have okd := (gd.1 d hdr).1
     have hbk : C'.env.blockKind = .function := by unfold Env.blockKind; rw [sc]; rfl
     have L'l : L'.length<=r.length := by have := E5.cnt; have := List.length_filter_le isC r; exact La.z95 (by assumption) this
     refine EX.comp ⟨rfl,by decide,by decide,rfl,?_⟩ (by walk_at "kd") (swaps_yes hbk (by walk_at "kd") rfl (by decide)) (by intro _; rfl) ?_
     ·intro y hy hf
      simp only [List.mem_cons,List.not_mem_nil,or_false] at hy
      rcases hy with rfl | rfl | rfl | rfl
      ·cases hf
      ·cases hf
      ·cases hf
      ·exact ⟨.inl (by walk_at "kd"),by rw [show lk "heap" _ = some (PV.ref hc) from (by walk_at "lk")]; rfl⟩
     refine EV.fcall T' (T'.fn "_law_parts" rfl) (by walk_at "kd") ?_;walk_at "r"
     refine fc_law_parts hn' T' (e6 _ _ hh) (SY.ext e6) FO (by exact La.z2 hlen) okd λ pl σ7 e7 pl0 pl1 => ?_
     refine it_list pl1 λ it3 hit3 => ⟨it3,rfl,⟨_,up',.inl ⟨_,_,rfl⟩⟩,λ ac3 hac3 L3 cl3 C3 hC3 => ?_⟩
     have T3 : TC C3 mg := by rw [hC3]; exact T'
     have X3 : ∀ e σ s,¬ C3.X e σ s := by rw [hC3]; exact X
     have n3 : C3.n = n + 3 := by rw [hC3]; show C'.n = _; assumption
     have q1 : ac3 ≠ it3 := λ q => by rw [q,up'] at hac3; cases hac3
     have hac3' := uN' hac3
     have q2 : ac3 ≠ pl := λ q => by rw [q,pl1] at hac3'; cases hac3'
     have q3 : it3 ≠ pl := λ q => by rw [q,pl1] at hit3; cases hit3
     have it30 := e7.none hit3
     have ac30 := e7.none hac3'
     refine (?_ : ∀ (l3 : List Cell) (j : Nat) (ρ' : Loc') (σ' : CH),(parts H d).drop j = l3->Ext σ6 σ'->σ' pl = some (.list ((parts H d).map cv))->σ' it3 = some (.itL pl j)->σ' ac3 = some (.list ((((parts H d).take j).map (der H)).map cv))->lk "heap" ρ' = some (.ref hc)->CP C3 _ it3 ac3 ρ' σ' _)
      (parts H d) 0 _ _ rfl ((e7.updN it30).updN ac30) ((un' q2.symm).trans ((un' q3.symm).trans pl1)) ((un' q1.symm).trans up') (by rw [up']; rfl) (lk_inLoc' rfl (by walk_at "lk"))
     intro l3
     induction l3 with
     | nil =>
      intro j ρ'' σ8 hd8 E8 g1 g2 g3 m8
      refine CP.turn X3 (by subst hC3; walk_at "kd") ?_
      have hj := List.drop_eq_nil_iff.mp hd8
      refine nx_listE g2 g1 (by simpa using hj) ?_
      rw [List.take_of_length_le hj] at g3
      have E9 := E8.delN it30
      have a9 := (del_ne q1).trans g3
      generalize Mine.del σ8 it3 = σ9 at *
      clear g1 g2 g3 E8 hd8 hj m8
      refine EX.ite λ R4 hR4 => ?_
      refine ET.not ?_
      refine ET.listv ?_
      refine EV.comp ⟨rfl,by decide,by decide,rfl,?_⟩ ?_
      ·intro y hy hf
       simp only [List.mem_cons,List.not_mem_nil,or_false] at hy
       rcases hy with rfl | rfl | rfl
       ·cases hf
       ·cases hf
       ·exact ⟨.inl (by walk_at "kd"),by rw [show lk "left" _ = some (PV.ref acc) from (by walk_at "lk")]; rfl⟩
      walk_at "r"
      refine it_list a9 λ it4 hit4 => ⟨it4,rfl,⟨_,up',.inl ⟨_,_,rfl⟩⟩,λ ac4 hac4 L4 cl4 C4 hC4 => ?_⟩
      have T4 : TC C4 mg := by rw [hC4]; exact T'
      have X4 : ∀ e σ s,¬ C4.X e σ s := by rw [hC4]; exact X
      have w1 : ac4 ≠ it4 := λ q => by rw [q,up'] at hac4; cases hac4
      have hac4' := uN' hac4
      have w2 : ac4 ≠ ac3 := λ q => by rw [q,a9] at hac4'; cases hac4'
      have w3 : it4 ≠ ac3 := λ q => by rw [q,a9] at hit4; cases hit4
      have it40 := E9.none hit4
      have ac40 := E9.none hac4'
      have pll : (parts H d).length<=2 := parts_len
      refine (?_ : ∀ (l4 : List Cell) (j : Nat) (ρ' : Loc') (σ' : CH),((parts H d).map (der H)).drop j = l4->Ext σ6 σ'->σ' ac3 = some (.list (((parts H d).map (der H)).map cv))->σ' it4 = some (.itL ac3 j)->σ' ac4 = some (.list (((((parts H d).map (der H)).take j).filter (· ∈ L')).map cv))->lk "left" ρ' = some (.ref acc)->CP C4 _ it4 ac4 ρ' σ' _)
       ((parts H d).map (der H)) 0 _ _ rfl ((E9.updN it40).updN ac40) ((un' w2.symm).trans ((un' w3.symm).trans a9)) ((un' w1.symm).trans up') (by rw [up']; rfl) (lk_inLoc' rfl (by walk_at "lk"))
      intro l4
      induction l4 with
      | nil =>
       intro j ρ'' σ8 hd8 E8 g1 g2 g3 m8
       refine CP.turn X4 (by subst hC4; walk_at "kd") ?_
       have hj := List.drop_eq_nil_iff.mp hd8
       refine nx_listE g2 g1 (by simpa using hj) ?_
       rw [List.take_of_length_le hj] at g3
       have E10 := E8.delN it40
       have a10 := (del_ne w1).trans g3
       generalize Mine.del σ8 it4 = σ10 at *
       clear g1 g2 g3 E8 hd8 hj m8
       have fl := List.length_filter_le (λ x => decide (x ∈ L')) ((parts H d).map (der H))
       refine ⟨_,_,rfl,a10,by simp at fl ⊢; exact La.l2 (.L .x0 (.l 2)) (.L .x1 .x0) (.T .x1 (.l 1000000)) [[1,1,1]] rfl [_,_] [] pll fl,?_⟩
       have e10 := e6.trans E10
       have c10 := E10 _ _ c6
       have l10 := E10 _ _ a6
       have i10 := E10 _ _ i6
       have L'L : L'.length<=L.length := by
        cases g' with
        | true => exact Nat.le_of_lt (hg1 rfl)
        | false => rw [(hg0 rfl).1]; exact Nat.le_refl _
       refine ite_of (λ hF => ?_) λ hF => ?_
       ·have hi : ∀ p ∈ parts H d,Mine.der H p ∉ L' := λ p hp hin => by
         have : der H p ∈ ((parts H d).map (der H)).filter (λ x => decide (x ∈ L')) := List.mem_filter.mpr ⟨List.mem_map.mpr ⟨p,hp,rfl⟩,by simpa using hin⟩
         cases hz : ((parts H d).map (der H)).filter (λ x => decide (x ∈ L')) with
         | nil => rw [hz] at this; cases this
         | cons x y => rw [hz] at hF; simp at hF
        refine EX.expr rfl ?_
        refine EV.lremove T' rfl rfl rfl rfl ?_;walk_at "r"
        refine ⟨_,_,rfl,l10,?_⟩;walk_at "r"
        refine ⟨_,L'.idxOf d,l10,by simp; exact La.z96 hr L'l,cvs_pls _,Nat.le_trans (cvs_dep _) (by decide),cvs_at hdL',cvs_first,?_⟩
        rw [cvs_erase]
        walk_at "r"
        have hpos := List.length_pos_of_mem hdL'
        refine hR3 _ _ ⟨L'.erase d,k' + 1,true,E5.rem W gd.1 hcl hdL' hi,e10.updN acc0,(un' hca).trans c10,up',λ h => (by cases h),λ _ => ?_,λ x hx => ?_,by walk_at "lk",by walk_at "lk",by walk_at "lk",by walk_at "lk"⟩ ((un' hia).trans i10)
        ·rw [List.length_erase_of_mem hdL']; exact La.l3 (.L .x0 .x1) (.L (.a .l0 .l1) .x0) (.o (.w (.L .l1 .x0) (.Q (.a .x2 .l1) .x0)) (.w (.L (.a .x0 .l1) .l1) (.Q .x2 .l0))) (.L (.a .x2 .l1) .x1) [[1,0,0,1,0,1],[0,1,1,0,0,0]] rfl [_,_,_] [] L'L hpos (La.sb _ _)
        ·have hnd : (L.drop i).Nodup := E.nd.sublist (List.drop_sublist _ _)
         rw [hdrop] at hnd
         have := (List.nodup_cons.mp hnd).1
         exact (List.mem_erase_of_ne (λ e : x = d => this (e ▸ hx))).mpr (hsub x (by rw [hdrop]; exact List.mem_cons_of_mem _ hx))
       ·walk_at "r"
        refine hR3 _ _ ⟨L',k',g',E5,e10,c10,l10,λ hg => ⟨(hg0 hg).1,λ c hc => ?_⟩,hg1,λ x hx => hsub x (by rw [hdrop]; exact List.mem_cons_of_mem _ hx),by walk_at "lk",by walk_at "lk",by walk_at "lk",by walk_at "lk"⟩ i10
        rw [List.take_add_one,hd] at hc
        rcases List.mem_append.mp hc with hc | hc
        ·exact (hg0 hg).2 c hc
        ·simp at hc
         subst hc
         cases hz : ((parts H c).map (der H)).filter (λ x => decide (x ∈ L')) with
         | nil => rw [hz] at hF; simp at hF
         | cons x y =>
          have : x ∈ ((parts H c).map (der H)).filter (λ x => decide (x ∈ L')) := by rw [hz]; exact List.mem_cons_self
          refine La.c2 (List.mem_filter.mp this) λ h1 h2 => ?_
          refine La.x1_2 (List.mem_map.mp h1) λ p hp h'1 => ?_; subst h'1
          exact ⟨p,hp,by rw [<- (hg0 hg).1]; simpa using h2⟩
      | cons p l4 ih4 =>
       intro j ρ'' σ8 hd8 E8 g1 g2 g3 m8
       have hc2 : ((parts H d).map (der H))[j]? = some p := by
        have := congrArg List.head? hd8
        simpa [List.head?_drop] using this
       have hd2 : ((parts H d).map (der H)).drop (j + 1) = l4 := by
        have := congrArg List.tail hd8
        simpa [List.tail_drop] using this
       have ht : (((parts H d).map (der H)).take (j + 1)).filter (· ∈ L') = (((parts H d).map (der H)).take j).filter (· ∈ L') ++ (if p ∈ L' then [p] else []) := by
        rw [List.take_add_one,hc2,List.filter_append]
        simp [List.filter_cons]
       refine CP.turn X4 (by subst hC4; walk_at "kd") ?_
       refine nx_list g2 g1 (V := cv p) (by rw [List.getElem?_map,hc2]; rfl) ?_
       have E9' := E8.updN (m := .itL ac3 (j + 1)) it40
       have k1 := (un' (m := .itL ac3 (j + 1)) w3.symm).trans g1
       have k2 := up' (σ := σ8) (a := it4) (m := .itL ac3 (j + 1))
       have k3 := (un' (m := .itL ac3 (j + 1)) w1).trans g3
       generalize upd σ8 it4 (.itL ac3 (j + 1)) = σ11 at *
       have tl := List.length_filter_le (λ x => decide (x ∈ L')) (((parts H d).map (der H)).take j)
       have tl2 := List.length_take_le j ((parts H d).map (der H))
       subst hC4
       refine IFS.one ?_;walk_at "r"
       refine op_inC (E9' _ _ a6) ?_;walk_at "r"
       refine ite_of (λ hC => ?_) λ hC => ?_
       ·have hC := of_decide_eq_true hC
        walk_at "r"
        refine fc_append k3 (by simp at tl tl2 ⊢; exact La.l3 (.L .x0 (.l 2)) (.L .x1 .x3) (.o (.w (.L .x2 .x0) (.Q .x3 .x2)) (.w (.L (.a .x0 .l1) .x2) (.Q .x3 .x0))) (.L (.a .x1 .l1) (.l 100000)) [[1,1,1,1,0,1],[1,1,0,1,0,1]] rfl [_,_,_,_] [] pll tl (La.mi _ _)) ?_
        refine ih4 (j + 1) _ _ hd2 (E9'.updN ac40) ((un' w2.symm).trans k1) ((un' w1.symm).trans k2) ?_ (by walk_at "lk")
        rw [up',ht,if_pos hC]; simp
       ·have hC := of_decide_eq_false hC
        refine ih4 (j + 1) _ _ hd2 E9' k1 k2 ?_ (by walk_at "lk")
        rw [k3,ht,if_neg hC]; simp
     | cons p l3 ih3 =>
      intro j ρ'' σ8 hd8 E8 g1 g2 g3 m8
      have hc2 : (parts H d)[j]? = some p := by
       have := congrArg List.head? hd8
       simpa [List.head?_drop] using this
      have hd2 : (parts H d).drop (j + 1) = l3 := by
       have := congrArg List.tail hd8
       simpa [List.tail_drop] using this
      have hp : p ∈ parts H d := List.mem_of_getElem? hc2
      have pll : (parts H d).length<=2 := parts_len
      refine CP.turn X3 (by subst hC3; walk_at "kd") ?_
      refine nx_list g2 g1 (V := cv p) (by rw [List.getElem?_map,hc2]; rfl) ?_
      have E9 := E8.updN (m := .itL pl (j + 1)) it30
      have k1 := (un' (m := .itL pl (j + 1)) q3.symm).trans g1
      have k2 := up' (σ := σ8) (a := it3) (m := .itL pl (j + 1))
      have k3 := (un' (m := .itL pl (j + 1)) q1).trans g3
      generalize upd σ8 it3 (.itL pl (j + 1)) = σ9 at *
      have tl := List.length_take_le j (parts H d)
      subst hC3
      refine IFS.nil (ite_t ?_)
      refine EV.fcall T3 (T3.fn "_law_end" rfl) (by walk_at "kd") ?_;walk_at "r"
      refine fc_law_end n3 T3 (E9 _ _ (e6 _ _ hh)) W (by exact La.z2 hlen) (parts_ok W okd p hp).1 ?_;walk_at "r"
      refine fc_append k3 (by simp at tl ⊢; exact La.l2 (.L .x0 (.l 2)) (.o (.w (.L .x1 .x0) (.Q .x2 .x1)) (.w (.L (.a .x0 .l1) .x1) (.Q .x2 .x0))) (.L (.a .x2 .l1) (.l 100000)) [[1,1,1,0,1],[1,0,1,0,1]] rfl [_,_,_] [] pll (La.mi _ _)) ?_
      refine ih3 (j + 1) _ _ hd2 (E9.updN ac30) ((un' q2.symm).trans k1) ((un' q1.symm).trans k2) ?_ (by walk_at "lk")
      rw [up',List.take_add_one,hc2]; simp
    ·intro i ρ σ5; refine La.y3_11 λ L' k' g' E5 e5 c5 a5 hg0 hg1 hsub m1 m2 m3 m4 => ?_; exact c5
    ·intro ρ σ5 h'1 x hx; refine La.x3_11 h'1 λ L' k' g' E5 e5 c5 a5 hg0 hg1 hsub m1 m2 m3 m4 => ?_; clear h'1
     walk_at "r"
     simp only [if_true] at hN
     refine ihN (2 * L'.length + (if g' = true then 1 else 0)) ?_ L' k' g' _ _ (Nat.le_refl _) E5 (e5.delN it20) ((del_ne hia.symm).trans a5) (λ h => ?_) m1 m2 m3 m4
     ·cases g' with
      | true => have := hg1 rfl; simp; exact La.l2 (.L (.a (.m 2 .x0) .l1) .x1) (.T .x2 .x0) (.T (.a (.m 2 .x2) .l1) .x1) [[1,2,1]] rfl [_,_,_] [] hN this
      | false => have := (hg0 rfl).1; subst this; simp; exact La.l1 (.L (.a (.m 2 .x0) .l1) .x1) (.T (.m 2 .x0) .x1) [[1,1]] rfl [_,_] [] hN
     ·refine La.c2 (hg0 h) λ h'1 h2 => ?_; subst h'1
      intro c hc
      exact h2 c (by rw [List.length_map,List.take_length]; exact hc)
 | cons c2 l2 ih2 =>
  intro i ρ' σ' hd E1 g1 g2 g3
  have hc2 : r[i]? = some c2 := by
   have := congrArg List.head? hd
   simpa [List.head?_drop] using this
  have hd2 : r.drop (i + 1) = l2 := by
   have := congrArg List.tail hd
   simpa [List.tail_drop] using this
  have ht : (r.take (i + 1)).filter isC = (r.take i).filter isC ++ (if isC c2 = true then [c2] else []) := by
   rw [List.take_add_one,hc2,List.filter_append]
   simp [List.filter_cons]
  refine CP.turn X2 (by subst hC2; walk_at "kd") ?_
  refine nx_list g2 g1 (V := cv c2) (by rw [List.getElem?_map,hc2]; rfl) ?_
  have E2 := E1.updN (m := .itL wh (i + 1)) it0
  have k1 := (un' (m := .itL wh (i + 1)) hil.symm).trans g1
  have k2 := up' (σ := σ') (a := it) (m := .itL wh (i + 1))
  have k3 := (un' (m := .itL wh (i + 1)) hai).trans g3
  generalize upd σ' it (.itL wh (i + 1)) = σ2 at *
  subst hC2
  refine IFS.one ?_;walk_at "r"
  refine ⟨by simp,?_⟩
  refine op_inT (b := isC c2) rfl rfl (by simp [Dp,dat,PyData.depth]) (by simp [isC]) ?_;walk_at "r"
  have tl := List.length_filter_le isC (r.take i)
  refine ite_of (λ hC => ?_) λ hC => ?_
  ·walk_at "r"
   refine fc_append k3 (by simp at tl ⊢; exact La.z114 hr tl (La.mi _ _)) ?_
   refine ih2 (i + 1) _ _ hd2 (E2.updN acc0) ((un' hal.symm).trans k1) ((un' hai.symm).trans k2) ?_
   rw [up',ht,if_pos hC]; simp
  ·refine ih2 (i + 1) _ _ hd2 E2 k1 k2 ?_
   rw [k3,ht,if_neg (by rw [hC]; decide)]; simp
end
end
section
set_option maxHeartbeats 4000000
section
variable {C : Cx} {ρ : Loc'} {σ : CH} {mg : Str->Option Value} {a : SA} {A : List Str} {F : List Cell}
theorem EV.ecall (T : TC C mg) {p : Pos} {es : List Expr} {pos : Pos} {Q : PV->CH->Prop} (hk : C.env.kindOf "PrologError" = some .globalImplicit)
  (h : EL C pos es ρ σ λ vs σ₂ => FC C (.ref 51) vs σ₂ Q) (hne : es ≠ []) (hs : starEach es C.env = es.map λ e => (false,eval e C.env))
  (he : eval (.Call (.Name "PrologError" p) es [] pos) C.env = (do callWith pos (<- eval (.Name "PrologError" p) C.env) [] (backTo pos (starEach es C.env)) (backToKw pos (keywordEach [] C.env)))) : EV C (.Call (.Name "PrologError" p) es [] pos) ρ σ Q :=
 EV.call T.bs (EV.glob (V := .any (.ref 51)) T.bs hk ⟨_,T.exc.g,λ _ => rfl⟩ ⟨_,rfl,.inr (.inr T.exc.keep),h⟩ (by decide)) hne hs he
noncomputable def ball (V : PV) : PV := .tup [.str "s",.int 16,.tup [V,.tup [.str "a",.int 25]]]
theorem fc_PrologError {n : Nat} (hn : C.n = n + 2) (T : TC C mg) {V : PV} {Q : PV->CH->Prop}
  (q : ∀ e d σ',Ext σ σ'->σ e = none->σ' e = some (.exc 51 (some d) .none)->σ' d = some (.ns [("ball",V)])->Q (.ref e) σ') : FC C (.ref 51) [V] σ Q := by
 refine FC.exc T hn (by simp) λ x hx => ?_
 have T1 : TC { C with n := n + 1 } mg := T
 refine FC.fn (C := { C with n := n + 1 }) rfl T1.bs T1.exc.fa (names := ["self","ball"]) (HB.two λ _ _ _ _ _ _ _ _ _ => rfl) rfl rfl rfl (by decide) (by decide) λ C' F' X => ?_
 have T' : TC C' mg := T1.fits F'
 have sc := F'.sc
 refine EX.setattrE T' rfl ?_;walk_at "r"
 refine ⟨_,_,rfl,up',T'.exc.ba,λ d hd hdx => ?_⟩;walk_at "r"
 have e : upd (upd (upd σ x (.exc 51 none .none)) x (.exc 51 (some d) .none)) d (.ns [("ball",V)]) = upd (upd σ x (.exc 51 (some d) .none)) d (.ns [("ball",V)]) := by
  funext y
  unfold upd
  by_cases h1 : y = d <;> by_cases h2 : y = x <;> simp [h1,h2]
 rw [e]
 refine ⟨rfl,q x d _ ((Ext.new hx).trans (Ext.new ?_)) hx ((un' hdx.symm).trans up') up'⟩
 rw [un' hdx]
 rw [un' hdx] at hd
 exact hd
theorem fc_system_error {n : Nat} (hn : C.n = n + 3) (T : TC C mg) {V : PV} {Q : PV->CH->Prop}
  (q : ∀ e d σ',Ext σ σ'->σ e = none->σ' e = some (.exc 51 (some d) .none)->σ' d = some (.ns [("ball",ball V)])->Q (.ref e) σ') : FC C (.ref 165) [V] σ Q := by
 refine FC.top hn T (T.fn "system_error" rfl) (names := ["formal"]) (HB.one λ _ _ _ _ _ _ _ _ => rfl) rfl rfl rfl (by decide) (by decide) λ C' hn' sc T' X => ?_
 refine EX.ret ?_
 refine EV.ecall T' (by walk_at "kd") ?_ (by simp) rfl rfl;walk_at "r"
 refine ⟨by simp,?_⟩;walk_at "r"
 refine ⟨by simp,?_⟩;walk_at "r"
 refine ⟨by simp,?_⟩;walk_at "r"
 exact fc_PrologError (n := n) hn' T' λ e d σ' h1 h2 h3 h4 => q e d σ' h1 h2 h3 h4
structure FT (A : List Str) (F : List Cell) (m0 f0 : Nat) : Prop where
 m : ("memory" : Str) ∈ A
 m0 : A.idxOf ("memory" : Str) = m0
 r : ("resource_error" : Str) ∈ A
 f : ((((A.idxOf ("resource_error" : Str) : Nat) : Int),(1 : Int)) : Cell) ∈ F
 f0 : F.idxOf (((A.idxOf ("resource_error" : Str) : Nat) : Int),(1 : Int)) = f0
theorem addN_old {α : Type} [DecidableEq α] {l : List α} {x : α} (h : x ∈ l) : addN l x = l := by unfold addN; rw [if_pos h]
theorem SyS.same {σ' : CH} {O : List Addr} (S : SyS σ a A F) (S' : SyS σ' a A F) (e : EB O σ σ') (hO : ∀ x ∈ O,x = a.tx\/x = a.an\/x = a.fu\/x = a.fn) : Ext σ σ' := λ x m h => by
 by_cases hx : x ∈ O
 ·rcases hO x hx with rfl | rfl | rfl | rfl
  ·rw [S.tx] at h; cases h; exact S'.tx
  ·rw [S.an] at h; cases h; exact S'.an
  ·rw [S.fu] at h; cases h; exact S'.fu
  ·rw [S.fn] at h; cases h; exact S'.fn
 ·exact e x m hx h
noncomputable def formal (m0 f0 : Nat) : PV := .tup [.str "s",.int f0,.tup [.tup [.str "a",.int m0]]]
theorem fc_formal_of {n : Nat} (hn : C.n = n + 3) (T : TC C mg) (SY : SyS σ a A F) (hA : A.length < 900) (hF : F.length < 900) (htf : a.tx ≠ a.fu) {m0 f0 : Nat} (ft : FT A F m0 f0) {Q : PV->CH->Prop}
  (q : ∀ σ',Ext σ σ'->Q (formal m0 f0) σ') : FC C (.ref 172) [.ref a.sy,.str "resource_error",.tup [.str "memory"]] σ Q := by
 refine FC.top hn T (T.fn "formal_of" rfl) (names := ["symbols","name","parts"]) (HB.three λ _ _ _ _ _ _ _ _ _ _ => rfl) rfl rfl rfl (by decide) (by decide) λ C' hn' sc T' X => ?_
 walk_at "b";walk_at "r"
 refine ⟨by simp,λ l hl => ?_⟩;walk_at "r"
 refine it_tup λ it hit => ⟨it,rfl,λ R hR => ?_⟩
 have hli : l ≠ it := λ z => by rw [<- z,up'] at hit; cases hit
 have hit0 := uN' hit
 have SY1 : SyS (upd (upd σ l (.list [])) it (.itT [.str "memory"] 0)) a A F := SyOk.ext SY ((Ext.new hl).trans (Ext.new hit))
 have hE : Ext σ (upd (upd σ l (.list [])) it (.itT [.str "memory"] 0)) := (Ext.new hl).trans (Ext.new hit)
 have g1 : upd (upd σ l (.list [])) it (.itT [.str "memory"] 0) l = some (.list []) := (un' hli).trans up'
 have g2 : upd (upd σ l (.list [])) it (.itT [.str "memory"] 0) it = some (.itT [.str "memory"] 0) := up'
 generalize upd (upd σ l (.list [])) it (.itT [.str "memory"] 0) = σ1 at *
 refine FL.go X (by walk_at "kd2") λ R1 hR1 => nx_tup g2 rfl ?_
 have SY2 : SyS (upd σ1 it (.itT [.str "memory"] 1)) a A F := SY1.updI g2
 have hE2 : Ext σ (upd σ1 it (.itT [.str "memory"] 1)) := hE.updN hit0
 have g3 : upd σ1 it (.itT [.str "memory"] 1) l = some (.list []) := (un' hli).trans g1
 have g4 : upd σ1 it (.itT [.str "memory"] 1) it = some (.itT [.str "memory"] 1) := up'
 generalize upd σ1 it (.itT [.str "memory"] 1) = σ2 at *
 walk_at "r"
 refine ⟨_,_,rfl,g3,?_⟩;walk_at "r"
 refine EV.builtin T'.bs (by walk_at "kd") (T'.nm "str" rfl) rfl ?_;walk_at "r"
 refine fc_isstr ?_;walk_at "r"
 refine ite_t ?_;walk_at "r"
 refine fc_atom hn' T' SY2 (by exact La.z2 hA) htf λ σ3 e3 SY3 => ?_
 rw [addN_old ft.m] at SY3 ⊢
 rw [ft.m0]
 have e3' := SyS.same SY2 SY3 e3 (by simp)
 have g5 := e3' _ _ g3
 have g6 := e3' _ _ g4
 walk_at "r"
 refine ⟨by simp,?_⟩;walk_at "r"
 refine ⟨_,g5,by simp,?_⟩;walk_at "r"
 have hE4 : Ext σ (upd σ3 l (.list ([] ++ [.tup [.str "a",.int m0]]))) := (hE2.trans e3').updN hl
 have g7 : upd σ3 l (.list ([] ++ [.tup [.str "a",.int m0]])) l = some (.list [.tup [.str "a",.int m0]]) := up'
 have g8 := (un' (m := .list ([] ++ [.tup [.str "a",.int m0]])) hli.symm).trans g6
 generalize upd σ3 l (.list ([] ++ [.tup [.str "a",.int m0]])) = σ4 at *
 refine FL.go X (by walk_at "kd2") λ R2 hR2 => nx_tupE g8 (by simp) ?_
 have hE5 : Ext σ (del σ4 it) := hE4.delN hit0
 have g9 : del σ4 it l = some (.list [.tup [.str "a",.int m0]]) := (del_ne hli).trans g7
 generalize del σ4 it = σ5 at *
 have SY5 : SyS σ5 a A F := SyOk.ext SY hE5
 refine hR.next ?_;walk_at "r"
 refine fcl' g9 (by simp) ?_;walk_at "r"
 refine fc_func (k := 1) hn' T' SY5 (by exact La.z2 hA) (by exact La.z2 hF) htf λ σ6 e6 SY6 => ?_
 have hnm : nm A "resource_error" = ((A.idxOf ("resource_error" : Str) : Nat) : Int) := by unfold nm; rw [addN_old ft.r]
 have hF1 := addN_old ft.f
 rw [hnm,addN_old ft.r,hF1] at SY6
 rw [hnm,hF1,ft.f0]
 have e6' := SyS.same SY5 SY6 e6 (by simp)
 have g10 := e6' _ _ g9
 walk_at "r"
 refine fc_tuple g10 (by simp) ?_;walk_at "r"
 refine ⟨by simp,?_⟩
 exact q _ (hE5.trans e6')
theorem fc_resource_error {n : Nat} (hn : C.n = n + 4) (T : TC C mg) (SY : SyS σ a A F) (hA : A.length < 900) (hF : F.length < 900) (htf : a.tx ≠ a.fu) {m0 f0 : Nat} (ft : FT A F m0 f0) {Q : PV->CH->Prop}
  (q : ∀ e d σ',Ext σ σ'->σ e = none->σ' e = some (.exc 51 (some d) .none)->σ' d = some (.ns [("ball",ball (formal m0 f0))])->Q (.ref e) σ') : FC C (.ref 179) [.ref a.sy,.str "memory"] σ Q := by
 refine FC.top hn T (T.fn "resource_error" rfl) (names := ["symbols","what"]) (HB.two λ _ _ _ _ _ _ _ _ _ => rfl) rfl rfl rfl (by decide) (by decide) λ C' hn' sc T' X => ?_
 walk_at "b";walk_at "r"
 refine ⟨by simp,?_⟩;walk_at "r"
 refine fc_formal_of (n := n) hn' T' SY hA hF htf ft λ σ' e' => ?_;walk_at "r"
 exact fc_system_error (n := n) hn' T' λ e d σ2 h1 h2 h3 h4 => q e d σ2 (e'.trans h1) (e'.none h2) h3 h4
end
end
section
set_option maxHeartbeats 4000000
theorem addN_app {α : Type} [DecidableEq α] {N r : List α} {x : α} (h : addN N x = N) : addN (N ++ r) x = N ++ r/\(N ++ r).idxOf x = N.idxOf x := by
 have hx : x ∈ N := by rw [<- h]; exact addN_mem
 exact ⟨addN_old (List.mem_append_left _ hx),by rw [List.idxOf_append,if_pos hx]⟩
theorem leafV_pre {N : List Int} {d : Cell} : ∃ r,(leafV N d).2 = N ++ r := by
 unfold leafV
 split
 ·exact addN_pre
 ·exact ⟨[],by simp⟩
theorem leafV_stable {N r : List Int} {d : Cell} (h : (leafV N d).2 = N) : leafV (N ++ r) d = ((leafV N d).1,N ++ r) := by
 unfold leafV at h ⊢
 split at h
 ·rename_i h0
  rw [if_pos h0,if_pos h0]
  refine La.c2 (addN_app (r := r) h) λ e1 e2 => ?_
  dsimp only at h ⊢
  rw [e1,h,e2]
 ·rename_i h0
  rw [if_neg h0,if_neg h0]
theorem leafV_again {N : List Int} {d : Cell} : leafV (leafV N d).2 d = ((leafV N d).1,(leafV N d).2) := by
 unfold leafV
 split
 ·rename_i h0
  dsimp only
  rw [addN_old (addN_mem (l := N) (x := d.2))]
 ·rfl
noncomputable def Pre (f : List Int->Cell->PV × List Int) : Prop := ∀ N c,∃ r,(f N c).2 = N ++ r
theorem srcs_pre {f : List Int->Cell->PV × List Int} (hf : Pre f) : ∀ (l : List Cell) (N : List Int),∃ r,(srcs f N l).2 = N ++ r
 | [],N => ⟨[],by simp [srcs]⟩
 | c :: l,N => by
  refine La.x1_1 (hf N c) λ r1 e1 => ?_
  refine La.x1_1 (srcs_pre hf l (f N c).2) λ r2 e2 => ?_
  exact ⟨r1 ++ r2,by simp only [srcs]; rw [e2,e1,List.append_assoc]⟩
theorem src_pre {H : List Cell} : ∀ n,Pre (src H n)
 | 0 => λ N c => leafV_pre
 | n + 1 => λ N c => by
  unfold src
  split
  ·exact srcs_pre (src_pre n) _ _
  ·exact leafV_pre
theorem app_self {α : Type} {N r : List α} (h : N ++ r = N) : r = [] := by
 have := congrArg List.length h
 simp at this; exact this
theorem srcs_stable {f : List Int->Cell->PV × List Int} (hp : Pre f) (hf : ∀ N c,(f N c).2 = N->∀ r,f (N ++ r) c = ((f N c).1,N ++ r)) : ∀ (l : List Cell) (N : List Int),(srcs f N l).2 = N->∀ r,srcs f (N ++ r) l = ((srcs f N l).1,N ++ r)
 | [],N,_,r => rfl
 | c :: l,N,h,r => by
  simp only [srcs] at h ⊢
  refine La.x1_1 (hp N c) λ r1 e1 => ?_
  refine La.x1_1 (srcs_pre hp l (f N c).2) λ r2 e2 => ?_
  rw [e2,e1,List.append_assoc] at h
  have z := app_self h
  have z1 : r1 = [] := (List.append_eq_nil_iff.mp z).1
  subst z1
  rw [List.append_nil] at e1
  rw [hf N c e1 r]
  rw [e1] at e2 ⊢
  have z2 : r2 = [] := (List.append_eq_nil_iff.mp z).2
  subst z2
  rw [List.append_nil] at e2
  rw [srcs_stable hp hf l N e2 r]
theorem src_stable {H : List Cell} : ∀ (n : Nat) (N : List Int) (c : Cell),(src H n N c).2 = N->∀ r,src H n (N ++ r) c = ((src H n N c).1,N ++ r)
 | 0,N,c,h,r => leafV_stable h
 | n + 1,N,c,h,r => by
  unfold src at h ⊢
  by_cases hc : isC (der H c) = true
  ·rw [if_pos hc] at h
   rw [if_pos hc,if_pos hc]
   rw [srcs_stable (src_pre n) (src_stable n) _ _ h r]
  ·rw [if_neg hc] at h
   rw [if_neg hc,if_neg hc]
   exact leafV_stable h
theorem srcs_again {f : List Int->Cell->PV × List Int} (hp : Pre f) (hs : ∀ N c,(f N c).2 = N->∀ r,f (N ++ r) c = ((f N c).1,N ++ r)) (hf : ∀ N c,f (f N c).2 c = ((f N c).1,(f N c).2)) :
  ∀ (l : List Cell) (N : List Int),srcs f (srcs f N l).2 l = ((srcs f N l).1,(srcs f N l).2)
 | [],N => rfl
 | c :: l,N => by
  simp only [srcs]
  refine La.x1_1 (srcs_pre hp l (f N c).2) λ r2 e2 => ?_
  have h1 : f (srcs f (f N c).2 l).2 c = ((f N c).1,(srcs f (f N c).2 l).2) := by
   rw [e2,hs (f N c).2 c (by rw [hf N c]) r2,hf N c]
  rw [h1]
  dsimp only
  rw [srcs_again hp hs hf l (f N c).2]
theorem src_again {H : List Cell} : ∀ (n : Nat) (N : List Int) (c : Cell),src H n (src H n N c).2 c = ((src H n N c).1,(src H n N c).2)
 | 0,N,c => leafV_again
 | n + 1,N,c => by
  by_cases hc : isC (der H c) = true
  ·have e : ∀ M,src H (n + 1) M c = (.tup [.str "s",.int (fctr H (der H c)),.tup (srcs (src H n) M (parts H (der H c))).1],(srcs (src H n) M (parts H (der H c))).2) := λ M => by rw [src,if_pos hc]
   rw [e N]
   dsimp only
   rw [e,srcs_again (src_pre n) (src_stable n) (src_again n)]
  ·have hc : isC (der H c) = false := by simpa using hc
   rw [src_leaf hc,src_leaf hc]
   exact leafV_again
theorem srcs_congr {f g : List Int->Cell->PV × List Int} : ∀ {l : List Cell},(∀ p ∈ l,∀ N,f N p = g N p)->∀ N,srcs f N l = srcs g N l
 | [],_,N => rfl
 | c :: l,h,N => by
  simp only [srcs]
  rw [h c List.mem_cons_self,srcs_congr (λ p hp => h p (List.mem_cons_of_mem _ hp))]
theorem src_succ {H : List Cell} : ∀ {n : Nat} {c : Cell},FinN H n c->∀ N,src H (n + 1) N c = src H n N c
 | 0,c,h,N => by rw [src_leaf h,src_leaf h]
 | n + 1,c,h,N => by
  by_cases hc : isC (der H c) = true
  ·rw [src,src,if_pos hc,if_pos hc,srcs_congr λ p hp => src_succ (h p hp)]
  ·have hc : isC (der H c) = false := by simpa using hc
   rw [src_leaf hc,src_leaf hc]
theorem src_le {H : List Cell} {n m : Nat} {c : Cell} (h : FinN H n c) (hm : n<=m) (N : List Int) : src H m N c = src H n N c := by
 induction hm with
 | refl => rfl
 | step h1 ih => rw [src_succ (h.le h1),ih]
theorem src_any {H : List Cell} {n m : Nat} {c : Cell} (h : FinN H n c) (h' : FinN H m c) (N : List Int) : src H m N c = src H n N c := by
 rcases Nat.le_total n m with q | q
 ·exact src_le h q N
 ·exact (src_le h' q N).symm
theorem src_der {H : List Cell} (W : WF H) {c : Cell} (ok : okc H c) (n : Nat) (N : List Int) : src H n N (der H c) = src H n N c := by
 cases n with
 | zero => unfold src; rw [der_der W ok]
 | succ n => unfold src; rw [der_der W ok]
theorem putD_keys {k : Int} {V : PV} : ∀ {l : List (Int × PV)},(putD k V l).map (·.1) = if k ∈ l.map (·.1) then l.map (·.1) else l.map (·.1) ++ [k]
 | [] => by simp [putD]
 | (j,U) :: l => by
  unfold putD
  by_cases h : j = k
  ·subst h; simp
  ·have h' : ¬ k = j := λ z => h z.symm
   rw [if_neg h]
   simp only [List.map_cons,List.mem_cons,h',false_or]
   rw [putD_keys]
   split <;> simp
theorem at?_mem {k : Int} : ∀ {l : List (Int × PV)},(at? k l).isSome = true ↔ k ∈ l.map (·.1)
 | [] => by simp [at?]
 | (j,U) :: l => by
  unfold at?
  by_cases h : j = k
  ·subst h; simp
  ·have h' : ¬ k = j := λ z => h z.symm
   rw [if_neg h,at?_mem]
   simp [h']
structure KOk (H P : List Cell) (KD : List (Int × PV)) (N : List Int) : Prop where
 nd : (KD.map (·.1)).Nodup
 rg : ∀ k : Int,k ∈ KD.map (·.1)->0<=k/\k < (H.length : Int)
 at_ : ∀ d,okc H d->isC d = true->∀ t,at? d.2 KD = some t->(t = .none/\d ∈ P)\/((∃ ts,t = .tup ts)/\∃ n,FinN H n d/\src H n N d = (t,N))
theorem KOk.len {H P : List Cell} {KD : List (Int × PV)} {N : List Int} (K : KOk H P KD N) : KD.length<=H.length := by
 have := NOk.len (H := H) (N := KD.map (·.1)) ⟨K.nd,K.rg⟩
 simpa using this
theorem KOk.more {H P : List Cell} {KD : List (Int × PV)} {N : List Int} (K : KOk H P KD N) (r : List Int) : KOk H P KD (N ++ r) :=
 ⟨K.nd,K.rg,λ d ok hc t e => (K.at_ d ok hc t e).imp id λ ⟨ht,n,hn,hs⟩ => ⟨ht,n,hn,by rw [src_stable n N d (by rw [hs]) r,hs]⟩⟩
theorem putD_nd {k : Int} {V : PV} {l : List (Int × PV)} (h : (l.map (·.1)).Nodup) : ((putD k V l).map (·.1)).Nodup := by
 rw [putD_keys]
 split
 ·exact h
 ·rename_i hk
  rw [List.nodup_append]
  exact ⟨h,by simp,λ a ha b hb => by simp at hb; subst hb; rintro rfl; exact hk ha⟩
theorem KOk.begin {H P : List Cell} {KD : List (Int × PV)} {N : List Int} (K : KOk H P KD N) {d : Cell} (ok : okc H d) (hc : isC d = true) (hn : at? d.2 KD = none) : KOk H (d :: P) (putD d.2 .none KD) N/\(putD d.2 PV.none KD).length = KD.length + 1 := by
 have hk : d.2 ∉ KD.map (·.1) := λ q => by have := at?_mem.mpr q; rw [hn] at this; cases this
 refine ⟨⟨putD_nd K.nd,λ k hk' => ?_,λ e oke hce t he => ?_⟩,?_⟩
 ·rw [putD_keys,if_neg hk] at hk'
  rcases List.mem_append.mp hk' with q | q
  ·exact K.rg k q
  ·simp at q; subst q; exact ok.addr hc
 ·rw [at?_put] at he
  by_cases q : e.2 = d.2
  ·rw [if_pos q] at he; cases he
   exact .inl ⟨rfl,by rw [comp_inj oke ok hce hc q]; exact List.mem_cons_self⟩
  ·rw [if_neg q] at he
   exact (K.at_ e oke hce t he).imp (λ ⟨a,b⟩ => ⟨a,List.mem_cons_of_mem _ b⟩) id
 ·have := congrArg List.length (putD_keys (k := d.2) (V := PV.none) (l := KD))
  rw [if_neg hk] at this
  simpa using this
theorem KOk.built {H P : List Cell} {KD : List (Int × PV)} {N : List Int} {d : Cell} (K : KOk H (d :: P) KD N) (ok : okc H d) (hc : isC d = true) (hk : (at? d.2 KD).isSome = true) {ts : List PV} {n : Nat} (hf : FinN H n d) (hs : src H n N d = (.tup ts,N)) :
  KOk H P (putD d.2 (.tup ts) KD) N/\(putD d.2 (PV.tup ts) KD).length = KD.length := by
 have hk' := at?_mem.mp hk
 refine ⟨⟨putD_nd K.nd,λ k hk'' => ?_,λ e oke hce t he => ?_⟩,?_⟩
 ·rw [putD_keys,if_pos hk'] at hk''; exact K.rg k hk''
 ·rw [at?_put] at he
  by_cases q : e.2 = d.2
  ·rw [if_pos q] at he; cases he
   have z := comp_inj oke ok hce hc q
   subst z
   exact .inr ⟨⟨ts,rfl⟩,n,hf,hs⟩
  ·rw [if_neg q] at he
   refine (K.at_ e oke hce t he).imp (λ ⟨a,b⟩ => ⟨a,?_⟩) id
   rcases List.mem_cons.mp b with rfl | b
   ·exact absurd rfl q
   ·exact b
 ·have := congrArg List.length (putD_keys (k := d.2) (V := PV.tup ts) (l := KD))
  rw [if_pos hk'] at this
  simpa using this
end
section
set_option maxHeartbeats 4000000
set_option backward.match.sparseCases false in
noncomputable def whT : Stmt->Expr
 | .While t _ _ _ => t
 | _ => .Constant .none 0 ⟨0,0,0,0⟩
set_option backward.match.sparseCases false in
noncomputable def whB : Stmt->List Stmt
 | .While _ b _ _ => b
 | _ => []
noncomputable def tkL : Stmt := nthS (fnB (mtN 30 4)) 3
structure TkC (C : Cx) (mg : Str->Option Value) (n : Nat) (σe : CH) (a : SA) (H S : List Cell) (A : List Str) (F : List Cell) (m0 f0 : Nat) (wk rs kn nb : Addr) (P0 : PV->Prop) : Prop where
 hn : C.n = n + 4
 sc : C.env.scope = fnS (mtN 30 4)
 T : TC C mg
 X : XC C (del σe nb) P0
 SO : StOk σe a H S
 SY : SyS σe a A F
 FO : FuOk F
 hA : A.length < 900
 hF : F.length < 900
 htf : a.tx ≠ a.fu
 ft : FT A F m0 f0
 W : WF H
 hlen : H.length < 900
 nb0 : σe nb = some (.dictI [])
 wk0 : σe wk = none
 rs0 : σe rs = none
 kn0 : σe kn = none
 wr : wk ≠ rs
structure TK (σe σ : CH) (ρ : Loc') (a : SA) (wk rs kn nb : Addr) (w RS : List PV) (KD : List (Int × PV)) (N : List Int) : Prop where
 e : EB [nb] σe σ
 w : σ wk = some (.list w)
 r : σ rs = some (.list RS)
 k : σ kn = some (.dictI KD)
 n : σ nb = some (.dictI (idx id 0 N))
 l1 : lk "self" ρ = some (.ref a.st)
 l2 : lk "table" ρ = some (.ref nb)
 l3 : lk "known" ρ = some (.ref kn)
 l4 : lk "results" ρ = some (.ref rs)
 l5 : lk "work" ρ = some (.ref wk)
noncomputable def wi (i : Int) (c : Cell) : PV := .tup [.int i,cv c]
theorem StOk.ebD {σ σ' : CH} {a : SA} {H S : List Cell} {nb : Addr} {D : List (Int × PV)} (SO : StOk σ a H S) (h : σ nb = some (.dictI D)) (e : EB [nb] σ σ') : StOk σ' a H S :=
 ⟨e _ _ (by simp; exact ne_mm SO.st h (by simp)) SO.st,e _ _ (by simp; exact ne_mm SO.dst h (by simp)) SO.dst,e _ _ (by simp; exact ne_mm SO.hp h (by simp)) SO.hp,e _ _ (by simp; exact ne_mm SO.sk h (by simp)) SO.sk,e _ _ (by simp; exact ne_mm SO.tr h (by simp)) SO.tr⟩
section
variable {C : Cx} {ρ : Loc'} {σ σe : CH} {mg : Str->Option Value} {n : Nat} {a : SA} {H S : List Cell} {A : List Str} {F : List Cell} {m0 f0 : Nat} {wk rs kn nb : Addr} {P0 : PV->Prop} {w RS : List PV} {KD : List (Int × PV)} {N : List Int} {R : Fl->Loc'->CH->Prop}
set_option backward.match.sparseCases false in
noncomputable def ifA : Stmt->List Stmt
 | .If _ a _ _ => a
 | _ => []
set_option backward.match.sparseCases false in
noncomputable def ifE : Stmt->List Stmt
 | .If _ _ b _ => b
 | _ => []
theorem TK.ne (K : TkC C mg n σe a H S A F m0 f0 wk rs kn nb P0) (t : TK σe σ ρ a wk rs kn nb w RS KD N) : wk ≠ rs/\wk ≠ kn/\wk ≠ nb/\rs ≠ kn/\rs ≠ nb/\kn ≠ nb :=
 ⟨K.wr,ne_mm t.w t.k (by simp),ne_mm t.w t.n (by simp),ne_mm t.r t.k (by simp),ne_mm t.r t.n (by simp),λ q => by have := K.kn0; rw [q,K.nb0] at this; cases this⟩
theorem TK.setW (K : TkC C mg n σe a H S A F m0 f0 wk rs kn nb P0) (t : TK σe σ ρ a wk rs kn nb w RS KD N) (w' : List PV) : TK σe (upd σ wk (.list w')) ρ a wk rs kn nb w' RS KD N := by
 refine La.c6 (t.ne K) λ h1 h2 h3 h4 h5 h6 => ?_
 exact ⟨t.e.updN K.wk0,up',(un' h1.symm).trans t.r,(un' h2.symm).trans t.k,(un' h3.symm).trans t.n,t.l1,t.l2,t.l3,t.l4,t.l5⟩
theorem TK.setR (K : TkC C mg n σe a H S A F m0 f0 wk rs kn nb P0) (t : TK σe σ ρ a wk rs kn nb w RS KD N) (r' : List PV) : TK σe (upd σ rs (.list r')) ρ a wk rs kn nb w r' KD N := by
 refine La.c6 (t.ne K) λ h1 h2 h3 h4 h5 h6 => ?_
 exact ⟨t.e.updN K.rs0,(un' h1).trans t.w,up',(un' h4.symm).trans t.k,(un' h5.symm).trans t.n,t.l1,t.l2,t.l3,t.l4,t.l5⟩
theorem TK.setK (K : TkC C mg n σe a H S A F m0 f0 wk rs kn nb P0) (t : TK σe σ ρ a wk rs kn nb w RS KD N) (k' : List (Int × PV)) : TK σe (upd σ kn (.dictI k')) ρ a wk rs kn nb w RS k' N := by
 refine La.c6 (t.ne K) λ h1 h2 h3 h4 h5 h6 => ?_
 exact ⟨t.e.updN K.kn0,(un' h2).trans t.w,(un' h4).trans t.r,up',(un' h6.symm).trans t.n,t.l1,t.l2,t.l3,t.l4,t.l5⟩
theorem TK.setN (K : TkC C mg n σe a H S A F m0 f0 wk rs kn nb P0) (t : TK σe σ ρ a wk rs kn nb w RS KD N) (N' : List Int) : TK σe (upd σ nb (.dictI (idx id 0 N'))) ρ a wk rs kn nb w RS KD N' := by
 refine La.c6 (t.ne K) λ h1 h2 h3 h4 h5 h6 => ?_
 exact ⟨t.e.updO (by simp),(un' h3).trans t.w,(un' h5).trans t.r,(un' h6).trans t.k,up',t.l1,t.l2,t.l3,t.l4,t.l5⟩
theorem TK.name {x : Str} {V : PV} (t : TK σe σ ρ a wk rs kn nb w RS KD N) (h : x ≠ "self"/\x ≠ "table"/\x ≠ "known"/\x ≠ "results"/\x ≠ "work") : TK σe σ ((x,V) :: ρ) a wk rs kn nb w RS KD N :=
 ⟨t.e,t.w,t.r,t.k,t.n,(lk_ne h.1.symm).trans t.l1,(lk_ne h.2.1.symm).trans t.l2,(lk_ne h.2.2.1.symm).trans t.l3,(lk_ne h.2.2.2.1.symm).trans t.l4,(lk_ne h.2.2.2.2.symm).trans t.l5⟩
theorem tk_visit (K : TkC C mg n σe a H S A F m0 f0 wk rs kn nb P0) {c : Cell} (ok : okc H c) (c1 : c.1 ≠ 1) (hw : w.length < 90000)
  (t : TK σe σ ρ a wk rs kn nb (w ++ [wi 0 c]) RS KD N) (k : ∀ ρ' σ' R',Tn (λ ρ₂ σ₂ => WH C (whT tkL) (whB tkL) ρ₂ σ₂ R) R R'->TK σe σ' ρ' a wk rs kn nb w RS KD N->lk "cell" ρ' = some (cv (der H c))->lk "tag" ρ' = some (.int (der H c).1)->EX C (whB tkL).tail.tail.tail.tail ρ' σ' R') : WH C (whT tkL) (whB tkL) ρ σ R := by
 have K' := K
 obtain ⟨hn,sc,T,XC,SO,SY,FO,hA,hF,htf,ft,W,hlen,nb0,wk0,rs0,kn0,wr⟩ := K
 have t' := t.setW K' w
 obtain ⟨te,tw,tr,tk,tn,l1,l2,l3,l4,l5⟩ := t
 have X := XC.pass
 refine WH.goP X λ R' hR' => ?_
 refine ET.cmp ?_;walk_at "r"
 refine fcl' tw (by simp; exact La.z97 hw) ?_;walk_at "r"
 refine ite_of (λ _ => ?_) λ h => absurd h (by simp)
 refine EX.assign2 (by walk_at "kd2") (by walk_at "kd2") rfl rfl ?_;walk_at "r"
 refine ⟨_,_,_,rfl,tw,by exact La.z5 hw,?_⟩
 refine ⟨_,_,rfl,?_⟩
 generalize upd σ wk (.list w) = σ1 at *
 clear te tw tr tk tn
 walk_at "r"
 refine ite_of (λ h => absurd h (by simp)) λ _ => ?_;walk_at "r"
 have SO1 := SO.ebD nb0 t'.e
 have m1 := SO1.st
 have m2 := SO1.dst
 walk_at "r"
 refine fc_deref hn T SO1 W (by exact La.z2 hlen) ok (λ h => absurd h c1) ?_
 walk_at "s"
 walk_at "s"
 walk_at "s"
 walk_at "s"
 walk_at "s"
 exact k _ _ R' hR' (((t'.name (by decide)).name (by decide)).name (by decide) |>.name (by decide)) (by walk_at "lk") (by walk_at "lk")
theorem tk_leaf (K : TkC C mg n σe a H S A F m0 f0 wk rs kn nb P0) {c : Cell} (ok : okc H c) (c1 : c.1 ≠ 1) (hc : isC (der H c) = false) (hw : w.length < 90000) (hR : RS.length < 90000) (hN : NOk H N)
  (t : TK σe σ ρ a wk rs kn nb (w ++ [wi 0 c]) RS KD N) (k : ∀ ρ' σ',TK σe σ' ρ' a wk rs kn nb w (RS ++ [(leafV N (der H c)).1]) KD (leafV N (der H c)).2->WH C (whT tkL) (whB tkL) ρ' σ' R) : WH C (whT tkL) (whB tkL) ρ σ R := by
 refine tk_visit K ok c1 hw t λ ρ1 σ1 R' hR' t1 lc lt => ?_
 have K' := K
 have okd := der_ok K.W ok
 have d1 := der_ne1 K.W ok c1
 generalize der H c = d at *
 obtain ⟨hn,sc,T,XC,SO,SY,FO,hA,hF,htf,ft,W,hlen,nb0,wk0,rs0,kn0,wr⟩ := K
 have B' := T.sys
 have t1' := t1
 obtain ⟨te,tw,tr,tk,tn,l1,l2,l3,l4,l5⟩ := t1
 have hNl := hN.len
 refine EX.ite λ R2 hR2 => ?_;walk_at "r"
 refine ite_of (λ h => ?_) λ h => ?_
 ·have h0 : d.1 = 0 := by simpa using h
  obtain ⟨v,hv,rfl⟩ : ∃ v : Nat,v < H.length/\d = (0,(v : Int)) := by
   cases okd with
   | ref v hv _ => exact ⟨v,hv,rfl⟩
   | _ => simp at h0
  walk_at "r"
  refine op_ninD B' tn ?_
  have hat := idx_at (mk := (id : Int->Int)) (λ _ _ h => h) (x := (v : Int)) (k := 0) (l := N)
  rw [show (id (v : Int) : Int) = v from rfl] at hat
  rw [show ((0,(v : Int)) : Cell).2 = (v : Int) from rfl,hat]
  walk_at "r"
  have el : leafV N (0,(v : Int)) = (.tup [.str "v",.int (((addN N (v : Int)).idxOf (v : Int) : Nat) : Int)],addN N v) := rfl
  rw [el] at k
  by_cases hm : (v : Int) ∈ N
  ·have ea : addN N (v : Int) = N := if_pos hm
   rw [ea] at k
   simp only [hm,if_true] at hat ⊢
   refine ite_f ?_;walk_at "r"
   refine ⟨_,_,rfl,tr,?_⟩;walk_at "r"
   refine op_subD tn (by rw [hat]) ?_;walk_at "r"
   refine ⟨by simp,?_⟩;walk_at "r"
   refine ⟨_,tr,by exact La.z5 hR,?_⟩;walk_at "r"
   have := t1'.setR K' (RS ++ [.tup [.str "v",.int (((N.idxOf (v : Int) : Nat) : Int))]])
   exact k _ _ (by simpa using this)
  ·have ea : addN N (v : Int) = N ++ [(v : Int)] := if_neg hm
   have ei : (addN N (v : Int)).idxOf (v : Int) = N.length := by rw [ea,List.idxOf_append,if_neg hm]; simp
   rw [ei,ea] at k
   simp only [hm,if_false] at hat ⊢
   refine ite_t ?_;walk_at "r"
   refine fc_len_dict B' tn (by rw [idx_len]; exact La.z93 hlen hNl) ?_;walk_at "r"
   refine si_dict tn (by rw [idx_len]; exact La.z94 hlen hNl) ?_
   rw [idx_len,putD_new hat]
   have en : idx id 0 N ++ [((v : Int),PV.int (N.length : Int))] = idx id 0 (N ++ [(v : Int)]) := by rw [idx_snoc]; simp
   rw [en]
   have t2 := t1'.setN K' (N ++ [(v : Int)])
   generalize upd σ1 nb (.dictI (idx id 0 (N ++ [(v : Int)]))) = σ2 at *
   have tr2 := t2.r
   have tn2 := t2.n
   walk_at "r"
   refine ⟨_,_,rfl,tr2,?_⟩;walk_at "r"
   have hat2 := idx_at (mk := (id : Int->Int)) (λ _ _ h => h) (x := (v : Int)) (k := 0) (l := N ++ [(v : Int)])
   rw [show (id (v : Int) : Int) = v from rfl,if_pos (by simp),<- ea,ei,ea] at hat2
   refine op_subD tn2 hat2 ?_;walk_at "r"
   refine ⟨by simp,?_⟩;walk_at "r"
   refine ⟨_,tr2,by exact La.z5 hR,?_⟩;walk_at "r"
   have := t2.setR K' (RS ++ [.tup [.str "v",.int ((N.length : Nat) : Int)]])
   exact k _ _ (by simpa using this)
 ·have h0 : d.1 ≠ 0 := by simpa using h
  have e4 : d.1 = 4\/d.1 = 5 := by
   cases okd <;> simp [isC] at *
  have el : leafV N d = (.tup [.str (if d.1 = 4 then "a" else "i"),.int d.2],N) := by unfold leafV; rw [if_neg h0]
  rw [el] at k
  refine EX.ite λ R3 hR3 => ?_;walk_at "r"
  refine ite_of (λ h4 => ?_) λ h4 => ?_
  ·have h4 : d.1 = 4 := by simpa using h4
   walk_at "r"
   refine ⟨_,_,rfl,tr,?_⟩;walk_at "r"
   refine ⟨by simp,?_⟩;walk_at "r"
   refine ⟨_,tr,by exact La.z5 hR,?_⟩;walk_at "r"
   rw [if_pos h4] at k
   exact k _ _ (t1'.setR K' _)
  ·have h5 : d.1 ≠ 4 := by simpa using h4
   have h6 : d.1 = 5 := e4.resolve_left h5
   refine EX.ite λ R4 hR4 => ?_;walk_at "r"
   refine ite_of (λ _ => ?_) λ h => absurd h (by simp [h6]);walk_at "r"
   refine ⟨_,_,rfl,tr,?_⟩;walk_at "r"
   refine ⟨by simp,?_⟩;walk_at "r"
   refine ⟨_,tr,by exact La.z5 hR,?_⟩;walk_at "r"
   rw [if_neg h5] at k
   exact k _ _ (t1'.setR K' _)
noncomputable def tkI : List Stmt := ifE (nthS (ifE (nthS (ifE (nthS (whB tkL) 4)) 0)) 0)
theorem tk_comp (K : TkC C mg n σe a H S A F m0 f0 wk rs kn nb P0) {c : Cell} (ok : okc H c) (c1 : c.1 ≠ 1) (hc : isC (der H c) = true) (hw : w.length < 90000)
  (t : TK σe σ ρ a wk rs kn nb (w ++ [wi 0 c]) RS KD N) (k : ∀ ρ' σ' R',(∀ ρ σ,WH C (whT tkL) (whB tkL) ρ σ R->R' .next ρ σ)->TK σe σ' ρ' a wk rs kn nb w RS KD N->lk "cell" ρ' = some (cv (der H c))->EX C tkI ρ' σ' R') : WH C (whT tkL) (whB tkL) ρ σ R := by
 refine tk_visit K ok c1 hw t λ ρ1 σ1 R' hR' t1 lc lt => ?_
 have okd := der_ok K.W ok
 generalize der H c = d at *
 have h2 : d.1 ≠ 0/\d.1 ≠ 4/\d.1 ≠ 5 := by cases okd <;> simp [isC] at *
 obtain ⟨hn,sc,T,XC,SO,SY,FO,hA,hF,htf,ft,W,hlen,nb0,wk0,rs0,kn0,wr⟩ := K
 refine EX.ite λ R2 hR2 => ?_;walk_at "r"
 refine ite_of (λ h => absurd (by simpa using h) h2.1) λ _ => ?_
 refine EX.ite λ R3 hR3 => ?_;walk_at "r"
 refine ite_of (λ h => absurd (by simpa using h) h2.2.1) λ _ => ?_
 refine EX.ite λ R4 hR4 => ?_;walk_at "r"
 refine ite_of (λ h => absurd (by simpa using h) h2.2.2) λ _ => ?_
 exact k _ _ _ (λ ρ σ h => hR4.next (EX.nil (hR3.next (EX.nil (hR2.next (EX.nil (hR'.next h))))))) t1 lc
theorem tk_known (K : TkC C mg n σe a H S A F m0 f0 wk rs kn nb P0) {c : Cell} (ok : okc H c) (c1 : c.1 ≠ 1) (hc : isC (der H c) = true) (hw : w.length < 90000) (hR : RS.length < 90000) {ts : List PV} (hk : at? (der H c).2 KD = some (.tup ts))
  (t : TK σe σ ρ a wk rs kn nb (w ++ [wi 0 c]) RS KD N) (k : ∀ ρ' σ',TK σe σ' ρ' a wk rs kn nb w (RS ++ [.tup ts]) KD N->WH C (whT tkL) (whB tkL) ρ' σ' R) : WH C (whT tkL) (whB tkL) ρ σ R := by
 refine tk_comp K ok c1 hc hw t λ ρ1 σ1 R' hR' t1 lc => ?_
 have okd := der_ok K.W ok
 have K' := K
 have t1' := t1
 generalize der H c = d at *
 obtain ⟨hn,sc,T,XC,SO,SY,FO,hA,hF,htf,ft,W,hlen,nb0,wk0,rs0,kn0,wr⟩ := K
 obtain ⟨te,tw,tr,tk,tn,l1,l2,l3,l4,l5⟩ := t1
 have B' := T.sys
 refine EX.ite λ R2 hR2 => ?_;walk_at "r"
 refine op_inD B' tk ?_
 rw [hk]
 walk_at "r"
 refine ite_t ?_;walk_at "r"
 refine op_subD tk hk ?_;walk_at "r"
 refine op_isNone (.inr ⟨ts,rfl,rfl⟩) ?_;walk_at "r"
 refine ite_f ?_;walk_at "r"
 refine ⟨_,_,rfl,tr,?_⟩;walk_at "r"
 refine ⟨_,tr,by exact La.z5 hR,?_⟩;walk_at "r"
 exact hR' _ _ (k _ _ ((t1'.setR K' _).name (by decide)))
theorem tk_raise (K : TkC C mg n σe a H S A F m0 f0 wk rs kn nb P0) {c : Cell} (ok : okc H c) (c1 : c.1 ≠ 1) (hc : isC (der H c) = true) (hw : w.length < 90000) (hk : at? (der H c).2 KD = some .none) (hP : P0 (ball (formal m0 f0)))
  (t : TK σe σ ρ a wk rs kn nb (w ++ [wi 0 c]) RS KD N) : WH C (whT tkL) (whB tkL) ρ σ R := by
 refine tk_comp K ok c1 hc hw t λ ρ1 σ1 R' hR' t1 lc => ?_
 have okd := der_ok K.W ok
 have K' := K
 have t1' := t1
 generalize der H c = d at *
 obtain ⟨hn,sc,T,XC,SO,SY,FO,hA,hF,htf,ft,W,hlen,nb0,wk0,rs0,kn0,wr⟩ := K
 obtain ⟨te,tw,tr,tk,tn,l1,l2,l3,l4,l5⟩ := t1
 have B' := T.sys
 have SO1 := SO.ebD nb0 te
 have SY1 : SyS σ1 a A F := SyOk.ebD SY nb0 te
 have m1 := SO1.st
 have m2 := SO1.dst
 refine EX.ite λ R2 hR2 => ?_;walk_at "r"
 refine op_inD B' tk ?_
 rw [hk]
 walk_at "r"
 refine ite_t ?_;walk_at "r"
 refine op_subD tk hk ?_;walk_at "r"
 refine op_isNone (.inl ⟨rfl,rfl⟩) ?_;walk_at "r"
 refine ite_t ?_
 refine EX.raise T ?_;walk_at "r"
 refine fc_resource_error (n := n) hn T SY1 hA hF htf ft λ e d' σ2 e2 n2 g1 g2 => ?_;walk_at "r"
 refine ⟨e,some d',rfl,g1,λ s' F' => ?_⟩
 rw [XC.X]
 refine ⟨e,d',.none,_,hP,rfl,g1,g2,.inl rfl,λ x m h => ?_,?_,λ _ q => (by cases q),F'⟩
 ·unfold Mine.del at h
  split at h
  ·cases h
  ·rename_i hx
   exact e2 _ _ (te x m (by simpa using hx) h)
 ·unfold Mine.del
  split
  ·rfl
  ·rename_i hx
   cases z : σe e with
   | none => rfl
   | some m => rw [te e m (by simpa using hx) z] at n2; cases n2
theorem tk_new (K : TkC C mg n σe a H S A F m0 f0 wk rs kn nb P0) {c : Cell} (ok : okc H c) (c1 : c.1 ≠ 1) (hc : isC (der H c) = true) (hw : w.length < 90000) (hk : at? (der H c).2 KD = none) (hkl : KD.length < 90000)
  (t : TK σe σ ρ a wk rs kn nb (w ++ [wi 0 c]) RS KD N) (k : ∀ ρ' σ',TK σe σ' ρ' a wk rs kn nb (w ++ [wi 1 (der H c)] ++ (parts H (der H c)).reverse.map (wi 0)) RS (putD (der H c).2 .none KD) N->WH C (whT tkL) (whB tkL) ρ' σ' R) : WH C (whT tkL) (whB tkL) ρ σ R := by
 refine tk_comp K ok c1 hc hw t λ ρ1 σ1 R' hR' t1 lc => ?_
 have okd := der_ok K.W ok
 have K' := K
 generalize der H c = d at *
 obtain ⟨hn,sc,T,XC,SO,SY,FO,hA,hF,htf,ft,W,hlen,nb0,wk0,rs0,kn0,wr⟩ := K
 have B' := T.sys
 have X := XC.pass
 have t2 := t1.setK K' (putD d.2 .none KD)
 obtain ⟨te,tw,tr,tk,tn,l1,l2,l3,l4,l5⟩ := t1
 refine EX.ite λ R2 hR2 => ?_;walk_at "r"
 refine op_inD B' tk ?_
 rw [hk]
 walk_at "r"
 refine ite_f ?_;walk_at "r"
 refine si_dict tk (by exact La.z5 hkl) ?_
 generalize upd σ1 kn (.dictI (putD d.2 .none KD)) = σ2 at *
 have tw2 := t2.w
 walk_at "r"
 refine ⟨_,_,rfl,tw2,?_⟩;walk_at "r"
 refine ⟨by simp,?_⟩;walk_at "r"
 refine ⟨_,tw2,by exact La.z5 hw,?_⟩
 have t3 : TK σe (upd σ2 wk (.list (w ++ [.tup [.int 1,cv d]]))) ρ1 a wk rs kn nb (w ++ [wi 1 d]) RS (putD d.2 .none KD) N := t2.setW K' _
 generalize upd σ2 wk (.list (w ++ [.tup [.int 1,cv d]])) = σ3 at *
 have SO3 := SO.ebD nb0 t3.e
 have SY3 : SyS σ3 a A F := SyOk.ebD SY nb0 t3.e
 have m1 := SO3.st
 have m2 := SO3.dst
 walk_at "r"
 refine fc_base hn T ?_;walk_at "r"
 refine La.x1_5 (okd.comp hc) λ p hp hpl hw2 harg hkd => ?_
 refine EX.forP X (λ _ => rfl) ?_;walk_at "r"
 refine fc_width hn T SO3 SY3 FO (by exact La.z2 hlen) okd hc ?_;walk_at "r"
 refine fc_range3 rfl (by exact La.z43) (by exact La.z44 hw2) (by decide) (by decide) λ r hr => ?_
 refine it_rng up' (small_down _ (by exact La.z45 hw2)) λ it hit => ⟨it,rfl,λ R3 hR3 => ?_⟩
 rw [rsize_down]
 have hit0 := uN' hit
 have r0 : σe r = none := by
  cases z : σe r with
  | none => rfl
  | some m =>
   by_cases q : r = nb
   ·subst q; rw [t3.n] at hr; cases hr
   ·rw [t3.e r m (by simpa using q) z] at hr; cases hr
 have it0 : σe it = none := by
  cases z : σe it with
  | none => rfl
  | some m =>
   by_cases q : it = nb
   ·subst q; rw [t3.n] at hit0; cases hit0
   ·rw [t3.e it m (by simpa using q) z] at hit0; cases hit0
 have up : ∀ {ρ' : Loc'} {σ' : CH} {w' : List PV} (x : Addr) (m : MO),σe x = none->x ≠ wk->x ≠ rs->x ≠ kn->x ≠ nb->TK σe σ' ρ' a wk rs kn nb w' RS (putD d.2 .none KD) N->TK σe (upd σ' x m) ρ' a wk rs kn nb w' RS (putD d.2 .none KD) N := λ x m h0 h1 h2 h3 h4 t =>
  ⟨t.e.updN h0,(un' h1.symm).trans t.w,(un' h2.symm).trans t.r,(un' h3.symm).trans t.k,(un' h4.symm).trans t.n,t.l1,t.l2,t.l3,t.l4,t.l5⟩
 have rw1 : r ≠ wk := (ne_of hr t3.w).symm
 have rw2 : r ≠ rs := (ne_of hr t3.r).symm
 have rw3 : r ≠ kn := (ne_of hr t3.k).symm
 have rw4 : r ≠ nb := (ne_of hr t3.n).symm
 have iw1 : it ≠ wk := (ne_of hit0 t3.w).symm
 have iw2 : it ≠ rs := (ne_of hit0 t3.r).symm
 have iw3 : it ≠ kn := (ne_of hit0 t3.k).symm
 have iw4 : it ≠ nb := (ne_of hit0 t3.n).symm
 have t4 := up it (.itR ((wd H d : Int) - 1) (wd H d) (-1)) it0 iw1 iw2 iw3 iw4 (up r (.rng ((wd H d : Int) - 1) (-1) (-1)) r0 rw1 rw2 rw3 rw4 t3)
 have hpn : (parts H d).length = wd H d := by simp [parts]
 refine FL.downP X (by walk_at "kd2") (λ j ρ' σ' => j<=wd H d/\TK σe σ' ρ' a wk rs kn nb (w ++ [wi 1 d] ++ ((parts H d).drop j).reverse.map (wi 0)) RS (putD d.2 .none KD) N/\lk "place" ρ' = some (.int (bs d)))
  (wd H d) _ _ ⟨Nat.le_refl _,by rw [show (parts H d).drop (wd H d) = [] from List.drop_eq_nil_of_le (by rw [hpn]; exact Nat.le_refl _)]; simpa using t4.name (by decide),by walk_at "lk"⟩ up' ?_ ?_
 ·intro j ρ5 σ5 h'1 hi R4 hR4; refine La.c3 h'1 λ lj t5 lp => ?_; clear h'1
  have t6 := up it (.itR ((j : Int) - 1) j (-1)) it0 iw1 iw2 iw3 iw4 t5
  have i6 : upd σ5 it (.itR ((j : Int) - 1) j (-1)) it = some (.itR ((j : Int) - 1) j (-1)) := up'
  generalize upd σ5 it (.itR ((j : Int) - 1) j (-1)) = σ6 at *
  have SO6 := SO.ebD nb0 t6.e
  have m1 := SO6.st
  have m2 := SO6.dst
  have tw6 := t6.w
  refine La.c5 (⟨t6.l1,t6.l2,t6.l3,t6.l4,t6.l5⟩ : lk "self" ρ5 = some (.ref a.st)/\lk "table" ρ5 = some (.ref nb)/\lk "known" ρ5 = some (.ref kn)/\lk "results" ρ5 = some (.ref rs)/\lk "work" ρ5 = some (.ref wk)) λ l1' l2' l3' l4' l5' => ?_
  have hplen := parts_len (H := H) (c := d)
  walk_at "r"
  refine ⟨_,_,rfl,tw6,?_⟩;walk_at "r"
  have hj : j < wd H d := by exact La.z46 lj
  refine op_hp SO6.hp (v := p + j) (by rw [hp]; rfl) (by exact La.z28 hpl lj) (by exact La.z2 hlen) ?_;walk_at "r"
  refine ⟨by simp,?_⟩;walk_at "r"
  refine ⟨_,tw6,by simp; exact La.la [.L (.a .x0 .l1) (.l 90000),.L .x1 (.l 2),.Q .x2 .x1,.o (.w (.L (.a .x3 .l1) .x2) (.Q (.a .x4 (.a .x3 .l1)) .x2)) (.w (.L (.a .x2 .l1) (.a .x3 .l1)) (.Q .x4 .l0))] (.L (.a (.a .x0 (.a .x4 .l1)) .l1) (.l 100000)) [[1,1,1,0,0,1,0,1],[1,0,0,0,0,1,0,1]] rfl [_,_,_,_,_] [] ⟨hw,hw2,hpn,(La.sb _ _),trivial⟩,?_⟩;walk_at "r"
  have e : w ++ [wi 1 d] ++ ((parts H d).drop (j + 1)).reverse.map (wi 0) ++ [.tup [.int 0,cv (hat H (p + j : Nat))]] = w ++ [wi 1 d] ++ ((parts H d).drop j).reverse.map (wi 0) := by
   have : (parts H d).drop j = hat H (p + j : Nat) :: (parts H d).drop (j + 1) := by
    rw [List.drop_eq_getElem_cons (by exact La.z47 hpn lj)]
    congr 1
    simp [parts,hp]
   rw [this]
   simp [wi]
  have t7 := t6.setW K' (w ++ [wi 1 d] ++ ((parts H d).drop (j + 1)).reverse.map (wi 0) ++ [.tup [.int 0,cv (hat H (p + j : Nat))]])
  refine hR4 _ _ ⟨by exact La.z9 lj,?_,by walk_at "lk"⟩ ((un' iw1).trans i6)
  have := t7.name (x := "step") (V := .int (j : Int)) (by decide)
  rw [e] at this
  show TK σe (upd σ6 wk (.list (w ++ [wi 1 d] ++ ((parts H d).drop (j + 1)).reverse.map (wi 0) ++ [.tup [.int 0,cv (hat H (p + j : Nat))]]))) _ _ _ _ _ _ _ _ _ _
  rw [e]
  exact this
 ·intro ρ5 σ5 h'1 l hi; refine La.c3 h'1 λ lj t5 lp => ?_; clear h'1
  have t6 : TK σe (del σ5 it) ρ5 a wk rs kn nb (w ++ [wi 1 d] ++ ((parts H d).drop 0).reverse.map (wi 0)) RS (putD d.2 .none KD) N :=
   ⟨t5.e.delN it0,(del_ne iw1.symm).trans t5.w,(del_ne iw2.symm).trans t5.r,(del_ne iw3.symm).trans t5.k,(del_ne iw4.symm).trans t5.n,t5.l1,t5.l2,t5.l3,t5.l4,t5.l5⟩
  refine hR3.next (EX.nil (hR2.next (EX.nil (hR' _ _ (k _ _ (by simpa using t6))))))
end
end
section
set_option maxHeartbeats 4000000
section
variable {C : Cx} {ρ : Loc'} {σ σe : CH} {mg : Str->Option Value} {n : Nat} {a : SA} {H S : List Cell} {A : List Str} {F : List Cell} {m0 f0 : Nat} {wk rs kn nb : Addr} {P0 : PV->Prop} {w RS : List PV} {KD : List (Int × PV)} {N : List Int} {R : Fl->Loc'->CH->Prop}
theorem tk_build (K : TkC C mg n σe a H S A F m0 f0 wk rs kn nb P0) {d : Cell} (okd : okc H d) (hc : isC d = true) (hw : w.length < 90000) (hR : RS.length < 90000) (hkl : KD.length < 90000) {ts : List PV} (hts : ts.length = wd H d)
  (t : TK σe σ ρ a wk rs kn nb (w ++ [wi 1 d]) (RS ++ ts) KD N) (k : ∀ ρ' σ',TK σe σ' ρ' a wk rs kn nb w (RS ++ [.tup [.str "s",.int (fctr H d),.tup ts]]) (putD d.2 (.tup [.str "s",.int (fctr H d),.tup ts]) KD) N->WH C (whT tkL) (whB tkL) ρ' σ' R) : WH C (whT tkL) (whB tkL) ρ σ R := by
 have K' := K
 obtain ⟨hn,sc,T,XC,SO,SY,FO,hA,hF,htf,ft,W,hlen,nb0,wk0,rs0,kn0,wr⟩ := K
 have t' := t.setW K' w
 obtain ⟨te,tw,tr,tk,tn,l1,l2,l3,l4,l5⟩ := t
 have X := XC.pass
 have B' := T.sys
 refine La.x1_5 (okd.comp hc) λ p hp hpl hw2 harg hkd => ?_
 refine WH.goP X λ R' hR' => ?_
 refine ET.cmp ?_;walk_at "r"
 refine fcl' tw (by simp; exact La.z97 hw) ?_;walk_at "r"
 refine ite_of (λ _ => ?_) λ h => absurd h (by simp)
 refine EX.assign2 (by walk_at "kd2") (by walk_at "kd2") rfl rfl ?_;walk_at "r"
 refine ⟨_,_,_,rfl,tw,by exact La.z5 hw,?_⟩
 refine ⟨_,_,rfl,?_⟩
 generalize upd σ wk (.list w) = σ1 at *
 clear te tw tr tk tn
 have SO1 := SO.ebD nb0 t'.e
 have SY1 : SyS σ1 a A F := SyOk.ebD SY nb0 t'.e
 have m1 := SO1.st
 have m2 := SO1.dst
 have tr := t'.r
 have tk := t'.k
 refine EX.ite λ R2 hR2 => ?_;walk_at "r"
 refine ite_of (λ _ => ?_) λ h => absurd h (by simp);walk_at "r"
 refine fc_functor_of hn T SO1 (by exact La.z2 hlen) okd hc ?_;walk_at "r"
 refine fcl' tr (by simp; exact La.l3 (.T .x0 (.l 90000)) (.Q .x1 .x2) (.L .x2 (.l 2)) (.T (.a .x0 .x1) (.l 1000000)) [[1,1,0,1,1]] rfl [_,_,_] [] hR hts hw2) ?_;walk_at "r"
 refine fc_width hn T SO1 SY1 FO (by exact La.z2 hlen) okd hc ?_
 walk_at "s"
 have hlen1 : (((RS ++ ts).length : Nat) : Int) - ((wd H d : Nat) : Int) = (RS.length : Nat) := by rw [List.length_append,hts]; exact La.l0  (.q (.s (.c (.a .x0 .x1)) (.c .x1)) (.c .x0)) [[1],[1]] rfl [_,_] []
 rw [hlen1]
 iterate 9 walk_at "s"
 refine EV.sliceLo ?_;walk_at "r"
 refine ⟨_,_,_,rfl,rfl,tr,by simp,by simp; exact La.z98 hR hts hlen hpl,λ sl hsl => ?_⟩
 rw [List.drop_left]
 walk_at "s"
 refine fc_tuple (l := ts) up' (by exact La.l2 (.Q .x0 .x1) (.L .x1 (.l 2)) (.T .x0 (.l 100000)) [[1,0,1,1]] rfl [_,_] [] hts hw2) ?_
 have hsn : σe sl = none := by
  cases z : σe sl with
  | none => rfl
  | some m =>
   by_cases q : sl = nb
   ·subst q; rw [t'.n] at hsl; cases hsl
   ·rw [t'.e sl m (by simpa using q) z] at hsl; cases hsl
 have t2 : TK σe (upd σ1 sl (.list ts)) ρ a wk rs kn nb w (RS ++ ts) KD N := ⟨t'.e.updN hsn,(un' (ne_of hsl t'.w)).trans t'.w,(un' (ne_of hsl t'.r)).trans t'.r,(un' (ne_of hsl t'.k)).trans t'.k,(un' (ne_of hsl t'.n)).trans t'.n,t'.l1,t'.l2,t'.l3,t'.l4,t'.l5⟩
 generalize upd σ1 sl (.list ts) = σ2 at *
 have tr2 := t2.r
 walk_at "s"
 refine ⟨by simp,?_⟩
 refine EX.delSlice ?_;walk_at "r"
 refine ⟨_,_,RS.length,rfl,rfl,tr2,by simp,by simp; exact La.z98 hR hts hlen hpl,?_⟩
 rw [List.take_left]
 have t3 := t2.setR K' RS
 generalize upd σ2 rs (.list RS) = σ3 at *
 have tk3 := t3.k
 walk_at "r"
 refine si_dict tk3 (by exact La.z5 hkl) ?_
 have t4 := t3.setK K' (putD d.2 (.tup [.str "s",.int (fctr H d),.tup ts]) KD)
 generalize upd σ3 kn (.dictI (putD d.2 (.tup [.str "s",.int (fctr H d),.tup ts]) KD)) = σ4 at *
 have tr4 := t4.r
 walk_at "r"
 refine ⟨_,_,rfl,tr4,?_⟩;walk_at "r"
 refine ⟨_,tr4,by exact La.z5 hR,?_⟩
 have t5 := t4.setR K' (RS ++ [.tup [.str "s",.int (fctr H d),.tup ts]])
 generalize upd σ4 rs (.list (RS ++ [.tup [.str "s",.int (fctr H d),.tup ts]])) = σ5 at *
 refine EX.contin (hR2.cont (hR'.cont (k _ _ ?_)))
 exact ((((t5.name (by decide)).name (by decide)).name (by decide)).name (by decide)).name (by decide)
end
end
section
set_option maxHeartbeats 4000000
section
variable {C : Cx} {ρ : Loc'} {σ σe : CH} {mg : Str->Option Value} {n : Nat} {a : SA} {H S : List Cell} {A : List Str} {F : List Cell} {m0 f0 : Nat} {wk rs kn nb : Addr} {P0 : PV->Prop} {w RS : List PV} {KD : List (Int × PV)} {N : List Int} {R : Fl->Loc'->CH->Prop}
noncomputable def Rm (H : List Cell) (x : Nat) (KD : List (Int × PV)) : Prop := x + 3 * (H.length - KD.length) + 3<=50000
noncomputable def KeepK (KD KD' : List (Int × PV)) : Prop := KD.length<=KD'.length/\∀ k,(at? k KD).isSome = true->(at? k KD').isSome = true
theorem KeepK.refl {KD : List (Int × PV)} : KeepK KD KD := ⟨Nat.le_refl _,λ _ h => h⟩
theorem KeepK.trans {D1 D2 D3 : List (Int × PV)} (x : KeepK D1 D2) (y : KeepK D2 D3) : KeepK D1 D3 := ⟨Nat.le_trans x.1 y.1,λ k h => y.2 k (x.2 k h)⟩
theorem KeepK.put {KD : List (Int × PV)} {k : Int} {V : PV} (h : KD.length<=(putD k V KD).length) : KeepK KD (putD k V KD) := ⟨h,λ j hj => by
 rw [at?_put]
 split
 ·rfl
 ·exact hj⟩
theorem tk_list (K : TkC C mg n σe a H S A F m0 f0 wk rs kn nb P0) {m : Nat} {P : List Cell} {R : Fl->Loc'->CH->Prop}
  (ih : ∀ (c : Cell) (w RS : List PV) (KD : List (Int × PV)) (N : List Int) (ρ : Loc') (σ : CH),okc H c->c.1 ≠ 1->FinN H m c->KOk H P KD N->NOk H N->Rm H w.length KD->Rm H RS.length KD->TK σe σ ρ a wk rs kn nb (w ++ [wi 0 c]) RS KD N ->
   (∀ KD' ρ' σ',KOk H P KD' (src H m N c).2->NOk H (src H m N c).2->KeepK KD KD'->TK σe σ' ρ' a wk rs kn nb w (RS ++ [(src H m N c).1]) KD' (src H m N c).2->WH C (whT tkL) (whB tkL) ρ' σ' R)->WH C (whT tkL) (whB tkL) ρ σ R) :
  ∀ (l : List Cell) (w RS : List PV) (KD : List (Int × PV)) (N : List Int) (ρ : Loc') (σ : CH),(∀ p ∈ l,okc H p/\p.1 ≠ 1/\FinN H m p)->KOk H P KD N->NOk H N->Rm H (w.length + l.length) KD->Rm H (RS.length + l.length) KD->TK σe σ ρ a wk rs kn nb (w ++ l.reverse.map (wi 0)) RS KD N ->
   (∀ KD' ρ' σ',KOk H P KD' (srcs (src H m) N l).2->NOk H (srcs (src H m) N l).2->KeepK KD KD'->TK σe σ' ρ' a wk rs kn nb w (RS ++ (srcs (src H m) N l).1) KD' (srcs (src H m) N l).2->WH C (whT tkL) (whB tkL) ρ' σ' R)->WH C (whT tkL) (whB tkL) ρ σ R
 | [],w,RS,KD,N,ρ,σ,_,hk,hN,_,_,t,k => k KD ρ σ hk hN KeepK.refl (by simpa [srcs] using t)
 | p :: l,w,RS,KD,N,ρ,σ,hl,hk,hN,r1,r2,t,k => by
  refine La.c3 (hl p List.mem_cons_self) λ ok c1 hf => ?_
  unfold Rm at r1 r2
  simp only [List.length_cons] at r1 r2
  refine ih p (w ++ l.reverse.map (wi 0)) RS KD N ρ σ ok c1 hf hk hN (by unfold Rm; simp; exact La.z55 r1) (by unfold Rm; exact La.z56 r2) (by simpa using t) λ KD1 ρ1 σ1 hk1 hN1 e1 t1 => ?_
  have e1l := e1.1
  refine tk_list K ih l w (RS ++ [(src H m N p).1]) KD1 _ ρ1 σ1 (λ q hq => hl q (List.mem_cons_of_mem _ hq)) hk1 hN1 (by unfold Rm; exact La.z115 r1 e1l (La.sb _ _) (La.sb _ _)) (by unfold Rm; simp; exact La.z116 r2 e1l (La.sb _ _) (La.sb _ _)) t1 λ KD2 ρ2 σ2 hk2 hN2 e2 t2 => ?_
  exact k KD2 ρ2 σ2 hk2 hN2 (e1.trans e2) (by simpa [srcs] using t2)
theorem tk_fin (K : TkC C mg n σe a H S A F m0 f0 wk rs kn nb P0) {R : Fl->Loc'->CH->Prop} : ∀ (m : Nat) (P : List Cell),(∀ d ∈ P,¬ FinN H m d)->∀ (c : Cell) (w RS : List PV) (KD : List (Int × PV)) (N : List Int) (ρ : Loc') (σ : CH),okc H c->c.1 ≠ 1->FinN H m c->KOk H P KD N->NOk H N->Rm H w.length KD->Rm H RS.length KD->TK σe σ ρ a wk rs kn nb (w ++ [wi 0 c]) RS KD N ->
   (∀ KD' ρ' σ',KOk H P KD' (src H m N c).2->NOk H (src H m N c).2->KeepK KD KD'->TK σe σ' ρ' a wk rs kn nb w (RS ++ [(src H m N c).1]) KD' (src H m N c).2->WH C (whT tkL) (whB tkL) ρ' σ' R)->WH C (whT tkL) (whB tkL) ρ σ R := by
 have leaf : ∀ (m : Nat) (P : List Cell) (c : Cell) (w RS : List PV) (KD : List (Int × PV)) (N : List Int) (ρ : Loc') (σ : CH),isC (der H c) = false->okc H c->c.1 ≠ 1->KOk H P KD N->NOk H N->Rm H w.length KD->Rm H RS.length KD->TK σe σ ρ a wk rs kn nb (w ++ [wi 0 c]) RS KD N ->
   (∀ KD' ρ' σ',KOk H P KD' (src H m N c).2->NOk H (src H m N c).2->KeepK KD KD'->TK σe σ' ρ' a wk rs kn nb w (RS ++ [(src H m N c).1]) KD' (src H m N c).2->WH C (whT tkL) (whB tkL) ρ' σ' R)->WH C (whT tkL) (whB tkL) ρ σ R := by
  intro m P c w RS KD N ρ σ hc ok c1 hk hN r1 r2 t k
  rw [src_leaf hc] at k
  unfold Rm at r1 r2
  refine tk_leaf K ok c1 hc (by exact La.z6 r1) (by exact La.z6 r2) hN t λ ρ' σ' t' => k KD ρ' σ' ?_ (leafV_ok hN (der_ok K.W ok)) KeepK.refl t'
  refine La.x1_1 (leafV_pre (N := N) (d := der H c)) λ r e => ?_
  rw [e]; exact hk.more r
 intro m
 induction m with
 | zero => exact λ P hP c w RS KD N ρ σ ok c1 hf hk hN r1 r2 t k => leaf 0 P c w RS KD N ρ σ hf ok c1 hk hN r1 r2 t k
 | succ m ihm =>
  intro P hP c w RS KD N ρ σ ok c1 hf hk hN r1 r2 t k
  cases hc : isC (der H c) with
  | false => exact leaf (m + 1) P c w RS KD N ρ σ hc ok c1 hk hN r1 r2 t k
  | true =>
   by_cases hfm : FinN H m c
   ·rw [src_succ hfm] at k
    exact ihm P (λ d hd q => hP d hd q.succ) c w RS KD N ρ σ ok c1 hfm hk hN r1 r2 t k
   ·have okd := der_ok K.W ok
    have hfd : FinN H (m + 1) (der H c) := (FinN.der K.W ok).mpr hf
    have hsd : ∀ M,src H (m + 1) M (der H c) = src H (m + 1) M c := λ M => src_der K.W ok _ _
    have hkl := hk.len
    have r1' := r1
    have r2' := r2
    unfold Rm at r1 r2
    have hlen := K.hlen
    cases hat : at? (der H c).2 KD with
    | some v =>
     rcases hk.at_ _ okd hc v hat with ⟨_,hd⟩ | ⟨⟨ts,rfl⟩,m',hf',hs'⟩
     ·exact absurd hfd (hP _ hd)
     ·have e : src H (m + 1) N c = (.tup ts,N) := by rw [<- hsd,src_any hf' hfd,hs']
      rw [e] at k
      exact tk_known K ok c1 hc (by exact La.z6 r1) (by exact La.z6 r2) hat t λ ρ' σ' t' => k KD ρ' σ' hk hN KeepK.refl t'
    | none =>
     refine La.c2 (hk.begin okd hc hat) λ hk1 hl1 => ?_
     have hl1' := hk1.len
     have hpl := parts_len (H := H) (c := der H c)
     refine tk_new K ok c1 hc (by exact La.z6 r1) hat (by exact La.z99 hlen hl1 hl1') t λ ρ1 σ1 t1 => ?_
     have hP1 : ∀ e ∈ der H c :: P,¬ FinN H m e := λ e he q => by
      rcases List.mem_cons.mp he with rfl | he
      ·exact hfm ((FinN.der K.W ok).mp q)
      ·exact hP e he q.succ
     refine tk_list K (ihm (der H c :: P) hP1) (parts H (der H c)) (w ++ [wi 1 (der H c)]) RS _ N ρ1 σ1 (λ p hp => ⟨(parts_ok K.W okd p hp).1,(parts_ok K.W okd p hp).2,hf p hp⟩) hk1 hN (by unfold Rm; rw [hl1]; simp; exact La.z117 r1 hl1 hl1' hpl (La.sb _ _) (La.sb _ _)) (by unfold Rm; rw [hl1]; exact La.z118 r2 hl1 hl1' hpl (La.sb _ _) (La.sb _ _)) t1 λ KD2 ρ2 σ2 hk2 hN2 e2 t2 => ?_
     have e : ∀ M,src H (m + 1) M c = (.tup [.str "s",.int (fctr H (der H c)),.tup (srcs (src H m) M (parts H (der H c))).1],(srcs (src H m) M (parts H (der H c))).2) := λ M => by rw [src,if_pos hc]
     rw [e N] at k
     have hlts : ∀ (l : List Cell) (M : List Int),(srcs (src H m) M l).1.length = l.length := by
      intro l
      induction l with
      | nil => exact λ M => rfl
      | cons x l ih => exact λ M => by simp [srcs,ih]
     have hk2l := hk2.len
     have hd2 : (at? (der H c).2 KD2).isSome = true := e2.2 _ (by rw [at?_put,if_pos rfl]; rfl)
     have hs2 : src H (m + 1) (srcs (src H m) N (parts H (der H c))).2 (der H c) = (.tup [.str "s",.int (fctr H (der H c)),.tup (srcs (src H m) N (parts H (der H c))).1],(srcs (src H m) N (parts H (der H c))).2) := by
      have := src_again (H := H) (m + 1) N c
      rw [e N] at this
      rw [hsd]
      exact this
     refine La.c2 (hk2.built okd hc hd2 hfd hs2) λ hk3 hl3 => ?_
     refine tk_build K okd hc (by exact La.z6 r1) (by exact La.z6 r2) (by exact La.l2 (.T .x0 (.l 900)) (.L .x1 .x0) (.T .x1 (.l 90000)) [[1,1,1]] rfl [_,_] [] hlen hk2l) (by rw [hlts]; simp [parts]) t2 λ ρ3 σ3 t3 => ?_
     have e3 : KeepK KD (putD (der H c).2 PV.none KD) := KeepK.put (by exact La.l1 (.Q .x0 (.a .x1 .l1)) (.L .x1 .x0) [[0,1,1]] rfl [_,_] [] hl1)
     exact k _ ρ3 σ3 hk3 hN2 ((e3.trans e2).trans (KeepK.put (by exact La.l1 (.Q .x0 .x1) (.L .x1 .x0) [[0,1,1]] rfl [_,_] [] hl3))) t3
end
end
section
set_option maxHeartbeats 4000000
section
variable {C : Cx} {ρ : Loc'} {σ σe : CH} {mg : Str->Option Value} {n : Nat} {a : SA} {H S : List Cell} {A : List Str} {F : List Cell} {m0 f0 : Nat} {wk rs kn nb : Addr} {P0 : PV->Prop} {w RS : List PV} {KD : List (Int × PV)} {N : List Int} {R : Fl->Loc'->CH->Prop}
theorem fin_all {H : List Cell} : ∀ {l : List Cell},(∀ p ∈ l,∃ m,FinN H m p)->∃ M,∀ p ∈ l,FinN H M p
 | [],_ => ⟨0,λ _ h => by cases h⟩
 | c :: l,h => by
  refine La.x1_1 (h c List.mem_cons_self) λ m hm => ?_
  refine La.x1_1 (fin_all λ p hp => h p (List.mem_cons_of_mem _ hp)) λ M hM => ?_
  refine ⟨max m M,λ p hp => ?_⟩
  rcases List.mem_cons.mp hp with rfl | hp
  ·exact hm.le (Nat.le_max_left _ _)
  ·exact (hM p hp).le (Nat.le_max_right _ _)
theorem tk_inf (K : TkC C mg n σe a H S A F m0 f0 wk rs kn nb P0) (hPB : P0 (ball (formal m0 f0))) {R : Fl->Loc'->CH->Prop} : ∀ (j : Nat) (c : Cell) (P : List Cell) (w RS : List PV) (KD : List (Int × PV)) (N : List Int) (ρ : Loc') (σ : CH),H.length - KD.length<=j->okc H c->c.1 ≠ 1->(∀ m,¬ FinN H m c)->(∀ d ∈ P,∀ m,¬ FinN H m d)->KOk H P KD N->NOk H N->Rm H w.length KD->Rm H RS.length KD ->
  TK σe σ ρ a wk rs kn nb (w ++ [wi 0 c]) RS KD N->WH C (whT tkL) (whB tkL) ρ σ R := by
 intro j
 induction j with
 | zero =>
  intro c P w RS KD N ρ σ hj ok c1 hinf hP hk hN r1 r2 t
  have hc : isC (der H c) = true := by
   cases q : isC (der H c) with
   | true => rfl
   | false => exact absurd (show FinN H 0 c from q) (hinf 0)
  have okd := der_ok K.W ok
  unfold Rm at r1 r2
  cases hat : at? (der H c).2 KD with
  | some v =>
   rcases hk.at_ _ okd hc v hat with ⟨rfl,hd⟩ | ⟨_,m',hf',_⟩
   ·exact tk_raise K ok c1 hc (by exact La.z6 r1) hat hPB t
   ·exact absurd ((FinN.der K.W ok).mp hf') (hinf _)
  | none =>
   refine La.c2 (hk.begin okd hc hat) λ hk1 hl1 => ?_
   have := hk1.len
   exact False.elim (La.la [.L .x2 .l0,.Q .x3 (.a .x1 .l1),.L .x3 .x0,.o (.w (.L .x1 .x0) (.Q (.a .x2 .x1) .x0)) (.w (.L (.a .x0 .l1) .x1) (.Q .x2 .l0))] .F [[1,0,1,1,0,0,1],[0,0,1,1,1,0,0]] rfl [_,_,_,_] [] ⟨hj,hl1,this,(La.sb _ _),trivial⟩)
 | succ j ih =>
  intro c P w RS KD N ρ σ hj ok c1 hinf hP hk hN r1 r2 t
  have hc : isC (der H c) = true := by
   cases q : isC (der H c) with
   | true => rfl
   | false => exact absurd (show FinN H 0 c from q) (hinf 0)
  have okd := der_ok K.W ok
  have hlen := K.hlen
  have hkl := hk.len
  unfold Rm at r1 r2
  cases hat : at? (der H c).2 KD with
  | some v =>
   rcases hk.at_ _ okd hc v hat with ⟨rfl,hd⟩ | ⟨_,m',hf',_⟩
   ·exact tk_raise K ok c1 hc (by exact La.z6 r1) hat hPB t
   ·exact absurd ((FinN.der K.W ok).mp hf') (hinf _)
  | none =>
   refine La.c2 (hk.begin okd hc hat) λ hk1 hl1 => ?_
   have hl1' := hk1.len
   have hpl := parts_len (H := H) (c := der H c)
   refine tk_new K ok c1 hc (by exact La.z6 r1) hat (by exact La.z99 hlen hl1 hl1') t λ ρ1 σ1 t1 => ?_
   have hP1 : ∀ e ∈ der H c :: P,∀ m,¬ FinN H m e := λ e he m q => by
    rcases List.mem_cons.mp he with rfl | he
    ·exact hinf m ((FinN.der K.W ok).mp q)
    ·exact hP e he m q
   have some : ∃ p ∈ parts H (der H c),∀ m,¬ FinN H m p := by
    apply Classical.byContradiction
    intro q
    refine La.x1_1 (fin_all (l := parts H (der H c)) λ p hp => Classical.byContradiction λ z => q ⟨p,hp,λ m hm => z ⟨m,hm⟩⟩) λ M hM => ?_
    exact hinf (M + 1) hM
   have list : ∀ (l : List Cell) (w RS : List PV) (KD : List (Int × PV)) (N : List Int) (ρ : Loc') (σ : CH),H.length - KD.length<=j->(∀ p ∈ l,okc H p/\p.1 ≠ 1)->(∃ p ∈ l,∀ m,¬ FinN H m p)->KOk H (der H c :: P) KD N->NOk H N->Rm H (w.length + l.length) KD->Rm H (RS.length + l.length) KD ->
     TK σe σ ρ a wk rs kn nb (w ++ l.reverse.map (wi 0)) RS KD N->WH C (whT tkL) (whB tkL) ρ σ R := by
    intro l
    induction l with
    | nil => intro w RS KD N ρ σ _ _ h; refine La.x1_2 h λ p hp _ => ?_; clear h; cases hp
    | cons p l ihl =>
     intro w RS KD N ρ σ hj2 hl hs hk2 hN2 r1 r2 t
     refine La.c2 (hl p List.mem_cons_self) λ okp p1 => ?_
     unfold Rm at r1 r2
     simp only [List.length_cons] at r1 r2
     by_cases hp : ∃ m,FinN H m p
     ·refine La.x1_1 hp λ m hm => ?_; clear hp
      refine tk_fin K m (der H c :: P) (λ e he => hP1 e he m) p (w ++ l.reverse.map (wi 0)) RS KD N ρ σ okp p1 hm hk2 hN2 (by unfold Rm; simp; exact La.z55 r1) (by unfold Rm; exact La.z56 r2) (by simpa using t) λ KD3 ρ3 σ3 hk3 hN3 e3 t3 => ?_
      have e3l := e3.1
      refine ihl w (RS ++ [(src H m N p).1]) KD3 _ ρ3 σ3 (by exact La.la [.L .x2 .x3,.L .x1 .x4,.o (.w (.L .x1 .x0) (.Q (.a .x2 .x1) .x0)) (.w (.L (.a .x0 .l1) .x1) (.Q .x2 .l0)),.o (.w (.L .x4 .x0) (.Q (.a .x5 .x4) .x0)) (.w (.L (.a .x0 .l1) .x4) (.Q .x5 .l0))] (.L .x5 .x3) [[1,1,0,0,1,0,1,0,1],[0,0,0,0,0,0,1,0,1],[0,1,1,0,0,1,0,0,0],[0,0,0,0,0,0,1,0,1]] rfl [_,_,_,_,_,_] [] ⟨hj2,e3l,(La.sb _ _),(La.sb _ _),trivial⟩) (λ q hq => hl q (List.mem_cons_of_mem _ hq)) ?_ hk3 hN3 (by unfold Rm; exact La.z115 r1 e3l (La.sb _ _) (La.sb _ _)) (by unfold Rm; simp; exact La.z116 r2 e3l (La.sb _ _) (La.sb _ _)) t3
      refine La.x1_2 hs λ q hq hinfq => ?_; clear hs
      rcases List.mem_cons.mp hq with rfl | hq
      ·exact absurd hm (hinfq m)
      ·exact ⟨q,hq,hinfq⟩
     ·exact ih p (der H c :: P) (w ++ l.reverse.map (wi 0)) RS KD N ρ σ hj2 okp p1 (λ m hm => hp ⟨m,hm⟩) hP1 hk2 hN2 (by unfold Rm; simp; exact La.z55 r1) (by unfold Rm; exact La.z56 r2) (by simpa using t)
   exact list (parts H (der H c)) (w ++ [wi 1 (der H c)]) RS _ N ρ1 σ1 (by exact La.la [.L .x2 (.a .x3 .l1),.Q .x4 (.a .x1 .l1),.o (.w (.L .x1 .x0) (.Q (.a .x2 .x1) .x0)) (.w (.L (.a .x0 .l1) .x1) (.Q .x2 .l0)),.o (.w (.L .x4 .x0) (.Q (.a .x5 .x4) .x0)) (.w (.L (.a .x0 .l1) .x4) (.Q .x5 .l0))] (.L .x5 .x3) [[1,0,1,0,0,1,0,1,0,1],[0,0,0,0,0,0,0,1,0,1],[0,0,1,1,0,0,1,0,0,0],[0,0,0,0,0,0,0,1,0,1]] rfl [_,_,_,_,_,_] [] ⟨hj,hl1,(La.sb _ _),(La.sb _ _),trivial⟩) (λ p hp => parts_ok K.W okd p hp) some hk1 hN (by unfold Rm; rw [hl1]; simp; exact La.z117 r1 hl1 hl1' hpl (La.sb _ _) (La.sb _ _)) (by unfold Rm; rw [hl1]; exact La.z118 r2 hl1 hl1' hpl (La.sb _ _) (La.sb _ _)) t1
theorem fc_take_term {n : Nat} (hn : C.n = n + 5) (T : TC C mg) (SO : StOk σ a H S) (SY : SyS σ a A F) (FO : FuOk F) (hA : A.length < 900) (hF : F.length < 900) (htf : a.tx ≠ a.fu) (ft : FT A F m0 f0) (W : WF H) (hlen : H.length < 900) {c : Cell} (ok : okc H c) (c1 : c.1 ≠ 1)
  {nb : Addr} (hnb : σ nb = some (.dictI [])) (hX : ∀ e σ' s',XP C.b C.fl (del σ nb) (λ B => B = ball (formal m0 f0)/\∀ m,¬ FinN H m c) e σ' s'->C.X e σ' s')
  {Q : PV->CH->Prop} (q : ∀ m σ',FinN H m c->EB [nb] σ σ'->Q (src H m [] c).1 σ') : FC C (.ref 371) [.ref a.st,cv c,.ref nb] σ Q := by
 refine FC.mthX (σ₀ := del σ nb) (P := λ B => B = ball (formal m0 f0)/\∀ m,¬ FinN H m c) hn T (T.mt "take_term" rfl) (names := ["self","cell","table"]) (HB.three λ _ _ _ _ _ _ _ _ _ _ => rfl) rfl rfl rfl (by decide) (by decide) hX λ C' hn' sc T' XC' => ?_
 walk_at "b"
 refine EV.dict0 λ kn hkn => ?_;walk_at "r"
 refine ⟨by simp,λ rs hrs' => ?_⟩
 have hrs := uN' hrs'
 have hkr : kn ≠ rs := λ q => by rw [<- q,up'] at hrs'; cases hrs'
 have hE1 : Ext σ (upd (upd σ kn (.dictI [])) rs (.list [])) := (Ext.new hkn).trans (Ext.new hrs')
 have f1 : upd (upd σ kn (.dictI [])) rs (.list []) kn = some (.dictI []) := (un' hkr).trans up'
 have f2 : upd (upd σ kn (.dictI [])) rs (.list []) rs = some (.list []) := up'
 generalize upd (upd σ kn (.dictI [])) rs (.list []) = σ1 at *
 have SO1 := SO.ext hE1
 have m1 := SO1.st
 have m2 := SO1.dst
 walk_at "r"
 refine fc_globalise hn' T' SO1 W (by exact La.z2 hlen) ok c1 ?_;walk_at "r"
 refine ⟨by simp,?_⟩;walk_at "r"
 refine ⟨by simp,λ wk hwk' => ?_⟩
 have hwk := hE1.none hwk'
 have okd := der_ok W ok
 have d1 := der_ne1 W ok c1
 have hwr : wk ≠ rs := λ q => by rw [q,f2] at hwk'; cases hwk'
 have hwn : wk ≠ kn := λ q => by rw [q,f1] at hwk'; cases hwk'
 have hE2 : Ext σ (upd σ1 wk (.list [.tup [.int 0,cv (der H c)]])) := hE1.updN hwk
 have K : TkC C' mg n σ a H S A F m0 f0 wk rs kn nb (λ B => B = ball (formal m0 f0)/\∀ m,¬ FinN H m c) := ⟨hn',sc,T',XC',SO,SY,FO,hA,hF,htf,ft,W,hlen,hnb,hwk,hrs,hkn,hwr⟩
 have t : ∀ ρ,lk "self" ρ = some (.ref a.st)->lk "table" ρ = some (.ref nb)->lk "known" ρ = some (.ref kn)->lk "results" ρ = some (.ref rs)->lk "work" ρ = some (.ref wk)->TK σ (upd σ1 wk (.list [.tup [.int 0,cv (der H c)]])) ρ a wk rs kn nb ([] ++ [wi 0 (der H c)]) [] [] [] := λ ρ l1 l2 l3 l4 l5 =>
  ⟨hE2.eb,up',(un' hwr.symm).trans f2,(un' hwn.symm).trans f1,hE2 _ _ hnb,l1,l2,l3,l4,l5⟩
 generalize upd σ1 wk (.list [.tup [.int 0,cv (der H c)]]) = σ2 at *
 refine EX.whileP XC'.pass λ R hR => ?_
 refine (?_ : ∀ ρ,TK σ σ2 ρ a wk rs kn nb ([] ++ [wi 0 (der H c)]) [] [] []->WH C' (whT tkL) (whB tkL) ρ σ2 R) _ (t _ (by walk_at "lk") (by walk_at "lk") (by walk_at "lk") (by walk_at "lk") (by walk_at "lk"))
 intro ρ t0
 have k0 : KOk H [] [] [] := ⟨by simp,λ k h => by simp at h,λ d _ _ t h => by simp [at?] at h⟩
 have N0 : NOk H [] := ⟨by simp,λ v h => by cases h⟩
 by_cases hfin : ∃ m,FinN H m c
 ·refine La.x1_1 hfin λ m hm => ?_; clear hfin
  have hmd : FinN H m (der H c) := (FinN.der W ok).mpr hm
  refine tk_fin K m [] (λ _ h => by cases h) (der H c) [] [] [] [] _ _ okd d1 hmd k0 N0 (by unfold Rm; simp; exact La.z32 hlen) (by unfold Rm; simp; exact La.z32 hlen) t0 λ KD' ρ' σ' hk' hN' e' t' => ?_
  refine WH.goP XC'.pass λ R' hR' => ?_
  have tw := t'.w
  have tr := t'.r
  have l4 := t'.l4
  have l5 := t'.l5
  refine ET.cmp ?_;walk_at "r"
  refine fcl' tw (by simp) ?_;walk_at "r"
  refine ite_of (λ h => absurd h (by simp)) λ _ => ?_
  refine hR.next ?_;walk_at "r"
  refine op_subL tr (by decide) rfl (by decide) ?_ (λ _ _ => rfl)
  have := q m σ' hm t'.e
  rw [src_der W ok]
  simpa [retV] using this
 ·exact tk_inf K ⟨rfl,λ m hm => hfin ⟨m,hm⟩⟩ H.length (der H c) [] [] [] [] [] _ _ (by simp) okd d1 (λ m hm => hfin ⟨m,(FinN.der W ok).mp hm⟩) (λ _ h => by cases h) k0 N0 (by unfold Rm; simp; exact La.z32 hlen) (by unfold Rm; simp; exact La.z32 hlen) t0
end
end
section
set_option maxHeartbeats 4000000
section
variable {C : Cx} {ρ : Loc'} {σ σe : CH} {mg : Str->Option Value} {n : Nat} {a : SA} {H S : List Cell} {A : List Str} {F : List Cell} {m0 f0 : Nat}
theorem fc_law_taken {n : Nat} (hn : C.n = n + 6) (T : TC C mg) (SO : StOk σ a H S) (SY : SyS σ a A F) (FO : FuOk F) (hA : A.length < 900) (hF : F.length < 900) (htf : a.tx ≠ a.fu) (ft : FT A F m0 f0) (W : WF H) (hlen : H.length < 900) {c : Cell} (ok : okc H c) (c1 : c.1 ≠ 1)
  {nb : Addr} (hnb : σ nb = some (.dictI []))
  {Q : PV->CH->Prop} (q : ∀ m σ',FinN H m c->Ext (del σ nb) σ'->Q (src H m [] c).1 σ') (q' : ∀ σ',(∀ m,¬ FinN H m c)->Ext (del σ nb) σ'->Q (ball (formal m0 f0)) σ') : FC C (.ref 582) [.ref a.st,cv c,.ref nb] σ Q := by
 refine La.c3 ((T.fn "_law_taken" rfl)) λ _ _ fa => ?_
 refine FC.fnX (σ₀ := σ) (P := λ _ => False) hn T.bs fa (names := ["store","cell","numbers"]) (HB.three λ _ _ _ _ _ _ _ _ _ _ => rfl) rfl rfl rfl (by decide) (by decide) (λ _ _ _ ⟨_,_,_,_,h,_⟩ => h.elim) λ C' F' XC' => ?_
 have T' : TC C' mg := T.fits F'
 have sc := F'.sc
 have hn' := F'.n
 have X := XC'.none
 have K1 : FnT C'.b C'.K mg "_law_taken" 582 59 := (T'.fn "_law_taken" rfl)
 refine EX.cons (ES.tryBall T' X XC'.fl (P := λ B => B = ball (formal m0 f0)/\∀ m,¬ FinN H m c) (σ₀ := del σ nb) (λ B h x => by rw [h.1]; simp [ball]) (by walk_at "kd") (by walk_at "kd") ?_ ?_ (by simp) rfl rfl (by simp) rfl rfl (by decide))
 ·walk_at "r"
  refine ⟨_,GM.inst T'.bs SO.st SO.dst rfl (T'.mt "take_term" rfl).1,(T'.mt "take_term" rfl).2.1,?_⟩;walk_at "r"
  refine fc_take_term (C := { C' with X := XP C'.b C'.fl (del σ nb) λ B => B = ball (formal m0 f0)/\∀ m,¬ FinN H m c }) hn' T' SO SY FO hA hF htf ft W hlen ok c1 hnb (λ _ _ _ h => h) λ m σ' hm e => ?_
  refine q m σ' hm λ x m' h => ?_
  unfold Mine.del at h
  split at h
  ·cases h
  ·rename_i hx; exact e x m' (by simpa using hx) h
 ·intro B σ' h'1 e; refine La.c2 h'1 λ h'2 hinf => ?_; clear h'1; subst h'2
  exact q' σ' hinf e
end
end
section
set_option maxHeartbeats 4000000
section
variable {C : Cx} {ρ : Loc'} {σ : CH} {mg : Str->Option Value} {a : SA} {H S : List Cell} {TX : List PV} {AN : List (Str × PV)} {FU : List Cell} {FN : List (List Int × PV)}
theorem op_neB {x y : Bool} {Q : PV->CH->Prop} (q : Q (.bool (x != y)) σ) : O2 C Rel (compareOp .NotEq) (.bool x) (.bool y) ρ σ Q := by
 rintro A s v w G S rfl rfl; exact PyProof.Rows.ne_bool (PG.now' S q rfl)
theorem fc_reaches_srf {n : Nat} (hn : C.n = n + 2) (T : TC C mg) (SO : StOk σ a H [(1,0)]) (W : WF H) (hlen : H.length < 1000) {v : Cell} {Q : PV->CH->Prop} (q : ∀ σ',Ext σ σ'->Q (.bool false) σ') : FC C (.ref 446) [.ref a.st,cv (1,0),cv v] σ Q := by
 refine FC.top hn T (T.fn "reaches" rfl) (names := ["store","cell","target"]) (HB.three λ _ _ _ _ _ _ _ _ _ _ => rfl) rfl rfl rfl (by decide) (by decide) λ C' hn' sc T' X => ?_
 walk_at "b";walk_at "r"
 refine fc_set0 λ mt hm0 => ?_;walk_at "r"
 refine ⟨by simp,λ w hw0' => ?_⟩
 have hw0 : σ w = none := uN' hw0'
 have hE : Ext σ (upd (upd σ mt (.set (λ _ => false) 0)) w (.list [cv (1,0)])) := (Ext.refl.updN hm0).updN hw0
 have fw : upd (upd σ mt (.set (λ _ => false) 0)) w (.list [cv (1,0)]) w = some (.list ([] ++ [cv (1,0)])) := up'
 generalize upd (upd σ mt (.set (λ _ => false) 0)) w (.list [cv (1,0)]) = σ1 at *
 refine EX.while X λ R hR => WH.go X λ R' hR' => ?_;walk_at "r"
 refine fcl' fw (by simp) ?_;walk_at "r"
 refine ite_of (λ _ => ?_) λ h => absurd h (by simp)
 have SO1 := SO.ext hE
 walk_at "r"
 refine ⟨_,_,_,rfl,fw,by simp,?_⟩
 have hE2 : Ext σ (upd σ1 w (.list [])) := hE.updN hw0
 have fw2 : upd σ1 w (.list []) w = some (.list []) := up'
 generalize upd σ1 w (.list []) = σ2 at *
 have SO2 := SO.ext hE2
 walk_at "r"
 refine fc_deref hn' T' SO2 W hlen .srf (λ _ => rfl) ?_;walk_at "r"
 rw [der_non (show ((1,0) : Cell).1 ≠ 0 by decide)]
 refine fc_is_compound hn' T' ?_;walk_at "r"
 refine ite_t ?_;walk_at "r"
 refine WH.go X λ R2 hR2 => ?_;walk_at "r"
 refine fcl' fw2 (by simp) ?_;walk_at "r"
 refine ite_of (λ h => absurd h (by simp)) λ _ => ?_;walk_at "r"
 exact q _ hE2
end
end
section
local macro_rules | `(tactic| walk_at "kd") => `(tactic| first | ((refine kinG ?h ?n); (case h => rfl); (case n => decide)) | ((refine kinC ?h ?f ?c); (case h => rfl); (case f => assumption); (case c => walk_at "kd")))
set_option maxHeartbeats 4000000
set_option backward.match.sparseCases false in
noncomputable def forB : Stmt->List Stmt
 | .For _ _ b _ _ => b
 | _ => []
noncomputable def LB : List Stmt := fnB (stN 60)
noncomputable def BB : List Stmt := forB (nthS LB 14)
theorem src_pl {H : List Cell} : ∀ (m : Nat) (N : List Int) (c : Cell),Pl (src H m N c).1 = true/\PyData.depth (dat (src H m N c).1)<=2 * m + 1 := by
 have leaf : ∀ N d,Pl (leafV N d).1 = true/\PyData.depth (dat (leafV N d).1)<=1 := by
  intro N d
  have sv : PyData.strOk ("v" : Str) = true := by kernel_rfl
  have sa : PyData.strOk ("a" : Str) = true := by kernel_rfl
  have si : PyData.strOk ("i" : Str) = true := by kernel_rfl
  unfold leafV
  split
  ·simp [Pl,Pls,sv,dat,dats,PyData.depth,PyData.depthAll]
  ·split <;> simp [Pl,Pls,sa,si,dat,dats,PyData.depth,PyData.depthAll]
 intro m
 induction m with
 | zero => exact λ N c => leaf N _
 | succ m ih =>
  intro N c
  unfold src
  split
  ·have ss : PyData.strOk ("s" : Str) = true := by kernel_rfl
   have key : ∀ (l : List Cell) (N : List Int),Pls (srcs (src H m) N l).1 = true/\PyData.depthAll (dats (srcs (src H m) N l).1)<=2 * m + 1 := by
    intro l
    induction l with
    | nil => exact λ N => ⟨rfl,by simp [srcs,dats,PyData.depthAll]⟩
    | cons p l ihl =>
     intro N
     refine La.c2 (ih N p) λ a1 a2 => ?_
     refine La.c2 (ihl (src H m N p).2) λ b1 b2 => ?_
     exact ⟨by simp [srcs,Pls,a1,b1],by simp only [srcs,dats,PyData.depthAll]; exact La.l3 (.L .x0 (.a (.m 2 .x1) .l1)) (.L .x2 (.a (.m 2 .x1) .l1)) (.o (.w (.L .x0 .x2) (.Q .x3 .x2)) (.w (.L (.a .x2 .l1) .x0) (.Q .x3 .x0))) (.L .x3 (.a (.m 2 .x1) .l1)) [[0,1,0,1,0,1],[1,0,0,1,0,1]] rfl [_,_,_,_] [] a2 b2 (La.mx _ _)⟩
   refine La.c2 (key (parts H (der H c)) N) λ a1 a2 => ?_
   exact ⟨by simp [Pl,Pls,ss,a1],by
    simp only [dat,dats,PyData.depth,PyData.depthAll]
    exact Nat.succ_le_succ (Nat.max_le.mpr ⟨Nat.zero_le _,Nat.max_le.mpr ⟨Nat.zero_le _,Nat.max_le.mpr ⟨Nat.succ_le_succ a2,Nat.zero_le _⟩⟩⟩)⟩
  ·refine La.c2 (leaf N (der H c)) λ a b => ?_
   exact ⟨a,by exact La.l1 (.L .x0 .l1) (.L .x0 (.a (.m 2 (.a .x1 .l1)) .l1)) [[1,1]] rfl [_,_] [] b⟩
theorem comp_count {H r : List Cell} (hn : r.Nodup) (hg : ∀ c ∈ r,okc H c) : (r.filter isC).length<=H.length - 1 := by
 have key : ∀ c ∈ r.filter isC,c.2 ∈ (List.range (H.length - 1)).map λ i : Nat => (i : Int) := λ c hc => by
  refine La.c2 (List.mem_filter.mp hc) λ h1 h2 => ?_
  have ok := hg c h1
  rw [List.mem_map]
  cases ok with
  | str1 v _ _ _ => exact ⟨v,by simp; exact La.z119 (by assumption) (La.sb _ _),rfl⟩
  | str2 v _ _ _ _ => exact ⟨v,by simp; exact La.l2 (.L (.a (.a .x0 (.l 2)) .l1) .x1) (.o (.w (.L .l1 .x1) (.Q (.a .x2 .l1) .x1)) (.w (.L (.a .x1 .l1) .l1) (.Q .x2 .l0))) (.L (.a .x0 .l1) .x2) [[1,0,0,1,1],[1,1,0,0,0]] rfl [_,_,_] [] (by assumption) (La.sb _ _),rfl⟩
  | lis v _ _ _ => exact ⟨v,by simp; exact La.z119 (by assumption) (La.sb _ _),rfl⟩
  | _ => simp [isC] at h2
 have nd : ((r.filter isC).map λ c : Cell => c.2).Nodup := by
  have h1 := hn.filter isC
  have h2 : ∀ c ∈ r.filter isC,okc H c/\isC c = true := λ c hc => ⟨hg c (List.mem_filter.mp hc).1,(List.mem_filter.mp hc).2⟩
  generalize r.filter isC = l at *
  clear key
  induction l with
  | nil => simp
  | cons c l ih =>
   refine La.c2 (List.nodup_cons.mp h1) λ a b => ?_
   rw [List.map_cons,List.nodup_cons]
   refine ⟨λ q => ?_,ih b λ d hd => h2 d (List.mem_cons_of_mem _ hd)⟩
   refine La.x1_2 (List.mem_map.mp q) λ d hd e => ?_
   have z := comp_inj (h2 d (List.mem_cons_of_mem _ hd)).1 (h2 c List.mem_cons_self).1 (h2 d (List.mem_cons_of_mem _ hd)).2 (h2 c List.mem_cons_self).2 e
   subst z; exact a hd
 have := nodup_len nd λ x hx => by
  refine La.x1_2 (List.mem_map.mp hx) λ c hc h'1 => ?_; subst h'1
  exact key c hc
 simpa using this
theorem Met.ne1 {H f w r : List Cell} (W : WF H) (m : Met H f w r) : (∀ c ∈ f,c.1 ≠ 1)->(∀ c ∈ w,okc H c/\c.1 ≠ 1)->∀ c ∈ r,c.1 ≠ 1 := by
 induction m with
 | nil => exact λ h _ => h
 | @old f c w r hd m ih => exact λ h hw => ih h λ c hc => hw c (List.mem_cons_of_mem _ hc)
 | @new f c w r hd m ih =>
  intro h hw
  refine La.c2 (hw c List.mem_cons_self) λ ok n1 => ?_
  have okd := der_ok W ok
  refine ih (λ d hd' => ?_) λ d hd' => ?_
  ·rcases List.mem_append.mp hd' with hd' | hd'
   ·exact h d hd'
   ·simp at hd'; subst hd'; exact der_ne1 W ok n1
  ·rcases List.mem_append.mp hd' with hd' | hd'
   ·exact parts_ok W okd d hd'
   ·exact hw d (List.mem_cons_of_mem _ hd')
structure LX (C : Cx) (mg : Str->Option Value) (n : Nat) (σL : CH) (a : SA) (H : List Cell) (A : List Str) (F : List Cell) (m0 f0 : Nat) (hc fr cm : Addr) (fl cl : List Cell) : Prop where
 hn : C.n = n + 50
 sc : C.env.scope = fnS (stN 60)
 T : TC C mg
 X : ∀ e σ s,¬ C.X e σ s
 SO : StOk σL a H [(1,0)]
 SY : SyS σL a A F
 FO : FuOk F
 hA : A.length < 900
 hF : F.length < 900
 htf : a.tx ≠ a.fu
 ft : FT A F m0 f0
 W : WF H
 hlen : H.length<=31
 h : σL hc = some (.list (H.map cv))
 fr : σL fr = some (.list (fl.map cv))
 cm : σL cm = some (.list (cl.map cv))
 flr : ∀ v ∈ fl,v.1 = 0
 clc : ∀ v ∈ cl,isC v = true
 cll : cl.length<=1000
structure LR (a : SA) (m0 f0 : Nat) (hc fr cm : Addr) (ρ : Loc') : Prop where
 l1 : lk "store" ρ = some (.ref a.st)
 l2 : lk "signs" ρ = some (.ref a.sy)
 l3 : lk "heap" ρ = some (.ref hc)
 l4 : lk "free" ρ = some (.ref fr)
 l5 : lk "compounds" ρ = some (.ref cm)
 l6 : lk "fault" ρ = some (ball (formal m0 f0))
theorem LR.name {a : SA} {m0 f0 : Nat} {hc fr cm : Addr} {ρ : Loc'} {x : Str} {V : PV} (l : LR a m0 f0 hc fr cm ρ) (h : x ≠ "store"/\x ≠ "signs"/\x ≠ "heap"/\x ≠ "free"/\x ≠ "compounds"/\x ≠ "fault") : LR a m0 f0 hc fr cm ((x,V) :: ρ) :=
 ⟨(lk_ne h.1.symm).trans l.l1,(lk_ne h.2.1.symm).trans l.l2,(lk_ne h.2.2.1.symm).trans l.l3,(lk_ne h.2.2.2.1.symm).trans l.l4,(lk_ne h.2.2.2.2.1.symm).trans l.l5,(lk_ne h.2.2.2.2.2.symm).trans l.l6⟩
section
variable {C : Cx} {ρ : Loc'} {σ σL : CH} {mg : Str->Option Value} {n : Nat} {a : SA} {H : List Cell} {A : List Str} {F : List Cell} {m0 f0 : Nat} {hc fr cm : Addr} {fl cl : List Cell} {R : Fl->Loc'->CH->Prop} {c : Cell}
theorem lb9 (L : LX C mg n σL a H A F m0 f0 hc fr cm fl cl) (ok : okc H c) (c1 : c.1 ≠ 1) (e : Ext σL σ) (l : LR a m0 f0 hc fr cm ρ) (lc : lk "cell" ρ = some (cv c)) {D : PV} (ld : lk "due" ρ = some D)
  (hD : (∃ m,FinN H m c/\D = (src H m [] c).1/\m<=30)\/((∀ m,¬ FinN H m c)/\D = ball (formal m0 f0))) (k : ∀ σ',Ext σL σ'->R .next ρ σ') : EX C (BB.drop 9) ρ σ R := by
 obtain ⟨hn,sc,T,X,SO,SY,FO,hA,hF,htf,ft,W,hlen,h,fr',cm',flr,clc,cll⟩ := L
 obtain ⟨l1,l2,l3,l4,l5,l6⟩ := l
 have hD2 : Pl D = true/\PyData.depth (dat D)<=64 := by
  rcases hD with ⟨m,hm,rfl,hm2⟩ | ⟨_,rfl⟩
  ·refine La.c2 (src_pl (H := H) m [] c) λ p1 p2 => ?_
   exact ⟨p1,by exact La.l2 (.L .x0 (.l 30)) (.L .x1 (.a (.m 2 .x0) .l1)) (.L .x1 (.l 64)) [[2,1,1]] rfl [_,_] [] hm2 p2⟩
  ·have sa : PyData.strOk ("a" : Str) = true := by kernel_rfl
   have ss : PyData.strOk ("s" : Str) = true := by kernel_rfl
   simp [ball,formal,Pl,Pls,sa,ss,dat,dats,PyData.depth,PyData.depthAll]
 have ne : O2 C Rel (compareOp .NotEq) D D ρ σ (λ _ _ => True)->True := λ _ => trivial
 have fin : ∀ σ' (Q : PV->CH->Prop),Q (.bool false) σ'->O2 C Rel (compareOp .NotEq) D D ρ σ' Q := λ σ' Q q => op_neP hD2.1 hD2.1 hD2.2 hD2.2 (by simp) q
 have SOσ := SO.ext e
 have SYσ : SyS σ a A F := SyOk.ext SY e
 refine EX.ite λ R2 hR2 => ?_;walk_at "r"
 refine EV.dict0 λ nb hnb => ?_
 have SO1 := SOσ.ext (Ext.new (m := .dictI []) hnb)
 have SY1 : SyS (upd σ nb (.dictI [])) a A F := SyOk.ext SYσ (Ext.new hnb)
 have g1 : upd σ nb (.dictI []) nb = some (.dictI []) := up'
 have e1 : ∀ σ',Ext (del (upd σ nb (.dictI [])) nb) σ'->Ext σL σ' := λ σ' z x m q => z x m (by
  have q' := e x m q
  rw [del_ne (ne_of hnb q'),un' (ne_of hnb q')]; exact q')
 generalize upd σ nb (.dictI []) = σ1 at *
 walk_at "r"
 refine fc_law_taken (n := n + 44) (by assumption) T SO1 SY1 FO hA hF htf ft W (by exact La.z57 hlen) ok c1 g1 (λ m σ2 hm e2 => ?_) λ σ2 hinf e2 => ?_
 ·have hd : D = (src H m [] c).1 := by
   rcases hD with ⟨m',hm',rfl,_⟩ | ⟨hinf,_⟩
   ·rw [src_any hm hm']
   ·exact absurd hm (hinf m)
  rw [<- hd]
  walk_at "r"
  refine fin _ _ ?_;walk_at "r"
  refine ite_f ?_
  exact EX.nil (hR2.next (EX.nil (k _ (e1 _ e2))))
 ·have hd : D = ball (formal m0 f0) := by
   rcases hD with ⟨m',hm',_⟩ | ⟨_,rfl⟩
   ·exact absurd hm' (hinf m')
   ·rfl
  rw [<- hd]
  walk_at "r"
  refine fin _ _ ?_;walk_at "r"
  refine ite_f ?_
  exact EX.nil (hR2.next (EX.nil (k _ (e1 _ e2))))
end
end
section
local macro_rules | `(tactic| walk_at "kd") => `(tactic| first | ((refine kinG ?h ?n); (case h => rfl); (case n => decide)) | ((refine kinC ?h ?f ?c); (case h => rfl); (case f => assumption); (case c => walk_at "kd")))
set_option maxHeartbeats 4000000
section
variable {C : Cx} {ρ : Loc'} {σ σL : CH} {mg : Str->Option Value} {n : Nat} {a : SA} {H : List Cell} {A : List Str} {F : List Cell} {m0 f0 : Nat} {hc fr cm : Addr} {fl cl : List Cell} {R : Fl->Loc'->CH->Prop} {c : Cell}
theorem lb8 (L : LX C mg n σL a H A F m0 f0 hc fr cm fl cl) (ok : okc H c) (c1 : c.1 ≠ 1) (e : Ext σL σ) (l : LR a m0 f0 hc fr cm ρ) (lc : lk "cell" ρ = some (cv c)) {r : List Cell} (m : Met H [] [c] r) (hr : r.length<=400)
  (k : ∀ ρ' σ',Ext σL σ'->LR a m0 f0 hc fr cm ρ'->R .next ρ' σ') : EX C (BB.drop 8) ρ σ R := by
 have L' := L
 have l' := l
 obtain ⟨hn,sc,T,X,SO,SY,FO,hA,hF,htf,ft,W,hlen,h,fr',cm',flr,clc,cll⟩ := L
 obtain ⟨l1,l2,l3,l4,l5,l6⟩ := l
 have SOσ := SO.ext e
 have SYσ : SyS σ a A F := SyOk.ext SY e
 have hσ := e _ _ h
 refine La.c2 (m.good W (λ _ h => by cases h) (λ x hx => by simp at hx; subst hx; exact ok) (by simp)) λ gd nd => ?_
 have cnt := comp_count nd λ x hx => (gd x hx).1
 refine EX.assign (by walk_at "kd2") rfl ?_
 refine EV.ife ?_
 refine ET.val ?_ (he := rfl);walk_at "r"
 refine fc_law_finite (n := n + 46) (by assumption) T hσ SYσ FO W (by exact La.z57 hlen) ok m hr λ b σ1 e1 hb1 hb2 => ?_;walk_at "r"
 have hb3 := e.trans e1
 have SY1 : SyS σ1 a A F := SyOk.ext SY hb3
 have h1 := hb3 _ _ h
 refine ite_of (λ hb => ?_) λ hb => ?_
 ·have hf := hb1 hb
  generalize hmm : (r.filter isC).length = mm at *
  walk_at "r"
  refine EV.dict0 λ nb hnb => ?_
  have SY2 : SyS (upd σ1 nb (.dictI [])) a A F := SyOk.ext SY1 (Ext.new hnb)
  have h2 := upd_old (m' := .dictI []) hnb h1
  have e2 : Ext σL (upd σ1 nb (.dictI [])) := hb3.trans (Ext.new hnb)
  have g2 : upd σ1 nb (.dictI []) nb = some (.dictI (idx id 0 ([] : List Int))) := up'
  have nb0 := hb3.none hnb
  generalize upd σ1 nb (.dictI []) = σ2 at *
  walk_at "r"
  refine fc_law_source W (by exact La.z57 hlen) FO mm (m := n + 47 - mm) (by exact La.la [.Q .x0 (.a .x1 (.l 50)),.L .x2 (.l 31),.L .x3 .x4,.o (.w (.L .l1 .x2) (.Q (.a .x4 .l1) .x2)) (.w (.L (.a .x2 .l1) .l1) (.Q .x4 .l0)),.o (.w (.L .x3 (.a .x1 (.l 47))) (.Q (.a .x5 .x3) (.a .x1 (.l 47)))) (.w (.L (.a (.a .x1 (.l 47)) .l1) .x3) (.Q .x5 .l0))] (.Q .x0 (.a (.a .x5 .x3) (.l 3))) [[0,1,0,0,0,0,0,0,1,0,1],[1,0,0,0,0,0,0,0,0,1,1],[0,0,1,1,0,1,0,1,0,0,0],[1,0,0,0,0,0,0,1,0,1,1],[0,1,0,0,0,0,0,0,1,0,1],[1,0,0,0,0,0,0,0,0,1,1],[0,0,0,1,0,1,0,1,0,0,0],[1,0,0,0,0,0,0,1,0,1,1]] rfl [_,_,_,_,_,_] [] ⟨hn,hlen,cnt,(La.sb _ _),(La.sb _ _),trivial⟩) T SY2 h2 ok c1 hf (N := []) ⟨by simp,λ v h => by cases h⟩ g2 λ σ3 e3 _ => ?_
  exact lb9 L' ok c1 (e2.thru e3 nb0) (l'.name (by decide)) (by walk_at "lk") (D := (src H mm [] c).1) lk_same (.inl ⟨mm,hf,rfl,by exact La.l3 (.L .x0 (.l 31)) (.L .x1 .x2) (.o (.w (.L .l1 .x0) (.Q (.a .x2 .l1) .x0)) (.w (.L (.a .x0 .l1) .l1) (.Q .x2 .l0))) (.L .x1 (.l 30)) [[1,1,0,1,0,1],[0,1,0,1,0,1]] rfl [_,_,_] [] hlen cnt (La.sb _ _)⟩) λ σ' e' => k _ _ e' (l'.name (by decide))
 ·walk_at "s"
  exact lb9 L' ok c1 hb3 (l'.name (by decide)) (by walk_at "lk") (D := ball (formal m0 f0)) lk_same (.inr ⟨hb2 hb,rfl⟩) λ σ' e' => k _ _ e' (l'.name (by decide))
theorem lb7 (L : LX C mg n σL a H A F m0 f0 hc fr cm fl cl) (ok : okc H c) (c1 : c.1 ≠ 1) (e : Ext σL σ) (l : LR a m0 f0 hc fr cm ρ) (lc : lk "cell" ρ = some (cv c)) {r : List Cell} (m : Met H [] [c] r) (hr : r.length<=400)
  (k : ∀ ρ' σ',Ext σL σ'->LR a m0 f0 hc fr cm ρ'->R .next ρ' σ') : EX C (BB.drop 7) ρ σ R := by
 have L' := L
 have l' := l
 obtain ⟨hn,sc,T,X,SO,SY,FO,hA,hF,htf,ft,W,hlen,h,fr',cm',flr,clc,cll⟩ := L
 obtain ⟨l1,l2,l3,l4,l5,l6⟩ := l
 have SOσ := SO.ext e
 have m1 := SOσ.st
 have m2 := SOσ.dst
 refine La.x1_2 (ll_ex W (der_ok W ok)) λ x hx hxl => ?_
 refine EX.ite λ R2 hR2 => ?_;walk_at "r"
 refine fc_list_cells (n := n + 48) (by assumption) T SOσ W (by exact La.z1 hlen) ok c1 hx (by exact La.z100 hlen hxl) λ f1 σ1 e1 n1 g1 => ?_
 have h1 := e1 _ _ (e _ _ h)
 walk_at "r"
 refine fc_law_list (n := n + 48) (by assumption) T h1 W (by exact La.z1 hlen) ok hx (by exact La.z100 hlen hxl) λ f2 σ2 e2 n2 g2 => ?_
 have g1' := e2 _ _ g1
 walk_at "r"
 have d1 : DR σ2 [.tup [.ref f1,cv x.2]] [.tuple [.list (dats (x.1.map cv)),dat (cv x.2)]] := .tup (.list g1' (DR.ofPls (cvs_pls _)) (DR.ofPl (cv_pl _) .nil)) .nil
 have d2 : DR σ2 [.tup [.ref f2,cv x.2]] [.tuple [.list (dats (x.1.map cv)),dat (cv x.2)]] := .tup (.list g2 (DR.ofPls (cvs_pls _)) (DR.ofPl (cv_pl _) .nil)) .nil
 have dp : Dp (.tuple [.list (dats (x.1.map cv)),dat (cv x.2)]) := by
  have := cvs_dep x.1
  have z := cv_dp x.2
  unfold Dp at z ⊢
  simp only [PyData.depth,PyData.depthAll]
  have z2 : PyData.depth (dat (cv x.2))<=1 := by simp [cv,dat,dats,PyData.depth,PyData.depthAll]
  exact La.la [.L .x0 (.l 3),.L .x1 .l1,.o (.w (.L .x1 .l0) (.Q .x2 .l0)) (.w (.L (.a .l0 .l1) .x1) (.Q .x2 .x1)),.o (.w (.L (.a .x0 .l1) .x2) (.Q .x3 .x2)) (.w (.L (.a .x2 .l1) (.a .x0 .l1)) (.Q .x3 (.a .x0 .l1)))] (.L (.a .x3 .l1) (.l 64)) [[0,0,0,1,0,1,0,0,0],[1,0,0,0,0,0,1,0,1],[0,1,0,1,0,0,1,0,1],[1,0,0,0,0,0,1,0,1]] rfl [_,_,_,_] [] ⟨this,z2,(La.mx _ _),(La.mx _ _),trivial⟩
 refine op_ne d1 d2 dp dp (b := false) (by simp) ?_;walk_at "r"
 refine ite_f ?_
 exact EX.nil (hR2.next (lb8 L' ok c1 ((e.trans e1).trans e2) l' lc m hr k))
theorem lb6 (L : LX C mg n σL a H A F m0 f0 hc fr cm fl cl) (ok : okc H c) (c1 : c.1 ≠ 1) (e : Ext σL σ) (l : LR a m0 f0 hc fr cm ρ) (lc : lk "cell" ρ = some (cv c)) {r : List Cell} (m : Met H [] [c] r) (hr : r.length<=400)
  (k : ∀ ρ' σ',Ext σL σ'->LR a m0 f0 hc fr cm ρ'->R .next ρ' σ') : EX C (BB.drop 6) ρ σ R := by
 have L' := L
 have l' := l
 obtain ⟨hn,sc,T,X,SO,SY,FO,hA,hF,htf,ft,W,hlen,h,fr',cm',flr,clc,cll⟩ := L
 obtain ⟨l1,l2,l3,l4,l5,l6⟩ := l
 have SOσ := SO.ext e
 refine EX.ite λ R2 hR2 => ?_;walk_at "r"
 refine fc_compare (n := n + 47) (by assumption) T SOσ W (by exact La.z1 hlen) ok c1 λ σ1 e1 => ?_
 have SO1 := SOσ.ext e1
 walk_at "r"
 refine ite_f ?_;walk_at "r"
 refine fc_identical (n := n + 46) (by assumption) T SO1 W (by exact La.z1 hlen) ok c1 λ σ2 e2 => ?_
 have SO2 := SO1.ext e2
 have SY2 : SyS σ2 a A F := SyOk.ext SY ((e.trans e1).trans e2)
 walk_at "r"
 refine ite_f ?_;walk_at "r"
 refine fc_variant (n := n + 46) (by assumption) T SO2 SY2 FO W (by exact La.z1 hlen) ok c1 m hr λ σ3 e3 => ?_;walk_at "r"
 refine ite_f ?_
 refine EA.orN ?_
 refine ite_f ?_
 exact EX.nil (hR2.next (lb7 L' ok c1 (((e.trans e1).trans e2).trans e3) l' lc m hr k))
end
end
section
local macro_rules | `(tactic| walk_at "kd") => `(tactic| first | ((refine kinG ?h ?n); (case h => rfl); (case n => decide)) | ((refine kinC ?h ?f ?c); (case h => rfl); (case f => assumption); (case c => walk_at "kd")))
set_option maxHeartbeats 4000000
section
variable {C : Cx} {ρ : Loc'} {σ σL : CH} {mg : Str->Option Value} {n : Nat} {a : SA} {H : List Cell} {A : List Str} {F : List Cell} {m0 f0 : Nat} {hc fr cm : Addr} {fl cl : List Cell} {R : Fl->Loc'->CH->Prop} {c : Cell}
theorem all_nv {r : List Cell} (h : ∀ c ∈ r,c.1 ≠ 1) : r.all nv = decide (r.filter isR = []) := by
 rw [Bool.eq_iff_iff,List.all_eq_true,decide_eq_true_iff,List.filter_eq_nil_iff]
 constructor
 ·intro q x hx z
  have := q x hx
  simp [nv,isR] at this z
  exact this.1 z
 ·intro q x hx
  have := q x hx
  have h1 := h x hx
  simp [nv,isR] at this ⊢
  exact ⟨this,h1⟩
theorem lb5 (L : LX C mg n σL a H A F m0 f0 hc fr cm fl cl) (ok : okc H c) (c1 : c.1 ≠ 1) (e : Ext σL σ) (l : LR a m0 f0 hc fr cm ρ) (lc : lk "cell" ρ = some (cv c)) {r : List Cell} (m : Met H [] [c] r) (hr : r.length<=400)
  {ih : Addr} (li : lk "inner" ρ = some (.ref ih)) (hi : σ ih = some (.list ((r.filter isR).map cv)))
  (k : ∀ ρ' σ',Ext σL σ'->LR a m0 f0 hc fr cm ρ'->R .next ρ' σ') : EX C (BB.drop 5) ρ σ R := by
 have L' := L
 have l' := l
 obtain ⟨hn,sc,T,X,SO,SY,FO,hA,hF,htf,ft,W,hlen,h,fr',cm',flr,clc,cll⟩ := L
 obtain ⟨l1,l2,l3,l4,l5,l6⟩ := l
 have SOσ := SO.ext e
 have SYσ : SyS σ a A F := SyOk.ext SY e
 have rn1 := m.ne1 W (λ _ h => by cases h) (λ x hx => by simp at hx; subst hx; exact ⟨ok,c1⟩)
 refine EX.ite λ R2 hR2 => ?_;walk_at "r"
 refine fc_variables (n := n + 46) (by assumption) T SOσ SYσ FO W (by exact La.z1 hlen) ok c1 m hr λ fa σ1 e1 g1 => ?_
 have hi1 := e1 _ _ hi
 have SO1 := SOσ.ext e1
 have SY1 : SyS σ1 a A F := SyOk.ext SYσ e1
 walk_at "r"
 refine op_neCs g1 hi1 ?_;walk_at "r"
 rw [show decide (r.filter isR ≠ r.filter isR) = false by simp]
 refine ite_f ?_;walk_at "r"
 refine fc_ground (n := n + 46) (by assumption) T SO1 SY1 FO W (by exact La.z1 hlen) ok (λ h => absurd h c1) m hr λ σ2 e2 => ?_
 have hi2 := e2 _ _ hi1
 walk_at "r"
 refine ⟨by simp,λ el hel => ?_⟩
 have hi3 := upd_old (m' := .list []) hel hi2
 walk_at "r"
 refine op_eqCs (m := []) hi3 up' ?_
 have e3 : Ext σL (upd σ2 el (.list [])) := ((e.trans e1).trans e2).trans (Ext.new hel)
 generalize upd σ2 el (.list []) = σ3 at *
 rw [all_nv rn1]
 refine op_neB ?_;walk_at "r"
 rw [show ((decide (r.filter isR = []) != decide (r.filter isR = [])) = false) by simp]
 refine ite_f ?_
 refine EA.orN ?_
 refine ite_f ?_
 exact EX.nil (hR2.next (lb6 L' ok c1 e3 l' lc m hr k))
theorem lb4 (L : LX C mg n σL a H A F m0 f0 hc fr cm fl cl) (ok : okc H c) (c1 : c.1 ≠ 1) (e : Ext σL σ) (l : LR a m0 f0 hc fr cm ρ) (lc : lk "cell" ρ = some (cv c)) {r : List Cell} (m : Met H [] [c] r) (hr : r.length<=400)
  {mt : Addr} (lm : lk "met" ρ = some (.ref mt)) (hm : σ mt = some (.list (r.map cv)))
  (k : ∀ ρ' σ',Ext σL σ'->LR a m0 f0 hc fr cm ρ'->R .next ρ' σ') : EX C (BB.drop 4) ρ σ R := by
 have L' := L
 have l' := l
 obtain ⟨hn,sc,T,X,SO,SY,FO,hA,hF,htf,ft,W,hlen,h,fr',cm',flr,clc,cll⟩ := L
 obtain ⟨l1,l2,l3,l4,l5,l6⟩ := l
 have hbk : C.env.blockKind = .function := by unfold Env.blockKind; rw [sc]; rfl
 refine EX.comp ⟨rfl,by decide,by decide,rfl,?_⟩ (by walk_at "kd") (swaps_yes hbk (by walk_at "kd") rfl (by decide)) (by intro _; rfl) ?_
 ·intro y hy hf
  simp only [List.mem_cons,List.not_mem_nil,or_false] at hy
  rcases hy with rfl | rfl | rfl <;> cases hf
 walk_at "r"
 refine it_list hm λ it hit => ⟨it,rfl,⟨_,up',.inl ⟨_,_,rfl⟩⟩,λ ac hac L3 cl3 C3 hC3 => ?_⟩
 have T3 : TC C3 mg := by rw [hC3]; exact T
 have X3 : ∀ e σ s,¬ C3.X e σ s := by rw [hC3]; exact X
 have q1 : ac ≠ it := λ q => by rw [q,up'] at hac; cases hac
 have hac' := uN' hac
 have q2 : ac ≠ mt := λ q => by rw [q,hm] at hac'; cases hac'
 have q3 : it ≠ mt := λ q => by rw [q,hm] at hit; cases hit
 have it0 := e.none hit
 have ac0 := e.none hac'
 refine (?_ : ∀ (l3 : List Cell) (j : Nat) (ρ' : Loc') (σ' : CH),r.drop j = l3->Ext σL σ'->σ' mt = some (.list (r.map cv))->σ' it = some (.itL mt j)->σ' ac = some (.list (((r.take j).filter isR).map cv))->CP C3 _ it ac ρ' σ' _)
  r 0 _ _ rfl ((e.updN it0).updN ac0) ((un' q2.symm).trans ((un' q3.symm).trans hm)) ((un' q1.symm).trans up') (by rw [up']; rfl)
 intro l3
 induction l3 with
 | nil =>
  intro j ρ'' σ8 hd8 E8 g1 g2 g3
  refine CP.turn X3 (by subst hC3; walk_at "kd") ?_
  have hj := List.drop_eq_nil_iff.mp hd8
  refine nx_listE g2 g1 (by simpa using hj) ?_
  rw [List.take_of_length_le hj] at g3
  have E9 := E8.delN it0
  have a9 := (del_ne q1).trans g3
  exact lb5 L' ok c1 E9 (l'.name (by decide)) ((lk_ne (by decide)).trans lc) m hr lk_same a9 k
 | cons p l3 ih3 =>
  intro j ρ'' σ8 hd8 E8 g1 g2 g3
  have hc2 : r[j]? = some p := by
   have := congrArg List.head? hd8
   simpa [List.head?_drop] using this
  have hd2 : r.drop (j + 1) = l3 := by
   have := congrArg List.tail hd8
   simpa [List.tail_drop] using this
  have ht : (r.take (j + 1)).filter isR = (r.take j).filter isR ++ (if isR p = true then [p] else []) := by
   rw [List.take_add_one,hc2,List.filter_append]
   simp [List.filter_cons]
  refine CP.turn X3 (by subst hC3; walk_at "kd") ?_
  refine nx_list g2 g1 (V := cv p) (by rw [List.getElem?_map,hc2]; rfl) ?_
  have E9' := E8.updN (m := .itL mt (j + 1)) it0
  have k1 := (un' (m := .itL mt (j + 1)) q3.symm).trans g1
  have k2 := up' (σ := σ8) (a := it) (m := .itL mt (j + 1))
  have k3 := (un' (m := .itL mt (j + 1)) q1).trans g3
  generalize upd σ8 it (.itL mt (j + 1)) = σ11 at *
  have tl := List.length_filter_le isR (r.take j)
  have tl2 := List.length_take_le j r
  subst hC3
  refine IFS.one ?_;walk_at "r"
  refine ite_of (λ hC => ?_) λ hC => ?_
  ·have hC : isR p = true := hC
   walk_at "r"
   refine fc_append k3 (by simp at tl tl2 ⊢; exact La.z114 hr tl (La.mi _ _)) ?_
   refine ih3 (j + 1) _ _ hd2 (E9'.updN ac0) ((un' q2.symm).trans k1) ((un' q1.symm).trans k2) ?_
   rw [up',ht,if_pos hC]; simp
  ·have hC : isR p = false := hC
   refine ih3 (j + 1) _ _ hd2 E9' k1 k2 ?_
   rw [k3,ht,if_neg (by rw [hC]; decide)]; simp
end
end
section
local macro_rules | `(tactic| walk_at "kd") => `(tactic| first | ((refine kinG ?h ?n); (case h => rfl); (case n => decide)) | ((refine kinC ?h ?f ?c); (case h => rfl); (case f => assumption); (case c => walk_at "kd")))
set_option maxHeartbeats 4000000
section
variable {C : Cx} {ρ : Loc'} {σ σL : CH} {mg : Str->Option Value} {n : Nat} {a : SA} {H : List Cell} {A : List Str} {F : List Cell} {m0 f0 : Nat} {hc fr cm : Addr} {fl cl : List Cell} {R : Fl->Loc'->CH->Prop} {c : Cell}
theorem lb3 (L : LX C mg n σL a H A F m0 f0 hc fr cm fl cl) (ok : okc H c) (c1 : c.1 ≠ 1) (e : Ext σL σ) (l : LR a m0 f0 hc fr cm ρ) (lc : lk "cell" ρ = some (cv c)) {r : List Cell} (m : Met H [] [c] r) (hr : r.length<=400)
  {mt : Addr} (lm : lk "met" ρ = some (.ref mt)) (hm : σ mt = some (.list (r.map cv)))
  (k : ∀ ρ' σ',Ext σL σ'->LR a m0 f0 hc fr cm ρ'->R .next ρ' σ') : EX C (BB.drop 3) ρ σ R := by
 have L' := L
 have l' := l
 obtain ⟨hn,sc,T,X,SO,SY,FO,hA,hF,htf,ft,W,hlen,h,fr',cm',flr,clc,cll⟩ := L
 obtain ⟨l1,l2,l3,l4,l5,l6⟩ := l
 have SOσ := SO.ext e
 refine EX.ite λ R2 hR2 => ?_;walk_at "r"
 refine ⟨by simp,?_⟩;walk_at "r"
 refine fc_occurs_srf (n := n + 48) (by assumption) T SOσ W (by exact La.z1 hlen) ok ?_;walk_at "r"
 rw [decide_eq_false c1]
 refine ite_f ?_;walk_at "r"
 refine ⟨by simp,?_⟩;walk_at "r"
 refine fc_reaches_srf (n := n + 48) (by assumption) T SOσ W (by exact La.z1 hlen) λ σ1 e1 => ?_;walk_at "r"
 refine ite_f ?_
 refine EA.orN ?_
 refine ite_f ?_
 exact EX.nil (hR2.next (lb4 L' ok c1 (e.trans e1) l' lc m hr lm (e1 _ _ hm) k))
theorem lb2 (L : LX C mg n σL a H A F m0 f0 hc fr cm fl cl) (ok : okc H c) (c1 : c.1 ≠ 1) (e : Ext σL σ) (l : LR a m0 f0 hc fr cm ρ) (lc : lk "cell" ρ = some (cv c)) {r : List Cell} (m : Met H [] [c] r) (hr : r.length<=400)
  {mt : Addr} (lm : lk "met" ρ = some (.ref mt)) (hm : σ mt = some (.list (r.map cv)))
  (k : ∀ ρ' σ',Ext σL σ'->LR a m0 f0 hc fr cm ρ'->R .next ρ' σ') : EX C (BB.drop 2) ρ σ R := by
 have L' := L
 have l' := l
 obtain ⟨hn,sc,T,X,SO,SY,FO,hA,hF,htf,ft,W,hlen,h,fr',cm',flr,clc,cll⟩ := L
 have cmσ := e _ _ cm'
 have l5 := l.l5
 refine EX.for X (by intro _; rfl) ?_
 refine EV.sliceHi ?_;walk_at "r"
 refine ⟨_,_,4,rfl,rfl,cmσ,by simp; exact La.l1 (.L .x0 (.l 1000)) (.L .x0 (.l 100000)) [[1,1]] rfl [_] [] cll,λ sl hsl => ?_⟩
 refine it_list up' λ it hit => ⟨it,rfl,λ R2 hR2 => ?_⟩
 have hit' := uN' hit
 have sl0 := e.none hsl
 have it0 := e.none hit'
 have q1 : sl ≠ it := λ q => by rw [<- q,up'] at hit; cases hit
 have q2 : mt ≠ it := ne_of hit' hm
 have q3 : mt ≠ sl := ne_of hsl hm
 refine FL.over (a := sl) (l := (cl.map cv).take 4) X (by walk_at "kd2") (λ i ρ' σ' => Ext σL σ'/\σ' sl = some (.list ((cl.map cv).take 4))/\σ' mt = some (.list (r.map cv))/\LR a m0 f0 hc fr cm ρ'/\lk "cell" ρ' = some (cv c)/\lk "met" ρ' = some (.ref mt)) ?_ ?_ ?_
  ((cl.map cv).take 4).length 0 _ _ rfl ⟨(e.updN sl0).updN it0,(un' q1).trans up',(un' q2).trans ((un' q3).trans hm),l',lc,lm⟩ up'
 ·intro i V ρ1 σ1 hV h'1 hi R3 hR3 _; refine La.c6 h'1 λ e1 g1 g2 lr lc1 lm1 => ?_; clear h'1
  have e2 := e1.updN (m := .itL sl (i + 1)) it0
  have h1 := (un' (m := .itL sl (i + 1)) q1).trans g1
  have h2 := (un' (m := .itL sl (i + 1)) q2).trans g2
  have h3 := up' (σ := σ1) (a := it) (m := .itL sl (i + 1))
  generalize upd σ1 it (.itL sl (i + 1)) = σ2 at *
  obtain ⟨d,hd,rfl⟩ : ∃ d ∈ cl,V = cv d := by
   have := List.mem_of_getElem? hV
   refine La.x1_2 (List.mem_map.mp (List.mem_of_mem_take this)) λ d hd e => ?_
   exact ⟨d,hd,e.symm⟩
  have SO2 := SO.ext e2
  have SY2 : SyS σ2 a A F := SyOk.ext SY e2
  have lr' := lr
  obtain ⟨l1,l2,l3,l4,l5,l6⟩ := lr
  refine EX.ite λ R4 hR4 => ?_;walk_at "r"
  refine fc_reaches (n := n + 46) (by assumption) T SO2 SY2 FO W (by exact La.z1 hlen) ok (λ h => absurd h c1) (clc d hd) m hr λ σ3 e3 => ?_
  have h2' := e3 _ _ h2
  walk_at "r"
  refine op_inC h2' ?_
  refine op_neB ?_;walk_at "r"
  rw [show ((decide (d ∈ r) != decide (d ∈ r)) = false) by simp]
  refine ite_f ?_
  exact EX.nil (hR4.next (EX.nil (hR3 _ _ ⟨e2.trans e3,e3 _ _ h1,h2',lr'.name (by decide),(lk_ne (by decide)).trans lc1,(lk_ne (by decide)).trans lm1⟩ (e3 _ _ h3))))
 ·intro i ρ1 σ1; refine La.k3 λ e1 g1 _ => ?_
  exact g1
 ·intro ρ1 σ1 h'1 m' hi; refine La.c6 h'1 λ e1 g1 g2 lr lc1 lm1 => ?_; clear h'1
  exact hR2.next (lb3 L' ok c1 (e1.delN it0) lr lc1 m hr lm1 ((del_ne q2).trans g2) k)
theorem lb1 (L : LX C mg n σL a H A F m0 f0 hc fr cm fl cl) (ok : okc H c) (c1 : c.1 ≠ 1) (e : Ext σL σ) (l : LR a m0 f0 hc fr cm ρ) (lc : lk "cell" ρ = some (cv c)) {r : List Cell} (m : Met H [] [c] r) (hr : r.length<=400)
  {mt : Addr} (lm : lk "met" ρ = some (.ref mt)) (hm : σ mt = some (.list (r.map cv)))
  (k : ∀ ρ' σ',Ext σL σ'->LR a m0 f0 hc fr cm ρ'->R .next ρ' σ') : EX C (BB.drop 1) ρ σ R := by
 have L' := L
 have l' := l
 obtain ⟨hn,sc,T,X,SO,SY,FO,hA,hF,htf,ft,W,hlen,h,fr',cm',flr,clc,cll⟩ := L
 have frσ := e _ _ fr'
 have l4 := l.l4
 refine EX.for X (by intro _; rfl) ?_;walk_at "r"
 refine it_list frσ λ it hit => ⟨it,rfl,λ R2 hR2 => ?_⟩
 have it0 := e.none hit
 have q1 : fr ≠ it := ne_of hit frσ
 have q2 : mt ≠ it := ne_of hit hm
 refine FL.over (a := fr) (l := fl.map cv) X (by walk_at "kd2") (λ i ρ' σ' => Ext σL σ'/\σ' mt = some (.list (r.map cv))/\LR a m0 f0 hc fr cm ρ'/\lk "cell" ρ' = some (cv c)/\lk "met" ρ' = some (.ref mt)) ?_ ?_ ?_
  (fl.map cv).length 0 _ _ rfl ⟨e.updN it0,(un' q2).trans hm,l',lc,lm⟩ up'
 ·intro i V ρ1 σ1 hV h'1 hi R3 hR3 _; refine La.c5 h'1 λ e1 g2 lr lc1 lm1 => ?_; clear h'1
  have e2 := e1.updN (m := .itL fr (i + 1)) it0
  have h2 := (un' (m := .itL fr (i + 1)) q2).trans g2
  have h3 := up' (σ := σ1) (a := it) (m := .itL fr (i + 1))
  generalize upd σ1 it (.itL fr (i + 1)) = σ2 at *
  obtain ⟨d,hd,rfl⟩ : ∃ d ∈ fl,V = cv d := by
   have := List.mem_of_getElem? hV
   refine La.x1_2 (List.mem_map.mp this) λ d hd e => ?_
   exact ⟨d,hd,e.symm⟩
  have SO2 := SO.ext e2
  have SY2 : SyS σ2 a A F := SyOk.ext SY e2
  have lr' := lr
  obtain ⟨l1,l2,l3,l4,l5,l6⟩ := lr
  refine EX.ite λ R4 hR4 => ?_;walk_at "r"
  refine fc_occurs_in (n := n + 46) (by assumption) T SO2 SY2 FO W (by exact La.z1 hlen) ok c1 (flr d hd) m hr λ σ3 e3 => ?_
  have h2' := e3 _ _ h2
  walk_at "r"
  refine op_inC h2' ?_
  refine op_neB ?_;walk_at "r"
  rw [show ((decide (d ∈ r) != decide (d ∈ r)) = false) by simp]
  refine ite_f ?_
  exact EX.nil (hR4.next (EX.nil (hR3 _ _ ⟨e2.trans e3,h2',lr'.name (by decide),(lk_ne (by decide)).trans lc1,(lk_ne (by decide)).trans lm1⟩ (e3 _ _ h3))))
 ·intro i ρ1 σ1; refine La.k2 λ e1 _ => ?_
  exact e1 _ _ fr'
 ·intro ρ1 σ1 h'1 m' hi; refine La.c5 h'1 λ e1 g2 lr lc1 lm1 => ?_; clear h'1
  exact hR2.next (lb2 L' ok c1 (e1.delN it0) lr lc1 m hr lm1 ((del_ne q2).trans g2) k)
theorem lb0 (L : LX C mg n σL a H A F m0 f0 hc fr cm fl cl) (ok : okc H c) (c1 : c.1 ≠ 1) (e : Ext σL σ) (l : LR a m0 f0 hc fr cm ρ) (lc : lk "cell" ρ = some (cv c))
  (k : ∀ ρ' σ',Ext σL σ'->LR a m0 f0 hc fr cm ρ'->R .next ρ' σ') : EX C BB ρ σ R := by
 have L' := L
 have l' := l
 obtain ⟨hn,sc,T,X,SO,SY,FO,hA,hF,htf,ft,W,hlen,h,fr',cm',flr,clc,cll⟩ := L
 obtain ⟨l1,l2,l3,l4,l5,l6⟩ := l
 have SYσ : SyS σ a A F := SyOk.ext SY e
 refine La.x1_2 (met_ex W ok) λ r m hr => ?_
 refine EX.assign (by walk_at "kd2") rfl ?_;walk_at "r"
 refine fc_law_met (n := n + 47) (by assumption) T (e _ _ h) SYσ FO W (by exact La.z1 hlen) ok m (by exact La.z58 hlen hr) λ mt σ1 e1 n1 g1 => ?_
 exact lb1 L' ok c1 (e.trans e1) (l'.name (by decide)) ((lk_ne (by decide)).trans lc) m (by exact La.z58 hlen hr) lk_same g1 k
end
end
section
local macro_rules | `(tactic| walk_at "kd") => `(tactic| first | ((refine kinG ?h ?n); (case h => rfl); (case n => decide)) | ((refine kinC ?h ?f ?c); (case h => rfl); (case f => assumption); (case c => walk_at "kd")))
set_option maxHeartbeats 4000000
section
variable {C : Cx} {ρ : Loc'} {σ σL : CH} {mg : Str->Option Value} {n : Nat} {a : SA} {H : List Cell} {A : List Str} {F : List Cell} {m0 f0 : Nat} {hc fr cm : Addr} {fl cl : List Cell} {Q : Fl->Loc'->CH->Prop} {c : Cell}
theorem lend (L : LX C mg n σL a H A F m0 f0 hc fr cm fl cl) (e : Ext σL σ) (l : LR a m0 f0 hc fr cm ρ) (q : ∀ σ',Ext σL σ'->Q (.ret (.bool true)) ρ σ') : EX C (LB.drop 15) ρ σ Q := by
 obtain ⟨hn,sc,T,X,SO,SY,FO,hA,hF,htf,ft,W,hlen,h,fr',cm',flr,clc,cll⟩ := L
 obtain ⟨l1,l2,l3,l4,l5,l6⟩ := l
 have SOσ := SO.ext e
 have SYσ : SyS σ a A F := SyOk.ext SY e
 refine EX.ite λ R2 hR2 => ?_;walk_at "r"
 refine ⟨by simp,?_⟩;walk_at "r"
 refine ⟨by simp,?_⟩;walk_at "r"
 refine fc_occurs_srf (n := n + 48) (by assumption) T SOσ W (by exact La.z1 hlen) (c := (1,0)) .srf ?_;walk_at "r"
 rw [show decide (((1,0) : Cell).1 = 1) = true by rfl]
 refine ite_f ?_;walk_at "r"
 refine ⟨by simp,?_⟩;walk_at "r"
 have m : Met H [] [(1,0)] [(1,0)] := .new (by simp) (by
  rw [der_non (show ((1,0) : Cell).1 ≠ 0 by decide),parts_non (by rfl)]
  exact .nil)
 refine fc_ground (n := n + 46) (by assumption) T SOσ SYσ FO W (by exact La.z1 hlen) (c := (1,0)) .srf (λ _ => rfl) m (by simp) λ σ1 e1 => ?_
 have SO1 := SOσ.ext e1
 have h1 := e1 _ _ (e _ _ h)
 have m1 := SO1.st
 have m2 := SO1.dst
 walk_at "r"
 refine ite_f ?_
 refine EA.orN ?_
 refine ite_f ?_
 refine EX.nil (hR2.next ?_)
 refine EX.ret ?_
 refine EV.and ?_;walk_at "r"
 refine op_eqCs SO1.hp h1 ?_
 refine ⟨true,by simp,ite_t ?_⟩
 refine EV.and ?_;walk_at "r"
 refine ⟨by simp,?_⟩;walk_at "r"
 refine ⟨by simp,λ el hel => ?_⟩
 have SO2 := SO1.ext (Ext.new (m := .list [.tup [.int 1,.int 0]]) hel)
 refine op_eqCs (m := [(1,0)]) SO2.sk up' ?_
 refine ⟨true,by simp,ite_t ?_⟩
 refine EV.one ?_
 have m1 := SO2.st
 have m2 := SO2.dst
 have e2 : Ext σL (upd σ1 el (.list [.tup [.int 1,.int 0]])) := (e.trans e1).trans (Ext.new hel)
 generalize upd σ1 el (.list [.tup [.int 1,.int 0]]) = σ2 at *
 walk_at "r"
 refine ⟨by simp,λ el2 hel2 => ?_⟩
 refine op_eqCs (l := []) (m := []) (upd_old hel2 SO2.tr) up' ?_
 exact q _ (e2.trans (Ext.new hel2))
theorem lbig (L : LX C mg n σL a H A F m0 f0 hc fr cm fl cl) (e : Ext σL σ) (l : LR a m0 f0 hc fr cm ρ) {kn ce : Addr} {cs : List Cell} (lk' : lk "known" ρ = some (.ref kn)) (lce : lk "cells" ρ = some (.ref ce)) (hk : σ kn = some (.dictI KN)) (hce : σ ce = some (.list (cs.map cv)))
  (hcs : ∀ c ∈ cs,okc H c/\c.1 ≠ 1) (hcl : cs.length<=1000) (h4 : ∀ k : Nat,k < 4->okc H (0,(k : Int))) (q : ∀ ρ' σ',Ext σL σ'->Q (.ret (.bool true)) ρ' σ') : EX C (LB.drop 14) ρ σ Q := by
 have L' := L
 have l' := l
 obtain ⟨hn,sc,T,X,SO,SY,FO,hA,hF,htf,ft,W,hlen,h,fr',cm',flr,clc,cll⟩ := L
 obtain ⟨l1,l2,l3,l4,l5,l6⟩ := l
 have hfk : C.env.scope.kind = .function := by rw [sc]; rfl
 refine EX.for X (by intro _; rfl) ?_
 refine EV.bin ?_;walk_at "r"
 refine EV.comp ⟨rfl,by decide,by decide,rfl,?_⟩ ?_
 ·intro y hy hf
  simp only [List.mem_cons,List.not_mem_nil,or_false] at hy
  rcases hy with rfl | rfl | rfl
  ·cases hf
  ·cases hf
  ·exact ⟨.inl (by walk_at "kd"),by rw [show lk "known" _ = some (PV.ref kn) from (by walk_at "lk")]; rfl⟩
 walk_at "r"
 refine fc_range1 λ rg hrg => ?_
 refine it_rng up' (small_up 4 (by decide)).1 λ it hit => ⟨it,rfl,⟨_,up',.inr ⟨_,_,_,rfl⟩⟩,λ ac hac L3 cl3 C3 hC3 => ?_⟩
 rw [show Builtin.Range.rangeSize 0 4 1 = 4 from (small_up 4 (by decide)).2] at hac ⊢
 have T3 : TC C3 mg := by rw [hC3]; exact T
 have X3 : ∀ e σ s,¬ C3.X e σ s := by rw [hC3]; exact X
 have q1 : ac ≠ it := λ q => by rw [q,up'] at hac; cases hac
 have hac' := uN' (uN' hac)
 have hit' := uN' hit
 have it0 := e.none hit'
 have ac0 := e.none hac'
 have rg0 := e.none hrg
 have kr : kn ≠ rg := ne_of hrg hk
 have ki : kn ≠ it := ne_of hit' hk
 have ka : kn ≠ ac := ne_of hac' hk
 have cr : ce ≠ rg := ne_of hrg hce
 have ci : ce ≠ it := ne_of hit' hce
 have ca : ce ≠ ac := ne_of hac' hce
 refine (?_ : ∀ (w j : Nat) (ρ' : Loc') (σ' : CH),w + j = 4->Ext σL σ'->σ' kn = some (.dictI KN)->σ' ce = some (.list (cs.map cv))->σ' it = some (.itR (j : Int) (w : Int) 1)->σ' ac = some (.list ((((List.range j).map λ i : Nat => ((0,(i : Int)) : Cell))).map cv))->lk "known" ρ' = some (.ref kn)->CP C3 _ it ac ρ' σ' _)
  4 0 _ _ rfl (((e.updN rg0).updN it0).updN ac0) ((un' ka).trans ((un' ki).trans ((un' kr).trans hk))) ((un' ca).trans ((un' ci).trans ((un' cr).trans hce))) ((un' q1.symm).trans up') up' (lk_inLoc' rfl (by walk_at "lk"))
 intro w
 induction w with
 | zero =>
  intro j ρ'' σ8 hj E8 g0 gc g2 g3 m8
  have hj : j = 4 := by exact La.z101 hj
  subst hj
  refine CP.turn X3 (by subst hC3; walk_at "kd") ?_
  refine nx_rngE g2 (by decide) ?_
  have E9 := E8.delN it0
  have a9 := (del_ne q1).trans g3
  have c9 := (del_ne ci).trans gc
  generalize Mine.del σ8 it = σ9 at *
  refine op_addL c9 a9 (by simp; exact La.l1 (.L .x0 (.l 1000)) (.L .x0 (.l 99996)) [[1,1]] rfl [_] [] hcl) λ ad had => ?_
  rw [<- List.map_append]
  refine it_list up' λ it2 hit2 => ⟨it2,rfl,λ R2 hR2 => ?_⟩
  have hit2' := uN' hit2
  have ad0 := E9.none had
  have it20 := E9.none hit2'
  have q5 : ad ≠ it2 := λ q => by rw [<- q,up'] at hit2; cases hit2
  have all : ∀ c ∈ cs ++ (List.range 4).map (λ i : Nat => ((0,(i : Int)) : Cell)),okc H c/\c.1 ≠ 1 := λ c hc => by
   rcases List.mem_append.mp hc with hc | hc
   ·exact hcs c hc
   ·refine La.x1_2 (List.mem_map.mp hc) λ i hi h'1 => ?_; subst h'1
    exact ⟨h4 i (by simpa using hi),by simp⟩
  generalize cs ++ (List.range 4).map (λ i : Nat => ((0,(i : Int)) : Cell)) = ds at *
  refine FL.over (a := ad) (l := ds.map cv) X (by walk_at "kd2") (λ i ρ' σ' => Ext σL σ'/\σ' ad = some (.list (ds.map cv))/\LR a m0 f0 hc fr cm ρ') ?_ ?_ ?_
   (ds.map cv).length 0 _ _ rfl ⟨(E9.updN ad0).updN it20,(un' q5).trans up',l'⟩ up'
  ·intro i V ρ1 σ1 hV h'1 hi R3 hR3 _; refine La.c3 h'1 λ e1 g1 lr => ?_; clear h'1
   have e2 := e1.updN (m := .itL ad (i + 1)) it20
   have h1 := (un' (m := .itL ad (i + 1)) q5).trans g1
   have h3 := up' (σ := σ1) (a := it2) (m := .itL ad (i + 1))
   generalize upd σ1 it2 (.itL ad (i + 1)) = σ2 at *
   obtain ⟨d,hd,rfl⟩ : ∃ d ∈ ds,V = cv d := by
    have := List.mem_of_getElem? hV
    refine La.x1_2 (List.mem_map.mp this) λ d hd e => ?_
    exact ⟨d,hd,e.symm⟩
   refine La.c2 (all d hd) λ okd d1 => ?_
   have L2 : LX C mg n σ2 a H A F m0 f0 hc fr cm fl cl := ⟨hn,sc,T,X,SO.ext e2,SyOk.ext SY e2,FO,hA,hF,htf,ft,W,hlen,e2 _ _ h,e2 _ _ fr',e2 _ _ cm',flr,clc,cll⟩
   exact lb0 L2 okd d1 Ext.refl (lr.name (by decide)) lk_same λ ρ3 σ3 e3 lr3 => hR3 _ _ ⟨e2.trans e3,e3 _ _ h1,lr3⟩ (e3 _ _ h3)
  ·intro i ρ1 σ1; refine La.k3 λ e1 g1 _ => ?_
   exact g1
  ·intro ρ1 σ1 h'1 m' hi; refine La.c3 h'1 λ e1 g1 lr => ?_; clear h'1
   exact hR2.next (lend L' (e1.delN it20) lr λ σ' e' => q _ _ e')
 | succ w ih =>
  intro j ρ'' σ8 hj E8 g0 gc g2 g3 m8
  refine CP.turn X3 (by subst hC3; walk_at "kd") ?_
  refine nx_rng g2 (by exact La.z102) ?_
  have e9 : upd σ8 it (.itR ((j : Int) + 1) (((w + 1 : Nat) : Int) - 1) 1) = upd σ8 it (.itR ((j + 1 : Nat) : Int) (w : Int) 1) := by
   congr 2 <;> exact La.z17
  rw [e9]
  have E9 := E8.updN (m := .itR ((j + 1 : Nat) : Int) (w : Int) 1) it0
  have k0 := (un' (m := .itR ((j + 1 : Nat) : Int) (w : Int) 1) ki).trans g0
  have kc := (un' (m := .itR ((j + 1 : Nat) : Int) (w : Int) 1) ci).trans gc
  have k2 := up' (σ := σ8) (a := it) (m := .itR ((j + 1 : Nat) : Int) (w : Int) 1)
  have k3 := (un' (m := .itR ((j + 1 : Nat) : Int) (w : Int) 1) q1).trans g3
  generalize upd σ8 it (.itR ((j + 1 : Nat) : Int) (w : Int) 1) = σ9 at *
  subst hC3
  refine IFS.nil (ite_t ?_);walk_at "r"
  refine op_subD k0 (KN_at (k := (j : Int)) ⟨by exact La.z7,by exact La.z33 hj⟩) ?_;walk_at "r"
  refine fc_append k3 (by simp; exact La.l1 (.Q (.a (.a .x0 .l1) .x1) (.l 4)) (.T .x1 (.l 100000)) [[1,0,1]] rfl [_,_] [] hj) ?_
  refine ih (j + 1) _ _ (by exact La.z59 hj) (E9.updN ac0) ((un' ka).trans k0) ((un' ca).trans kc) ((un' q1.symm).trans k2) ?_ (by walk_at "lk")
  rw [up',List.range_succ]; simp
end
end
section
local macro_rules | `(tactic| walk_at "kd") => `(tactic| first | ((refine kinG ?h ?n); (case h => rfl); (case n => decide)) | ((refine kinC ?h ?f ?c); (case h => rfl); (case f => assumption); (case c => walk_at "kd")))
set_option maxHeartbeats 4000000
structure LX0 (C : Cx) (mg : Str->Option Value) (n : Nat) (σL : CH) (a : SA) (H : List Cell) (A : List Str) (F : List Cell) (m0 f0 : Nat) (hc kn ce : Addr) (cs : List Cell) : Prop where
 hn : C.n = n + 50
 sc : C.env.scope = fnS (stN 60)
 T : TC C mg
 X : ∀ e σ s,¬ C.X e σ s
 SO : StOk σL a H [(1,0)]
 SY : SyS σL a A F
 FO : FuOk F
 hA : A.length < 900
 hF : F.length < 900
 htf : a.tx ≠ a.fu
 ft : FT A F m0 f0
 W : WF H
 hlen : H.length<=31
 h : σL hc = some (.list (H.map cv))
 kn : σL kn = some (.dictI KN)
 ce : σL ce = some (.list (cs.map cv))
 hcs : ∀ c ∈ cs,okc H c/\c.1 ≠ 1
 csl : cs.length<=3
 h4 : ∀ k : Nat,k < 4->okc H (0,(k : Int))
structure LR0 (a : SA) (hc kn ce : Addr) (ρ : Loc') : Prop where
 l1 : lk "store" ρ = some (.ref a.st)
 l2 : lk "signs" ρ = some (.ref a.sy)
 l3 : lk "heap" ρ = some (.ref hc)
 l7 : lk "known" ρ = some (.ref kn)
 l8 : lk "cells" ρ = some (.ref ce)
theorem LR0.name {a : SA} {hc kn ce : Addr} {ρ : Loc'} {x : Str} {V : PV} (l : LR0 a hc kn ce ρ) (h : x ≠ "store"/\x ≠ "signs"/\x ≠ "heap"/\x ≠ "known"/\x ≠ "cells") : LR0 a hc kn ce ((x,V) :: ρ) :=
 ⟨(lk_ne h.1.symm).trans l.l1,(lk_ne h.2.1.symm).trans l.l2,(lk_ne h.2.2.1.symm).trans l.l3,(lk_ne h.2.2.2.1.symm).trans l.l7,(lk_ne h.2.2.2.2.symm).trans l.l8⟩
section
variable {C : Cx} {ρ : Loc'} {σ σL : CH} {mg : Str->Option Value} {n : Nat} {a : SA} {H : List Cell} {A : List Str} {F : List Cell} {m0 f0 : Nat} {hc kn ce fr : Addr} {cs fl : List Cell} {Q : Fl->Loc'->CH->Prop} {c : Cell}
theorem LX0.ext (L : LX0 C mg n σL a H A F m0 f0 hc kn ce cs) (e : Ext σL σ) : LX0 C mg n σ a H A F m0 f0 hc kn ce cs := by
 obtain ⟨hn,sc,T,X,SO,SY,FO,hA,hF,htf,ft,W,hlen,h,hk,hce,hcs,csl,h4⟩ := L
 exact ⟨hn,sc,T,X,SO.ext e,SyOk.ext SY e,FO,hA,hF,htf,ft,W,hlen,e _ _ h,e _ _ hk,e _ _ hce,hcs,csl,h4⟩
theorem l12 (L : LX0 C mg n σL a H A F m0 f0 hc kn ce cs) (l : LR0 a hc kn ce ρ) (l4 : lk "free" ρ = some (.ref fr)) (l6 : lk "fault" ρ = some (ball (formal m0 f0))) (hfr : σL fr = some (.list (fl.map cv))) (flr : ∀ v ∈ fl,v.1 = 0)
  (q : ∀ ρ' σ',Q (.ret (.bool true)) ρ' σ') : EX C (LB.drop 12) ρ σL Q := by
 have L' := L
 have l' := l
 obtain ⟨hn,sc,T,X,SO,SY,FO,hA,hF,htf,ft,W,hlen,h,hk,hce,hcs,csl,h4⟩ := L
 refine EX.assign (by walk_at "kd2") rfl ?_;walk_at "r"
 refine ⟨by simp,λ cm hcm => ?_⟩
 have E0 : Ext σL (upd σL cm (.list [])) := Ext.new hcm
 have c0 : upd σL cm (.list []) cm = some (.list (([] : List Cell).map cv)) := up'
 generalize upd σL cm (.list []) = σ0 at *
 have l8 := l.l8
 refine EX.for X (by intro _; rfl) ?_;walk_at "r"
 refine it_list (E0 _ _ hce) λ it hit => ⟨it,rfl,λ R2 hR2 => ?_⟩
 have it0 := E0.none hit
 have q1 : ce ≠ it := ne_of it0 hce
 have q2 : cm ≠ it := ne_of hit c0
 refine FL.over (a := ce) (l := cs.map cv) X (by walk_at "kd2") (λ i ρ' σ' => ∃ cl : List Cell,Ext σL σ'/\σ' cm = some (.list (cl.map cv))/\(∀ v ∈ cl,isC v = true)/\cl.length<=40 * i/\LR0 a hc kn ce ρ'/\lk "free" ρ' = some (.ref fr)/\lk "fault" ρ' = some (ball (formal m0 f0))/\lk "compounds" ρ' = some (.ref cm)) ?_ ?_ ?_
  (cs.map cv).length 0 _ _ rfl ⟨[],E0.updN it0,(un' q2).trans c0,λ _ h => (by cases h),Nat.le_refl _,l'.name (by decide),(lk_ne (by decide)).trans l4,(lk_ne (by decide)).trans l6,lk_same⟩ up'
 ·intro i V ρ1 σ1 hV h'1 hi R3 hR3 _; refine La.x1_8 h'1 λ cl e1 g1 hcl hcll lr lf lfa lcm => ?_; clear h'1
  have hil : i < cs.length := by
   have := (List.getElem?_eq_some_iff.mp hV).1
   simpa using this
  have e2 := e1.updN (m := .itL ce (i + 1)) it0
  have h1 := (un' (m := .itL ce (i + 1)) q2).trans g1
  have h3 := up' (σ := σ1) (a := it) (m := .itL ce (i + 1))
  generalize upd σ1 it (.itL ce (i + 1)) = σ2 at *
  obtain ⟨d,hd,rfl⟩ : ∃ d ∈ cs,V = cv d := by
   have := List.mem_of_getElem? hV
   refine La.x1_2 (List.mem_map.mp this) λ d hd e => ?_
   exact ⟨d,hd,e.symm⟩
  refine La.c2 (hcs d hd) λ okd d1 => ?_
  refine La.x1_2 (met_ex W okd) λ r m hr => ?_
  have SY2 : SyS σ2 a A F := SyOk.ext SY e2
  have lr' := lr
  obtain ⟨l1,l2,l3,l7,l8⟩ := lr
  refine EX.for X (by intro _; rfl) ?_;walk_at "r"
  refine fc_law_met (n := n + 47) (by assumption) T (e2 _ _ h) SY2 FO W (by exact La.z1 hlen) okd m (by exact La.z58 hlen hr) λ mt σ3 e3 n3 g3 => ?_
  refine it_list g3 λ it2 hit2 => ⟨it2,rfl,λ R4 hR4 => ?_⟩
  have e23 := e2.trans e3
  have it20 := e23.none hit2
  have h1' := e3 _ _ h1
  have h3' := e3 _ _ h3
  have q3 : mt ≠ it2 := ne_of hit2 g3
  have q4 : cm ≠ it2 := ne_of hit2 h1'
  have q5 : it ≠ it2 := ne_of hit2 h3'
  have q6 : mt ≠ cm := λ z => by rw [z,h1] at n3; cases n3
  have q7 : it ≠ cm := λ z => by rw [z,h1] at h3; cases h3
  refine FL.over (a := mt) (l := r.map cv) X (by walk_at "kd2") (λ j ρ' σ' => ∃ cl2 : List Cell,Ext σL σ'/\σ' mt = some (.list (r.map cv))/\σ' it = some (.itL ce (i + 1))/\σ' cm = some (.list (cl2.map cv))/\(∀ v ∈ cl2,isC v = true)/\cl2.length<=40 * i + j/\LR0 a hc kn ce ρ'/\lk "free" ρ' = some (.ref fr)/\lk "fault" ρ' = some (ball (formal m0 f0))/\lk "compounds" ρ' = some (.ref cm)) ?_ ?_ ?_
   (r.map cv).length 0 _ _ rfl ⟨cl,e23.updN it20,(un' q3).trans g3,(un' q5).trans h3',(un' q4).trans h1',hcl,by assumption,lr'.name (by decide),(lk_ne (by decide)).trans lf,(lk_ne (by decide)).trans lfa,(lk_ne (by decide)).trans lcm⟩ up'
  ·intro j V ρ5 σ5 hV5 h'1 hi5 R5 hR5 _; refine La.x1_10 h'1 λ cl2 e5 g5 i5 c5 hcl2 hcl2l lr5 lf5 lfa5 lcm5 => ?_; clear h'1
   have hjl : j < r.length := by
    have := (List.getElem?_eq_some_iff.mp hV5).1
    simpa using this
   have e6 := e5.updN (m := .itL mt (j + 1)) it20
   have g6 := (un' (m := .itL mt (j + 1)) q3).trans g5
   have i6 := (un' (m := .itL mt (j + 1)) q5).trans i5
   have c6 := (un' (m := .itL mt (j + 1)) q4).trans c5
   have k6 := up' (σ := σ5) (a := it2) (m := .itL mt (j + 1))
   generalize upd σ5 it2 (.itL mt (j + 1)) = σ6 at *
   obtain ⟨x,hx,rfl⟩ : ∃ x ∈ r,V = cv x := by
    have := List.mem_of_getElem? hV5
    refine La.x1_2 (List.mem_map.mp this) λ d hd e => ?_
    exact ⟨d,hd,e.symm⟩
   have P5 : LR0 a hc kn ce (("part",cv x) :: ρ5) := lr5.name (by decide)
   refine EX.ite λ R6 hR6 => ?_
   have go : R6 .next (("part",cv x) :: ρ5) σ6 := hR6.next (EX.nil (hR5 _ _ ⟨cl2,e6,g6,i6,c6,hcl2,by exact La.l1 (.L .x0 (.a (.m 40 .x1) .x2)) (.L .x0 (.a (.m 40 .x1) (.a .x2 .l1))) [[1,1]] rfl [_,_,_] [] hcl2l,P5,(lk_ne (by decide)).trans lf5,(lk_ne (by decide)).trans lfa5,(lk_ne (by decide)).trans lcm5⟩ k6))
   walk_at "r"
   refine ⟨by simp,?_⟩
   refine op_inT (l := [.int 2,.int 3]) (b := isC x) rfl rfl (by simp [Dp,dat,PyData.depth]) (by simp [isC]) ?_;walk_at "r"
   refine ite_of (λ hC => ?_) λ hC => ?_
   ·walk_at "r"
    refine op_ninC c6 ?_;walk_at "r"
    refine ite_of (λ hN => ?_) λ hN => ?_
    ·refine EA.andN ?_
     refine ite_t ?_;walk_at "r"
     refine ⟨_,_,rfl,c6,?_⟩;walk_at "r"
     refine ⟨_,c6,by simp; exact La.la [.L .x0 (.l 31),.L .x1 (.l 3),.T .x2 .x1,.L .x3 (.a .x0 .l1),.L .x4 (.a (.m 40 .x2) .x5),.T .x5 .x3] (.T .x4 (.l 100000)) [[1,40,40,1,1,1,1]] rfl [_,_,_,_,_,_] [] ⟨hlen,csl,hil,hr,hcl2l,hjl,trivial⟩,?_⟩;walk_at "r"
     refine hR5 _ _ ⟨cl2 ++ [x],e6.updN hcm,(un' q6).trans g6,(un' q7).trans i6,by rw [up']; simp,λ v hv => ?_,by simp; exact La.l1 (.L .x0 (.a (.m 40 .x1) .x2)) (.L (.a .x0 .l1) (.a (.m 40 .x1) (.a .x2 .l1))) [[1,1]] rfl [_,_,_] [] hcl2l,P5,(lk_ne (by decide)).trans lf5,(lk_ne (by decide)).trans lfa5,(lk_ne (by decide)).trans lcm5⟩ ((un' q4.symm).trans k6)
     rcases List.mem_append.mp hv with hv | hv
     ·exact hcl2 v hv
     ·simp at hv; subst hv; exact hC
    ·refine ite_f ?_
     exact EX.nil go
   ·refine ite_f ?_
    exact EX.nil go
  ·intro j ρ5 σ5; refine La.y1_3 λ cl2 e5 g5 _ => ?_
   exact g5
  ·intro ρ5 σ5 h'1 m' hi5; refine La.x1_10 h'1 λ cl2 e5 g5 i5 c5 hcl2 hcl2l lr5 lf5 lfa5 lcm5 => ?_; clear h'1
   have hrl : (r.map cv).length<=32 := by simp; exact La.l2 (.L .x0 (.l 31)) (.L .x1 (.a .x0 .l1)) (.L .x1 (.l 32)) [[1,1,1]] rfl [_,_] [] hlen hr
   exact hR4.next (EX.nil (hR3 _ _ ⟨cl2,e5.delN it20,(del_ne q4).trans c5,hcl2,by exact La.l2 (.L .x0 (.a (.m 40 .x1) .x2)) (.L .x2 (.l 32)) (.L .x0 (.m 40 (.a .x1 .l1))) [[1,1,1]] rfl [_,_,_] [] hcl2l hrl,lr5,lf5,lfa5,lcm5⟩ ((del_ne q5).trans i5)))
 ·intro i ρ1 σ1; refine La.y1_2 λ cl e1 _ => ?_
  exact e1 _ _ hce
 ·intro ρ1 σ1 h'1 m' hi; refine La.x1_8 h'1 λ cl e1 g1 hcl hcll lr lf lfa lcm => ?_; clear h'1
  refine hR2.next ?_
  have e2 := e1.delN it0
  have g2 := (del_ne q2).trans g1
  generalize Mine.del σ1 it = σ2 at *
  have L2 : LX C mg n σ2 a H A F m0 f0 hc fr cm fl cl := ⟨hn,sc,T,X,SO.ext e2,SyOk.ext SY e2,FO,hA,hF,htf,ft,W,hlen,e2 _ _ h,e2 _ _ hfr,g2,flr,hcl,by simp at hcll; exact La.l2 (.L .x0 (.l 3)) (.L .x1 (.m 40 .x0)) (.L .x1 (.l 1000)) [[40,1,1]] rfl [_,_] [] csl hcll⟩
  exact lbig L2 Ext.refl ⟨lr.l1,lr.l2,lr.l3,lf,lcm,lfa⟩ lr.l7 lr.l8 (e2 _ _ hk) (e2 _ _ hce) hcs (by exact La.l1 (.L .x0 (.l 3)) (.L .x0 (.l 1000)) [[1,1]] rfl [_] [] csl) h4 λ ρ' σ' _ => q ρ' σ'
end
end
section
local macro_rules | `(tactic| walk_at "kd") => `(tactic| first | ((refine kinG ?h ?n); (case h => rfl); (case n => decide)) | ((refine kinC ?h ?f ?c); (case h => rfl); (case f => assumption); (case c => walk_at "kd")))
set_option maxHeartbeats 4000000
noncomputable def A2 : List Str := addN (addN AF.1 "resource_error") "memory"
noncomputable def F1 : List Cell := addN AF.2 (nm AF.1 "resource_error",1)
theorem addN_sub {α : Type} [DecidableEq α] {l : List α} {x y : α} (h : y ∈ l) : y ∈ addN l x := by
 refine La.x1_1 (addN_pre (l := l) (x := x)) λ r e => ?_
 rw [e]; exact List.mem_append_left _ h
theorem addN_idx {l : List Str} {x y : Str} (h : y ∈ l) : (addN l x).idxOf y = l.idxOf y := by
 refine La.x1_1 (addN_pre (l := l) (x := x)) λ r e => ?_
 rw [e]; exact idxOf_app h
theorem ft2 : FT A2 F1 (A2.idxOf ("memory" : Str)) (F1.idxOf (nm AF.1 ("resource_error" : Str),(1 : Int))) := by
 have hr : ("resource_error" : Str) ∈ addN AF.1 "resource_error" := addN_mem
 have e : ((A2.idxOf ("resource_error" : Str) : Nat) : Int) = nm AF.1 "resource_error" := by
  unfold A2 nm
  rw [addN_idx hr]
 refine ⟨addN_mem,rfl,addN_sub hr,?_,?_⟩
 ·rw [e]; exact addN_mem
 ·rw [e]
theorem A2_len : A2.length < 200/\F1.length < 200/\FuOk F1 := by
 refine La.c3 (AF_ok) λ h1 h2 h3 => ?_
 have a1 := addN_len (l := AF.1) (x := ("resource_error" : Str))
 have a2 := addN_len (l := addN AF.1 ("resource_error" : Str)) (x := ("memory" : Str))
 have a3 := addN_len (l := AF.2) (x := (nm AF.1 "resource_error",(1 : Int)))
 refine La.x1_1 (addN_pre (l := AF.2) (x := (nm AF.1 "resource_error",(1 : Int)))) λ r e => ?_
 refine ⟨by unfold A2; exact La.l3 (.T .x0 (.l 100)) (.L .x1 (.a .x0 .l1)) (.L .x2 (.a .x1 .l1)) (.T .x2 (.l 200)) [[1,1,1,1]] rfl [_,_,_] [] h2 a1 a2,by unfold F1; exact La.l2 (.T .x0 (.l 100)) (.L .x1 (.a .x0 .l1)) (.T .x1 (.l 200)) [[1,1,1]] rfl [_,_] [] h3 a3,?_⟩
 have z := h1.l
 refine ⟨by unfold F1; exact La.z103 h3 a3,by unfold F1; rw [e,List.length_append]; exact La.l1 (.T (.l 13) .x0) (.T (.l 13) (.a .x0 .x1)) [[1,1]] rfl [_,_] [] z,?_,?_⟩
 ·unfold F1; rw [e,show ((12 : Int)) = ((12 : Nat) : Int) from rfl,hat_app (by exact La.z27 z)]; exact h1.a
 ·unfold F1; rw [e,show ((13 : Int)) = ((13 : Nat) : Int) from rfl,hat_app (by assumption)]; exact h1.b
section
variable {C : Cx} {ρ : Loc'} {σ σL : CH} {mg : Str->Option Value} {n : Nat} {a : SA} {H : List Cell} {A : List Str} {F : List Cell} {m0 f0 : Nat} {hc kn ce fr : Addr} {cs fl : List Cell} {Q : Fl->Loc'->CH->Prop} {c : Cell}
theorem l11 (L : LX0 C mg n σL a H A F m0 f0 hc kn ce cs) (l : LR0 a hc kn ce ρ) (l6 : lk "fault" ρ = some (ball (formal m0 f0)))
  (q : ∀ ρ' σ',Q (.ret (.bool true)) ρ' σ') : EX C (LB.drop 11) ρ σL Q := by
 have L' := L
 have l' := l
 obtain ⟨hn,sc,T,X,SO,SY,FO,hA,hF,htf,ft,W,hlen,h,hk,hce,hcs,csl,h4⟩ := L
 obtain ⟨l1,l2,l3,l7,l8⟩ := l
 have hfk : C.env.scope.kind = .function := by rw [sc]; rfl
 have hbk : C.env.blockKind = .function := by unfold Env.blockKind; rw [sc]; rfl
 refine EX.comp ⟨rfl,by decide,by decide,rfl,?_⟩ (by walk_at "kd") (swaps_yes hbk (by walk_at "kd") rfl (by decide)) (by intro _; rfl) ?_
 ·intro y hy hf
  simp only [List.mem_cons,List.not_mem_nil,or_false] at hy
  rcases hy with rfl | rfl | rfl | rfl | rfl
  all_goals first | (cases hf; done) | exact ⟨.inl (by walk_at "kd"),by rw [show lk "known" _ = some (PV.ref kn) from (by walk_at "lk")]; rfl⟩ | exact ⟨.inl (by walk_at "kd"),by rw [show lk "heap" _ = some (PV.ref hc) from (by walk_at "lk")]; rfl⟩
 walk_at "r"
 refine fc_range1 λ rg hrg => ?_
 refine it_rng up' (small_up 4 (by decide)).1 λ it hit => ⟨it,rfl,⟨_,up',.inr ⟨_,_,_,rfl⟩⟩,λ ac hac L3 cl3 C3 hC3 => ?_⟩
 rw [show Builtin.Range.rangeSize 0 4 1 = 4 from (small_up 4 (by decide)).2] at hac ⊢
 have T3 : TC C3 mg := by rw [hC3]; exact T
 have X3 : ∀ e σ s,¬ C3.X e σ s := by rw [hC3]; exact X
 have n3 : C3.n = (n + 49) + 1 := by rw [hC3]; show C.n = _; assumption
 have q1 : ac ≠ it := λ q => by rw [q,up'] at hac; cases hac
 have ac0 := uN' (uN' hac)
 have it0 := uN' hit
 refine (?_ : ∀ (w j : Nat) (ρ' : Loc') (σ' : CH),w + j = 4->Ext σL σ'->σ' it = some (.itR (j : Int) (w : Int) 1)->σ' ac = some (.list ((((List.range j).map λ i : Nat => ((0,(i : Int)) : Cell)).filter λ c => decide (der H c = c)).map cv))->lk "known" ρ' = some (.ref kn)->lk "heap" ρ' = some (.ref hc)->CP C3 _ it ac ρ' σ' _)
  4 0 _ _ rfl (((Ext.new hrg).updN it0).updN ac0) ((un' q1.symm).trans up') up' (lk_inLoc' rfl (by walk_at "lk")) (lk_inLoc' rfl (by walk_at "lk"))
 intro w
 induction w with
 | zero =>
  intro j ρ'' σ8 hj E8 g2 g3 m8 m9
  have hj : j = 4 := by exact La.z101 hj
  subst hj
  refine CP.turn X3 (by subst hC3; walk_at "kd") ?_
  refine nx_rngE g2 (by decide) ?_
  have E9 := E8.delN it0
  have a9 := (del_ne q1).trans g3
  exact l12 (L'.ext E9) (l'.name (by decide)) lk_same ((lk_ne (by decide)).trans l6) a9 (λ v hv => by
   refine La.c2 (List.mem_filter.mp hv) λ hv _ => ?_
   refine La.x1_2 (List.mem_map.mp hv) λ i hi h'1 => ?_; subst h'1
   rfl) q
 | succ w ih =>
  intro j ρ'' σ8 hj E8 g2 g3 m8 m9
  refine CP.turn X3 (by subst hC3; walk_at "kd") ?_
  refine nx_rng g2 (by exact La.z102) ?_
  have e9 : upd σ8 it (.itR ((j : Int) + 1) (((w + 1 : Nat) : Int) - 1) 1) = upd σ8 it (.itR ((j + 1 : Nat) : Int) (w : Int) 1) := by
   congr 2 <;> exact La.z17
  rw [e9]
  have E9 := E8.updN (m := .itR ((j + 1 : Nat) : Int) (w : Int) 1) it0
  have k2 := up' (σ := σ8) (a := it) (m := .itR ((j + 1 : Nat) : Int) (w : Int) 1)
  have k3 := (un' (m := .itR ((j + 1 : Nat) : Int) (w : Int) 1) q1).trans g3
  generalize upd σ8 it (.itR ((j + 1 : Nat) : Int) (w : Int) 1) = σ9 at *
  have hk9 := E9 _ _ hk
  have fll := List.length_filter_le (λ c : Cell => decide (der H c = c)) ((List.range j).map λ i : Nat => ((0,(i : Int)) : Cell))
  have hrs : ((List.range (j + 1)).map λ i : Nat => ((0,(i : Int)) : Cell)).filter (λ c => decide (der H c = c)) = ((List.range j).map λ i : Nat => ((0,(i : Int)) : Cell)).filter (λ c => decide (der H c = c)) ++ (if der H (0,(j : Int)) = (0,(j : Int)) then [(0,(j : Int))] else []) := by
   rw [List.range_succ,List.map_append,List.filter_append]
   simp [List.filter_cons]
  subst hC3
  refine IFS.one ?_
  refine ET.cmp ?_
  refine EV.fcall T3 (T3.fn "_law_end" rfl) (by walk_at "kd") ?_;walk_at "r"
  refine op_subD hk9 (KN_at (k := (j : Int)) ⟨by exact La.z7,by exact La.z33 hj⟩) ?_;walk_at "r"
  refine fc_law_end n3 T3 (E9 _ _ h) W (by exact La.z1 hlen) (h4 j (by exact La.l1 (.Q (.a (.a .x0 .l1) .x1) (.l 4)) (.T .x1 (.l 4)) [[1,0,1]] rfl [_,_] [] hj)) ?_;walk_at "r"
  refine op_subD hk9 (KN_at (k := (j : Int)) ⟨by exact La.z7,by exact La.z33 hj⟩) ?_;walk_at "r"
  refine ite_of (λ hC => ?_) λ hC => ?_
  ·have hC := of_decide_eq_true hC
   walk_at "r"
   refine op_subD hk9 (KN_at (k := (j : Int)) ⟨by exact La.z7,by exact La.z33 hj⟩) ?_;walk_at "r"
   refine fc_append k3 (by simp at fll ⊢; omega) ?_
   refine ih (j + 1) _ _ (by exact La.z59 hj) (E9.updN ac0) ((un' q1.symm).trans k2) ?_ (by walk_at "lk") (by walk_at "lk")
   rw [up',hrs,if_pos hC,List.map_append]; rfl
  ·have hC := of_decide_eq_false hC
   refine ih (j + 1) _ _ (by exact La.z59 hj) E9 k2 ?_ (by walk_at "lk") (by walk_at "lk")
   rw [k3,hrs,if_neg hC]; simp
end
end
section
set_option maxHeartbeats 4000000
structure LZ (C : Cx) (mg : Str->Option Value) (n : Nat) (σL : CH) (a : SA) (H : List Cell) (kn ce : Addr) (cs : List Cell) : Prop where
 hn : C.n = n + 50
 sc : C.env.scope = fnS (stN 60)
 T : TC C mg
 X : ∀ e σ s,¬ C.X e σ s
 SO : StOk σL a H [(1,0)]
 SY : SyS σL a AF.1 AF.2
 D : DS a
 htf : a.tx ≠ a.fu
 trx : a.tr ≠ a.tx
 trf : a.tr ≠ a.fu
 W : WF H
 hlen : H.length<=31
 hk : σL kn = some (.dictI KN)
 hce : σL ce = some (.list (cs.map cv))
 cex : ce ≠ a.tx
 cef : ce ≠ a.fu
 hcs : ∀ c ∈ cs,okc H c/\c.1 ≠ 1
 csl : cs.length<=3
 h4 : ∀ k : Nat,k < 4->okc H (0,(k : Int))
structure LRz (a : SA) (kn ce : Addr) (ρ : Loc') : Prop where
 l1 : lk "store" ρ = some (.ref a.st)
 l2 : lk "signs" ρ = some (.ref a.sy)
 l7 : lk "known" ρ = some (.ref kn)
 l8 : lk "cells" ρ = some (.ref ce)
section
variable {C : Cx} {ρ : Loc'} {σ σL : CH} {mg : Str->Option Value} {n : Nat} {a : SA} {H : List Cell} {kn ce fr : Addr} {cs fl : List Cell} {Q : Fl->Loc'->CH->Prop} {c : Cell}
theorem l9 (L : LZ C mg n σL a H kn ce cs) (l : LRz a kn ce ρ) (q : ∀ ρ' σ',Q (.ret (.bool true)) ρ' σ') : EX C (LB.drop 9) ρ σL Q := by
 obtain ⟨hn,sc,T,X,SO,SY,D,htf,trx,trf,W,hlen,hk,hce,cex,cef,hcs,csl,h4⟩ := L
 obtain ⟨l1,l2,l7,l8⟩ := l
 have m1 := SO.st
 have m2 := SO.dst
 refine EX.assign (by walk_at "kd2") rfl ?_;walk_at "r"
 refine fc_list SO.hp (by simp; exact La.l1 (.L .x0 (.l 31)) (.T .x0 (.l 100000)) [[1,1]] rfl [_] [] hlen) λ hc hhc => ?_
 have E1 : Ext σL (upd σL hc (.list (H.map cv))) := Ext.new hhc
 have g1 : upd σL hc (.list (H.map cv)) hc = some (.list (H.map cv)) := up'
 have hx : hc ≠ a.tx := (ne_of hhc SY.tx).symm
 have hf : hc ≠ a.fu := (ne_of hhc SY.fu).symm
 generalize upd σL hc (.list (H.map cv)) = σ1 at *
 have SO1 := SO.ext E1
 have SY1 : SyS σ1 a AF.1 AF.2 := SyOk.ext SY E1
 have sy1 := SY1.sy
 have sy2 := SY1.dsy
 refine La.c3 (AF_ok) λ f1 f2 f3 => ?_;walk_at "r"
 refine fc_func (k := 1) (n := n + 48) (by assumption) T SY1 (by exact La.z54 f2) (by exact La.z54 f3) htf λ σ2 e2 SY2 => ?_
 have sy3 := SY2.sy
 have sy4 := SY2.dsy
 walk_at "r"
 refine fc_atom (n := n + 49) (by assumption) T SY2 (by have := addN_len (l := AF.1) (x := ("resource_error" : Str)); exact La.z103 f2 this) htf λ σ3 e3 SY3 => ?_;walk_at "r"
 refine ⟨by simp,?_⟩;walk_at "r"
 refine ⟨by simp,?_⟩;walk_at "r"
 refine ⟨by simp,?_⟩;walk_at "r"
 refine ⟨by simp,?_⟩;walk_at "r"
 refine ⟨by simp,?_⟩;walk_at "r"
 refine ⟨by simp,?_⟩
 have E : EB [a.tx,a.an,a.fu,a.fn] σ1 σ3 := e2.trans (e3.wider (by simp))
 have ki : ∀ x m,σ1 x = some m->(∀ l,m ≠ .list l)->(∀ l,m ≠ .dictS l)->(∀ l,m ≠ .dictT l)->σ3 x = some m := λ x m hx n1 n2 n3 => E x m (by
  simp only [List.mem_cons,List.not_mem_nil,or_false,not_or]
  exact ⟨ne_mm hx SY1.tx (n1 _),ne_mm hx SY1.an (n2 _),ne_mm hx SY1.fu (n1 _),ne_mm hx SY1.fn (n3 _)⟩) hx
 have kl : ∀ x l,σ1 x = some (.list l)->x ≠ a.tx->x ≠ a.fu->σ3 x = some (.list l) := λ x l hx n1 n2 => E x _ (by
  simp only [List.mem_cons,List.not_mem_nil,or_false,not_or]
  exact ⟨n1,ne_mm hx SY1.an (by simp),n2,ne_mm hx SY1.fn (by simp)⟩) hx
 have SO3 : StOk σ3 a H [(1,0)] := ⟨ki _ _ SO1.st (by simp) (by simp) (by simp),ki _ _ SO1.dst (by simp) (by simp) (by simp),kl _ _ SO1.hp D.txh.symm D.fuh.symm,kl _ _ SO1.sk D.txs.symm D.fus.symm,kl _ _ SO1.tr trx trf⟩
 refine La.c3 (A2_len) λ z1 z2 z3 => ?_
 have L2 : LX0 C mg n σ3 a H A2 F1 (A2.idxOf ("memory" : Str)) (F1.idxOf (nm AF.1 ("resource_error" : Str),(1 : Int))) hc kn ce cs :=
  ⟨hn,sc,T,X,SO3,SY3,z3,by exact La.z104 z1,by exact La.z104 z2,htf,ft2,W,hlen,kl _ _ g1 hx hf,ki _ _ (E1 _ _ hk) (by simp) (by simp) (by simp),kl _ _ (E1 _ _ hce) cex cef,hcs,csl,h4⟩
 exact l11 L2 ⟨by walk_at "lk",by walk_at "lk",by walk_at "lk",by walk_at "lk",by walk_at "lk"⟩ lk_same q
end
end
section
set_option maxHeartbeats 4000000
noncomputable def V4 : List Cell := [(0,0),(0,1),(0,2),(0,3)]
theorem V4_hat {k : Nat} (h : k < 4) : hat V4 k = (0,(k : Int)) := (by decide +kernel : ∀ k : Nat,k < 4->hat V4 k = (0,(k : Int))) k h
theorem V4_wf : WF V4 := λ i c hc => by
 have hi : i < 4 := (List.getElem?_eq_some_iff.mp hc).1
 have e : c = (0,(i : Int)) := by
  have := hat_get (H := V4) (v := i) hi
  rw [hc] at this
  rw [Option.some.inj this]; exact V4_hat hi
 subst e
 exact .inr ⟨.ref i hi (by rw [V4_hat hi]; simp),by simp,λ _ => Int.le_refl _⟩
structure LV (C : Cx) (mg : Str->Option Value) (n : Nat) (σL : CH) (a : SA) (kn rw' : Addr) : Prop where
 hn : C.n = n + 50
 sc : C.env.scope = fnS (stN 60)
 T : TC C mg
 X : ∀ e σ s,¬ C.X e σ s
 SO : StOk σL a V4 [(1,0)]
 SY : SyS σL a AF.1 AF.2
 D : DS a
 htf : a.tx ≠ a.fu
 trx : a.tr ≠ a.tx
 trf : a.tr ≠ a.fu
 hk : σL kn = some (.dictI KN)
 hr : ∃ L : List Int,σL rw' = some (.list (L.map PV.int))/\L.length < 1000
 rwh : rw' ≠ a.hp
 rws : rw' ≠ a.sk
 rwt : rw' ≠ a.tr
 rwx : rw' ≠ a.tx
 rwf : rw' ≠ a.fu
structure LVs (σL σ : CH) (a : SA) (kn rw' ce : Addr) (H : List Cell) (cs : List Cell) : Prop where
 e : EB [a.hp,rw',ce] σL σ
 h : σ a.hp = some (.list (H.map cv))
 r : ∃ L : List Int,σ rw' = some (.list (L.map PV.int))/\L.length < 1000
 c : σ ce = some (.list (cs.map cv))
 W : WF H
 K : K6 V4 H
 ok : ∀ c ∈ cs,okc H c/\c.1 ≠ 1
section
variable {C : Cx} {ρ : Loc'} {σ σL : CH} {mg : Str->Option Value} {n : Nat} {a : SA} {H : List Cell} {kn ce rw' : Addr} {cs : List Cell} {Q : Fl->Loc'->CH->Prop} {c : Cell}
theorem LVs.SO (L : LV C mg n σL a kn rw') (hce : σL ce = none) (s : LVs σL σ a kn rw' ce H cs) : StOk σ a H [(1,0)] := by
 have hp := L.SO.hp
 refine La.x1_2 (L.hr) λ Lr hr _ => ?_
 have ki : ∀ x m,σL x = some m->(∀ l,m ≠ .list l)->σ x = some m := λ x m hx n1 => s.e x m (by
  simp only [List.mem_cons,List.not_mem_nil,or_false,not_or]
  exact ⟨ne_mm hx hp (n1 _),ne_mm hx hr (n1 _),ne_of hce hx⟩) hx
 refine ⟨ki _ _ L.SO.st (by simp),ki _ _ L.SO.dst (by simp),s.h,?_,?_⟩
 ·exact s.e _ _ (by simp only [List.mem_cons,List.not_mem_nil,or_false,not_or]; exact ⟨L.D.skh,L.rws.symm,ne_of hce L.SO.sk⟩) L.SO.sk
 ·exact s.e _ _ (by simp only [List.mem_cons,List.not_mem_nil,or_false,not_or]; exact ⟨L.D.trh,L.rwt.symm,ne_of hce L.SO.tr⟩) L.SO.tr
theorem LVs.SY (L : LV C mg n σL a kn rw') (hce : σL ce = none) (s : LVs σL σ a kn rw' ce H cs) : SyS σ a AF.1 AF.2 := by
 have hp := L.SO.hp
 refine La.x1_2 (L.hr) λ Lr hr _ => ?_
 have ki : ∀ x m,σL x = some m->(∀ l,m ≠ .list l)->σ x = some m := λ x m hx n1 => s.e x m (by
  simp only [List.mem_cons,List.not_mem_nil,or_false,not_or]
  exact ⟨ne_mm hx hp (n1 _),ne_mm hx hr (n1 _),ne_of hce hx⟩) hx
 refine ⟨ki _ _ L.SY.sy (by simp),ki _ _ L.SY.dsy (by simp),?_,ki _ _ L.SY.an (by simp),?_,ki _ _ L.SY.fn (by simp)⟩
 ·exact s.e _ _ (by simp only [List.mem_cons,List.not_mem_nil,or_false,not_or]; exact ⟨L.D.txh,L.rwx.symm,ne_of hce L.SY.tx⟩) L.SY.tx
 ·exact s.e _ _ (by simp only [List.mem_cons,List.not_mem_nil,or_false,not_or]; exact ⟨L.D.fuh,L.rwf.symm,ne_of hce L.SY.fu⟩) L.SY.fu
theorem LVs.KN (L : LV C mg n σL a kn rw') (hce : σL ce = none) (s : LVs σL σ a kn rw' ce H cs) : σ kn = some (.dictI Mine.KN) := by
 have hp := L.SO.hp
 refine La.x1_2 (L.hr) λ Lr hr _ => ?_
 exact s.e _ _ (by simp only [List.mem_cons,List.not_mem_nil,or_false,not_or]; exact ⟨ne_mm L.hk hp (by simp),ne_mm L.hk hr (by simp),ne_of hce L.hk⟩) L.hk
theorem LVs.upd {x : Addr} {m : MO} (s : LVs σL σ a kn rw' ce H cs) (h0 : σL x = none) (h1 : x ≠ a.hp) (h2 : x ≠ rw') (h3 : x ≠ ce) : LVs σL (upd σ x m) a kn rw' ce H cs := by
 refine La.x1_2 (s.r) λ L r1 r2 => ?_
 exact ⟨s.e.updN h0,(un' h1.symm).trans s.h,⟨L,(un' h2.symm).trans r1,r2⟩,(un' h3.symm).trans s.c,s.W,s.K,s.ok⟩
theorem LVs.del {x : Addr} (s : LVs σL σ a kn rw' ce H cs) (h0 : σL x = none) (h1 : x ≠ a.hp) (h2 : x ≠ rw') (h3 : x ≠ ce) : LVs σL (del σ x) a kn rw' ce H cs := by
 refine La.x1_2 (s.r) λ L r1 r2 => ?_
 exact ⟨s.e.delN h0,(del_ne h1.symm).trans s.h,⟨L,(del_ne h2.symm).trans r1,r2⟩,(del_ne h3.symm).trans s.c,s.W,s.K,s.ok⟩
theorem LVs.row {σ' : CH} {L' : List Int} (L : LV C mg n σL a kn rw') (hce : σL ce = none) (s : LVs σL σ a kn rw' ce H cs) (e : EB [rw'] σ σ') (g : σ' rw' = some (.list (L'.map PV.int))) (hl : L'.length < 1000) : LVs σL σ' a kn rw' ce H cs := by
 refine La.x1_2 (L.hr) λ Lr hr _ => ?_
 refine ⟨s.e.trans (e.wider (by simp)),e _ _ (by simp; exact L.rwh.symm) s.h,⟨L',g,hl⟩,e _ _ (by simp; exact (ne_of hce hr).symm) s.c,s.W,s.K,s.ok⟩
theorem LVs.fresh {x : Addr} (L : LV C mg n σL a kn rw') (s : LVs σL σ a kn rw' ce H cs) (h : σ x = none) : σL x = none/\x ≠ a.hp/\x ≠ rw'/\x ≠ ce := by
 refine La.x1_2 (s.r) λ L' r1 _ => ?_
 have h1 : x ≠ a.hp := λ q => by rw [q,s.h] at h; cases h
 have h2 : x ≠ rw' := λ q => by rw [q,r1] at h; cases h
 have h3 : x ≠ ce := λ q => by rw [q,s.c] at h; cases h
 refine ⟨?_,h1,h2,h3⟩
 cases z : σL x with
 | none => rfl
 | some m => rw [s.e x m (by simp only [List.mem_cons,List.not_mem_nil,or_false,not_or]; exact ⟨h1,h2,h3⟩) z] at h; cases h
end
end
section
set_option maxHeartbeats 4000000
section
variable {C : Cx} {ρ : Loc'} {σ σL : CH} {mg : Str->Option Value} {n : Nat} {a : SA} {H : List Cell} {kn ce rw' : Addr} {cs : List Cell} {Q : Fl->Loc'->CH->Prop} {c : Cell}
structure LRv (a : SA) (kn ce rw' : Addr) (ρ : Loc') : Prop where
 l1 : lk "store" ρ = some (.ref a.st)
 l2 : lk "signs" ρ = some (.ref a.sy)
 l7 : lk "known" ρ = some (.ref kn)
 l8 : lk "cells" ρ = some (.ref ce)
 l9 : lk "row" ρ = some (.ref rw')
theorem LRv.name {x : Str} {V : PV} (l : LRv a kn ce rw' ρ) (h : x ≠ "store"/\x ≠ "signs"/\x ≠ "known"/\x ≠ "cells"/\x ≠ "row") : LRv a kn ce rw' ((x,V) :: ρ) :=
 ⟨(lk_ne h.1.symm).trans l.l1,(lk_ne h.2.1.symm).trans l.l2,(lk_ne h.2.2.1.symm).trans l.l7,(lk_ne h.2.2.2.1.symm).trans l.l8,(lk_ne h.2.2.2.2.symm).trans l.l9⟩
theorem h4_of (K : K6 V4 H) : ∀ k : Nat,k < 4->okc H (0,(k : Int)) := λ k hk => by
 have h1 := K.1
 have h2 := (K.2 k hk).2 (by rw [V4_hat hk]; simp)
 exact .ref k (Nat.lt_of_lt_of_le hk h1) h2
theorem l8 (L : LV C mg n σL a kn rw') (hce : σL ce = none) (s : LVs σL σ a kn rw' ce H cs) (hlen : H.length<=31) (csl : cs.length<=3) (cs2 : 2<=cs.length) (l : LRv a kn ce rw' ρ) (q : ∀ ρ' σ',Q (.ret (.bool true)) ρ' σ') : EX C (LB.drop 8) ρ σ Q := by
 have L' := L
 have l' := l
 have hnn := L.hn
 have sc := L.sc
 have T := L.T
 have X := L.X
 obtain ⟨l1,l2,l7,l8,l9⟩ := l
 have B' := T.sys
 refine EX.for X (by intro _; rfl) ?_;walk_at "r"
 refine fc_range1 λ rg hrg => ?_
 refine it_rng up' (small_up 4 (by decide)).1 λ it hit => ⟨it,rfl,λ R2 hR2 => ?_⟩
 rw [show Builtin.Range.rangeSize 0 4 1 = 4 from (small_up 4 (by decide)).2]
 refine La.c4 (s.fresh L hrg) λ rg0 rg1 rg2 rg3 => ?_
 refine La.c4 (s.fresh L (uN' hit)) λ it0 it1 it2 it3 => ?_
 have s1 := (s.upd (m := .rng 0 4 1) rg0 rg1 rg2 rg3).upd (m := .itR 0 4 1) it0 it1 it2 it3
 refine FL.up (it := it) (N := 4) X (by walk_at "kd2") (λ i ρ' σ' => ∃ H',LVs σL σ' a kn rw' ce H' cs/\H'.length = H.length/\LRv a kn ce rw' ρ') ?_ ?_ 4 0 _ _ rfl ⟨H,s1,rfl,l'⟩ up'
 ·intro k ρ1 σ1 hk h'1 R3 hR3 _ hi; refine La.x1_3 h'1 λ H1 t1 hl1 lr => ?_; clear h'1
  have t2 := t1.upd (m := .itR (k + 1 : Nat) ((4 : Nat) - (k + 1 : Nat) : Int) 1) it0 it1 it2 it3
  have i2 := up' (σ := σ1) (a := it) (m := .itR (k + 1 : Nat) ((4 : Nat) - (k + 1 : Nat) : Int) 1)
  generalize upd σ1 it (.itR (k + 1 : Nat) ((4 : Nat) - (k + 1 : Nat) : Int) 1) = σ2 at *
  have lr' : LRv a kn ce rw' (("k",PV.int (k : Int)) :: ρ1) := lr.name (by decide)
  obtain ⟨l1,l2,l7,l8,l9⟩ := lr
  refine La.x1_2 (t2.r) λ r1 hr1 hr1l => ?_;walk_at "r"
  refine fc_law_next (n := n + 49) (by assumption) T hr1 hr1l λ x L1 σ3 e3 g3 hl3 => ?_
  have t3 := t2.row L hce e3 g3 hl3
  have i3 := e3 _ _ (by simp; exact it2) i2
  have SO3 := t3.SO L hce
  have c3 := t3.c
  walk_at "r"
  refine op_mod (by decide) ?_;walk_at "r"
  refine fc_law_next (n := n + 49) (by assumption) T g3 hl3 λ y L2 σ4 e4 g4 hl4 => ?_
  have t4 := t3.row L hce e4 g4 hl4
  have i4 := e4 _ _ (by simp; exact it2) i3
  have SO4 := t4.SO L hce
  have KN4 := t4.KN L hce
  walk_at "r"
  refine fcl' t4.c (by simp; exact La.l1 (.L .x0 (.l 3)) (.T .x0 (.l 1000000)) [[1,1]] rfl [_] [] csl) ?_
  refine La.c2 (fmod_rng y ((cs.map cv).length : Int) (by rw [List.length_map]; exact La.l1 (.L (.l 2) .x0) (.t .l0 (.c .x0)) [[1,1]] rfl [_] [] cs2)) λ f1 f2 => ?_
  refine op_mod (by rw [List.length_map]; exact La.l1 (.L (.l 2) .x0) (.n (.q (.c .x0) .l0)) [[1,1,0]] rfl [_] [] cs2) ?_
  generalize y.fmod ((cs.map cv).length : Int) = z at *
  have hz : z.toNat < cs.length := by simp at f2; exact La.l3 (.L (.l 2) .x0) (.l (.a .x0 .l1) (.c .x0)) (.o (.w (.l .l0 .x0) (.q (.c .x1) .x0)) (.w (.l (.a .x0 .l1) .l0) (.Q .x1 .l0))) (.L (.a .x1 .l1) .x0) [[0,1,0,1,0,1],[1,0,0,1,0,1]] rfl [_,_] [_] cs2 f2 (La.tn _)
  have hcz : (cs.map cv)[z.toNat]? = some (cv cs[z.toNat]) := by rw [List.getElem?_map,List.getElem?_eq_getElem hz]; rfl
  refine La.c2 (t4.ok _ (List.getElem_mem hz)) λ okc1 c1 => ?_
  generalize cs[z.toNat] = c at *
  refine op_subL t4.c f1 hcz (by simp at f2; exact La.l2 (.L .x0 (.l 3)) (.t .x0 (.c .x0)) (.t .x0 (.l 1000000)) [[1,1,1]] rfl [_] [_] csl f2) ?_;walk_at "r"
  refine fc_deref (n := n + 49) (by assumption) T SO4 t4.W (by exact La.z34 hlen hl1) okc1 (λ h => absurd h c1) ?_
  have okd := der_ok t4.W okc1
  have d1 := der_ne1 t4.W okc1 c1
  generalize der H1 c = d at *
  walk_at "r"
  refine op_subD KN4 (KN_at (k := (k : Int)) ⟨by exact La.z7,by exact La.l1 (.T .x0 (.l 4)) (.t (.c .x0) (.l 4)) [[1,1]] rfl [_] [] hk⟩) ?_;walk_at "r"
  have okk := h4_of t4.K k hk
  refine fc_deref (n := n + 49) (by assumption) T SO4 t4.W (by exact La.z34 hlen hl1) okk (λ h => absurd h (by simp)) ?_
  have oke := der_ok t4.W okk
  have ende := der_end t4.W okk
  generalize der H1 (0,(k : Int)) = e at *
  have lrf : ∀ V1 V2 V3,LRv a kn ce rw' (("here",V1) :: ("pick",V2) :: ("draw",V3) :: ("k",PV.int (k : Int)) :: ρ1) := λ V1 V2 V3 => ((lr'.name (by decide)).name (by decide)).name (by decide)
  have stay : ∀ V1 V2 V3,R3 .next (("here",V1) :: ("pick",V2) :: ("draw",V3) :: ("k",PV.int (k : Int)) :: ρ1) σ4 := λ V1 V2 V3 => hR3 _ _ ⟨H1,t4,hl1,lrf V1 V2 V3⟩ i4
  have bound : ∀ (v : Nat) (b : Cell) V1 V2 V3,v < H1.length->(hat H1 v).1 ≠ 6->okc H1 b->b.1 ≠ 1->(b.1 = 0->b.2<=v)->R3 .next (("here",V1) :: ("pick",V2) :: ("draw",V3) :: ("k",PV.int (k : Int)) :: ρ1) (upd σ4 a.hp (.list ((H1.set v b).map cv))) := λ v b V1 V2 V3 hv h6 okb b1 b0 => by
   have Kb := K6.set hv h6 okb.ne6
   refine hR3 _ _ ⟨H1.set v b,?_,by simp; exact hl1,lrf V1 V2 V3⟩ ((un' it1).trans i4)
   refine La.x1_2 (t4.r) λ r4 q1 q2 => ?_
   exact ⟨t4.e.updO (by simp),up',⟨r4,(un' L.rwh).trans q1,q2⟩,(un' (ne_of hce L.SO.hp).symm).trans t4.c,t4.W.set hv h6 okb b1 b0,t4.K.trans Kb,λ c hc => ⟨(t4.ok c hc).1.keep Kb,(t4.ok c hc).2⟩⟩
  refine EX.ite λ R5 hR5 => ?_;walk_at "r"
  refine ite_of (λ hd => ?_) λ hd => ?_
  ·walk_at "r"
   refine ite_of (λ he => ?_) λ he => ?_
   ·have he : e.1 = 0 := by simpa using he
    obtain ⟨u,hu,rfl⟩ : ∃ u : Nat,u < H1.length/\e = (0,(u : Int)) := by
     cases oke with
     | ref v hv _ => exact ⟨v,hv,rfl⟩
     | _ => simp at he
    have hu0 : hat H1 u = (0,(u : Int)) := ende.resolve_left (by simp)
    have hu6 : (hat H1 u).1 ≠ 6 := by rw [hu0]; simp
    walk_at "r"
    refine ite_of (λ hp => ?_) λ hp => ?_
    ·have hp : d ≠ (0,(u : Int)) := of_decide_eq_true hp
     refine EA.andN ?_
     refine ite_t ?_
     refine EX.ite λ R4 hR4 => ?_;walk_at "r"
     refine ite_of (λ hp0 => ?_) λ hp0 => ?_
     ·have hp0 : d.1 = 0 := by simpa using hp0
      obtain ⟨v,hv,rfl⟩ : ∃ v : Nat,v < H1.length/\d = (0,(v : Int)) := by
       cases okd with
       | ref v hv _ => exact ⟨v,hv,rfl⟩
       | _ => simp at hp0
      have huv : u ≠ v := λ z => hp (by rw [z])
      walk_at "r"
      refine fc_bind_pair (n := n + 48) (by assumption) T SO4 (by exact La.z34 hlen hl1) hu hv huv ?_;walk_at "r"
      have hv6 : (hat H1 v).1 ≠ 6 := by
       cases okd with
       | ref v' _ h6 => exact h6
      refine bound (max u v) (0,((min u v : Nat) : Int)) _ _ _ (by exact La.l3 (.L (.a .x0 .l1) .x1) (.L (.a .x2 .l1) .x1) (.o (.w (.L .x0 .x2) (.Q .x3 .x2)) (.w (.L (.a .x2 .l1) .x0) (.Q .x3 .x0))) (.L (.a .x3 .l1) .x1) [[0,1,0,1,0,1],[1,0,0,1,0,1]] rfl [_,_,_,_] [] hu hv (La.mx _ _)) ?_ ?_ (by simp) ?_
      ·rcases Nat.le_total u v with z | z
       ·rw [Nat.max_eq_right z]; exact hv6
       ·rw [Nat.max_eq_left z]; exact hu6
      ·rcases Nat.le_total u v with z | z
       ·rw [Nat.min_eq_left z]; exact oke
       ·rw [Nat.min_eq_right z]; exact okd
      ·intro _; show ((min u v : Nat) : Int)<=((max u v : Nat) : Int); exact La.l2 (.o (.w (.L .x0 .x1) (.Q .x2 .x0)) (.w (.L (.a .x1 .l1) .x0) (.Q .x2 .x1))) (.o (.w (.L .x0 .x1) (.Q .x3 .x1)) (.w (.L (.a .x1 .l1) .x0) (.Q .x3 .x0))) (.l (.c .x2) (.c .x3)) [[1,1,0,0,0,1,1],[1,0,0,1,0,0,0],[1,0,0,1,0,0,0],[1,1,0,0,0,1,1]] rfl [_,_,_,_] [] (La.mi _ _) (La.mx _ _)
     ·have hp0 : d.1 ≠ 0 := by simpa using hp0
      walk_at "r"
      refine fc_bind (n := n + 49) (by assumption) T SO4 (by exact La.z34 hlen hl1) hu ?_;walk_at "r"
      exact bound u d _ _ _ hu hu6 okd d1 λ z => absurd z hp0
    ·refine ite_f ?_
     exact EX.nil (hR5.next (EX.nil (stay _ _ _)))
   ·refine ite_f ?_
    exact EX.nil (hR5.next (EX.nil (stay _ _ _)))
  ·refine ite_f ?_
   exact EX.nil (hR5.next (EX.nil (stay _ _ _)))
 ·intro ρ1 σ1 h'1 m hi; refine La.x1_3 h'1 λ H1 t1 hl1 lr => ?_; clear h'1
  refine hR2.next ?_
  have t2 := t1.del it0 it1 it2 it3
  generalize Mine.del σ1 it = σ2 at *
  refine Mine.l9 ⟨L.hn,sc,T,X,t2.SO L hce,t2.SY L hce,L.D,L.htf,L.trx,L.trf,t2.W,by exact La.l2 (.L .x0 (.l 31)) (.Q .x1 .x0) (.L .x1 (.l 31)) [[1,1,0,1]] rfl [_,_] [] hlen hl1,t2.KN L hce,t2.c,(ne_of hce L.SY.tx).symm,(ne_of hce L.SY.fu).symm,t2.ok,csl,h4_of t2.K⟩ ⟨lr.l1,lr.l2,lr.l7,lr.l8⟩ q
end
end
section
set_option maxHeartbeats 4000000
section
variable {C : Cx} {ρ : Loc'} {σ σL : CH} {mg : Str->Option Value} {n : Nat} {a : SA} {H : List Cell} {kn ce rw' : Addr} {cs : List Cell} {Q : Fl->Loc'->CH->Prop} {c : Cell}
theorem l6 (L : LV C mg n σL a kn rw') (l1 : lk "store" ρ = some (.ref a.st)) (l2 : lk "signs" ρ = some (.ref a.sy)) (l7 : lk "known" ρ = some (.ref kn)) (l9 : lk "row" ρ = some (.ref rw')) (q : ∀ ρ' σ',Q (.ret (.bool true)) ρ' σ') : EX C (LB.drop 6) ρ σL Q := by
 have hnn := L.hn
 have sc := L.sc
 have T := L.T
 have X := L.X
 refine La.x1_2 (L.hr) λ r0 hr0 hr0l => ?_
 refine EX.assign (by walk_at "kd2") rfl ?_;walk_at "r"
 refine ⟨by simp,λ ce hce => ?_⟩
 have s0 : LVs σL (upd σL ce (.list [])) a kn rw' ce V4 [] := by
  have h1 := ne_of hce L.SO.hp
  have h2 := ne_of hce hr0
  exact ⟨(EB.refl (O := [a.hp,rw',ce])).updO (by simp),(un' h1).trans L.SO.hp,⟨r0,(un' h2).trans hr0,hr0l⟩,up',V4_wf,K6.refl,λ _ h => by cases h⟩
 have lr0 : LRv a kn ce rw' (("cells",PV.ref ce) :: ρ) := ⟨(lk_ne (by decide)).trans l1,(lk_ne (by decide)).trans l2,(lk_ne (by decide)).trans l7,lk_same,(lk_ne (by decide)).trans l9⟩
 generalize upd σL ce (.list []) = σ0 at *
 refine La.x1_2 (s0.r) λ r1 hr1 hr1l => ?_
 refine EX.for X (by intro _; rfl) ?_;walk_at "r"
 refine fc_law_next (n := n + 49) (by assumption) T hr1 hr1l λ x L1 σ1 e1 g1 hl1 => ?_
 have s1 := s0.row L hce e1 g1 hl1
 walk_at "r"
 refine op_mod (by decide) ?_
 refine La.c2 (fmod_rng x 2 (by decide)) λ f1 f2 => ?_
 generalize x.fmod 2 = y at *
 walk_at "r"
 refine La.x1_3 (⟨(2 + y).toNat,by exact La.l2 (.l .l0 .x0) (.o (.w (.l .l0 (.a (.l 2) .x0)) (.q (.c .x0) (.a (.l 2) .x0))) (.w (.l (.a (.a (.l 2) .x0) .l1) .l0) (.Q .x0 .l0))) (.q (.a (.l 2) .x0) (.c .x0)) [[0,0,1,0,1],[0,0,0,1,1],[1,1,0,0,0],[1,1,0,0,0]] rfl [_] [_] f1 (La.tn _),by exact La.l2 (.l .l0 .x0) (.o (.w (.l .l0 (.a (.l 2) .x0)) (.q (.c .x0) (.a (.l 2) .x0))) (.w (.l (.a (.a (.l 2) .x0) .l1) .l0) (.Q .x0 .l0))) (.L (.l 2) .x0) [[1,0,0,1,1],[1,1,0,0,0]] rfl [_] [_] f1 (La.tn _),by exact La.l2 (.l (.a .x0 .l1) (.l 2)) (.o (.w (.l .l0 (.a (.l 2) .x0)) (.q (.c .x0) (.a (.l 2) .x0))) (.w (.l (.a (.a (.l 2) .x0) .l1) .l0) (.Q .x0 .l0))) (.L .x0 (.l 3)) [[1,0,1,0,1],[0,0,1,0,1]] rfl [_] [_] f2 (La.tn _)⟩ : ∃ N : Nat,(2 + y : Int) = (N : Int)/\2<=N/\N<=3) λ N hN hN2 hN3 => ?_
 rw [hN]
 refine fc_range1 λ rg hrg => ?_
 refine it_rng up' (small_up N (by exact La.z105 f2 hN)).1 λ it hit => ⟨it,rfl,λ R2 hR2 => ?_⟩
 rw [(small_up N (by exact La.z105 f2 hN)).2]
 refine La.c4 (s1.fresh L hrg) λ rg0 rg1 rg2 rg3 => ?_
 refine La.c4 (s1.fresh L (uN' hit)) λ it0 it1 it2 it3 => ?_
 have s2 := (s1.upd (m := .rng 0 N 1) rg0 rg1 rg2 rg3).upd (m := .itR 0 N 1) it0 it1 it2 it3
 refine FL.up (it := it) (N := N) X (by walk_at "kd2") (λ i ρ' σ' => ∃ H' cs,LVs σL σ' a kn rw' ce H' cs/\cs.length = i/\H'.length<=4 + 9 * i/\LRv a kn ce rw' ρ') ?_ ?_ N 0 _ _ rfl ⟨V4,[],s2,rfl,by simp [V4],lr0⟩ (by simpa using up')
 ·intro k ρ1 σ3 hk h'1 R3 hR3 _ hi; refine La.x2_4 h'1 λ H1 cs t1 hcl hH lr => ?_; clear h'1
  have t2 := t1.upd (m := .itR (k + 1 : Nat) (N - (k + 1 : Nat) : Int) 1) it0 it1 it2 it3
  have i2 := up' (σ := σ3) (a := it) (m := .itR (k + 1 : Nat) (N - (k + 1 : Nat) : Int) 1)
  generalize upd σ3 it (.itR (k + 1 : Nat) (N - (k + 1 : Nat) : Int) 1) = σ4 at *
  have lr' : LRv a kn ce rw' (("turn",PV.int (k : Int)) :: ρ1) := lr.name (by decide)
  obtain ⟨l1,l2,l7,l8,l9⟩ := lr
  refine La.x1_2 (t2.r) λ r4 hr4 hr4l => ?_
  have SO4 := t2.SO L hce
  walk_at "r"
  refine ⟨_,_,rfl,t2.c,?_⟩;walk_at "r"
  refine fc_law_term 2 (n := n + 46) (by assumption) T hr4 hr4l λ tm L5 σ5 ht hdp e5 g5 hl5 => ?_
  have t5 := t2.row L hce e5 g5 hl5
  have i5 := e5 _ _ (by simp; exact it2) i2
  have SO5 := t5.SO L hce
  have SY5 := t5.SY L hce
  have KN5 := t5.KN L hce
  walk_at "r"
  have h4 : 4<=H1.length := t5.K.1
  have hsz := Tm.sz2 hdp
  refine fc_put_term (n := n + 47) (by assumption) T SO5 SY5 AF_ok.1 L.D t5.W (by exact La.la [.t .x0 (.l 2),.q (.a (.l 2) .x0) (.c .x0),.T .x1 .x0,.L .x2 (.a (.l 4) (.m 9 .x1))] (.L .x2 (.l 100)) [[9,0,9,9,1,1]] rfl [_,_,_] [_] ⟨f2,hN,hk,hH,trivial⟩) h4 (λ k hk => (t5.K.2 k hk).2 (by rw [V4_hat hk]; simp)) KN5 ht hsz λ c H6 σ6 e6 g6 W6 K66 hl6 okc6 c1 => ?_
  have i6 := e6 _ _ (by simp; exact it1) i5
  refine La.x1_2 (t5.r) λ r5 hr5 hr5l => ?_
  have cehp : ce ≠ a.hp := (ne_of hce L.SO.hp).symm
  have cerw : ce ≠ rw' := (ne_of hce hr0).symm
  have c6 := e6 _ _ (by simp; exact cehp) t5.c
  have r6 := e6 _ _ (by simp; exact L.rwh) hr5
  walk_at "r"
  refine ⟨_,c6,by simp; exact La.la [.t .x0 (.l 2),.q (.a (.l 2) .x0) (.c .x0),.T .x1 .x0,.Q .x2 .x1] (.T .x2 (.l 100000)) [[1,0,1,1,1,0,1]] rfl [_,_,_] [_] ⟨f2,hN,hk,hcl,trivial⟩,?_⟩;walk_at "r"
  refine hR3 _ _ ⟨H6,cs ++ [c],⟨(t5.e.trans (e6.wider (by simp))).updO (by simp),(un' cehp.symm).trans g6,⟨r5,(un' cerw.symm).trans r6,hr5l⟩,by rw [up']; simp,W6,t5.K.trans K66,λ d hd => ?_⟩,by simp [hcl],by exact La.l3 (.L .x0 (.a (.l 4) (.m 9 .x1))) (.L .x2 (.l 9)) (.L .x3 (.a .x0 .x2)) (.L .x3 (.a (.l 4) (.m 9 (.a .x1 .l1)))) [[1,1,1,1]] rfl [_,_,_,_] [] hH hsz hl6,lr'⟩ ((un' it3).trans i6)
  rcases List.mem_append.mp hd with hd | hd
  ·exact ⟨(t5.ok d hd).1.keep K66,(t5.ok d hd).2⟩
  ·simp at hd; subst hd; exact ⟨okc6,c1⟩
 ·intro ρ1 σ3 h'1 m hi; refine La.x2_4 h'1 λ H1 cs t1 hcl hH lr => ?_; clear h'1
  exact hR2.next (l8 L hce (t1.del it0 it1 it2 it3) (by exact La.l3 (.t .x0 (.l 2)) (.q (.a (.l 2) .x0) (.c .x0)) (.L .x1 (.a (.l 4) (.m 9 .x0))) (.L .x1 (.l 31)) [[9,0,9,1,1]] rfl [_,_] [_] f2 hN hH) (by exact La.l3 (.t .x0 (.l 2)) (.q (.a (.l 2) .x0) (.c .x0)) (.Q .x1 .x0) (.L .x1 (.l 3)) [[1,0,1,1,0,1]] rfl [_,_] [_] f2 hN hcl) (by exact La.l3 (.l .l0 .x0) (.q (.a (.l 2) .x0) (.c .x0)) (.Q .x1 .x0) (.L (.l 2) .x1) [[1,1,0,0,1,1]] rfl [_,_] [_] f1 hN hcl) lr q)
end
end
section
set_option maxHeartbeats 4000000
section
variable {C : Cx} {ρ : Loc'} {σ σL : CH} {mg : Str->Option Value} {n : Nat} {a : SA} {H : List Cell} {kn ce rw' : Addr} {cs : List Cell} {Q : Fl->Loc'->CH->Prop} {c : Cell}
theorem KN_take (i : Nat) (h : i < 4) : putD (i : Int) (cv (0,(i : Int))) (KN.take i) = KN.take (i + 1)/\V4.take i ++ [(0,(i : Int))] = V4.take (i + 1)/\(V4.take i).length = i := by
 match i,h with
 | 0,_ => exact ⟨rfl,rfl,rfl⟩
 | 1,_ => exact ⟨rfl,rfl,rfl⟩
 | 2,_ => exact ⟨rfl,rfl,rfl⟩
 | 3,_ => exact ⟨rfl,rfl,rfl⟩
theorem l0 (hn : C.n = n + 50) (sc : C.env.scope = fnS (stN 60)) (T : TC C mg) (X : ∀ e σ s,¬ C.X e σ s) {sa : Addr} {L : List Int} (hs : Scr C.b sa L) (hL : L.length<=1000) (hsc : lk "script" ρ = some (.any (.ref sa))) (q : ∀ ρ' σ',Q (.ret (.bool true)) ρ' σ') : EX C LB ρ σ Q := by
 refine EX.assign (by walk_at "kd2") rfl ?_;walk_at "r"
 refine fc_law_row (n := n + 49) (by assumption) T hs hL λ rw' r0 σ1 e1 n1 g1 hl1 => ?_
 walk_at "s"
 refine EV.ccall0 T T.c_Symbols (by walk_at "kd") ?_
 refine fc_Symbols (n := n + 46) (by assumption) T λ b σ2 e2 b1 b2 b3 b4 b5 b6 btf SY2 => ?_
 have r2 := e2 _ _ g1
 have rwx : rw' ≠ b.tx := λ z => by rw [z] at g1; rw [g1] at b3; cases b3
 have rwf : rw' ≠ b.fu := λ z => by rw [z] at g1; rw [g1] at b5; cases b5
 walk_at "s"
 refine EV.ccall T T.c_Store (by walk_at "kd") ?_;walk_at "r"
 refine fc_Store (n := n + 48) (by assumption) T SY2 λ st dst hp sk tr σ3 e3 n1 n2 n3 n4 n5 SO3 D => ?_
 have SY3 := SyOk.ext SY2 e3
 have r3 := e3 _ _ r2
 have rwh : rw' ≠ hp := ne_of n3 r2
 have rws : rw' ≠ sk := ne_of n4 r2
 have rwt : rw' ≠ tr := ne_of n5 r2
 have trx : tr ≠ b.tx := (ne_of n5 SY2.tx).symm
 have trf : tr ≠ b.fu := (ne_of n5 SY2.fu).symm
 refine La.x1_5 (⟨_,rfl,rfl,rfl,rfl,rfl⟩ : ∃ a : SA,a = (⟨st,dst,hp,sk,tr,b.sy,b.dsy,b.tx,b.an,b.fu,b.fn⟩ : SA)/\a.tx = b.tx/\a.fu = b.fu/\a.tr = tr/\a.st = st) λ a ha h1 h2 h3 h4 => ?_
 have SY3 : SyS σ3 a AF.1 AF.2 := by rw [ha]; exact ⟨SY3.sy,SY3.dsy,SY3.tx,SY3.an,SY3.fu,SY3.fn⟩
 have hsy : b.sy = a.sy := by rw [ha]
 have hst : st = a.st := by rw [ha]
 have hhp : hp = a.hp := by rw [ha]
 have hsk : sk = a.sk := by rw [ha]
 rw [<- ha] at SO3 D
 rw [hst,hsy]
 rw [hhp] at rwh
 rw [hsk] at rws
 rw [<- h3] at rwt trx trf
 rw [<- h1] at rwx trx btf
 rw [<- h2] at rwf trf btf
 clear h1 h2 h3 h4 hsy hst hhp hsk n1 n2 n3 n4 n5 ha e3 SY2 r2 b1 b2 b3 b4 b5 b6
 walk_at "s"
 refine EV.dict0 λ kn hkn => ?_
 have SO4 := SO3.ext (Ext.new (m := .dictI []) hkn)
 have SY4 := SyOk.ext SY3 (Ext.new (m := .dictI []) hkn)
 have r4 := upd_old (m' := .dictI []) hkn r3
 have k4 : upd σ3 kn (.dictI []) kn = some (.dictI []) := up'
 generalize upd σ3 kn (.dictI []) = σ4 at *
 refine EX.for X (by intro _; rfl) ?_;walk_at "r"
 refine fc_range1 λ rg hrg => ?_
 refine it_rng up' (small_up 4 (by decide)).1 λ it hit => ⟨it,rfl,λ R2 hR2 => ?_⟩
 rw [show Builtin.Range.rangeSize 0 4 1 = 4 from (small_up 4 (by decide)).2]
 have hit0 := uN' hit
 have E0 : Ext σ4 (upd (upd σ4 rg (.rng 0 4 1)) it (.itR 0 4 1)) := (Ext.new hrg).updN hit0
 have kh : kn ≠ a.hp := ne_mm k4 SO4.hp (by simp)
 have ih : it ≠ a.hp := (ne_of hit0 SO4.hp).symm
 have ik : it ≠ kn := (ne_of hit0 k4).symm
 have i0 : upd (upd σ4 rg (.rng 0 4 1)) it (.itR 0 4 1) it = some (.itR 0 4 1) := up'
 generalize upd (upd σ4 rg (.rng 0 4 1)) it (.itR 0 4 1) = σ5 at *
 have so : ∀ {σ' : CH} {H' : List Cell},EB [a.hp,kn] σ4 σ'->σ' a.hp = some (.list (H'.map cv))->StOk σ' a H' [] := λ {σ'} {H'} e h =>
  ⟨e _ _ (by simp; exact ⟨ne_mm SO4.st SO4.hp (by simp),ne_mm SO4.st k4 (by simp)⟩) SO4.st,e _ _ (by simp; exact ⟨ne_mm SO4.dst SO4.hp (by simp),ne_mm SO4.dst k4 (by simp)⟩) SO4.dst,h,
   e _ _ (by simp; exact ⟨D.skh,ne_mm SO4.sk k4 (by simp)⟩) SO4.sk,e _ _ (by simp; exact ⟨D.trh,ne_mm SO4.tr k4 (by simp)⟩) SO4.tr⟩
 have sy : ∀ {σ' : CH},EB [a.hp,kn] σ4 σ'->SyS σ' a AF.1 AF.2 := λ {σ'} e =>
  ⟨e _ _ (by simp; exact ⟨ne_mm SY4.sy SO4.hp (by simp),ne_mm SY4.sy k4 (by simp)⟩) SY4.sy,e _ _ (by simp; exact ⟨ne_mm SY4.dsy SO4.hp (by simp),ne_mm SY4.dsy k4 (by simp)⟩) SY4.dsy,
   e _ _ (by simp; exact ⟨D.txh,ne_mm SY4.tx k4 (by simp)⟩) SY4.tx,e _ _ (by simp; exact ⟨ne_mm SY4.an SO4.hp (by simp),ne_mm SY4.an k4 (by simp)⟩) SY4.an,
   e _ _ (by simp; exact ⟨D.fuh,ne_mm SY4.fu k4 (by simp)⟩) SY4.fu,e _ _ (by simp; exact ⟨ne_mm SY4.fn SO4.hp (by simp),ne_mm SY4.fn k4 (by simp)⟩) SY4.fn⟩
 refine FL.up (it := it) (N := 4) X (by walk_at "kd2") (λ i ρ' σ' => EB [a.hp,kn] σ4 σ'/\σ' a.hp = some (.list ((V4.take i).map cv))/\σ' kn = some (.dictI (KN.take i))/\lk "row" ρ' = some (.ref rw')/\lk "store" ρ' = some (.ref a.st)/\lk "signs" ρ' = some (.ref a.sy)/\lk "known" ρ' = some (.ref kn)) ?_ ?_ 4 0 _ _ rfl
  ⟨E0.eb,E0 _ _ SO4.hp,E0 _ _ k4,by walk_at "lk",by walk_at "lk",by walk_at "lk",by walk_at "lk"⟩ i0
 ·intro k ρ1 σ6 hk h'1 R3 hR3 _ hi; refine La.c7 h'1 λ e6 h6 k6 m1 m2 m3 m4 => ?_; clear h'1
  refine La.c3 (KN_take k hk) λ t1 t2 t3 => ?_
  have e7 : EB [a.hp,kn] σ4 (upd σ6 it (.itR (k + 1 : Nat) ((4 : Nat) - (k + 1 : Nat) : Int) 1)) := e6.updN hit0
  have h7 := (un' (m := .itR (k + 1 : Nat) ((4 : Nat) - (k + 1 : Nat) : Int) 1) ih.symm).trans h6
  have k7 := (un' (m := .itR (k + 1 : Nat) ((4 : Nat) - (k + 1 : Nat) : Int) 1) ik.symm).trans k6
  have i7 := up' (σ := σ6) (a := it) (m := .itR (k + 1 : Nat) ((4 : Nat) - (k + 1 : Nat) : Int) 1)
  generalize upd σ6 it (.itR (k + 1 : Nat) ((4 : Nat) - (k + 1 : Nat) : Int) 1) = σ7 at *
  have SO7 := so e7 h7
  refine EX.setitem rfl ?_;walk_at "r"
  refine fc_new_var (n := n + 48) (by assumption) T SO7 (by exact La.l2 (.T .x0 (.l 4)) (.Q .x1 .x0) (.T .x1 (.l 1000)) [[1,1,0,1]] rfl [_,_] [] hk t3) ?_
  rw [t3,t2]
  have e8 : EB [a.hp,kn] σ4 (upd σ7 a.hp (.list ((V4.take (k + 1)).map cv))) := e7.updO (by simp)
  have h8 := up' (σ := σ7) (a := a.hp) (m := .list ((V4.take (k + 1)).map cv))
  have k8 := (un' (m := .list ((V4.take (k + 1)).map cv)) kh).trans k7
  have i8 := (un' (m := .list ((V4.take (k + 1)).map cv)) ih).trans i7
  generalize upd σ7 a.hp (.list ((V4.take (k + 1)).map cv)) = σ8 at *
  walk_at "r"
  refine si_dict k8 (by
    have : (KN.take k).length<=4 := by simp [KN]; exact La.l1 (.o (.w (.L .x0 (.l 4)) (.Q .x1 .x0)) (.w (.L (.a (.l 4) .l1) .x0) (.Q .x1 (.l 4)))) (.L .x1 (.l 4)) [[1,1,0,1],[0,1,0,1]] rfl [_,_] [] (La.mi _ _)
    exact La.l1 (.L .x0 (.l 4)) (.T .x0 (.l 100000)) [[1,1]] rfl [_] [] this) ?_
  rw [t1]
  exact EX.nil (hR3 _ _ ⟨e8.updO (by simp),(un' kh.symm).trans h8,up',by walk_at "lk",by walk_at "lk",by walk_at "lk",by walk_at "lk"⟩ ((un' ik).trans i8))
 ·intro ρ1 σ6 h'1 m hi; refine La.c7 h'1 λ e6 h6 k6 m1 m2 m3 m4 => ?_; clear h'1
  refine hR2.next ?_
  have e7 : EB [a.hp,kn] σ4 (Mine.del σ6 it) := e6.delN hit0
  have h7 := (del_ne ih.symm).trans h6
  have k7 := (del_ne ik.symm).trans k6
  generalize Mine.del σ6 it = σ7 at *
  rw [show V4.take 4 = V4 from rfl] at h7
  rw [show KN.take 4 = KN from rfl] at k7
  have SO7 := so e7 h7
  have SY7 := sy e7
  have r7 := e7 _ _ (by simp; exact ⟨rwh,ne_mm r4 k4 (by simp)⟩) r4
  walk_at "r"
  refine ⟨by simp,?_⟩;walk_at "r"
  refine fc_stack_put (n := n + 49) (by assumption) T SO7 (c := (1,0)) ?_
  have hsk : ∀ x,x ≠ a.sk->upd σ7 a.sk (.list ([((1,0) : Cell)].map cv)) x = σ7 x := λ x hx => un' hx
  refine l6 (a := a) (kn := kn) (rw' := rw') ⟨hn,sc,T,X,⟨(hsk _ (ne_mm SO7.st SO7.sk (by simp))).trans SO7.st,(hsk _ (ne_mm SO7.dst SO7.sk (by simp))).trans SO7.dst,(hsk _ D.skh.symm).trans SO7.hp,up',(hsk _ D.trs).trans SO7.tr⟩,
   ⟨(hsk _ (ne_mm SY7.sy SO7.sk (by simp))).trans SY7.sy,(hsk _ (ne_mm SY7.dsy SO7.sk (by simp))).trans SY7.dsy,(hsk _ D.txs).trans SY7.tx,(hsk _ (ne_mm SY7.an SO7.sk (by simp))).trans SY7.an,(hsk _ D.fus).trans SY7.fu,(hsk _ (ne_mm SY7.fn SO7.sk (by simp))).trans SY7.fn⟩,
   D,btf,trx,trf,(hsk _ (ne_mm k7 SO7.sk (by simp))).trans k7,⟨r0,(hsk _ rws).trans r7,hl1⟩,rwh,rws,rwt,rwx,rwf⟩ m2 m3 m4 m1 q
end
end
section
set_option maxHeartbeats 4000000
noncomputable def funD : Data->Option FuncData
 | .func f => some f
 | _ => none
theorem funD_inv {d : Data} {f : FuncData} (h : funD d = some f) : d = .func f := by
 cases d with
 | func c => exact congrArg _ (Option.some.inj h)
 | _ => exact absurd h.symm (Option.some_ne_none _)
noncomputable def fnOf (K : Frag) (a : Addr) : Option FuncData := (K.lookup a).bind λ o => funD o.data
noncomputable def mapR {α β : Type} (G : α->β) : List α->List β
 | [] => []
 | x :: r => G x :: mapR G r
noncomputable def fnTup (f : FuncData) : Str × Arguments × FuncBody × Scope × Addr × List (Str × Addr) × Addr := (f.qualname,f.params,f.body,f.scope,f.globals,f.closure,f.builtins)
theorem fnAt_of {K : Frag} {b : Heap} (X : K.In b) {a : Addr} {x : Str} {p : Arguments} {s : List Stmt} {sc : Scope} {dV : Value} (h1 : (fnOf K a).map fnTup = some (x,p,.stmts s,sc,mainGlobals,[],builtinsNs)) (h2 : (fnOf K a).map FuncData.defaults = some dV) (h3 : (fnOf K a).map (λ f => codeIn K f.code x) = some true) :
  FnAt b a x p s sc dV := by
 refine La.x1_2 (Option.map_eq_some_iff.mp h1) λ f hf h1 => ?_
 rw [hf] at h2 h3
 refine La.x1_2 (Option.bind_eq_some_iff.mp hf) λ o ho hd => ?_
 have hd := funD_inv hd
 replace h2 : f.defaults = dV := Option.some.inj h2
 replace h3 : codeIn K f.code x = true := Option.some.inj h3
 clear hf
 obtain ⟨oc,od,dt,osl⟩ := o
 obtain ⟨nm,qn,ps,bd,scp,gl,cl,df,kv,dc,pm,an,cd,ct,bi⟩ := f
 dsimp only at hd h2 h3
 subst hd h2
 simp only [fnTup,Prod.mk.injEq] at h1
 refine La.c7 h1 λ h'1 h'2 h'3 h'4 h'5 h'6 h'7 => ?_; clear h1; subst h'1; subst h'2; subst h'3; subst h'4; subst h'5; subst h'6; subst h'7
 exact ⟨oc,od,osl,nm,kv,dc,pm,an,cd,ct,X _ _ ho,codeRec_of X h3⟩
section
variable {K : Frag} {b : Heap} {mg : Str->Option Value} (X : K.In b) (G : b.Ns mainGlobals mg)
include X G
theorem fnT_of {x : Str} {a : Addr} {i : Nat} (h0 : nsIn K mainGlobals x = some (some (.ref a))) (h : keepIn K (.ref a) = true) (h1 : (fnOf K a).map fnTup = some (x,fnP (stN i),.stmts (fnB (stN i)),fnS (stN i),mainGlobals,[],builtinsNs)) (h2 : (fnOf K a).map FuncData.defaults = some .none)
  (h3 : (fnOf K a).map (λ f => codeIn K f.code x) = some true) : FnT b K mg x a i := ⟨mg_of X G h0,h,fnAt_of X h1 h2 h3⟩
omit G in
theorem mtT_of {Cl : Addr} {m : Str} {a : Addr} {q : Str} {i j : Nat} (e1 : plainGet K Cl m = true) (e2 : findIn K (.ref Cl) m = some (some (.ref a))) (e3 : isFn K (.ref a) = true) (h : keepIn K (.ref a) = true)
  (h1 : (fnOf K a).map fnTup = some (q,fnP (mtN i j),.stmts (fnB (mtN i j)),fnS (mtN i j),mainGlobals,[],builtinsNs)) (h2 : (fnOf K a).map FuncData.defaults = some .none) (h3 : (fnOf K a).map (λ f => codeIn K f.code q) = some true) : MtT b K Cl m a q i j := ⟨⟨e1,e2,e3⟩,h,fnAt_of X h1 h2 h3⟩
omit X G in
theorem atT_of {Cl : Addr} {x : Str} (e1 : plainGet K Cl x = true) (e2 : hasDictIn K Cl = true) (e3 : findIn K (.ref Cl) x = some none) (e4 : noGet K none = true) (e5 : findIn K (.ref Cl) "__setattr__" = some (some (.builtin "object.__setattr__"))) (e6 : plainOver K Cl = true) (e7 : takerIn K Cl x = some none) : AtT K Cl x :=
 ⟨⟨e1,e2,none,e3,e4⟩,e5,e6,e7,e2⟩
noncomputable def intD : Value->Option Int
 | .int i _ => some i
 | _ => none
omit X G in
theorem intD_inv {v : Value} {i : Int} (h : intD v = some i) : ∃ t,v = .int i t := by
 cases v with
 | int j t => exact ⟨t,by rw [Option.some.inj h]⟩
 | _ => exact absurd h.symm (Option.some_ne_none _)
noncomputable def intIn (K : Frag) (x : Str) : Option Int := (nsIn K mainGlobals x).bind λ o => o.bind intD
theorem inT_of {x : Str} {i : Int} (e : intIn K x = some i) : InT mg x i := by
 refine La.x1_2 (Option.bind_eq_some_iff.mp e) λ o ho e => ?_
 refine La.x1_2 (Option.bind_eq_some_iff.mp e) λ v hv e => ?_
 refine La.x1_1 (intD_inv e) λ t e => ?_
 exact ⟨t,mg_of X G (by rw [ho,hv,e])⟩
omit X G in
theorem mapR_at {α β : Type} {F G : α->β} {l : List α} (h : l.map F = mapR G l) (e : α) (he : e ∈ l) : F e = G e := by
 induction l with
 | nil => exact absurd he List.not_mem_nil
 | cons x r ih => exact (List.mem_cons.mp he).elim (λ q => q ▸ (List.cons.inj h).1) (ih (List.cons.inj h).2)
theorem fnAll (h : fnL.map (λ e => (nsIn K mainGlobals e.1,keepIn K (.ref e.2.1),(fnOf K e.2.1).map fnTup,(fnOf K e.2.1).map FuncData.defaults,(fnOf K e.2.1).map λ f => codeIn K f.code e.1)) =
  mapR (λ e => (some (some (.ref e.2.1)),true,some (e.1,fnP (stN e.2.2),.stmts (fnB (stN e.2.2)),fnS (stN e.2.2),mainGlobals,[],builtinsNs),some .none,some true)) fnL) : ∀ e ∈ fnL,FnT b K mg e.1 e.2.1 e.2.2 := λ e he => by
 have h := mapR_at h e he
 simp only [Prod.mk.injEq] at h
 exact fnT_of X G h.1 h.2.1 (h.2.2.1.trans (by simp only [fnTup])) h.2.2.2.1 h.2.2.2.2
omit G in
theorem mtAll (h : mtL.map (λ e => (plainGet K e.2.1 e.1,findIn K (.ref e.2.1) e.1,isFn K (.ref e.2.2.1),keepIn K (.ref e.2.2.1),(fnOf K e.2.2.1).map fnTup,(fnOf K e.2.2.1).map FuncData.defaults,(fnOf K e.2.2.1).map λ f => codeIn K f.code e.2.2.2.1)) =
  mapR (λ e => (true,some (some (.ref e.2.2.1)),true,true,some (e.2.2.2.1,fnP (mtN e.2.2.2.2.1 e.2.2.2.2.2),.stmts (fnB (mtN e.2.2.2.2.1 e.2.2.2.2.2)),fnS (mtN e.2.2.2.2.1 e.2.2.2.2.2),mainGlobals,[],builtinsNs),some .none,some true)) mtL) : ∀ e ∈ mtL,MtT b K e.2.1 e.1 e.2.2.1 e.2.2.2.1 e.2.2.2.2.1 e.2.2.2.2.2 := λ e he => by
 have h := mapR_at h e he
 simp only [Prod.mk.injEq] at h
 exact mtT_of X h.1 h.2.1 h.2.2.1 h.2.2.2.1 h.2.2.2.2.1 h.2.2.2.2.2.1 h.2.2.2.2.2.2
omit X G in
theorem atAll (h : atL.map (λ e => (plainGet K e.2 e.1,hasDictIn K e.2,findIn K (.ref e.2) e.1,noGet K none,findIn K (.ref e.2) "__setattr__",plainOver K e.2,takerIn K e.2 e.1)) =
  mapR (λ _ => (true,true,some none,true,some (some (.builtin "object.__setattr__")),true,some none)) atL) : ∀ e ∈ atL,AtT K e.2 e.1 := λ e he => by
 have h := mapR_at h e he
 simp only [Prod.mk.injEq] at h
 exact atT_of h.1 h.2.1 h.2.2.1 h.2.2.2.1 h.2.2.2.2.1 h.2.2.2.2.2.1 h.2.2.2.2.2.2
theorem inAll (h : inL.map (λ e => intIn K e.1) = mapR (λ e => some e.2) inL) : ∀ e ∈ inL,InT mg e.1 e.2 := λ e he => inT_of X G (mapR_at h e he)
theorem nmAll (h : nmL.map (λ e => nsIn K mainGlobals e) = mapR (λ _ => some none) nmL) : ∀ e ∈ nmL,mg e = none := λ e he => mg_none_of X G (mapR_at h e he)
theorem clT_of {x : Str} {Cl fI : Addr} {q : Str} {i : Nat} (h0 : nsIn K mainGlobals x = some (some (.ref Cl))) (e1 : keepIn K (.ref Cl) = true) (e2 : makesIn K Cl = true) (e3 : findIn K (.ref Cl) "__init__" = some (some (.ref fI))) (e4 : typeIn K (.ref fI) = some (.type "function"))
  (h1 : (fnOf K fI).map fnTup = some (q,fnP (mtN i 0),.stmts (fnB (mtN i 0)),fnS (mtN i 0),mainGlobals,[],builtinsNs)) (h2 : (fnOf K fI).map FuncData.defaults = some .none) (h3 : (fnOf K fI).map (λ f => codeIn K f.code q) = some true) (hi : i ≠ 29) : ClT b K mg x Cl fI q i :=
 ⟨mg_of X G h0,e1,e2,e3,e4,.none,fnAt_of X h1 h2 h3,λ _ => rfl,λ h => absurd h hi⟩
noncomputable def refD : Value->Option Addr
 | .ref a => some a
 | _ => none
omit X G in
theorem refD_inv {v : Value} {a : Addr} (h : refD v = some a) : v = .ref a := by
 cases v with
 | ref b => rw [Option.some.inj h]
 | _ => exact absurd h.symm (Option.some_ne_none _)
noncomputable def seqD : Data->Option (List Value)
 | .seq vs _ => some vs.toList
 | _ => none
omit X G in
theorem seqD_inv {d : Data} {l : List Value} (h : seqD d = some l) : ∃ n,d = .seq l.toArray n := by
 cases d with
 | seq vs n => exact ⟨n,by rw [<- Option.some.inj h]⟩
 | _ => exact absurd h.symm (Option.some_ne_none _)
noncomputable def dfIn (K : Frag) (fI : Addr) : Bool := (((fnOf K fI).map FuncData.defaults).bind refD).any λ a => (K.lookup a).any λ o => (o.cls == .type "tuple" && (o.dict.isNone && o.slots.isEmpty)) &&
 (seqD o.data).any λ l => l.length == 1 && (l.head?.any λ v => intD v == some 100000)
omit G in
theorem dfIn_of {fI : Addr} (e : dfIn K fI = true) : ∃ dV,(fnOf K fI).map FuncData.defaults = some dV/\∃ a,dV = .ref a/\∃ t n,b.get? a = some (tupO #[.int 100000 t] n) := by
 refine La.x1_2 (anyT e) λ a ha e => ?_
 refine La.x1_2 (Option.bind_eq_some_iff.mp ha) λ v hv hr => ?_
 have hr := refD_inv hr
 refine La.x1_2 (anyT e) λ o ho e => ?_
 have e := Bool.and_eq_true_iff.mp e
 have e1 := Bool.and_eq_true_iff.mp e.1
 have e2 := Bool.and_eq_true_iff.mp e1.2
 refine La.x1_2 (anyT e.2) λ l hl e3 => ?_
 have e3 := Bool.and_eq_true_iff.mp e3
 refine La.x1_2 (anyT e3.2) λ u hu e4 => ?_
 refine La.x1_1 (intD_inv (eq_of_beq e4)) λ t hi => ?_
 refine La.x1_1 (seqD_inv hl) λ n hd => ?_
 have hc := eq_of_beq e1.1
 have h1 := Option.isNone_iff_eq_none.mp e2.1
 have h2 := Array.isEmpty_iff.mp e2.2
 have h3 := head_inv hu
 have h4 : l.tail = [] := List.eq_nil_of_length_eq_zero (by rw [List.length_tail,eq_of_beq e3.1])
 rw [h4,hi] at h3
 rw [h3] at hd
 obtain ⟨oc,od,dt,osl⟩ := o
 dsimp only at hc h1 h2 hd
 subst hc h1 h2 hd
 exact ⟨v,hv,a,hr,t,n,X _ _ ho⟩
theorem clT_store {x : Str} {Cl fI : Addr} {q : Str} (h0 : nsIn K mainGlobals x = some (some (.ref Cl))) (e1 : keepIn K (.ref Cl) = true) (e2 : makesIn K Cl = true) (e3 : findIn K (.ref Cl) "__init__" = some (some (.ref fI))) (e4 : typeIn K (.ref fI) = some (.type "function"))
  (h1 : (fnOf K fI).map fnTup = some (q,fnP (mtN 29 0),.stmts (fnB (mtN 29 0)),fnS (mtN 29 0),mainGlobals,[],builtinsNs)) (h2 : dfIn K fI = true) (h3 : (fnOf K fI).map (λ f => codeIn K f.code q) = some true) : ClT b K mg x Cl fI q 29 := by
 refine La.x1_2 (dfIn_of X h2) λ dV d1 d2 => ?_
 exact ⟨mg_of X G h0,e1,e2,e3,e4,dV,fnAt_of X h1 d1 h3,λ h => absurd rfl h,λ _ => d2⟩
end
end
section
set_option maxHeartbeats 4000000
theorem rels_ints {h : Heap} : ∀ {vs : List Value} {ns : List Int},IntsAre vs ns->Rels h (ns.map PV.int) vs
 | _,_,.nil => .nil
 | _,_,.cons n t hi => .cons ⟨t,rfl⟩ (rels_ints hi)
theorem main_call {prog : Program} {w : World} {s₁ : Shared} {K : Frag} {mg : Str->Option Value} (T : Tbl s₁.heap K mg) {fa sa : Addr} {vs : List Value} {ns : List Int} (hfa : FnAt s₁.heap fa "law" (fnP (stN 60)) (fnB (stN 60)) (fnS (stN 60)) .none)
  (hl : s₁.heap.IsList sa vs.toArray) (hi : IntsAre vs ns) (hn : ns.length<=63) {Q : Value->Shared->Prop} {E : Value->Shared->Prop}
  (q : ∀ s',(∀ a o,s₁.heap.get? a = some o->s'.heap.get? a = some o)->s'.gens = s₁.gens->s'.os = s₁.os->Q (.bool true) s') : wpAny (model prog w) callerA (call (.ref fa) [.ref sa]) Q E s₁ := by
 have fc : ∀ env : Env,FC { prog := prog,w := w,b := s₁.heap,K := K,fl := [],env := env,O := [],n := 51,X := λ _ _ _ => False } (.ref fa) [.any (.ref sa)] (λ _ => none) (λ V _ => V = .bool true) := λ env => by
  refine FC.fn (C := { prog := prog,w := w,b := s₁.heap,K := K,fl := [],env := env,O := [],n := 51,X := λ _ _ _ => False }) (n := 50) (mg := mg) rfl ⟨T.hK,T.g,T.bi,T.nl⟩ hfa (names := ["script"]) (HB.one λ _ _ _ _ _ _ _ _ => rfl) rfl rfl rfl (by decide) (by decide) λ C' F X => ?_
  have T' : TC C' mg := TC.fits (C := { prog := prog,w := w,b := s₁.heap,K := K,fl := [],env := env,O := [],n := 51,X := λ _ _ _ => False }) T F
  refine l0 (n := 0) F.n F.sc T' X (sa := sa) (L := ns) ?_ (by exact La.l1 (.L .x0 (.l 63)) (.L .x0 (.l 1000)) [[1,1]] rfl [_] [] hn) rfl λ ρ' σ' => rfl
  refine La.x1_3 hl λ o ho hc h'1 => ?_; clear hl; refine La.x1_1 h'1 λ n hd => ?_; clear h'1
  exact ⟨o,_,n,by rw [F.b]; exact ho,hc,hd,λ h => rels_ints hi⟩
 refine wpAny_mono (fc (newEnv (fnS (stN 60)) 0 0 [] "" none .none none 0) callerA s₁ [.ref sa] ⟨by show 301 + 2 * 51 < recursionLimit; decide,by show 4 + 12 * 51 + 400 < cLine; decide,rfl,rfl⟩ ⟨λ a m e => (by cases e),λ a o e => ⟨e,rfl⟩⟩ (λ e he => by cases he) (.cons rfl .nil)) (λ v s' x => ?_) λ e s' x => ?_
 ·refine La.x2_4 x λ V σ' h'1 r I st => ?_; clear x; subst h'1
  cases r
  exact q s' (λ a o e => (I.2 a o e).1) st.gens st.os
 ·refine La.x1_2 x λ σ' h _ => ?_; clear x
  exact h.elim
end
end Mine
end
section
open PySem PySem.W PySem.Calls PyProof.Rows PySem.Spec PySem.SeqAt Mine
set_option maxRecDepth 100000 in
set_option maxHeartbeats 8000000 in
theorem PySem.Challenge.cw_no0185_01_holds : PySem.Challenge.rw_no0185_01.Holds := by
 w_on
 refine holds_law wellV λ said => ?_
 refine holds_open (q := qV) (loose := ["VOID","Store"]) (Xt := XtV) (XP := XL qV [("VOID",.tuple [.int 5,.int 0])]) (Yf := HK.obs) (Ya := HK.val) (YP := HK.says) (N := 7530) leftV HK.of HK.keeps
  (λ s e => xl_of s (Bool.and_eq_true_iff.mp e).1) XL.keeps (by rfl) (by rfl) (by rfl) (λ s e => recFacts_of (Bool.and_eq_true_iff.mp e).2) (by rfl) said okV ⟨rfl,rfl,rfl,rfl,rfl,by decide +kernel⟩ ?hw ?hc
 (case hw => w_witness2)
 intro w s₀ s₁ mg mb G Y fa o pm cd doc dV kV ho hd hcd hD hmg hg args vals as hpre hlay hrd hwl hlo
 have KX := kIn_of Y
 refine Ground.open G ?_
 intro T B D TE TW
 try (refine guard_noD D (by decide +kernel) ?_; clear D)
 wrow_args hpre hlay hrd hwl hlo
 rename_i ns _ _ _ _ _ _ _ sa vs _ hL _ _ _ hI _ hlen _
 have hdV : dV = .none := hD.pos.elim (·.2) λ y => absurd rfl y.1
 have Tb : Tbl s₁.heap _ mg := {
  hK := KX
  g := T.g
  bi := ⟨mb,T.b,T.builtins⟩
  nl := T.nolimit
  sys := (by
   obtain ⟨mm,⟨o,_,_,ho,_⟩,_⟩ := (T.seer (by kernel_rfl)).mods
   exact ⟨o,ho⟩)
  exc := ⟨mg_of KX T.g (by kernel_rfl),(by kernel_rfl),(by kernel_rfl),(by kernel_rfl),fnAt_of KX (by kernel_rfl) (by kernel_rfl) (by kernel_rfl),(by kernel_rfl),(by kernel_rfl),(by kernel_rfl),(by kernel_rfl),(by kernel_rfl),(by kernel_rfl)⟩
  fns := fnAll KX T.g (by kernel_rfl)
  mts := mtAll KX (by kernel_rfl)
  ats := atAll (by kernel_rfl)
  ins := inAll KX T.g (by kernel_rfl)
  nms := nmAll KX T.g (by kernel_rfl)
  m400_add := mtT_of KX (by kernel_rfl) (by kernel_rfl) (by kernel_rfl) (by kernel_rfl) (by kernel_rfl) (by kernel_rfl) (by kernel_rfl)
  c_Symbols := clT_of KX T.g (by kernel_rfl) (by kernel_rfl) (by kernel_rfl) (by kernel_rfl) (by kernel_rfl) (by kernel_rfl) (by kernel_rfl) (by kernel_rfl) (by decide)
  c_Store := clT_store KX T.g (by kernel_rfl) (by kernel_rfl) (by kernel_rfl) (by kernel_rfl) (by kernel_rfl) (by kernel_rfl) (by kernel_rfl) (by kernel_rfl)
  c_PairSet := clT_of KX T.g (by kernel_rfl) (by kernel_rfl) (by kernel_rfl) (by kernel_rfl) (by kernel_rfl) (by kernel_rfl) (by kernel_rfl) (by kernel_rfl) (by decide)
 }
 have hfa : FnAt s₁.heap fa "law" (fnP (stN 60)) (fnB (stN 60)) (fnS (stN 60)) .none := by
  obtain ⟨oc,od,da,sl⟩ := o
  dsimp only at hd
  subst hd hdV
  exact ⟨oc,od,sl,_,kV,doc,pm,_,cd,_,ho,hcd⟩
 refine main_call Tb hfa hL hI (by omega) λ s' k1 k2 k3 => ?_
 refine GoodW.toG ⟨.inl ⟨.bool true,.bool true,[],rfl,λ _ => rfl,.bool true,by kernel_rfl,λ _ => ⟨.nil,λ _ h => by cases h⟩⟩,k1,k3,k2.trans hg⟩
end
