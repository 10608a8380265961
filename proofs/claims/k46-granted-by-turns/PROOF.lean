import PyProof.Rows.All
import Wide.All
import OpenK.AllK
import Wide.FinOn
import HandS.ForMost
import HandS.Walk
import HandS.Deep
import HandS.More
import HandS.IsInst
import HandS.Conv
import HandS.Defaults
import HandS.HeadHook2
import HandS.Zip
import HandS.SetKeys
import KE.Datum
import KE.SortData
import KE.SortLaws
import KE.DatumOrd
import KE.DatumMore
import KE.DatumMoreOrd
import KE.DatumIndex
import KE.KDictPairs
import HandS.Rev
import HandS.TryOnly
import HandS.SortKw
import KE.SortKeyHeap
import HandS.Exc
import HandS.ExcOwn
import KE.KStateDown
import HandS.WordsExc
import HandS.Head0
import HandS.Head1
import HandS.Head2
import HandS.HeadEnd
import HandS.HeadHook1
import HandS.HeadHook4
import PyProof.ExcBaseAll.ValueError
import HandS.Style
import KE.DataEq
import HandS.Set
import HandS.Strs
import HandS.TupSets
import KE.KDictZip
import HandS.Zip0
import KE.KRevSl
import PyProof.EnumMake
import KE.SortCalls
import HandS.TupAny
import HandS.Text
import HandS.ExcField
import HandS.ExcInit
import KE.KExcIs
import PyProof.SeqRoads2
import PySem.Challenge.RW_strikeweave_k46_granted_by_turns
set_option Elab.async false
set_option maxRecDepth 100000
set_option linter.all false
set_option maxHeartbeats 4000000
namespace Sw
open PySem L2

abbrev Cell := Addr × HO
def isT : HO → Bool
  | .tup _ => true
  | _ => false
structure At (H : Hp) (L : List Cell) : Prop where
  get : ∀ x ∈ L, H x.1 = some x.2
  sep : L.Pairwise (fun x y => x.1 = y.1 → isT x.2 = true)
section
variable {H H' : Hp} {L L' F : List Cell} {p : Addr} {o o' : HO} {x y a b c d e f g : Cell}
theorem At.nil : At H [] := ⟨fun _ h => (nomatch h), .nil⟩
theorem At.rd (h : At H L) {p : Addr} {o : HO} (m : (p, o) ∈ L) : H p = some o := h.get _ m
theorem At.tail (h : At H (x :: L)) : At H L := ⟨fun y m => h.get y (.tail _ m), (List.pairwise_cons.mp h.sep).2⟩
theorem At.new (h : At H L) (hp : H p = none) : At (upd H p o) ((p, o) :: L) := by
  have nz : ∀ y ∈ L, y.1 ≠ p := fun y m z => by
    have := h.get y m
    rw [z, hp] at this
    cases this
  refine ⟨fun y m => ?_, List.pairwise_cons.mpr ⟨fun y m z => absurd z.symm (nz y m), h.sep⟩⟩
  cases m with
  | head => exact upd_same
  | tail _ m =>
    rw [upd_ne (nz y m)]
    exact h.get y m
theorem At.upd (h : At H ((p, o) :: L)) (ho : isT o = false) : At (upd H p o') ((p, o') :: L) := by
  have q := List.pairwise_cons.mp h.sep
  have nz : ∀ y ∈ L, y.1 ≠ p := fun y m z => by
    have := q.1 y m z.symm
    rw [ho] at this
    cases this
  refine ⟨fun y m => ?_, List.pairwise_cons.mpr ⟨fun y m z => absurd z.symm (nz y m), q.2⟩⟩
  cases m with
  | head => exact upd_same
  | tail _ m =>
    rw [upd_ne (nz y m)]
    exact h.get y (.tail _ m)
theorem At.ofPerm (h : At H L) (e : L.Perm L') : At H L' := by
  refine ⟨fun y m => h.get y (e.mem_iff.mpr m), ?_⟩
  have hs : L.Pairwise (fun x y => (x.1 = y.1 → isT x.2 = true) ∧ (y.1 = x.1 → isT y.2 = true)) := by
    have := h.sep
    have hg := h.get
    clear h e
    induction L with
    | nil => exact .nil
    | cons x L ih =>
      have q := List.pairwise_cons.mp this
      refine List.pairwise_cons.mpr ⟨fun y m => ⟨q.1 y m, fun z => ?_⟩, ih q.2 fun y m => hg y (.tail _ m)⟩
      have e1 := hg x (.head _)
      have e2 := hg y (.tail _ m)
      rw [z, e1] at e2
      rw [← Option.some.inj e2]
      exact q.1 y m z.symm
  exact (e.pairwise hs (fun {x y} h => ⟨h.2, h.1⟩)).imp fun h => h.1
theorem At.f1 (h : At H (a :: x :: L)) : At H (x :: a :: L) := h.ofPerm (.swap _ _ _)
theorem At.f2 (h : At H (a :: b :: x :: L)) : At H (x :: a :: b :: L) := h.ofPerm ((List.Perm.cons _ (.swap _ _ _)).trans (.swap _ _ _))
theorem At.f3 (h : At H (a :: b :: c :: x :: L)) : At H (x :: a :: b :: c :: L) := h.ofPerm (List.perm_middle (l₁ := [a, b, c]))
theorem At.f4 (h : At H (a :: b :: c :: d :: x :: L)) : At H (x :: a :: b :: c :: d :: L) := h.ofPerm (List.perm_middle (l₁ := [a, b, c, d]))
theorem At.f5 (h : At H (a :: b :: c :: d :: e :: x :: L)) : At H (x :: a :: b :: c :: d :: e :: L) := h.ofPerm (List.perm_middle (l₁ := [a, b, c, d, e]))
theorem At.f6 (h : At H (a :: b :: c :: d :: e :: f :: x :: L)) : At H (x :: a :: b :: c :: d :: e :: f :: L) := h.ofPerm (List.perm_middle (l₁ := [a, b, c, d, e, f]))
theorem At.f7 (h : At H (a :: b :: c :: d :: e :: f :: g :: x :: L)) : At H (x :: a :: b :: c :: d :: e :: f :: g :: L) := h.ofPerm (List.perm_middle (l₁ := [a, b, c, d, e, f, g]))
theorem At.sub (h : At H L) (s : L'.Sublist L) : At H L' := ⟨fun y m => h.get y (s.subset m), h.sep.sublist s⟩
theorem At.addT (h : At H L) {ys : List V} (e : H p = some (.tup ys)) : At H ((p, .tup ys) :: L) :=
  ⟨fun y k => by
    cases k with
    | head => exact e
    | tail _ k => exact h.get y k, List.pairwise_cons.mpr ⟨fun _ _ _ => rfl, h.sep⟩⟩
theorem At.app1 (h : At H (L ++ F)) : At H L := h.sub (List.sublist_append_left _ _)
theorem At.app2 (h : At H (L ++ F)) : At H F := h.sub (List.sublist_append_right _ _)
theorem At.ne (h : At H (x :: L)) (m : y ∈ L) (hx : isT x.2 = false) : x.1 ≠ y.1 := fun z => by
  have := (List.pairwise_cons.mp h.sep).1 y m z
  rw [hx] at this
  cases this
def SubP (T L : List Cell) : Prop := ∃ R, L.Perm (T ++ R)
theorem SubP.at {T : List Cell} (h : At H L) (s : SubP T L) : At H T := by
  obtain ⟨R, e⟩ := s
  exact (h.ofPerm e).app1
theorem SubP.refl (L : List Cell) : SubP L L := ⟨[], by rw [List.append_nil]⟩
theorem SubP.nil (L : List Cell) : SubP [] L := ⟨L, .refl _⟩
theorem SubP.drop {T : List Cell} (s : SubP T L) : SubP T (x :: L) := by
  obtain ⟨R, e⟩ := s
  exact ⟨x :: R, (List.Perm.cons x e).trans List.perm_middle.symm⟩
theorem SubP.dropL {T : List Cell} (s : SubP T L) : SubP T (F ++ L) := by
  induction F with
  | nil => exact s
  | cons a F ih => exact ih.drop
theorem SubP.c0 {T : List Cell} (s : SubP T L) : SubP (x :: T) (x :: L) := by
  obtain ⟨R, e⟩ := s
  exact ⟨R, List.Perm.cons x e⟩
theorem SubP.k {T L' : List Cell} (s : SubP T L') (e : L.Perm L') : SubP T L := by
  obtain ⟨R, q⟩ := s
  exact ⟨R, e.trans q⟩
theorem SubP.c1 {T : List Cell} (s : SubP T (a :: L)) : SubP (x :: T) (a :: x :: L) := s.c0.k (.swap _ _ _)
theorem SubP.c2 {T : List Cell} (s : SubP T (a :: b :: L)) : SubP (x :: T) (a :: b :: x :: L) := s.c0.k (List.perm_middle (l₁ := [a, b]))
theorem SubP.c3 {T : List Cell} (s : SubP T (a :: b :: c :: L)) : SubP (x :: T) (a :: b :: c :: x :: L) := s.c0.k (List.perm_middle (l₁ := [a, b, c]))
theorem SubP.c4 {T : List Cell} (s : SubP T (a :: b :: c :: d :: L)) : SubP (x :: T) (a :: b :: c :: d :: x :: L) := s.c0.k (List.perm_middle (l₁ := [a, b, c, d]))
theorem SubP.c5 {T : List Cell} (s : SubP T (a :: b :: c :: d :: e :: L)) : SubP (x :: T) (a :: b :: c :: d :: e :: x :: L) := s.c0.k (List.perm_middle (l₁ := [a, b, c, d, e]))
theorem SubP.c6 {T : List Cell} (s : SubP T (a :: b :: c :: d :: e :: f :: L)) : SubP (x :: T) (a :: b :: c :: d :: e :: f :: x :: L) := s.c0.k (List.perm_middle (l₁ := [a, b, c, d, e, f]))
theorem SubP.app {T : List Cell} (s : SubP T L) : SubP (F ++ T) (F ++ L) := by
  induction F with
  | nil => exact s
  | cons a F ih => exact ih.c0
theorem SubP.app1 {T : List Cell} (s : SubP T (a :: L)) : SubP (F ++ T) (a :: (F ++ L)) := (SubP.app (F := F) s).k List.perm_middle.symm
theorem SubP.app2 {T : List Cell} (s : SubP T (a :: b :: L)) : SubP (F ++ T) (a :: b :: (F ++ L)) := (SubP.app (F := F) s).k ((List.Perm.cons a List.perm_middle.symm).trans List.perm_middle.symm)
end

variable {K : PySem.W.Frag} {σ : L2.St} {H : Hp} {Q : VK} {D : Ends} {L : List Cell} {R : L2.St → Hp → Prop}
def NewL (xs : List V) (H : Hp) (Q : VK) : Prop := xs.length ≤ sizeLine ∧ ∀ p, H p = none → Q (.ref p) (upd H p (.lst xs))
def NewT (xs : List V) (H : Hp) (Q : VK) : Prop := xs.length ≤ sizeLine ∧ ∀ p, H p = none → Q (.ref p) (upd H p (.tup xs))
def BlK (x : V) (H : Hp) (Q : Bool → Hp → Prop) : Prop := ∃ k, x = .bl k ∧ Q k H
def Br (b : Bool) (A B : Prop) : Prop := if b = true then A else B
section
variable {ta tb te : TE} {t u : TT} {r : R2} {x y v : V} {i j : Int} {b c : Bool} {A B : Prop} {QB : Bool → Hp → Prop} {s1 s2 : TS} {g : TG} {gs : TGs} {tl : TA} {QL : List V → Hp → Prop}
theorem rd_var {n : Nat} (h : σ[n]? = some (some v)) (k : Q v H) : tVar n σ H Q := ⟨v, h, k⟩
theorem rd_c (k : Q v H) : tC v σ H Q := k
theorem rd_op (k : ta σ H fun x H1 => tb σ H1 fun y H2 => r x y H2 Q) : tOp r ta tb σ H Q := k
theorem rd_un {r : V → Hp → VK → Prop} (k : ta σ H fun x H1 => r x H1 Q) : tUn r ta σ H Q := k
theorem rd_I0 {g : Int → Int → V} (k : Q (g i j) H) : rI0 g (.int i) (.int j) H Q := ⟨i, j, rfl, rfl, k⟩
theorem rd_I {C : Int → Int → Prop} {g : Int → Int → V} (h : C i j) (k : Q (g i j) H) : rI C g (.int i) (.int j) H Q := ⟨i, j, rfl, rfl, h, k⟩
theorem rd_U {g : Int → V} (k : Q (g i) H) : rU g (.int i) H Q := ⟨i, rfl, k⟩
theorem rd_test (k : te σ H fun x H' => BlK x H' QB) : tTest te σ H QB := k
theorem rd_B (k : te σ H fun x H' => BlK x H' QB) : tB te σ H QB := k
theorem rd_blk (k : QB b H) : BlK (.bl b) H QB := ⟨b, rfl, k⟩
theorem rd_and (k : t σ H fun c H1 => Br c (u σ H1 QB) (QB false H1)) : tAnd t u σ H QB := k
theorem rd_or (k : t σ H fun c H1 => Br c (QB true H1) (u σ H1 QB)) : tOr t u σ H QB := k
theorem rd_not (k : t σ H fun c H1 => QB (!c) H1) : tNot t σ H QB := k
def AndK (x : V) (H : Hp) (f : Hp → Prop) (Q : VK) : Prop := ∃ c, x = .bl c ∧ if c = true then f H else Q (.bl false) H
def OrK (x : V) (H : Hp) (f : Hp → Prop) (Q : VK) : Prop := ∃ c, x = .bl c ∧ if c = true then Q (.bl true) H else f H
theorem rd_andV (k : ta σ H fun x H1 => AndK x H1 (fun H2 => tb σ H2 Q) Q) : tAndV ta tb σ H Q := k
theorem rd_orV (k : ta σ H fun x H1 => OrK x H1 (fun H2 => tb σ H2 Q) Q) : tOrV ta tb σ H Q := k
theorem rd_andK {f : Hp → Prop} (k : Br c (f H) (Q (.bl false) H)) : AndK (.bl c) H f Q := ⟨c, rfl, k⟩
theorem rd_orK {f : Hp → Prop} (k : Br c (Q (.bl true) H) (f H)) : OrK (.bl c) H f Q := ⟨c, rfl, k⟩
def NotK (x : V) (H : Hp) (Q : VK) : Prop := ∃ c, x = .bl c ∧ Q (.bl (!c)) H
theorem rd_notV (k : ta σ H fun x H1 => NotK x H1 Q) : tNotV ta σ H Q := k
theorem rd_notK (k : Q (.bl (!c)) H) : NotK (.bl c) H Q := ⟨c, rfl, k⟩
theorem rd_ifE (k : t σ H fun c H1 => Br c (ta σ H1 Q) (tb σ H1 Q)) : tIf t ta tb σ H Q := k
theorem rd_brT (k : A) : Br true A B := by unfold Br; rw [if_pos rfl]; exact k
theorem rd_brF (k : B) : Br false A B := by unfold Br; rw [if_neg Bool.false_ne_true]; exact k
theorem rd_brNF (k : A) : Br (!false) A B := rd_brT k
theorem rd_brNT (k : B) : Br (!true) A B := rd_brF k
theorem rd_br (h1 : b = true → A) (h2 : b = false → B) : Br b A B := by
  cases b with
  | true => exact rd_brT (h1 rfl)
  | false => exact rd_brF (h2 rfl)
theorem rd_brD {p : Prop} {inst : Decidable p} (h1 : p → A) (h2 : ¬ p → B) : Br (decide p) A B := rd_br (fun h => h1 (of_decide_eq_true h)) (fun h => h2 (of_decide_eq_false h))
theorem rd_brND {p : Prop} {inst : Decidable p} (h1 : ¬ p → A) (h2 : p → B) : Br (!decide p) A B := rd_br (fun h => h1 (fun q => by rw [decide_eq_true q] at h; cases h)) (fun h => h2 (Decidable.byContradiction fun q => by rw [decide_eq_false q] at h; cases h))
theorem rd_brN (h1 : b = false → A) (h2 : b = true → B) : Br (!b) A B := by
  cases b with
  | true => exact rd_brF (h2 rfl)
  | false => exact rd_brT (h1 rfl)
theorem rd_brY (h : b = true) (k : A) : Br b A B := by subst h; exact rd_brT k
theorem rd_brNo (h : b = false) (k : B) : Br b A B := by subst h; exact rd_brF k
theorem rd_eqI (k : Q (.bl (decide (i = j))) H) : rEq (.int i) (.int j) H Q := ⟨rfl, by
  have e : decide (V.int i = V.int j) = decide (i = j) := by simp
  rw [e]; exact k⟩
theorem rd_neI (k : Q (.bl (!decide (i = j))) H) : rNe (.int i) (.int j) H Q := ⟨rfl, by
  have e : decide (V.int i = V.int j) = decide (i = j) := by simp
  rw [e]; exact k⟩
theorem rd_eqS {x y : Str} (k : Q (.bl (decide (x = y))) H) : rEq (.str x) (.str y) H Q := ⟨rfl, by
  have e : decide (V.str x = V.str y) = decide (x = y) := by simp
  rw [e]; exact k⟩
theorem rd_neS {x y : Str} (k : Q (.bl (!decide (x = y))) H) : rNe (.str x) (.str y) H Q := ⟨rfl, by
  have e : decide (V.str x = V.str y) = decide (x = y) := by simp
  rw [e]; exact k⟩
theorem rd_eqB (k : Q (.bl (decide (b = c))) H) : rEq (.bl b) (.bl c) H Q := ⟨rfl, by
  have e : decide (V.bl b = V.bl c) = decide (b = c) := by simp
  rw [e]; exact k⟩
theorem rd_neB (k : Q (.bl (!decide (b = c))) H) : rNe (.bl b) (.bl c) H Q := ⟨rfl, by
  have e : decide (V.bl b = V.bl c) = decide (b = c) := by simp
  rw [e]; exact k⟩
theorem rd_nil (k : QL [] H) : tNil σ H QL := k
theorem rd_cons (k : ta σ H fun x H1 => tl σ H1 fun xs H2 => QL (x :: xs) H2) : tCons ta tl σ H QL := k
theorem rd_lst (k : tl σ H fun xs H1 => NewL xs H1 Q) : tLst tl σ H Q := k
theorem rd_tup (k : tl σ H fun xs H1 => NewT xs H1 Q) : tTup tl σ H Q := k
theorem rd_newL {xs : List V} (hA : At H L) (hl : xs.length ≤ 100000) (k : ∀ p H', At H' ((p, .lst xs) :: L) → Q (.ref p) H') : NewL xs H Q :=
  ⟨Nat.le_trans hl (by decide), fun p hp => k p _ (hA.new hp)⟩
theorem rd_newT {xs : List V} (hA : At H L) (hl : xs.length ≤ 100000) (k : ∀ p H', At H' ((p, .tup xs) :: L) → Q (.ref p) H') : NewT xs H Q :=
  ⟨Nat.le_trans hl (by decide), fun p hp => k p _ (hA.new hp)⟩
theorem rd_next (k : D.nx σ H) : tNext D σ H := k
theorem rd_seq (k : s1 { D with nx := s2 D } σ H) : tSeq s1 s2 D σ H := k
theorem rd_asg (k : te σ H fun x H1 => g x σ H1 D.nx) : tAsg te g D σ H := k
theorem rd_gName {n : Nat} (k : R (σ.set n (some x)) H) : gName n x σ H R := k
theorem rd_gSub {ti : TE} {st : TSet} (k : ta σ H fun o H1 => ti σ H1 fun i H2 => st o i x H2 fun H3 => R σ H3) : gSub ta ti st x σ H R := k
theorem rd_drop (k : te σ H fun _ H1 => D.nx σ H1) : tDrop te D σ H := k
theorem rd_ret (k : te σ H D.rt) : tRet te D σ H := k
theorem rd_retN (k : D.rt .non H) : tRetN D σ H := k
theorem rd_ifS (k : t σ H fun b H1 => Br b (s1 D σ H1) (s2 D σ H1)) : tIfS t s1 s2 D σ H := k
theorem rd_break (k : D.bk σ H) : tBreak D σ H := k
theorem rd_cont (k : D.ct σ H) : tCont D σ H := k
theorem rd_nx {n b c : L2.St → Hp → Prop} {r : VK} (k : n σ H) : Ends.nx (Ends.mk n r b c) σ H := k
theorem rd_bk {n b c : L2.St → Hp → Prop} {r : VK} (k : b σ H) : Ends.bk (Ends.mk n r b c) σ H := k
theorem rd_ct {n b c : L2.St → Hp → Prop} {r : VK} (k : c σ H) : Ends.ct (Ends.mk n r b c) σ H := k
theorem rd_rt {n b c : L2.St → Hp → Prop} {r : VK} (k : r x H) : Ends.rt (Ends.mk n r b c) x H := k
theorem rd_aug {n : Nat} {ti : TIp} (h : σ[n]? = some (some x)) (k : te σ H fun y H1 => ti x y H1 fun z H2 => D.nx (σ.set n (some z)) H2) : tAug n te ti D σ H := ⟨x, h, k⟩
theorem rd_ipI {f : Int → Int → Int} (k : Q (.int (f i j)) H) : ipI f (.int i) (.int j) H Q := ⟨i, j, rfl, rfl, k⟩
theorem rd_call {sp : Sp} {E : XK} (k : tl σ H fun vs H1 => sp vs H1 Q E) : tCall sp [] E tl σ H Q := by
  unfold tCall
  simp only [List.append_nil]
  exact k
theorem rd_CB {r : List V → Hp → VK → Prop} (k : tl σ H fun vs H1 => r vs H1 Q) : tCB r tl σ H Q := k
end
end Sw

namespace Sw
open PySem L2 PySem.W

mutual
inductive Rp (L : List Cell) : V → PyData → Prop
  | non : Rp L .non .none
  | bl (b : Bool) : Rp L (.bl b) (.bool b)
  | int (i : Int) : Rp L (.int i) (.int i)
  | str (x : Str) : Rp L (.str x) (.str x)
  | lst {a : Addr} {xs : List V} {ds : List PyData} : (a, HO.lst xs) ∈ L → RpAll L xs ds → Rp L (.ref a) (.list ds)
  | tup {a : Addr} {xs : List V} {ds : List PyData} : (a, HO.tup xs) ∈ L → RpAll L xs ds → Rp L (.ref a) (.tuple ds)
inductive RpAll (L : List Cell) : List V → List PyData → Prop
  | nil : RpAll L [] []
  | cons {v : V} {vs : List V} {d : PyData} {ds : List PyData} : Rp L v d → RpAll L vs ds → RpAll L (v :: vs) (d :: ds)
end
mutual
theorem Rp.mono {L L' : List Cell} (s : ∀ x ∈ L, x ∈ L') : ∀ {d : PyData} {v : V}, Rp L v d → Rp L' v d
  | .none, _, h => by cases h; exact .non
  | .bool b, _, h => by cases h; exact .bl b
  | .int i, _, h => by cases h; exact .int i
  | .str x, _, h => by cases h; exact .str x
  | .list ds, _, h => by
    cases h with
    | lst m r => exact .lst (s _ m) (RpAll.mono s r)
  | .tuple ds, _, h => by
    cases h with
    | tup m r => exact .tup (s _ m) (RpAll.mono s r)
  | .dict _, _, h => by cases h
theorem RpAll.mono {L L' : List Cell} (s : ∀ x ∈ L, x ∈ L') : ∀ {ds : List PyData} {vs : List V}, RpAll L vs ds → RpAll L' vs ds
  | [], _, h => by cases h; exact .nil
  | d :: ds, _, h => by
    cases h with
    | cons a b => exact .cons (Rp.mono s a) (RpAll.mono s b)
end
mutual
theorem Rp.dp {K : PySem.W.Frag} {H : Hp} {L : List Cell} (hA : At H L) : ∀ {d : PyData} {v : V}, Rp L v d → Dp K H v d
  | .none, _, h => by cases h; exact .non
  | .bool b, _, h => by cases h; exact .bl b
  | .int i, _, h => by cases h; exact .int i
  | .str x, _, h => by cases h; exact .str x
  | .list ds, _, h => by
    cases h with
    | lst m r => exact .lst (SqL.of (hA.rd m)) (RpAll.dp hA r)
  | .tuple ds, _, h => by
    cases h with
    | tup m r => exact .tup (SqT.of (hA.rd m)) (RpAll.dp hA r)
  | .dict _, _, h => by cases h
theorem RpAll.dp {K : PySem.W.Frag} {H : Hp} {L : List Cell} (hA : At H L) : ∀ {ds : List PyData} {vs : List V}, RpAll L vs ds → DpAll K H vs ds
  | [], _, h => by cases h; exact .nil
  | d :: ds, _, h => by
    cases h with
    | cons a b => exact .cons (Rp.dp hA a) (RpAll.dp hA b)
end
theorem RpAll.len {L : List Cell} : ∀ {ds : List PyData} {vs : List V}, RpAll L vs ds → vs.length = ds.length
  | _, _, .nil => rfl
  | _, _, .cons _ r => congrArg (· + 1) r.len
theorem RpAll.at {L : List Cell} : ∀ {ds : List PyData} {vs : List V} {i : Nat} {v : V}, RpAll L vs ds → vs[i]? = some v → ∃ d, ds[i]? = some d ∧ Rp L v d
  | _, _, _, _, .nil, e => by simp at e
  | _, _, 0, _, .cons a _, e => by simp at e; subst e; exact ⟨_, rfl, a⟩
  | _, _, i + 1, _, .cons _ r, e => by simpa using RpAll.at (i := i) r (by simpa using e)
theorem RpAll.app {L : List Cell} : ∀ {ds es : List PyData} {vs ws : List V}, RpAll L vs ds → RpAll L ws es → RpAll L (vs ++ ws) (ds ++ es)
  | _, _, _, _, .nil, h => h
  | _, _, _, _, .cons a r, h => .cons a (r.app h)
theorem RpAll.take {L : List Cell} : ∀ {ds : List PyData} {vs : List V} (n : Nat), RpAll L vs ds → RpAll L (vs.take n) (ds.take n)
  | _, _, 0, _ => .nil
  | _, _, _ + 1, .nil => .nil
  | _, _, n + 1, .cons a r => .cons a (r.take n)
theorem RpAll.drop {L : List Cell} : ∀ {ds : List PyData} {vs : List V} (n : Nat), RpAll L vs ds → RpAll L (vs.drop n) (ds.drop n)
  | _, _, 0, h => h
  | _, _, _ + 1, .nil => .nil
  | _, _, n + 1, .cons _ r => r.drop n
theorem RpAll.erase {L : List Cell} : ∀ {ds : List PyData} {vs : List V} (n : Nat), RpAll L vs ds → RpAll L (vs.eraseIdx n) (ds.eraseIdx n)
  | _, _, _, .nil => .nil
  | _, _, 0, .cons _ r => r
  | _, _, n + 1, .cons a r => .cons a (r.erase n)
abbrev Is {α : Type} [DecidableEq α] [Datum α] (L : List Cell) (v : V) (x : α) : Prop := Rp L v (Datum.toD x)
abbrev Iss {α : Type} [DecidableEq α] [Datum α] (L : List Cell) (vs : List V) (xs : List α) : Prop := RpAll L vs (xs.map Datum.toD)
section
variable {L : List Cell} {a : Addr}
theorem iss_strs : ∀ ns : List Str, Iss L (ns.map V.str) ns
  | [] => .nil
  | x :: r => .cons (.str x) (iss_strs r)
theorem iss_ints : ∀ ns : List Int, Iss L (ns.map V.int) ns
  | [] => .nil
  | x :: r => .cons (.int x) (iss_ints r)
theorem is_strs {ns : List Str} (m : (a, HO.lst (ns.map V.str)) ∈ L) : Is L (.ref a) ns := .lst m (iss_strs ns)
theorem is_ints {ns : List Int} (m : (a, HO.lst (ns.map V.int)) ∈ L) : Is L (.ref a) ns := .lst m (iss_ints ns)
theorem is_list {α : Type} {i1 : DecidableEq α} {i2 : Datum α} {xs : List α} {vs : List V} (m : (a, HO.lst vs) ∈ L) (h : Iss L vs xs) : Is L (.ref a) xs := .lst m h
theorem is_str (x : Str) : Is L (.str x) x := .str x
theorem is_int (x : Int) : Is L (.int x) x := .int x
theorem is_bl (x : Bool) : Is L (.bl x) x := .bl x
theorem is_pair {α β : Type} {i1 : DecidableEq α} {i2 : Datum α} {i3 : DecidableEq β} {i4 : Datum β} {v w : V} {x : α} {y : β} (m : (a, HO.tup [v, w]) ∈ L) (h1 : Is L v x) (h2 : Is L w y) : Is L (.ref a) (x, y) := .tup m (.cons h1 (.cons h2 .nil))
theorem Iss.at {α : Type} [DecidableEq α] [Datum α] {xs : List α} {vs : List V} {i : Nat} {v : V} (h : Iss L vs xs) (e : vs[i]? = some v) : ∃ x, xs[i]? = some x ∧ Is L v x := by
  obtain ⟨d, e1, r⟩ := RpAll.at h e
  rw [List.getElem?_map] at e1
  cases q : xs[i]? with
  | none => rw [q] at e1; cases e1
  | some x =>
    rw [q] at e1
    cases e1
    exact ⟨x, rfl, r⟩
theorem Iss.len {α : Type} [DecidableEq α] [Datum α] {xs : List α} {vs : List V} (h : Iss L vs xs) : vs.length = xs.length := by
  have := RpAll.len h
  rw [List.length_map] at this
  exact this
theorem Iss.app {α : Type} [DecidableEq α] [Datum α] {xs ys : List α} {vs ws : List V} (h : Iss L vs xs) (k : Iss L ws ys) : Iss L (vs ++ ws) (xs ++ ys) := by
  show RpAll L _ _
  rw [List.map_append]
  exact RpAll.app h k
theorem Iss.one {α : Type} [DecidableEq α] [Datum α] {x : α} {v : V} (h : Is L v x) : Iss L [v] [x] := .cons h .nil
theorem Iss.take {α : Type} [DecidableEq α] [Datum α] {xs : List α} {vs : List V} (n : Nat) (h : Iss L vs xs) : Iss L (vs.take n) (xs.take n) := by
  show RpAll L _ _
  rw [List.map_take]
  exact RpAll.take n h
theorem Iss.drop {α : Type} [DecidableEq α] [Datum α] {xs : List α} {vs : List V} (n : Nat) (h : Iss L vs xs) : Iss L (vs.drop n) (xs.drop n) := by
  show RpAll L _ _
  rw [List.map_drop]
  exact RpAll.drop n h
end

def rEqP (K : PySem.W.Frag) : R2 := fun x y H Q => ∃ d e, Dp K H x d ∧ Dp K H y e ∧ d.plain = true ∧ e.plain = true ∧ d.depth ≤ 60 ∧ Q (.bl (PyData.eqv d e)) H
def rNeP (K : PySem.W.Frag) : R2 := fun x y H Q => ∃ d e, Dp K H x d ∧ Dp K H y e ∧ d.plain = true ∧ e.plain = true ∧ d.depth ≤ 60 ∧ Q (.bl (!PyData.eqv d e)) H
def rInP (K : PySem.W.Frag) : R2 := fun x y H Q => ∃ d ds, Dp K H x d ∧ (Dp K H y (.list ds) ∨ Dp K H y (.tuple ds)) ∧ d.plain = true ∧ PyData.plainAll ds = true ∧ d.depth ≤ 60 ∧ Q (.bl (ds.any fun z => PyData.eqv z d)) H
def rNinP (K : PySem.W.Frag) : R2 := fun x y H Q => ∃ d ds, Dp K H x d ∧ (Dp K H y (.list ds) ∨ Dp K H y (.tuple ds)) ∧ d.plain = true ∧ PyData.plainAll ds = true ∧ d.depth ≤ 60 ∧ Q (.bl (!ds.any fun z => PyData.eqv z d)) H
section
variable {X : Cx}
theorem op_eqD (hu : X.A.units + 64 < cLine) : OpR X (compareOp .Eq) (rEqP X.K) := by
  intro pins s σ H x y v u Q I rx ry h
  obtain ⟨d, e, hd, he, sd, se, dd, q⟩ := h
  obtain ⟨as, r1⟩ := Dp.reads I d x v hd rx
  obtain ⟨bs, r2⟩ := Dp.reads I e y u he ry
  exact SeqAt.eq_plain r1 r2 sd se (by have := Nat.min_le_left d.depth e.depth; omega) ⟨.bl _, H, I, rfl, q⟩
theorem op_neD (hu : X.A.units + 64 < cLine) : OpR X (compareOp .NotEq) (rNeP X.K) := by
  intro pins s σ H x y v u Q I rx ry h
  obtain ⟨d, e, hd, he, sd, se, dd, q⟩ := h
  obtain ⟨as, r1⟩ := Dp.reads I d x v hd rx
  obtain ⟨bs, r2⟩ := Dp.reads I e y u he ry
  exact SeqAt.ne_plain r1 r2 sd se (by have := Nat.min_le_left d.depth e.depth; omega) ⟨.bl _, H, I, rfl, q⟩
theorem op_ninD (hu : X.A.units + 64 < cLine) : OpR X (compareOp .NotIn) (rNinP X.K) := by
  intro pins s σ H x y v u Q I rx ry h
  obtain ⟨d, e, hd, he, sd, se, dd, q⟩ := h
  obtain ⟨as, r1⟩ := Dp.reads I d x v hd rx
  rcases he with he | he
  · obtain ⟨bs, r2⟩ := Dp.reads I _ y u he ry
    exact SeqAt.notIn_list_data r2 r1 se sd (by have := Nat.min_le_right (PyData.depthAll e) d.depth; omega) ⟨.bl _, H, I, rfl, q⟩
  · obtain ⟨bs, r2⟩ := Dp.reads I _ y u he ry
    exact SeqAt.notIn_tuple_data r2 r1 se sd (by have := Nat.min_le_right (PyData.depthAll e) d.depth; omega) ⟨.bl _, H, I, rfl, q⟩
def rSrt (K : PySem.W.Frag) : List V → Hp → VK → Prop := fun vs H Q => ∃ (a : Addr) (xs : List V) (ds : List PyData), vs = [V.ref a] ∧ SqL K H a xs ∧ DpAll K H xs ds ∧ AllAlike ds ∧ Sortable ds ∧ (∀ d ∈ ds, d.depth ≤ 60) ∧
  ∀ p, H p = none → Q (.ref p) (upd H p (.lst (((xs.zip ds).mergeSort (dataLe false (fun z : V × PyData => z.2))).map Prod.fst)))
theorem dpAll_len {K : PySem.W.Frag} {H : Hp} : ∀ {xs : List V} {ds : List PyData}, DpAll K H xs ds → xs.length = ds.length
  | _, _, .nil => rfl
  | _, _, .cons _ r => congrArg (· + 1) (dpAll_len r)
theorem each_rel {pins : List (Addr × Obj)} {σ : L2.St} {H : Hp} {s : Shared} (I : Inv X pins σ H s) : ∀ {xs : List V} {ds : List PyData} {us : List Value}, DpAll X.K H xs ds → Vals xs us →
    EachIs (fun u (z : V × PyData) => RelV z.1 u) us (xs.zip ds) ∧ EachIs (fun v (b : V × PyData) => ∃ as, Reads s.heap v b.2 as) us (xs.zip ds)
  | _, _, _, .nil, .nil => ⟨.nil, .nil⟩
  | _, _, _, .cons h r, .cons hv rv => by
    obtain ⟨a, b⟩ := each_rel I r rv
    exact ⟨.cons hv a, .cons (Dp.reads I _ _ _ h hv) b⟩
theorem vals_each : ∀ {us : List Value} {zs : List (V × PyData)}, EachIs (fun u (z : V × PyData) => RelV z.1 u) us zs → Vals (zs.map Prod.fst) us
  | _, _, .nil => .nil
  | _, _, .cons h r => .cons h (vals_each r)
theorem map_snd_zip {α β : Type} : ∀ {xs : List α} {ys : List β}, xs.length = ys.length → (xs.zip ys).map Prod.snd = ys
  | [], [], _ => rfl
  | _ :: _, _ :: _, h => by
    rw [List.zip_cons_cons, List.map_cons, map_snd_zip (Nat.succ.inj h)]
theorem call_srt (hu : X.A.units + 64 < cLine) : CallR X (.builtin "sorted") (rSrt X.K) := by
  intro pins s σ H vs us Q I r h
  obtain ⟨a, xs, ds, rfl, hs, hd, hal, hk, hdp, q⟩ := h
  obtain ⟨its, rv, hl, hz⟩ := I.list hs
  rw [Vals.ref1 r]
  obtain ⟨e1, e2⟩ := each_rel I hd rv
  have hlen := dpAll_len hd
  have em : (xs.zip ds).map (fun z : V × PyData => z.2) = ds := map_snd_zip hlen
  have hzl : (xs.zip ds).length = xs.length := by rw [List.length_zip, hlen, Nat.min_self]
  refine sorted_data (bs := xs.zip ds) (enc := fun z : V × PyData => z.2) (R := fun u z => RelV z.1 u) hl.isList e1 e2 (by rw [em]; exact hal) (by rw [em]; exact hk) (by rw [hzl]; exact hz) (fun b hb => ?_) fun out h1 h2 => ?_
  · have : b.2 ∈ ds := by
      rw [← em]
      exact List.mem_map.mpr ⟨b, hb, rfl⟩
    have := hdp _ this
    show X.A.units + 2 + b.2.depth < cLine
    omega
  · obtain ⟨ep, he'⟩ := PyProof.Rows.sortedAll_at s.heap its out.toArray
    have hlen2 : (((xs.zip ds).mergeSort (dataLe false (fun z : V × PyData => z.2))).map Prod.fst).length ≤ sizeLine := by
      rw [List.length_map, List.length_mergeSort, hzl]
      exact hz
    exact ⟨.ref _, upd H (s.heap.objs.size + 1) (.lst _), I.laid (t' := s.toks) (fun _ _ => PyProof.Rows.sortedAll_old) (Nat.le_succ _) ⟨hlen2, out, ep, vals_each h2, he'⟩, rfl, q _ (I.hok.fresh (Nat.le_succ _))⟩
end
theorem mergeSort_zip {α β γ : Type} (f : α → γ) (g : α → β) (le : β → β → Bool) (xs : List α) : ((xs.map fun x => (f x, g x)).mergeSort fun a b => le a.2 b.2).map Prod.fst = (xs.mergeSort fun a b => le (g a) (g b)).map f := by
  have := (List.map_mergeSort (r := fun a b => le (g a) (g b)) (s := fun (a b : γ × β) => le a.2 b.2) (f := fun x => (f x, g x)) (l := xs) (fun a _ b _ => rfl))
  rw [← this, List.map_map]
  rfl
end Sw

namespace Sw
open PySem L2 PySem.W
section
variable {X : Cx}
def CMulA (i j : Int) : Prop := CMul i j
theorem op_mulA : OpR X (binaryOp .Mult) (rI CMulA fun i j => .int (i * j)) := op_mul
theorem op_div : OpR X (binaryOp .FloorDiv) (rI CDiv fun i j => .int (i / j)) := op_fdiv
def rLenQ (K : PySem.W.Frag) : List V → Hp → VK → Prop := fun xs H Q => ∃ p ys, xs = [.ref p] ∧ (SqL K H p ys ∨ SqT K H p ys) ∧ Q (.int ys.length) H
theorem call_lenQ : CallR X (.builtin "len") (rLenQ X.K) := call_len_seq
def rLenS : List V → Hp → VK → Prop := fun xs H Q => ∃ z, xs = [.str z] ∧ z.length ≤ sizeLine ∧ Q (.int z.length) H
theorem call_lenS : CallR X (.builtin "len") rLenS := call_len_str
def rAbs : List V → Hp → VK → Prop := fun xs H Q => ∃ i, xs = [.int i] ∧ Q (.int (if i < 0 then -i else i)) H
theorem call_abs : CallR X (.builtin "abs") rAbs := L2.call_abs
def rMin2 : List V → Hp → VK → Prop := fun xs H Q => ∃ i j, xs = [.int i, .int j] ∧ Q (.int (if j < i then j else i)) H
theorem call_min2 (hc : X.calm = true) : CallR X (.builtin "min") rMin2 := L2.call_min2 hc
def rMax2 : List V → Hp → VK → Prop := fun xs H Q => ∃ i j, xs = [.int i, .int j] ∧ Q (.int (if j > i then j else i)) H
theorem call_max2 (hc : X.calm = true) : CallR X (.builtin "max") rMax2 := L2.call_max2 hc
def rInt1 : List V → Hp → VK → Prop := fun xs H Q => (∃ i, xs = [.int i] ∧ Q (.int i) H) ∨ ∃ k, xs = [.bl k] ∧ Q (.int (if k then 1 else 0)) H
theorem call_int : CallR X (.type "int") rInt1 := call_int1
def rList (K : PySem.W.Frag) : List V → Hp → VK → Prop := fun xs H Q => ∃ p ys, xs = [.ref p] ∧ (SqL K H p ys ∨ SqT K H p ys) ∧ ∀ l, H l = none → Q (.ref l) (upd H l (.lst ys))
theorem call_list : CallR X (.type "list") (rList X.K) := call_list_of
def rTuple (K : PySem.W.Frag) : List V → Hp → VK → Prop := fun xs H Q => ∃ p ys, xs = [.ref p] ∧ ((SqL K H p ys ∧ ∀ l, H l = none → Q (.ref l) (upd H l (.tup ys))) ∨ (SqT K H p ys ∧ Q (.ref p) H))
theorem call_tuple : CallR X (.type "tuple") (rTuple X.K) := call_tuple_of
def rInS : R2 := fun x y H Q => ∃ (c : Nat) (z : Str), x = .str ⟨#[c]⟩ ∧ y = .str z ∧ Q (.bl (decide (c ∈ z.cps.toList))) H
theorem op_inS : OpR X (compareOp .In) rInS := op_in_sign
def rIsN : R2 := fun x y H Q => y = .non ∧ Q (.bl (decide (x = .non))) H
def rNotN : R2 := fun x y H Q => y = .non ∧ Q (.bl (!decide (x = .non))) H
theorem op_isN : OpR X (compareOp .Is) rIsN := L2.op_isN
theorem op_notN : OpR X (compareOp .IsNot) rNotN := L2.op_notN
def rAddS : R2 := fun x y H Q => ∃ i j, x = .str i ∧ y = .str j ∧ i.length + j.length ≤ sizeLine ∧ Q (.str (i ++ j)) H
def rInsert : V → List V → Hp → VK → Prop := fun x vs H Q => ∃ (l : Addr) (xs : List V) (i : Int) (y : V), x = .ref l ∧ vs = [.int i, y] ∧ H l = some (.lst xs) ∧ xs.length < sizeLine ∧ 0 ≤ i ∧ i < 2 ^ 63 ∧
    Q .non (upd H l (.lst (xs.take i.toNat ++ [y] ++ xs.drop i.toNat)))
theorem mt_insert : MtR X "list.insert" rInsert := L2.mt_insert
def rSplit : V → List V → Hp → VK → Prop := fun x xs H Q => ∃ a b, x = .str a ∧ xs = [.str b] ∧ (b.length == 0) = false ∧ a.length + 2 ≤ sizeLine ∧ rNewStrs (Txt.split a b) H Q
end
section
variable {K : PySem.W.Frag} {σ : L2.St} {H : Hp} {Q : VK} {D : Ends} {L F : List Cell} {a b p : Addr} {xs ys : List V} {i j : Int} {v w x y : V} {QB : Bool → Hp → Prop} {te ta tb : TE} {tl : TA}
theorem rd_lenL (hA : At H L) (m : (a, HO.lst xs) ∈ L) (k : Q (.int xs.length) H) : rLenQ K [.ref a] H Q := ⟨a, xs, rfl, .inl (SqL.of (hA.rd m)), k⟩
theorem rd_lenT (hA : At H L) (m : (a, HO.tup xs) ∈ L) (k : Q (.int xs.length) H) : rLenQ K [.ref a] H Q := ⟨a, xs, rfl, .inr (SqT.of (hA.rd m)), k⟩
theorem rd_lenK (h : SqL K H a xs) (k : Q (.int xs.length) H) : rLenQ K [.ref a] H Q := ⟨a, xs, rfl, .inl h, k⟩
theorem rd_lenS {z : Str} (h : z.length ≤ 100000) (k : Q (.int z.length) H) : rLenS [.str z] H Q := ⟨z, rfl, Nat.le_trans h (by decide), k⟩
theorem rd_abs (k : Q (.int (if i < 0 then -i else i)) H) : rAbs [.int i] H Q := ⟨i, rfl, k⟩
theorem rd_min2 (k : Q (.int (if j < i then j else i)) H) : rMin2 [.int i, .int j] H Q := ⟨i, j, rfl, k⟩
theorem rd_max2 (k : Q (.int (if j > i then j else i)) H) : rMax2 [.int i, .int j] H Q := ⟨i, j, rfl, k⟩
theorem rd_intI (k : Q (.int i) H) : rInt1 [.int i] H Q := .inl ⟨i, rfl, k⟩
theorem rd_intB {c : Bool} (k : Q (.int (if c then 1 else 0)) H) : rInt1 [.bl c] H Q := .inr ⟨c, rfl, k⟩
theorem rd_listL (hA : At H L) (m : (a, HO.lst xs) ∈ L) (k : ∀ p H', At H' ((p, .lst xs) :: L) → Q (.ref p) H') : rList K [.ref a] H Q := ⟨a, xs, rfl, .inl (SqL.of (hA.rd m)), fun p hp => k p _ (hA.new hp)⟩
theorem rd_listT (hA : At H L) (m : (a, HO.tup xs) ∈ L) (k : ∀ p H', At H' ((p, .lst xs) :: L) → Q (.ref p) H') : rList K [.ref a] H Q := ⟨a, xs, rfl, .inr (SqT.of (hA.rd m)), fun p hp => k p _ (hA.new hp)⟩
theorem rd_tupleL (hA : At H L) (m : (a, HO.lst xs) ∈ L) (k : ∀ p H', At H' ((p, .tup xs) :: L) → Q (.ref p) H') : rTuple K [.ref a] H Q := ⟨a, xs, rfl, .inl ⟨SqL.of (hA.rd m), fun p hp => k p _ (hA.new hp)⟩⟩
theorem rd_tupleT (hA : At H L) (m : (a, HO.tup xs) ∈ L) (k : Q (.ref a) H) : rTuple K [.ref a] H Q := ⟨a, xs, rfl, .inr ⟨SqT.of (hA.rd m), k⟩⟩
theorem rd_ixL (hA : At H L) (m : (a, HO.lst xs) ∈ L) (h : atI xs i = some v) (k : Q v H) : rIxL K (.ref a) (.int i) H Q := ⟨a, xs, i, v, rfl, rfl, SqL.of (hA.rd m), h, k⟩
theorem rd_ixT (hA : At H L) (m : (a, HO.tup xs) ∈ L) (h : atI xs i = some v) (k : Q v H) : rIxT K (.ref a) (.int i) H Q := ⟨a, xs, i, v, rfl, rfl, SqT.of (hA.rd m), h, k⟩
theorem atI_of {α : Type} {xs : List α} {i : Int} {v : α} (h0 : 0 ≤ i) (e : xs[i.toNat]? = some v) : atI xs i = some v := by
  have hl := (List.getElem?_eq_some_iff.mp e).1
  unfold atI ixN
  rw [if_pos h0, if_pos (by omega)]
  exact e
theorem rd_ixLi (hA : At H L) (m : (a, HO.lst xs) ∈ L) (h0 : 0 ≤ i) (h1 : i.toNat < xs.length) (k : ∀ v, xs[i.toNat]? = some v → Q v H) : rIxL K (.ref a) (.int i) H Q :=
  ⟨a, xs, i, xs[i.toNat], rfl, rfl, SqL.of (hA.rd m), atI_of h0 (List.getElem?_eq_getElem h1), k _ (List.getElem?_eq_getElem h1)⟩
theorem rd_ixLm {α : Type} {f : α → V} {zs : List α} (hA : At H L) (m : (a, HO.lst (zs.map f)) ∈ L) (h0 : 0 ≤ i) (h1 : i < zs.length) (k : ∀ z, zs[i.toNat]? = some z → Q (f z) H) : rIxL K (.ref a) (.int i) H Q := by
  refine rd_ixLi hA m h0 (by rw [List.length_map]; omega) fun v e => ?_
  rw [List.getElem?_map] at e
  cases q : zs[i.toNat]? with
  | none => rw [q] at e; cases e
  | some z =>
    rw [q] at e
    cases e
    exact k z q
theorem rd_ixLz {zs : List Int} (hA : At H L) (m : (a, HO.lst (zs.map V.int)) ∈ L) (h0 : 0 ≤ i) (h1 : i < zs.length) (k : ∀ z, z ∈ zs → Q (.int z) H) : rIxL K (.ref a) (.int i) H Q :=
  rd_ixLm hA m h0 h1 fun z e => k z (List.mem_of_getElem? e)
theorem rd_ixLk {α : Type} {f : α → V} {zs : List α} (h : SqL K H a (zs.map f)) (h0 : 0 ≤ i) (h1 : i < zs.length) (k : ∀ z, zs[i.toNat]? = some z → Q (f z) H) : rIxL K (.ref a) (.int i) H Q := by
  have hl : i.toNat < zs.length := by omega
  refine ⟨a, zs.map f, i, f zs[i.toNat], rfl, rfl, h, atI_of h0 ?_, k _ (List.getElem?_eq_getElem hl)⟩
  rw [List.getElem?_map, List.getElem?_eq_getElem hl]
  rfl
theorem rd_setL {R : Hp → Prop} {n : Nat} (hA : At H ((a, HO.lst xs) :: F)) (h : ixN xs.length i = some n) (k : ∀ H', At H' ((a, .lst (xs.set n v)) :: F) → R H') : rSetL (.ref a) (.int i) v H R :=
  ⟨a, xs, i, n, rfl, rfl, hA.rd (.head _), h, k _ (hA.upd rfl)⟩
theorem rd_setLi {R : Hp → Prop} (hA : At H ((a, HO.lst xs) :: F)) (h0 : 0 ≤ i) (h1 : i < xs.length) (k : ∀ H', At H' ((a, .lst (xs.set i.toNat v)) :: F) → R H') : rSetL (.ref a) (.int i) v H R :=
  rd_setL hA (by unfold ixN; rw [if_pos h0, if_pos h1]) k
def BmK (K : PySem.W.Frag) (T : String) (x : V) (H : Hp) (P : Hp → Prop) : Prop := tyV K T x H ∧ P H
theorem rd_BM {T : String} {r : V → List V → Hp → VK → Prop} (k : ta σ H fun x H1 => BmK K T x H1 fun H1 => tl σ H1 fun xs H2 => r x xs H2 Q) : tBM K T r ta tl σ H Q := k
theorem rd_BM0 {T : String} {r : V → List V → Hp → VK → Prop} (k : ta σ H fun x H1 => BmK K T x H1 fun H1 => r x [] H1 Q) : tBM0 K T r ta σ H Q := k
theorem rd_bmL {P : Hp → Prop} (hA : At H L) (m : (a, HO.lst xs) ∈ L) (k : P H) : BmK K "list" (.ref a) H P := ⟨.inl ⟨rfl, xs, SqL.of (hA.rd m)⟩, k⟩
theorem rd_append (hA : At H ((a, HO.lst xs) :: F)) (hl : xs.length < 100000) (k : ∀ H', At H' ((a, .lst (xs ++ [v])) :: F) → Q .non H') : rAppend (.ref a) [v] H Q :=
  ⟨a, xs, v, rfl, rfl, hA.rd (.head _), Nat.lt_of_lt_of_le hl (by decide), k _ (hA.upd rfl)⟩
theorem rd_insert (hA : At H ((a, HO.lst xs) :: F)) (hl : xs.length < 100000) (h0 : 0 ≤ i) (h1 : i < 2 ^ 63) (k : ∀ H', At H' ((a, .lst (xs.take i.toNat ++ [v] ++ xs.drop i.toNat)) :: F) → Q .non H') : rInsert (.ref a) [.int i, v] H Q :=
  ⟨a, xs, i, v, rfl, rfl, hA.rd (.head _), Nat.lt_of_lt_of_le hl (by decide), h0, h1, k _ (hA.upd rfl)⟩
theorem seqIndex_nn {n : Nat} (h0 : 0 ≤ i) (h1 : i < n) : seqIndex? i n = some i.toNat := by
  unfold seqIndex?
  have e1 : ¬ i < 0 := by omega
  simp [e1]
  omega
theorem rd_popAt (hA : At H ((a, HO.lst xs) :: F)) (h0 : 0 ≤ i) (h1 : i < xs.length) (h2 : xs.length ≤ 100000) (k : ∀ v H', xs[i.toNat]? = some v → At H' ((a, .lst (xs.eraseIdx i.toNat)) :: F) → Q v H') : rPopAt (.ref a) [.int i] H Q := by
  have hl : i.toNat < xs.length := by omega
  exact ⟨a, xs, i, i.toNat, xs[i.toNat], rfl, rfl, hA.rd (.head _), by omega, by omega, seqIndex_nn h0 h1, List.getElem?_eq_getElem hl, k _ _ (List.getElem?_eq_getElem hl) (hA.upd rfl)⟩
theorem rd_reverse (hA : At H ((a, HO.lst xs) :: F)) (k : ∀ H', At H' ((a, .lst xs.reverse) :: F) → Q .non H') : rReverse (.ref a) [] H Q := ⟨a, xs, rfl, rfl, hA.rd (.head _), k _ (hA.upd rfl)⟩
theorem rd_rep (hA : At H L) (m : (a, HO.lst xs) ∈ L) (h0 : 0 ≤ i) (h1 : i < 100000) (hl : xs.length ≤ 100) (k : ∀ p H', At H' ((p, .lst (List.replicate i.toNat xs).flatten) :: L) → Q (.ref p) H') : rRep (.ref a) (.int i) H Q := by
  refine ⟨a, i, xs, rfl, rfl, hA.rd m, by omega, by omega, ?_, fun p hp => k p _ (hA.new hp)⟩
  have : xs.length * i.toNat ≤ 100 * 100000 := Nat.mul_le_mul hl (by omega)
  rw [sizeLine_eq]
  omega
theorem rd_cat (hA : At H L) (m : (a, HO.lst xs) ∈ L) (m' : (b, HO.lst ys) ∈ L) (hl : xs.length + ys.length ≤ 100000) (k : ∀ p H', At H' ((p, .lst (xs ++ ys)) :: L) → Q (.ref p) H') : rCat (.ref a) (.ref b) H Q :=
  ⟨a, b, xs, ys, rfl, rfl, hA.rd m, hA.rd m', Nat.le_trans hl (by decide), fun p hp => k p _ (hA.new hp)⟩
theorem erase_map {α β : Type} (f : α → β) : ∀ (l : List α) (n : Nat), (l.map f).eraseIdx n = (l.eraseIdx n).map f
  | [], _ => rfl
  | _ :: _, 0 => rfl
  | x :: r, n + 1 => congrArg (f x :: ·) (erase_map f r n)
theorem rd_popAtm {α : Type} {f : α → V} {zs : List α} (hA : At H ((a, HO.lst (zs.map f)) :: F)) (h0 : 0 ≤ i) (h1 : i < zs.length) (h2 : zs.length ≤ 100000) (k : ∀ z H', zs[i.toNat]? = some z → At H' ((a, .lst ((zs.eraseIdx i.toNat).map f)) :: F) → Q (f z) H') : rPopAt (.ref a) [.int i] H Q := by
  refine rd_popAt hA h0 (by rw [List.length_map]; exact h1) (by rw [List.length_map]; exact h2) fun v H' e hA' => ?_
  rw [List.getElem?_map] at e
  cases q : zs[i.toNat]? with
  | none => rw [q] at e; cases e
  | some z =>
    rw [q] at e
    cases e
    rw [erase_map] at hA'
    exact k z H' q hA'
theorem rd_appendS {x : Str} {zs : List Str} (hA : At H ((a, HO.lst (zs.map V.str)) :: F)) (hl : zs.length < 100000) (k : ∀ H', At H' ((a, .lst ((zs ++ [x]).map V.str)) :: F) → Q .non H') : rAppend (.ref a) [.str x] H Q :=
  rd_append hA (by rw [List.length_map]; exact hl) fun H' h => k H' (by rw [List.map_append]; exact h)
theorem rd_appendI {x : Int} {zs : List Int} (hA : At H ((a, HO.lst (zs.map V.int)) :: F)) (hl : zs.length < 100000) (k : ∀ H', At H' ((a, .lst ((zs ++ [x]).map V.int)) :: F) → Q .non H') : rAppend (.ref a) [.int x] H Q :=
  rd_append hA (by rw [List.length_map]; exact hl) fun H' h => k H' (by rw [List.map_append]; exact h)
theorem rd_setLI {R : Hp → Prop} {x : Int} {zs : List Int} (hA : At H ((a, HO.lst (zs.map V.int)) :: F)) (h0 : 0 ≤ i) (h1 : i < zs.length) (k : ∀ H', At H' ((a, .lst ((zs.set i.toNat x).map V.int)) :: F) → R H') : rSetL (.ref a) (.int i) (.int x) H R :=
  rd_setLi hA h0 (by rw [List.length_map]; exact h1) fun H' h => k H' (by rw [List.map_set]; exact h)
def M1K (x : V) (H : Hp) (P : Hp → Prop) : Prop := (∃ a, x = .str a) ∧ P H
theorem rd_M1 {r : V → List V → Hp → VK → Prop} (k : ta σ H fun x H1 => M1K x H1 fun H1 => te σ H1 fun y H2 => r x [y] H2 Q) : tM1 r ta te σ H Q := k
theorem rd_M0 {r : V → List V → Hp → VK → Prop} (k : ta σ H fun x H1 => M1K x H1 fun H1 => r x [] H1 Q) : tM0 r ta σ H Q := k
theorem rd_m1k {P : Hp → Prop} {z : Str} (k : P H) : M1K (.str z) H P := ⟨⟨z, rfl⟩, k⟩
theorem rd_split {x y : Str} (hA : At H L) (h1 : (y.length == 0) = false) (h2 : x.length ≤ 100000) (k : ∀ p H', At H' ((p, .lst ((Txt.split x y).map V.str)) :: L) → Q (.ref p) H') : rSplit (.str x) [.str y] H Q :=
  ⟨x, y, rfl, rfl, h1, by rw [sizeLine_eq]; omega, fun p hp => k p _ (hA.new hp)⟩
theorem pe_splitW {X : Cx} {o e : Expr} {to te : TE} {apos pos : Pos} (ho : PE X o to) (he : PE X e te) (hs : starEach [e] X.env = [(false, eval e X.env)] := by rfl) (hbase : attributeBase o "split" X.env (eval o X.env) = eval o X.env := by rfl) (hline : (apos.endLine == pos.line) = true := by rfl) :
    PE X (.Call (.Attribute o "split" apos) [e] [] pos) (tM1 rSplit to te) := pe_split ho he hs hbase hline
def SlK (r : V → Option Int → Option Int → Hp → VK → Prop) (x : V) (l u : Option Int) (H : Hp) (Q : VK) : Prop := r x l u H Q
theorem rd_sl {r : V → Option Int → Option Int → Hp → VK → Prop} {tlo thi : TO} (k : te σ H fun x H1 => tlo σ H1 fun l H2 => thi σ H2 fun u H3 => SlK r x l u H3 Q) : tSl r te tlo thi σ H Q := k
theorem rd_noPart {Q : Option Int → Hp → Prop} (k : Q none H) : tNoPart σ H Q := k
def PartK (x : V) (H : Hp) (Q : Option Int → Hp → Prop) : Prop := ∃ i, x = .int i ∧ Q (some i) H
theorem rd_part {Q : Option Int → Hp → Prop} (k : te σ H fun x H1 => PartK x H1 Q) : tPart te σ H Q := k
theorem rd_partK {Q : Option Int → Hp → Prop} (k : Q (some i) H) : PartK (.int i) H Q := ⟨i, rfl, k⟩
theorem rd_slL {l u : Option Int} (hA : At H L) (m : (a, HO.lst xs) ∈ L) (k : ∀ p H', At H' ((p, .lst (cutV xs l u)) :: L) → Q (.ref p) H') : SlK (rSlL K) (.ref a) l u H Q :=
  ⟨a, xs, rfl, SqL.of (hA.rd m), fun p hp => k p _ (hA.new hp)⟩
theorem rd_eqP {α : Type} {i1 : DecidableEq α} {i2 : Datum α} {x y : α} (hd : Datum.depth α ≤ 60) (hA : At H L) (h1 : Is L v x) (h2 : Is L w y) (k : Q (.bl (decide (x = y))) H) : rEqP K v w H Q :=
  ⟨_, _, Rp.dp hA h1, Rp.dp hA h2, Datum.plain x, Datum.plain y, Nat.le_trans (Datum.depth_le x) hd, by rw [Datum.eqv]; exact k⟩
theorem rd_neP {α : Type} {i1 : DecidableEq α} {i2 : Datum α} {x y : α} (hd : Datum.depth α ≤ 60) (hA : At H L) (h1 : Is L v x) (h2 : Is L w y) (k : Q (.bl (!decide (x = y))) H) : rNeP K v w H Q :=
  ⟨_, _, Rp.dp hA h1, Rp.dp hA h2, Datum.plain x, Datum.plain y, Nat.le_trans (Datum.depth_le x) hd, by rw [Datum.eqv]; exact k⟩
theorem rd_inP {α : Type} {i1 : DecidableEq α} {i2 : Datum α} {x : α} {zs : List α} (hd : Datum.depth α ≤ 60) (hA : At H L) (h1 : Is L v x) (h2 : Is L w zs) (k : Q (.bl (decide (x ∈ zs))) H) : rInP K v w H Q :=
  ⟨_, _, Rp.dp hA h1, .inl (Rp.dp hA h2), Datum.plain x, plainAll_map zs, Nat.le_trans (Datum.depth_le x) hd, by rw [any_datum]; exact k⟩
theorem rd_ninP {α : Type} {i1 : DecidableEq α} {i2 : Datum α} {x : α} {zs : List α} (hd : Datum.depth α ≤ 60) (hA : At H L) (h1 : Is L v x) (h2 : Is L w zs) (k : Q (.bl (!decide (x ∈ zs))) H) : rNinP K v w H Q :=
  ⟨_, _, Rp.dp hA h1, .inl (Rp.dp hA h2), Datum.plain x, plainAll_map zs, Nat.le_trans (Datum.depth_le x) hd, by rw [any_datum]; exact k⟩
theorem eqV_str (x y : Str) : eqV (.str x) (.str y) = decide (x = y) := by
  first | rfl | (simp [eqV]) | (show (x == y) = _; simp)
theorem inV_strs (x : Str) (zs : List Str) : inV (.str x) (zs.map V.str) = decide (x ∈ zs) := by
  unfold inV
  rw [List.any_map]
  rw [Bool.eq_iff_iff, List.any_eq_true, decide_eq_true_eq]
  constructor
  · rintro ⟨y, m, e⟩
    have e : eqV (.str y) (.str x) = true := e
    rw [eqV_str, decide_eq_true_eq] at e
    rw [← e]
    exact m
  · intro m
    exact ⟨x, m, by show eqV (.str x) (.str x) = true; rw [eqV_str, decide_eq_true_eq]⟩
theorem flat_strs (zs : List Str) : (zs.map V.str).all flatV = true := by
  rw [List.all_map]
  exact List.all_eq_true.mpr fun _ _ => rfl
theorem rd_inLs {x : Str} {zs : List Str} (hA : At H L) (m : (a, HO.lst (zs.map V.str)) ∈ L) (k : Q (.bl (decide (x ∈ zs))) H) : rIn K false (.str x) (.ref a) H Q :=
  ⟨a, zs.map V.str, rfl, .inl (SqL.of (hA.rd m)), rfl, flat_strs zs, by show Q (.bl (inV (.str x) (zs.map V.str))) H; rw [inV_strs]; exact k⟩
theorem rd_inTs {x : Str} {zs : List Str} (hA : At H L) (m : (a, HO.tup (zs.map V.str)) ∈ L) (k : Q (.bl (decide (x ∈ zs))) H) : rIn K false (.str x) (.ref a) H Q :=
  ⟨a, zs.map V.str, rfl, .inr (SqT.of (hA.rd m)), rfl, flat_strs zs, by show Q (.bl (inV (.str x) (zs.map V.str))) H; rw [inV_strs]; exact k⟩
theorem rd_ninLs {x : Str} {zs : List Str} (hA : At H L) (m : (a, HO.lst (zs.map V.str)) ∈ L) (k : Q (.bl (!decide (x ∈ zs))) H) : rIn K true (.str x) (.ref a) H Q :=
  ⟨a, zs.map V.str, rfl, .inl (SqL.of (hA.rd m)), rfl, flat_strs zs, by show Q (.bl (!inV (.str x) (zs.map V.str))) H; rw [inV_strs]; exact k⟩
theorem rd_inS {c : Nat} {z : Str} (k : Q (.bl (decide (c ∈ z.cps.toList))) H) : rInS (.str ⟨#[c]⟩) (.str z) H Q := ⟨c, z, rfl, rfl, k⟩
theorem rd_isN (k : Q (.bl (decide (x = .non))) H) : rIsN x .non H Q := ⟨rfl, k⟩
theorem rd_notN (k : Q (.bl (!decide (x = .non))) H) : rNotN x .non H Q := ⟨rfl, k⟩
def Loop (J : It) (g : TG) (tb : TS) (D : Ends) (σ : L2.St) (H : Hp) : Prop := ∃ W : Nat → Nat → L2.St → Hp → Prop, (∃ m, W 0 m σ H) ∧ ∀ i m σ H, W i m σ H →
      (J.stop i H ∧ D.nx σ H) ∨ (J.go i H ∧ ∃ N : L2.St → Hp → Prop, (∀ σ' H', N σ' H' → ∃ m', m' < m ∧ W (i + 1) m' σ' H') ∧ ∀ x H', J.yld i H x H' → g x σ H' fun σ2 H2 => tb { D with nx := N, ct := N, bk := D.nx } σ2 H2)
theorem rd_for {wi : TI} {g : TG} {tb : TS} (k : wi σ H fun J H1 => Loop J g tb D σ H1) : tFor wi g tb D σ H := k
def ILK (K : PySem.W.Frag) (x : V) (H : Hp) (R : It → Hp → Prop) : Prop := ∃ a, x = .ref a ∧ (∃ xs, SqL K H a xs) ∧ R (Itl K a) H
theorem rd_iList {R : It → Hp → Prop} (k : te σ H fun x H1 => ILK K x H1 R) : iList K te σ H R := k
theorem rd_ilk {R : It → Hp → Prop} (hA : At H L) (m : (a, HO.lst xs) ∈ L) (k : R (Itl K a) H) : ILK K (.ref a) H R := ⟨a, rfl, ⟨xs, SqL.of (hA.rd m)⟩, k⟩
theorem rd_ilkK {R : It → Hp → Prop} (h : SqL K H a xs) (k : R (Itl K a) H) : ILK K (.ref a) H R := ⟨a, rfl, ⟨xs, h⟩, k⟩
def IRK (vs : List V) (H : Hp) (R : It → Hp → Prop) : Prop := ∃ j : Int, vs = [.int j] ∧ -(2 ^ 62) ≤ j ∧ j < 2 ^ 62 ∧ R (Itr 0 j.toNat) H
theorem rd_iRng1 {R : It → Hp → Prop} (k : tl σ H fun vs H1 => IRK vs H1 R) : iRng1 tl σ H R := k
theorem rd_irk {R : It → Hp → Prop} (h : -1000000000 ≤ j ∧ j < 1000000000) (k : R (Itr 0 j.toNat) H) : IRK [.int j] H R := ⟨j, rfl, by omega, by omega, k⟩
theorem loop_list {g : TG} {tb : TS} (Pv : Nat → L2.St → Hp → Prop) (h0 : Pv 0 σ H) (hl : ∀ i σ H, i ≤ xs.length → Pv i σ H → SqL K H a xs)
    (hs : ∀ i x σ H, xs[i]? = some x → Pv i σ H → g x σ H fun σ2 H2 => tb { D with nx := Pv (i + 1), ct := Pv (i + 1), bk := D.nx } σ2 H2) (hd : ∀ σ H, Pv xs.length σ H → D.nx σ H) : Loop (Itl K a) g tb D σ H :=
  for_list Pv h0 hl hs hd
theorem loop_map {α : Type} {f : α → V} {zs : List α} {g : TG} {tb : TS} (Pv : Nat → L2.St → Hp → Prop) (h0 : Pv 0 σ H) (hl : ∀ i σ H, Pv i σ H → SqL K H a (zs.map f))
    (hs : ∀ i z σ H, zs[i]? = some z → Pv i σ H → g (f z) σ H fun σ2 H2 => tb { D with nx := Pv (i + 1), ct := Pv (i + 1), bk := D.nx } σ2 H2) (hd : ∀ σ H, Pv zs.length σ H → D.nx σ H) : Loop (Itl K a) g tb D σ H := by
  refine loop_list (xs := zs.map f) Pv h0 (fun i σ H _ h => hl i σ H h) (fun i x σ H e h => ?_) (fun σ H h => hd σ H (by rw [List.length_map] at h; exact h))
  rw [List.getElem?_map] at e
  cases q : zs[i]? with
  | none => rw [q] at e; cases e
  | some z =>
    rw [q] at e
    cases e
    exact hs i z σ H q h
theorem loop_iss {α : Type} [DecidableEq α] [Datum α] {zs : List α} {vs : List V} {W : List Cell} {g : TG} {tb : TS} (hI : Iss W vs zs) (Pv : Nat → L2.St → Hp → Prop) (h0 : Pv 0 σ H) (hl : ∀ i σ H, Pv i σ H → SqL K H a vs)
    (hs : ∀ i v z σ H, zs[i]? = some z → Is W v z → Pv i σ H → g v σ H fun σ2 H2 => tb { D with nx := Pv (i + 1), ct := Pv (i + 1), bk := D.nx } σ2 H2) (hd : ∀ σ H, Pv zs.length σ H → D.nx σ H) : Loop (Itl K a) g tb D σ H := by
  refine loop_list (xs := vs) Pv h0 (fun i σ H _ h => hl i σ H h) (fun i x σ H e h => ?_) (fun σ H h => hd σ H (by rw [hI.len] at h; exact h))
  obtain ⟨z, e2, hz⟩ := hI.at e
  exact hs i x z σ H e2 hz h
theorem loop_range {g : TG} {tb : TS} {n : Nat} (Pv : Nat → L2.St → Hp → Prop) (h0 : Pv 0 σ H)
    (hs : ∀ i σ H, i < n → Pv i σ H → g (.int (i : Nat)) σ H fun σ2 H2 => tb { D with nx := Pv (i + 1), ct := Pv (i + 1), bk := D.nx } σ2 H2) (hd : ∀ σ H, Pv n σ H → D.nx σ H) : Loop (Itr 0 n) g tb D σ H :=
  for_range Pv h0 (fun i σ H hi hp => by
    have e : (0 : Int) + (i : Nat) = (i : Nat) := Int.zero_add _
    rw [e]
    exact hs i σ H hi hp) hd
end
section
variable {P : Program} {w : World} {K : PySem.W.Frag} {mg : Str → Option Value} {base : Heap}
structure Fn (K : PySem.W.Frag) (mg : Str → Option Value) (x : Str) (st : Stmt) : Prop where
  ex : ∃ f fd, mg x = some (.ref f) ∧ FunD K x x (defArgs st) (defBody st) (defScope st) [] [] f fd
structure Cal (P : Program) (w : World) (K : PySem.W.Frag) (mg : Str → Option Value) (base : Heap) (x : Str) (k : Nat) (ps : List Str) (sp : Sp) : Prop where
  ex : ∃ f fd, mg x = some (.ref f) ∧ PySem.W.keepIn K (.ref f) = true ∧ Binds K fd ps [] ∧ FnOk P w K mg base CX0 k f fd ps sp
theorem Fn.cal {x : Str} {st : Stmt} {N ps : List Str} {k : Nat} {sp : Sp} (F : Fn K mg x st) (S : FnScope N ps (defScope st))
    (hb : ∀ (kV doc pm : Value) (an : Option Addr) (cdv ct : Value) (us : List Value), us.length = ps.length → bindArgs (PySem.W.fnOf x x (defArgs st) (defBody st) (defScope st) .none kV doc pm an cdv ct) ⟨us, []⟩ = pure (ps.zip us))
    (len : ∀ vs H Q E, sp vs H Q E → vs.length = ps.length)
    (hbody : ∀ (f : Addr) (cdv : Value) (A : Around) (outer : List Env) (s : Shared) (H : Hp) (vs : List V) (Q : VK) (E : XK), Room k (A.deeper (PyProof.Rows.envOfC x (defScope st) s.heap.objs.size f cdv)) → sp vs H Q E →
      ∃ t, PSs (cxOf CX0 P w K mg base N x (defScope st) f cdv A outer s H E).nox (defBody st) t ∧ t { nx := fun _ H' => Q .non H', rt := Q } (start N vs) H) : Cal P w K mg base x (k + 1) ps sp := by
  obtain ⟨f, fd, hm, hF⟩ := F.ex
  refine ⟨f, fd, hm, hF.kp, hF.bindsN hb, hF.ok S len fun cdv A outer s H vs Q E hr hs => ?_⟩
  obtain ⟨t, h, q⟩ := hbody f cdv A outer s H vs Q E hr hs
  exact ⟨t, h.nox, q⟩
end
end Sw

namespace Sw
open PySem L2 PySem.W
def srt {α : Type} [DecidableEq α] [DatumOrd α] (xs : List α) : List α := xs.mergeSort fun a b => !DatumOrd.lt b a
theorem dataLe_toD {α : Type} [DecidableEq α] [DatumOrd α] : dataLe false (Datum.toD : α → PyData) = fun a b => !DatumOrd.lt b a := by
  rw [dataLe_eq]
  funext a b
  show (!dataLt (Datum.toD b) (Datum.toD a)) = _
  rw [DatumOrd.lt_eq]
theorem srt_perm {α : Type} [DecidableEq α] [DatumOrd α] (xs : List α) : (srt xs).Perm xs := List.mergeSort_perm _ _
theorem srt_len {α : Type} [DecidableEq α] [DatumOrd α] (xs : List α) : (srt xs).length = xs.length := (srt_perm xs).length_eq
theorem srt_mem {α : Type} [DecidableEq α] [DatumOrd α] {xs : List α} {x : α} : x ∈ srt xs ↔ x ∈ xs := (srt_perm xs).mem_iff
theorem srt_nodup {α : Type} [DecidableEq α] [DatumOrd α] {xs : List α} : (srt xs).Nodup ↔ xs.Nodup := (srt_perm xs).nodup_iff
theorem zip_map_self {α β γ : Type} (f : α → β) (g : α → γ) : ∀ xs : List α, (xs.map f).zip (xs.map g) = xs.map fun x => (f x, g x)
  | [] => rfl
  | x :: r => congrArg (_ :: ·) (zip_map_self f g r)
section
variable {X : Cx} {K : PySem.W.Frag} {σ : L2.St} {H : Hp} {Q : VK} {D : Ends} {L F : List Cell} {a b p : Addr} {xs ys : List V} {i j : Int} {v w x y : V} {te ta tb : TE} {tl : TA} {R : L2.St → Hp → Prop}
theorem rd_srtF {α : Type} {i1 : DecidableEq α} {i2 : DatumOrd α} {f : α → V} {zs : List α} (hA : At H L) (m : (a, HO.lst (zs.map f)) ∈ L) (hf : ∀ z ∈ zs, Rp L (f z) (Datum.toD z)) (hk : Sortable (zs.map Datum.toD)) (hd : Datum.depth α ≤ 60)
    (k : ∀ p H', At H' ((p, .lst ((srt zs).map f)) :: L) → Q (.ref p) H') : rSrt K [.ref a] H Q := by
  have hall : DpAll K H (zs.map f) (zs.map Datum.toD) := by
    have : ∀ us : List α, (∀ z ∈ us, Rp L (f z) (Datum.toD z)) → RpAll L (us.map f) (us.map Datum.toD) := by
      intro us
      induction us with
      | nil => intro _; exact .nil
      | cons u r ih => intro h; exact .cons (h u (.head _)) (ih fun z m => h z (.tail _ m))
    exact RpAll.dp hA (this zs hf)
  refine ⟨a, zs.map f, zs.map Datum.toD, rfl, SqL.of (hA.rd m), hall, AllAlike.of DatumOrd.alike, hk, fun d hd' => ?_, fun p hp => ?_⟩
  · obtain ⟨z, _, rfl⟩ := List.mem_map.mp hd'
    exact Nat.le_trans (Datum.depth_le z) hd
  · have e : (((zs.map f).zip (zs.map Datum.toD)).mergeSort (dataLe false (fun z : V × PyData => z.2))).map Prod.fst = (srt zs).map f := by
      rw [zip_map_self]
      have e2 := mergeSort_zip f (Datum.toD : α → PyData) (fun d e => dataLe false (fun d : PyData => d) d e) zs
      have e3 : (dataLe false (fun z : V × PyData => z.2)) = fun a b : V × PyData => dataLe false (fun d : PyData => d) a.2 b.2 := rfl
      rw [e3, e2]
      have e4 : (fun a b : α => dataLe false (fun d : PyData => d) (Datum.toD a) (Datum.toD b)) = fun a b => !DatumOrd.lt b a := by
        rw [← dataLe_toD]
        rfl
      rw [e4]
      rfl
    rw [e]
    exact k p _ (hA.new hp)
theorem srtb_strs (zs : List Str) : Sortable (zs.map Datum.toD) := Sortable.others fun b => ⟨fun e => (by cases e), fun _ e => (by cases e)⟩
theorem srtb_ints (zs : List Int) : Sortable (zs.map Datum.toD) := Sortable.others fun b => ⟨fun e => (by cases e), fun _ e => (by cases e)⟩
theorem srtb_pairs {α β : Type} [DecidableEq α] [Datum α] [DecidableEq β] [Datum β] (zs : List (α × β)) : Sortable (zs.map Datum.toD) := Sortable.tuples fun b => ⟨_, _, rfl⟩
theorem srtb_lists {α : Type} [DecidableEq α] [Datum α] (zs : List (List α)) : Sortable (zs.map Datum.toD) := Sortable.others fun b => ⟨fun e => (by cases e), fun _ e => (by cases e)⟩
theorem rd_srtS {zs : List Str} (hA : At H L) (m : (a, HO.lst (zs.map V.str)) ∈ L) (k : ∀ p H', At H' ((p, .lst ((srt zs).map V.str)) :: L) → Q (.ref p) H') : rSrt K [.ref a] H Q :=
  rd_srtF hA m (fun z _ => .str z) (srtb_strs zs) (by decide) k
theorem rd_srtI {zs : List Int} (hA : At H L) (m : (a, HO.lst (zs.map V.int)) ∈ L) (k : ∀ p H', At H' ((p, .lst ((srt zs).map V.int)) :: L) → Q (.ref p) H') : rSrt K [.ref a] H Q :=
  rd_srtF hA m (fun z _ => .int z) (srtb_ints zs) (by decide) k
theorem rpAll_zip : ∀ {vs : List V} {ds : List PyData}, RpAll L vs ds → ∀ z ∈ vs.zip ds, Rp L z.1 z.2
  | _, _, .nil, _, m => nomatch m
  | _, _, .cons h r, z, m => by
    rcases List.mem_cons.mp m with rfl | m
    · exact h
    · exact rpAll_zip r z m
theorem zip_rpAll : ∀ {zs : List (V × PyData)}, (∀ z ∈ zs, Rp L z.1 z.2) → RpAll L (zs.map Prod.fst) (zs.map Prod.snd)
  | [], _ => .nil
  | z :: r, h => .cons (h z (.head _)) (zip_rpAll fun y m => h y (.tail _ m))
theorem rd_srtD {α : Type} {i1 : DecidableEq α} {i2 : DatumOrd α} {zs : List α} (hA : At H L) (m : (a, HO.lst xs) ∈ L) (hI : Iss L xs zs) (hk : Sortable (zs.map Datum.toD)) (hd : Datum.depth α ≤ 60)
    (k : ∀ p vs H', At H' ((p, .lst vs) :: L) → Iss L vs (srt zs) → vs.Perm xs → Q (.ref p) H') : rSrt K [.ref a] H Q := by
  refine ⟨a, xs, zs.map Datum.toD, rfl, SqL.of (hA.rd m), RpAll.dp hA hI, AllAlike.of DatumOrd.alike, hk, fun d hd' => ?_, fun p hp => ?_⟩
  · obtain ⟨z, _, rfl⟩ := List.mem_map.mp hd'
    exact Nat.le_trans (Datum.depth_le z) hd
  · refine k p _ _ (hA.new hp) ?_ ?_
    · have hz := rpAll_zip hI
      have pm := List.mergeSort_perm (xs.zip (zs.map Datum.toD)) (dataLe false (fun z : V × PyData => z.2))
      have r := zip_rpAll (L := L) (zs := (xs.zip (zs.map Datum.toD)).mergeSort (dataLe false (fun z : V × PyData => z.2))) fun z m => hz z (pm.mem_iff.mp m)
      have e : ((xs.zip (zs.map Datum.toD)).mergeSort (dataLe false (fun z : V × PyData => z.2))).map Prod.snd = (srt zs).map Datum.toD := by
        have e1 := List.map_mergeSort (r := dataLe false (fun z : V × PyData => z.2)) (s := dataLe false (fun d : PyData => d)) (f := Prod.snd) (l := xs.zip (zs.map Datum.toD)) (fun a _ b _ => rfl)
        rw [e1, map_snd_zip (by rw [List.length_map]; exact hI.len)]
        have e2 := List.map_mergeSort (r := fun a b : α => !DatumOrd.lt b a) (s := dataLe false (fun d : PyData => d)) (f := Datum.toD) (l := zs) (fun a _ b _ => (congrFun (congrFun dataLe_toD a) b).symm)
        exact e2.symm
      rw [e] at r
      exact r
    · have pm := List.mergeSort_perm (xs.zip (zs.map Datum.toD)) (dataLe false (fun z : V × PyData => z.2))
      have := pm.map Prod.fst
      have e3 : (xs.zip (zs.map Datum.toD)).map Prod.fst = xs := by
        rw [List.map_fst_zip]
        rw [List.length_map, hI.len]
        exact Nat.le_refl _
      rw [e3] at this
      exact this
theorem rd_gTup {n : Nat} {t : TGs} (hA : At H L) (m : (a, HO.tup xs) ∈ L) (hl : xs.length = n) (k : t xs σ H R) : gTup K n t (.ref a) σ H R := ⟨a, xs, rfl, SqT.of (hA.rd m), hl, k⟩
theorem rd_gCons {t : TG} {u : TGs} (k : t v σ H fun σ' H' => u xs σ' H' R) : gCons t u (v :: xs) σ H R := ⟨v, xs, rfl, k⟩
theorem rd_gNil (k : R σ H) : gNil [] σ H R := ⟨rfl, k⟩
theorem is_pairS {W : List Cell} {x y : Str} (h : Is W v (x, y)) : ∃ p, v = .ref p ∧ (p, HO.tup [.str x, .str y]) ∈ W := by
  have h' : Rp W v (.tuple [.str x, .str y]) := h
  cases h' with
  | tup m r =>
    cases r with
    | cons r1 r =>
      cases r1
      cases r with
      | cons r2 r =>
        cases r2
        cases r
        exact ⟨_, rfl, m⟩
def Par2 (n m : Nat) (vs : List V) (σ : L2.St) (H : Hp) (R : L2.St → Hp → Prop) : Prop := ∃ v w, vs = [v, w] ∧ R ((σ.set n (some v)).set m (some w)) H
theorem rd_par {n m : Nat} (k : tl σ H fun vs H1 => Par2 n m vs σ H1 D.nx) : tPar n m tl D σ H := k
theorem rd_par2 {n m : Nat} (k : R ((σ.set n (some v)).set m (some w)) H) : Par2 n m [v, w] σ H R := ⟨v, w, rfl, k⟩
theorem rd_indexS {z : Str} {zs : List Str} (hA : At H L) (m : (a, HO.lst (zs.map V.str)) ∈ L) (hz : z ∈ zs) (k : ∀ n : Nat, zs[n]? = some z → n < zs.length → Q (.int (n : Int)) H) : rIndex K (.ref a) [.str z] H Q := by
  obtain ⟨n, hn, e, hno⟩ : ∃ n, ∃ h : n < zs.length, zs[n] = z ∧ ∀ m (h : m < zs.length), m < n → zs[m] ≠ z := by
    refine ⟨zs.idxOf z, List.idxOf_lt_length_of_mem hz, List.getElem_idxOf _, fun m hm hlt e => ?_⟩
    have := List.not_of_lt_findIdx (show m < zs.findIdx (· == z) from hlt)
    simp [e] at this
  refine ⟨a, zs.map V.str, .str z, n, .str z, rfl, rfl, SqL.of (hA.rd m), rfl, flat_strs zs, ?_, by rw [eqV_str]; simp, fun m z' hm e' => ?_, k n (by rw [List.getElem?_eq_getElem hn, e]) hn⟩
  · rw [List.getElem?_map, List.getElem?_eq_getElem hn, e]
    rfl
  · rw [List.getElem?_map] at e'
    cases q : zs[m]? with
    | none => rw [q] at e'; cases e'
    | some u =>
      rw [q] at e'
      cases e'
      obtain ⟨hm2, e2⟩ := List.getElem?_eq_some_iff.mp q
      rw [eqV_str, decide_eq_false_iff_not]
      rw [← e2]
      exact hno m hm2 hm
abbrev nv (n : Nat) : V := V.int (n : Int)
theorem op_shlA : OpR X (binaryOp .LShift) (rI CPow fun i j => .int (i * 2 ^ j.toNat)) := op_shl
theorem bitOr_nat (a b : Nat) : Builtin.bitOr (a : Int) (b : Int) = ((a ||| b : Nat) : Int) := by
  rw [Bits.bitOr_pp (Int.natCast_nonneg _) (Int.natCast_nonneg _), Int.toNat_natCast, Int.toNat_natCast]
theorem shl_nat (a b : Nat) : (a : Int) * (2 : Int) ^ ((b : Int)).toNat = ((a <<< b : Nat) : Int) := by
  rw [Int.toNat_natCast, Nat.shiftLeft_eq]
  rw [Int.natCast_mul]
  congr 1
theorem shl1_nat (b : Nat) : (1 : Int) * (2 : Int) ^ ((b : Int)).toNat = ((1 <<< b : Nat) : Int) := shl_nat 1 b
theorem shr_nat (a b : Nat) : (a : Int) / (2 : Int) ^ ((b : Int)).toNat = ((a >>> b : Nat) : Int) := by
  rw [Int.toNat_natCast, Nat.shiftRight_eq_div_pow]
  simp
theorem bitAnd_nat (a b : Nat) : Builtin.bitAnd (a : Int) (b : Int) = ((a &&& b : Nat) : Int) := by
  show (match decide (0 ≤ (a : Int)), decide (0 ≤ (b : Int)) with
  | true, true => (((a : Int).toNat &&& (b : Int).toNat : Nat) : Int)
  | true, false => (a : Int) - (((a : Int).toNat &&& (Builtin.bitNot b).toNat : Nat) : Int)
  | false, true => (b : Int) - (((b : Int).toNat &&& (Builtin.bitNot a).toNat : Nat) : Int)
  | false, false => Builtin.bitNot (((Builtin.bitNot a).toNat ||| (Builtin.bitNot b).toNat : Nat) : Int)) = _
  rw [decide_eq_true (Int.natCast_nonneg a), decide_eq_true (Int.natCast_nonneg b)]
  rfl
theorem bitAndNot_nat (a b : Nat) : Builtin.bitAnd (a : Int) (Builtin.bitNot (b : Int)) = ((a - (a &&& b) : Nat) : Int) := by
  have hb : ¬ 0 ≤ Builtin.bitNot (b : Int) := by
    show ¬ 0 ≤ -(b : Int) - 1
    omega
  show (match decide (0 ≤ (a : Int)), decide (0 ≤ Builtin.bitNot (b : Int)) with
  | true, true => (((a : Int).toNat &&& (Builtin.bitNot (b : Int)).toNat : Nat) : Int)
  | true, false => (a : Int) - (((a : Int).toNat &&& (Builtin.bitNot (Builtin.bitNot (b : Int))).toNat : Nat) : Int)
  | false, true => (Builtin.bitNot (b : Int)) - (((Builtin.bitNot (b : Int)).toNat &&& (Builtin.bitNot a).toNat : Nat) : Int)
  | false, false => Builtin.bitNot (((Builtin.bitNot a).toNat ||| (Builtin.bitNot (Builtin.bitNot (b : Int))).toNat : Nat) : Int)) = _
  rw [decide_eq_true (Int.natCast_nonneg a), decide_eq_false hb]
  have e : Builtin.bitNot (Builtin.bitNot (b : Int)) = b := by
    show -(-(b : Int) - 1) - 1 = b
    omega
  show (a : Int) - (((a : Int).toNat &&& (Builtin.bitNot (Builtin.bitNot (b : Int))).toNat : Nat) : Int) = _
  rw [e, Int.toNat_natCast, Int.toNat_natCast]
  have := Nat.and_le_left (n := a) (m := b)
  omega
theorem rd_orN {m n : Nat} (k : Q (.int ((m ||| n : Nat) : Int)) H) : rI0 (fun i j => V.int (Builtin.bitOr i j)) (.int (m : Int)) (.int (n : Int)) H Q := rd_I0 (by rw [bitOr_nat]; exact k)
theorem rd_andN {m n : Nat} (k : Q (.int ((m &&& n : Nat) : Int)) H) : rI0 (fun i j => V.int (Builtin.bitAnd i j)) (.int (m : Int)) (.int (n : Int)) H Q := rd_I0 (by rw [bitAnd_nat]; exact k)
theorem rd_andNN {m n : Nat} (k : Q (.int ((m - (m &&& n) : Nat) : Int)) H) : rI0 (fun i j => V.int (Builtin.bitAnd i j)) (.int (m : Int)) (.int (Builtin.bitNot (n : Int))) H Q := rd_I0 (by rw [bitAndNot_nat]; exact k)
theorem rd_andN1 {m : Nat} (k : Q (.int ((m &&& 1 : Nat) : Int)) H) : rI0 (fun i j => V.int (Builtin.bitAnd i j)) (.int (m : Int)) (.int 1) H Q := rd_andN (n := 1) k
theorem rd_shl1N {n : Nat} (hn : n ≤ 1000000) (k : Q (.int ((1 <<< n : Nat) : Int)) H) : rI CPow (fun i j => V.int (i * 2 ^ j.toNat)) (.int 1) (.int (n : Int)) H Q := rd_I ⟨by omega, by omega, by decide⟩ (by rw [shl1_nat]; exact k)
theorem rd_shrN {m n : Nat} (k : Q (.int ((m >>> n : Nat) : Int)) H) : rI (fun _ j => 0 ≤ j) (fun i j => V.int (i / 2 ^ j.toNat)) (.int (m : Int)) (.int (n : Int)) H Q := rd_I (by show (0 : Int) ≤ (n : Int); omega) (by rw [shr_nat]; exact k)
theorem rd_setLN {R : Hp → Prop} {n : Nat} {zs : List Nat} (hA : At H ((a, HO.lst (zs.map nv)) :: F)) (h0 : 0 ≤ i) (h1 : i < zs.length) (k : ∀ H', At H' ((a, .lst ((zs.set i.toNat n).map nv)) :: F) → R H') : rSetL (.ref a) (.int i) (.int (n : Int)) H R :=
  rd_setLi hA h0 (by rw [List.length_map]; exact h1) fun H' h => k H' (by rw [List.map_set]; exact h)
theorem rep_flat {α : Type} (n : Nat) (x : α) : (List.replicate n [x]).flatten = List.replicate n x := by
  induction n with
  | zero => rfl
  | succ n ih => rw [List.replicate_succ, List.flatten_cons, ih, List.replicate_succ]; rfl
theorem rd_rep0 {n : Nat} (hA : At H L) (m : (a, HO.lst [V.int 0]) ∈ L) (h1 : n < 100000) (k : ∀ p H', At H' ((p, .lst ((List.replicate n 0).map nv)) :: L) → Q (.ref p) H') : rRep (.ref a) (.int (n : Int)) H Q :=
  rd_rep hA m (by omega) (by omega) (by decide) fun p H' h => k p H' (by
    rw [Int.toNat_natCast, rep_flat] at h
    rw [List.map_replicate]
    exact h)
end
end Sw

namespace Sw
open PySem L2 PySem.W
section
variable {X : Cx} {K : PySem.W.Frag} {σ : L2.St} {H : Hp} {Q : VK} {D : Ends} {L F : List Cell} {a b d p : Addr} {xs ys : List V} {i j : Int} {v w x y : V} {te ta tb : TE} {tl : TA} {R : L2.St → Hp → Prop} {tt : TT} {g : TG} {vs : List Nat}
theorem pe_te {e : Expr} {t t' : TE} (h : PE X e t) (q : t = t') : PE X e t' := by
  rw [← q]
  exact h
theorem pts_te {es : List Expr} {t t' : TT} (h : PTs X es t) (q : t = t') : PTs X es t' := by
  rw [← q]
  exact h
def LcK (J : It) (g : TG) (tt : TT) (te : TE) (vs : List Nat) (σ : L2.St) (H1 : Hp) (Q : VK) : Prop := ∀ D, H1 D = none → ∃ W : Nat → Nat → Hp → Prop, (∃ m, W 0 m (upd H1 D (.lst []))) ∧ ∀ i m H, W i m H →
  (J.stop i H ∧ Q (.ref D) H) ∨ (J.go i H ∧ ∃ Nx : Hp → Prop, (∀ H', Nx H' → ∃ m', m' < m ∧ W (i + 1) m' H') ∧ ∀ x H', J.yld i H x H' → g x (wipe σ vs) H' fun σ2 H2 => wipe σ2 vs = wipe σ vs ∧ tt σ2 H2 fun b H3 =>
    if b = true then te σ2 H3 fun y H4 => ∃ acc, H4 D = some (.lst acc) ∧ acc.length < sizeLine ∧ Nx (upd H4 D (.lst (acc ++ [y]))) else Nx H3)
theorem rd_lc {wi : TI} (k : wi σ H fun J H1 => LcK J g tt te vs σ H1 Q) : tLc wi g tt te vs σ H Q := k
def WipeK (σ2 σ : L2.St) (vs : List Nat) (P : Prop) : Prop := wipe σ2 vs = wipe σ vs ∧ P
theorem rd_wipe {σ2 : L2.St} {P : Prop} (h : wipe σ2 vs = wipe σ vs) (k : P) : WipeK σ2 σ vs P := ⟨h, k⟩
def LcPut (D : Addr) (y : V) (H : Hp) (P : Hp → Prop) : Prop := ∃ acc, H D = some (.lst acc) ∧ acc.length < sizeLine ∧ P (upd H D (.lst (acc ++ [y])))
theorem rd_lcPut {P : Hp → Prop} (hA : At H ((d, HO.lst xs) :: F)) (hl : xs.length < 100000) (k : ∀ H', At H' ((d, .lst (xs ++ [y])) :: F) → P H') : LcPut d y H P := ⟨xs, hA.rd (.head _), Nat.lt_of_lt_of_le hl (by decide), k _ (hA.upd rfl)⟩
theorem rd_yes {QB : Bool → Hp → Prop} (k : QB true H) : tYes σ H QB := k
theorem lc_inv {J : It} {n : Nat} {G : Hp → Prop} {Y : Nat → Hp → V → Hp → Prop} (w : L2.Walk J n G Y) (hA : At H L) (Pv : Addr → Nat → Hp → Prop) (h0 : ∀ D H', At H' ((D, .lst []) :: L) → Pv D 0 H') (hG : ∀ D i H', i ≤ n → Pv D i H' → G H')
    (hs : ∀ D i x H1 H', i < n → Pv D i H1 → Y i H1 x H' → g x (wipe σ vs) H' fun σ2 H2 => WipeK σ2 σ vs (tt σ2 H2 fun b H3 => Br b (te σ2 H3 fun y H4 => LcPut D y H4 (Pv D (i + 1))) (Pv D (i + 1) H3)))
    (hd : ∀ D H', Pv D n H' → Q (.ref D) H') : LcK J g tt te vs σ H Q := fun D hD =>
  lc_it w (Pv D) (h0 D _ (hA.new hD)) (fun i H h => hG D i H h) (fun i x H1 H' hi hp hy => hs D i x H1 H' hi hp hy) (hd D)
theorem take_succ_of {β : Type} {us : List β} {i : Nat} {u : β} (h : us[i]? = some u) : us.take (i + 1) = us.take i ++ [u] := by
  rw [List.take_succ, h]
  rfl
theorem lc_fm {β : Type} {J : It} {us : List β} {G : Hp → Prop} {Y : Nat → Hp → V → Hp → Prop} (w : L2.Walk J us.length G Y) (hA : At H L) (hn : us.length < 100000) (p : β → Bool) (h : β → V) (Item : β → V → List Cell → Prop)
    (hG : ∀ H' D acc, At H' ((D, .lst acc) :: L) → G H') (hY : ∀ i u H1 x H' D acc, us[i]? = some u → At H1 ((D, .lst acc) :: L) → Y i H1 x H' → ∃ pre, Item u x pre ∧ At H' (pre ++ (D, .lst acc) :: L))
    (hs : ∀ u x pre H' D acc (Yk : V → Hp → Prop) (Nk : Hp → Prop), u ∈ us → Item u x pre → At H' (pre ++ (D, .lst acc) :: L) → (∀ y H4, p u = true → y = h u → At H4 ((D, .lst acc) :: L) → Yk y H4) → (∀ H4, p u = false → At H4 ((D, .lst acc) :: L) → Nk H4) →
      g x (wipe σ vs) H' fun σ2 H2 => WipeK σ2 σ vs (tt σ2 H2 fun b H3 => Br b (te σ2 H3 Yk) (Nk H3)))
    (hd : ∀ D H', At H' ((D, .lst ((us.filter p).map h)) :: L) → Q (.ref D) H') : LcK J g tt te vs σ H Q := by
  refine lc_inv w hA (fun D i H' => At H' ((D, .lst (((us.take i).filter p).map h)) :: L)) (fun D H' h => h) (fun D i H' _ h => hG H' D _ h) (fun D i x H1 H' hi hp hy => ?_) (fun D H' h => by rw [List.take_length] at h; exact hd D H' h)
  obtain ⟨pre, hI, hA'⟩ := hY i us[i] H1 x H' D _ (List.getElem?_eq_getElem hi) hp hy
  have e := take_succ_of (List.getElem?_eq_getElem hi)
  refine hs us[i] x pre H' D _ _ _ (List.getElem_mem hi) hI hA' (fun y H4 h1 h2 h3 => ?_) (fun H4 h1 h3 => ?_)
  · refine rd_lcPut h3 ?_ fun H5 h5 => ?_
    · rw [List.length_map]
      have := List.length_filter_le p (us.take i)
      rw [List.length_take] at this
      omega
    · show At H5 ((D, .lst (((us.take (i + 1)).filter p).map h)) :: L)
      rw [e, List.filter_append, List.map_append, List.filter_cons, if_pos h1]
      rw [h2] at h5
      exact h5
  · show At H4 ((D, .lst (((us.take (i + 1)).filter p).map h)) :: L)
    rw [e, List.filter_append, List.filter_cons, if_neg (by rw [h1]; exact Bool.false_ne_true)]
    show At H4 ((D, .lst (((us.take i).filter p ++ []).map h)) :: L)
    rw [List.append_nil]
    exact h3
theorem lc_list {β : Type} {us : List β} {F : β → V} (hA : At H L) (m : (a, HO.lst (us.map F)) ∈ L) (hn : us.length < 100000) (p : β → Bool) (h : β → V)
    (hs : ∀ u H' D acc (Yk : V → Hp → Prop) (Nk : Hp → Prop), u ∈ us → At H' ((D, .lst acc) :: L) → (∀ y H4, p u = true → y = h u → At H4 ((D, .lst acc) :: L) → Yk y H4) → (∀ H4, p u = false → At H4 ((D, .lst acc) :: L) → Nk H4) →
      g (F u) (wipe σ vs) H' fun σ2 H2 => WipeK σ2 σ vs (tt σ2 H2 fun b H3 => Br b (te σ2 H3 Yk) (Nk H3)))
    (hd : ∀ D H', At H' ((D, .lst ((us.filter p).map h)) :: L) → Q (.ref D) H') : LcK (Itl K a) g tt te vs σ H Q := by
  have w : L2.Walk (Itl K a) us.length (fun H => SqL K H a (us.map F)) (YAt (us.map F)) := by
    have := walk_list (K := K) (a := a) (xs := us.map F)
    rw [List.length_map] at this
    exact this
  refine lc_fm w hA hn p h (fun u x pre => x = F u ∧ pre = []) (fun H' D acc h => SqL.of (h.rd (.tail _ m))) (fun i u H1 x H' D acc e hA1 hy => ?_) (fun u x pre H' D acc Yk Nk hu hi hA1 => ?_) hd
  · obtain ⟨rfl, e2⟩ := hy
    rw [List.getElem?_map, e] at e2
    cases e2
    exact ⟨[], ⟨rfl, rfl⟩, hA1⟩
  · obtain ⟨rfl, rfl⟩ := hi
    exact hs u H' D acc Yk Nk hu hA1
theorem lc_tup {β : Type} {us : List β} {F : β → V} (hA : At H L) (m : (a, HO.tup (us.map F)) ∈ L) (hn : us.length < 100000) (p : β → Bool) (h : β → V)
    (hs : ∀ u H' D acc (Yk : V → Hp → Prop) (Nk : Hp → Prop), u ∈ us → At H' ((D, .lst acc) :: L) → (∀ y H4, p u = true → y = h u → At H4 ((D, .lst acc) :: L) → Yk y H4) → (∀ H4, p u = false → At H4 ((D, .lst acc) :: L) → Nk H4) →
      g (F u) (wipe σ vs) H' fun σ2 H2 => WipeK σ2 σ vs (tt σ2 H2 fun b H3 => Br b (te σ2 H3 Yk) (Nk H3)))
    (hd : ∀ D H', At H' ((D, .lst ((us.filter p).map h)) :: L) → Q (.ref D) H') : LcK (Itt K a) g tt te vs σ H Q := by
  have w : L2.Walk (Itt K a) us.length (fun H => SqT K H a (us.map F)) (YAt (us.map F)) := by
    have := walk_tup (K := K) (a := a) (xs := us.map F)
    rw [List.length_map] at this
    exact this
  refine lc_fm w hA hn p h (fun u x pre => x = F u ∧ pre = []) (fun H' D acc h => SqT.of (h.rd (.tail _ m))) (fun i u H1 x H' D acc e hA1 hy => ?_) (fun u x pre H' D acc Yk Nk hu hi hA1 => ?_) hd
  · obtain ⟨rfl, e2⟩ := hy
    rw [List.getElem?_map, e] at e2
    cases e2
    exact ⟨[], ⟨rfl, rfl⟩, hA1⟩
  · obtain ⟨rfl, rfl⟩ := hi
    exact hs u H' D acc Yk Nk hu hA1
theorem lc_enum {β : Type} {us : List β} {F : β → V} (hA : At H L) (m : (a, HO.lst (us.map F)) ∈ L) (hn : us.length < 100000) (p : β × Nat → Bool) (h : β × Nat → V)
    (hs : ∀ (u : β) (n : Nat) T H' D acc (Yk : V → Hp → Prop) (Nk : Hp → Prop), us[n]? = some u → At H' ((T, .tup [.int (n : Int), F u]) :: (D, .lst acc) :: L) → (∀ y H4, p (u, n) = true → y = h (u, n) → At H4 ((D, .lst acc) :: L) → Yk y H4) → (∀ H4, p (u, n) = false → At H4 ((D, .lst acc) :: L) → Nk H4) →
      g (.ref T) (wipe σ vs) H' fun σ2 H2 => WipeK σ2 σ vs (tt σ2 H2 fun b H3 => Br b (te σ2 H3 Yk) (Nk H3)))
    (hd : ∀ D H', At H' ((D, .lst ((us.zipIdx.filter p).map h)) :: L) → Q (.ref D) H') : LcK (Ite K a) g tt te vs σ H Q := by
  have w : L2.Walk (Ite K a) us.zipIdx.length (fun H => SqL K H a (us.map F)) (YPair (fun i => some (.int (i : Nat))) (fun i => (us.map F)[i]?)) := by
    have := walk_enum (K := K) (a := a) (xs := us.map F)
    rw [List.length_map] at this
    rw [List.length_zipIdx]
    exact this
  refine lc_fm w hA (by rw [List.length_zipIdx]; exact hn) p h (fun u x pre => us[u.2]? = some u.1 ∧ ∃ T, x = .ref T ∧ pre = [(T, .tup [.int (u.2 : Int), F u.1])]) (fun H' D acc h => SqL.of (h.rd (.tail _ m))) (fun i u H1 x H' D acc e hA1 hy => ?_) (fun u x pre H' D acc Yk Nk hu hi hA1 => ?_) hd
  · obtain ⟨T, y1, y2, rfl, h1, rfl, h3, h4⟩ := hy
    rw [List.getElem?_zipIdx] at e
    cases q : us[i]? with
    | none => rw [q] at e; cases e
    | some z =>
      rw [q] at e
      cases e
      cases h3
      have h4' : (us.map F)[i]? = some y2 := h4
      rw [List.getElem?_map, q] at h4'
      cases h4'
      have e0 : 0 + i = i := Nat.zero_add i
      refine ⟨_, ⟨by show us[0 + i]? = some z; rw [e0]; exact q, T, rfl, rfl⟩, ?_⟩
      show At _ ((T, .tup [.int ((0 + i : Nat) : Int), F z]) :: (D, .lst acc) :: L)
      rw [e0]
      exact hA1.new h1
  · obtain ⟨hq, T, rfl, rfl⟩ := hi
    exact hs u.1 u.2 T H' D acc Yk Nk hq hA1
theorem lc_str {z : Str} (hA : At H L) (hn : z.cps.size < 100000) (p : Nat → Bool) (h : Nat → V)
    (hs : ∀ u H' D acc (Yk : V → Hp → Prop) (Nk : Hp → Prop), u ∈ z.cps.toList → At H' ((D, .lst acc) :: L) → (∀ y H4, p u = true → y = h u → At H4 ((D, .lst acc) :: L) → Yk y H4) → (∀ H4, p u = false → At H4 ((D, .lst acc) :: L) → Nk H4) →
      g (.str ⟨#[u]⟩) (wipe σ vs) H' fun σ2 H2 => WipeK σ2 σ vs (tt σ2 H2 fun b H3 => Br b (te σ2 H3 Yk) (Nk H3)))
    (hd : ∀ D H', At H' ((D, .lst ((z.cps.toList.filter p).map h)) :: L) → Q (.ref D) H') : LcK (Its z) g tt te vs σ H Q := by
  have w : L2.Walk (Its z) z.cps.toList.length (fun _ => True) (fun i H v H' => H' = H ∧ ∃ c, z.cps[i]? = some c ∧ v = .str ⟨#[c]⟩) := by
    rw [Array.length_toList]
    exact walk_str
  refine lc_fm w hA (by rw [Array.length_toList]; exact hn) p h (fun u x pre => x = .str ⟨#[u]⟩ ∧ pre = []) (fun _ _ _ _ => trivial) (fun i u H1 x H' D acc e hA1 hy => ?_) (fun u x pre H' D acc Yk Nk hu hi hA1 => ?_) hd
  · obtain ⟨rfl, c, e2, rfl⟩ := hy
    rw [Array.getElem?_toList, e2] at e
    cases e
    exact ⟨[], ⟨rfl, rfl⟩, hA1⟩
  · obtain ⟨rfl, rfl⟩ := hi
    exact hs u H' D acc Yk Nk hu hA1
theorem all_true_filter {β : Type} (us : List β) : us.filter (fun _ => true) = us := List.filter_eq_self.mpr fun _ _ => rfl
def IEK (K : PySem.W.Frag) (vs : List V) (H : Hp) (R : It → Hp → Prop) : Prop := ∃ a xs, vs = [.ref a] ∧ SqL K H a xs ∧ R (Ite K a) H
theorem rd_iEnum {R : It → Hp → Prop} (k : tl σ H fun vs H1 => IEK K vs H1 R) : iEnum K tl σ H R := k
theorem rd_iek {R : It → Hp → Prop} (hA : At H L) (m : (a, HO.lst xs) ∈ L) (k : R (Ite K a) H) : IEK K [.ref a] H R := ⟨a, xs, rfl, SqL.of (hA.rd m), k⟩
def ISK (v : V) (H : Hp) (R : It → Hp → Prop) : Prop := ∃ x, v = .str x ∧ R (Its x) H
theorem rd_iStr {R : It → Hp → Prop} (k : te σ H fun v H1 => ISK v H1 R) : iStr te σ H R := k
theorem rd_isk {R : It → Hp → Prop} {z : Str} (k : R (Its z) H) : ISK (.str z) H R := ⟨z, rfl, k⟩
def ITK (K : PySem.W.Frag) (x : V) (H : Hp) (R : It → Hp → Prop) : Prop := ∃ a, x = .ref a ∧ (∃ xs, SqT K H a xs) ∧ R (Itt K a) H
theorem rd_iTup {R : It → Hp → Prop} (k : te σ H fun x H1 => ITK K x H1 R) : iTup K te σ H R := k
theorem rd_itk {R : It → Hp → Prop} (hA : At H L) (m : (a, HO.tup xs) ∈ L) (k : R (Itt K a) H) : ITK K (.ref a) H R := ⟨a, rfl, ⟨xs, SqT.of (hA.rd m)⟩, k⟩
theorem rd_lenLm {β : Type} {f : β → V} {zs : List β} (hA : At H L) (m : (a, HO.lst (zs.map f)) ∈ L) (k : Q (.int (zs.length : Int)) H) : rLenQ K [.ref a] H Q := rd_lenL hA m (by rw [List.length_map]; exact k)
theorem rd_lenTm {β : Type} {f : β → V} {zs : List β} (hA : At H L) (m : (a, HO.tup (zs.map f)) ∈ L) (k : Q (.int (zs.length : Int)) H) : rLenQ K [.ref a] H Q := rd_lenT hA m (by rw [List.length_map]; exact k)
theorem rd_irkN {R : It → Hp → Prop} {n : Nat} (h : n < 1000000000) (k : R (Itr 0 n) H) : IRK [.int (n : Int)] H R := rd_irk (by omega) (by rw [Int.toNat_natCast]; exact k)
theorem rd_any {bs : List Bool} (hA : At H L) (m : (a, HO.lst (bs.map V.bl)) ∈ L) (k : Q (.bl (bs.any id)) H) : rAny K [.ref a] H Q := ⟨a, bs, rfl, SqL.of (hA.rd m), k⟩
theorem rd_all {bs : List Bool} (hA : At H L) (m : (a, HO.lst (bs.map V.bl)) ∈ L) (k : Q (.bl (bs.all id)) H) : rAll K [.ref a] H Q := ⟨a, bs, rfl, SqL.of (hA.rd m), k⟩
theorem rd_anyF {β : Type} {us : List β} {f : β → Bool} (hA : At H L) (m : (a, HO.lst (us.map fun u => V.bl (f u))) ∈ L) (k : Q (.bl (us.any f)) H) : rAny K [.ref a] H Q := by
  refine rd_any (bs := us.map f) hA (by rw [List.map_map]; exact m) ?_
  rw [List.any_map]
  exact k
theorem rd_allF {β : Type} {us : List β} {f : β → Bool} (hA : At H L) (m : (a, HO.lst (us.map fun u => V.bl (f u))) ∈ L) (k : Q (.bl (us.all f)) H) : rAll K [.ref a] H Q := by
  refine rd_all (bs := us.map f) hA (by rw [List.map_map]; exact m) ?_
  rw [List.all_map]
  exact k
theorem rd_lockE {u : HO} {t : TE} (hA : At H ((d, u) :: F)) (hm : Mut (some u)) (ht : isT u = false) (k : ∀ od H1, At H1 ((d, .frz od u) :: F) → t σ H1 fun v H' => H' d = some (.frz od u) ∧ Q v (upd H' d u)) : tLockE t σ H Q :=
  ⟨d, u, hA.rd (.head _), hm, fun od => k od _ (hA.upd ht)⟩
theorem un_lock {u : HO} {od : Obj} {P : Hp → Prop} (hA : At H ((d, .frz od u) :: F)) (k : ∀ H', At H' ((d, u) :: F) → P H') : H d = some (.frz od u) ∧ P (upd H d u) := ⟨hA.rd (.head _), k _ (hA.upd rfl)⟩
end
end Sw

namespace Sw
open PySem L2 PySem.W
def dk (ps : List (Str × V)) : List (Key × V) := ps.map fun p => (Sum.inr p.1, p.2)
theorem valV_dk (ps : List (Str × V)) (x : Str) : valV (dk ps) (Sum.inr x : Key) = ps.lookup x := by
  induction ps with
  | nil => rfl
  | cons p r ih =>
    obtain ⟨y, v⟩ := p
    show valV (((Sum.inr y : Key), v) :: dk r) (Sum.inr x) = _
    by_cases h : y = x
    · rw [valV_pos (congrArg Sum.inr h)]
      have hb : (x == y) = true := beq_iff_eq.mpr h.symm
      simp only [List.lookup, hb]
    · rw [valV_neg (fun e => h (Sum.inr.inj e)), ih]
      have hb : (x == y) = false := beq_eq_false_iff_ne.mpr (fun e => h e.symm)
      simp only [List.lookup, hb]
theorem putK_dk_new {ps : List (Str × V)} {x : Str} {v : V} (h : ps.lookup x = none) : putK (dk ps) (Sum.inr x : Key) v = dk (ps ++ [(x, v)]) := by
  rw [putK_new _ (by rw [valV_dk]; exact h)]
  unfold dk
  rw [List.map_append]
  rfl
def ds (ks : List Str) : List (Key × V) := ks.map fun x => (Sum.inr x, V.bl true)
def insS (ks : List Str) (x : Str) : List Str := if x ∈ ks then ks else ks ++ [x]
theorem mem_insS {ks : List Str} {x y : Str} : y ∈ insS ks x ↔ y ∈ ks ∨ y = x := by
  unfold insS
  split
  · rename_i h
    exact ⟨.inl, fun q => q.elim id fun e => e ▸ h⟩
  · rw [List.mem_append, List.mem_singleton]
theorem nodup_insS {ks : List Str} (h : ks.Nodup) (x : Str) : (insS ks x).Nodup := by
  unfold insS
  split
  · exact h
  · rename_i hx
    rw [List.nodup_append]
    exact ⟨h, by simp, fun a ha b hb e => hx (by rw [List.mem_singleton] at hb; rw [← hb, ← e]; exact ha)⟩
theorem valV_ds (ks : List Str) (x : Str) : valV (ds ks) (Sum.inr x : Key) = if x ∈ ks then some (V.bl true) else none := by
  induction ks with
  | nil => rfl
  | cons y r ih =>
    show valV (((Sum.inr y : Key), V.bl true) :: ds r) (Sum.inr x) = _
    by_cases h : y = x
    · rw [valV_pos (congrArg Sum.inr h), if_pos (by rw [h]; exact .head _)]
    · rw [valV_neg (fun e => h (Sum.inr.inj e)), ih]
      by_cases hm : x ∈ r
      · rw [if_pos hm, if_pos (.tail _ hm)]
      · rw [if_neg hm, if_neg (fun m => by
          rcases List.mem_cons.mp m with e | m
          · exact h e.symm
          · exact hm m)]
theorem putK_ds (ks : List Str) (x : Str) : putK (ds ks) (Sum.inr x : Key) (V.bl true) = ds (insS ks x) := by
  by_cases h : x ∈ ks
  · have e : insS ks x = ks := by unfold insS; rw [if_pos h]
    rw [e]
    have ha : ((ds ks).any fun kv => decide (kv.1 = (Sum.inr x : Key))) = true := by
      rw [valV_any, valV_ds, if_pos h]
      rfl
    unfold putK
    rw [if_pos ha]
    unfold ds
    rw [List.map_map]
    refine List.map_congr_left fun y hy => ?_
    show (if (Sum.inr y : Key) = Sum.inr x then ((Sum.inr y : Key), V.bl true) else ((Sum.inr y : Key), V.bl true)) = _
    split <;> rfl
  · rw [putK_new _ (by rw [valV_ds, if_neg h])]
    unfold insS
    rw [if_neg h]
    unfold ds
    rw [List.map_append]
    rfl
section
variable {X : Cx} {K : PySem.W.Frag} {σ : L2.St} {H : Hp} {Q : VK} {D : Ends} {L F : List Cell} {a b d p C dx : Addr} {xs ys : List V} {i j : Int} {v w x y : V} {te ta tb td ty tv : TE} {tl : TA} {R : L2.St → Hp → Prop} {fs : List (Str × V)} {f m : Str} {sp : Sp} {E : XK}
def DGK (x y : V) (H : Hp) (Q : VK) : Prop := ∃ a v, x = .ref a ∧ DGet H a y (some v) ∧ Q v H
theorem rd_dget (k : td σ H fun x H1 => ty σ H1 fun y H2 => DGK x y H2 Q) : tDGet td ty σ H Q := k
theorem rd_dgk {kvs : List (Key × V)} {z : Str} (hA : At H L) (m : (a, HO.dK kvs) ∈ L) (e : valV kvs (Sum.inr z : Key) = some v) (k : Q v H) : DGK (.ref a) (.str z) H Q := by
  refine ⟨a, v, rfl, ?_, k⟩
  have := DGet.k (H := H) (a := a) (kvs := kvs) (k := Sum.inr z) (hA.rd m)
  rw [e] at this
  exact this
theorem rd_dgkD {ps : List (Str × V)} {z : Str} (hA : At H L) (m : (a, HO.dK (dk ps)) ∈ L) (e : ps.lookup z = some v) (k : Q v H) : DGK (.ref a) (.str z) H Q := rd_dgk hA m (by rw [valV_dk]; exact e) k
def DIK (y x : V) (H : Hp) (Q : VK) : Prop := ∃ a o, x = .ref a ∧ DGet H a y o ∧ Q (.bl o.isSome) H
def DNK (y x : V) (H : Hp) (Q : VK) : Prop := ∃ a o, x = .ref a ∧ DGet H a y o ∧ Q (.bl (!o.isSome)) H
theorem rd_din (k : ty σ H fun y H1 => td σ H1 fun x H2 => DIK y x H2 Q) : tDIn ty td σ H Q := k
theorem rd_dnin (k : ty σ H fun y H1 => td σ H1 fun x H2 => DNK y x H2 Q) : tDNotIn ty td σ H Q := k
theorem some_ds (ks : List Str) (z : Str) : (valV (ds ks) (Sum.inr z : Key)).isSome = decide (z ∈ ks) := by
  rw [valV_ds]
  by_cases h : z ∈ ks
  · rw [if_pos h, decide_eq_true h]
    rfl
  · rw [if_neg h, decide_eq_false h]
    rfl
theorem some_dk (ps : List (Str × V)) (z : Str) : (valV (dk ps) (Sum.inr z : Key)).isSome = decide (z ∈ ps.map Prod.fst) := by
  induction ps with
  | nil => rfl
  | cons p r ih =>
    obtain ⟨u, v⟩ := p
    show (valV (((Sum.inr u : Key), v) :: dk r) (Sum.inr z)).isSome = _
    rw [Bool.eq_iff_iff, decide_eq_true_eq, List.map_cons, List.mem_cons]
    by_cases h : u = z
    · rw [valV_pos (congrArg Sum.inr h)]
      exact ⟨fun _ => .inl h.symm, fun _ => rfl⟩
    · rw [valV_neg (fun e => h (Sum.inr.inj e)), ih, decide_eq_true_eq]
      exact ⟨.inr, fun q => q.elim (fun e => absurd e.symm h) id⟩
theorem rd_dikS {ks : List Str} {z : Str} (hA : At H L) (m : (a, HO.dK (ds ks)) ∈ L) (k : Q (.bl (decide (z ∈ ks))) H) : DIK (.str z) (.ref a) H Q :=
  ⟨a, _, rfl, DGet.k (k := Sum.inr z) (hA.rd m), by rw [some_ds]; exact k⟩
theorem rd_dnkS {ks : List Str} {z : Str} (hA : At H L) (m : (a, HO.dK (ds ks)) ∈ L) (k : Q (.bl (!decide (z ∈ ks))) H) : DNK (.str z) (.ref a) H Q :=
  ⟨a, _, rfl, DGet.k (k := Sum.inr z) (hA.rd m), by rw [some_ds]; exact k⟩
theorem rd_dikD {ps : List (Str × V)} {z : Str} (hA : At H L) (m : (a, HO.dK (dk ps)) ∈ L) (k : Q (.bl (decide (z ∈ ps.map Prod.fst))) H) : DIK (.str z) (.ref a) H Q :=
  ⟨a, _, rfl, DGet.k (k := Sum.inr z) (hA.rd m), by rw [some_dk]; exact k⟩
theorem rd_dnkD {ps : List (Str × V)} {z : Str} (hA : At H L) (m : (a, HO.dK (dk ps)) ∈ L) (k : Q (.bl (!decide (z ∈ ps.map Prod.fst))) H) : DNK (.str z) (.ref a) H Q :=
  ⟨a, _, rfl, DGet.k (k := Sum.inr z) (hA.rd m), by rw [some_dk]; exact k⟩
def DPK (x y v : V) (H : Hp) (P : Hp → Prop) : Prop := ∃ a H4, x = .ref a ∧ DPut H a y v H4 ∧ P H4
theorem rd_dput (k : tv σ H fun v H1 => td σ H1 fun x H2 => ty σ H2 fun y H3 => DPK x y v H3 fun H4 => D.nx σ H4) : sDPut td ty tv D σ H := k
theorem rd_dpkS {P : Hp → Prop} {ks : List Str} {z : Str} (hA : At H ((a, HO.dK (ds ks)) :: F)) (hl : ks.length < 100000) (k : ∀ H', At H' ((a, .dK (ds (insS ks z))) :: F) → P H') : DPK (.ref a) (.str z) (.bl true) H P := by
  have e := hA.rd (.head _)
  refine ⟨a, _, rfl, DPut.k (k := Sum.inr z) e (by unfold ds; rw [List.length_map]; exact Nat.lt_of_lt_of_le hl (by decide)), ?_⟩
  rw [putK_ds]
  exact k _ (hA.upd rfl)
theorem rd_dpkD {P : Hp → Prop} {ps : List (Str × V)} {z : Str} (hA : At H ((a, HO.dK (dk ps)) :: F)) (hn : ps.lookup z = none) (hl : ps.length < 100000) (k : ∀ H', At H' ((a, .dK (dk (ps ++ [(z, v)]))) :: F) → P H') : DPK (.ref a) (.str z) v H P := by
  have e := hA.rd (.head _)
  refine ⟨a, _, rfl, DPut.k (k := Sum.inr z) e (by unfold dk; rw [List.length_map]; exact Nat.lt_of_lt_of_le hl (by decide)), ?_⟩
  rw [putK_dk_new hn]
  exact k _ (hA.upd rfl)
theorem rd_dnewK (hA : At H L) (k : ∀ p H', At H' ((p, .dK []) :: L) → Q (.ref p) H') : tDNewK σ H Q := fun p hp => k p _ (hA.new hp)
theorem rd_dnewT (hA : At H L) (k : ∀ p H', At H' ((p, .dT []) :: L) → Q (.ref p) H') : tDNewT σ H Q := fun p hp => k p _ (hA.new hp)
def dp (es : List (Str × Str)) : List (List Key × V) := es.map fun e => ([Sum.inr e.1, Sum.inr e.2], V.bl true)
theorem valV_dp (es : List (Str × Str)) (x y : Str) : valV (dp es) ([Sum.inr x, Sum.inr y] : List Key) = if (x, y) ∈ es then some (V.bl true) else none := by
  induction es with
  | nil => rfl
  | cons e r ih =>
    obtain ⟨u, v⟩ := e
    show valV ((([Sum.inr u, Sum.inr v] : List Key), V.bl true) :: dp r) ([Sum.inr x, Sum.inr y] : List Key) = _
    by_cases h : u = x ∧ v = y
    · rw [valV_pos (by show ([Sum.inr u, Sum.inr v] : List Key) = [Sum.inr x, Sum.inr y]; rw [h.1, h.2]), if_pos (by rw [h.1, h.2]; exact .head _)]
    · rw [valV_neg (fun e => h (by
        injection e with e1 e2
        injection e2 with e2 _
        exact ⟨Sum.inr.inj e1, Sum.inr.inj e2⟩)), ih]
      by_cases hm : (x, y) ∈ r
      · rw [if_pos hm, if_pos (.tail _ hm)]
      · rw [if_neg hm, if_neg (fun m => by
          rcases List.mem_cons.mp m with e | m
          · injection e with e1 e2
            exact h ⟨e1.symm, e2.symm⟩
          · exact hm m)]
theorem rd_dikP {es : List (Str × Str)} {z1 z2 : Str} (hA : At H L) (m : (a, HO.dT (dp es)) ∈ L) (mt : (b, HO.tup [.str z1, .str z2]) ∈ L) (k : Q (.bl (decide ((z1, z2) ∈ es))) H) : DIK (.ref b) (.ref a) H Q :=
  ⟨a, _, rfl, DGet.t (k := [Sum.inr z1, Sum.inr z2]) (hA.rd m) (hA.rd mt), by
    rw [valV_dp]
    by_cases h : (z1, z2) ∈ es
    · rw [if_pos h]
      rw [decide_eq_true h] at k
      exact k
    · rw [if_neg h]
      rw [decide_eq_false h] at k
      exact k⟩
theorem rd_dpkP {P : Hp → Prop} {es : List (Str × Str)} {z1 z2 : Str} (hA : At H ((a, HO.dT (dp es)) :: F)) (mt : (b, HO.tup [.str z1, .str z2]) ∈ F) (hn : ¬ (z1, z2) ∈ es) (hl : es.length < 100000) (k : ∀ H', At H' ((a, .dT (dp (es ++ [(z1, z2)]))) :: F) → P H') : DPK (.ref a) (.ref b) (.bl true) H P := by
  refine ⟨a, _, rfl, DPut.t (k := [Sum.inr z1, Sum.inr z2]) (hA.rd (.head _)) (hA.rd (.tail _ mt)) (by unfold dp; rw [List.length_map]; exact Nat.lt_of_lt_of_le hl (by decide)), ?_⟩
  rw [putK_new _ (by rw [valV_dp, if_neg hn])]
  have e : dp es ++ [([Sum.inr z1, Sum.inr z2], V.bl true)] = dp (es ++ [(z1, z2)]) := by
    unfold dp
    rw [List.map_append]
    rfl
  rw [e]
  exact k _ (hA.upd rfl)
def FldK (K : PySem.W.Frag) (f : Str) (x : V) (H : Hp) (Q : VK) : Prop := ∃ a C dx fs v, x = .ref a ∧ H a = some (.ins C dx fs) ∧ Cls K C ∧ NoAttr K C f ∧ fs.lookup f = some v ∧ Q v H
theorem rd_fld (k : ta σ H fun x H1 => FldK K f x H1 Q) : tFld K ta f σ H Q := k
theorem rd_fldk (hA : At H L) (m : (a, HO.ins C dx fs) ∈ L) (c : Cls K C) (n : NoAttr K C f) (e : fs.lookup f = some v) (k : Q v H) : FldK K f (.ref a) H Q := ⟨a, C, dx, fs, v, rfl, hA.rd m, c, n, e, k⟩
def SFldK (K : PySem.W.Frag) (f : Str) (x y : V) (H : Hp) (P : Hp → Prop) : Prop := ∃ a C dx fs, x = .ref a ∧ H a = some (.ins C dx fs) ∧ Cls K C ∧ NoAttr K C f ∧ fs.length < 1000 ∧ P (upd H a (.ins C dx (putF f y fs)))
theorem rd_sfld (k : tv σ H fun y H1 => ta σ H1 fun x H2 => SFldK K f x y H2 fun H3 => D.nx σ H3) : sFld K ta tv f D σ H := k
theorem rd_sfldk {P : Hp → Prop} (hA : At H ((a, HO.ins C dx fs) :: F)) (c : Cls K C) (n : NoAttr K C f) (hl : fs.length < 1000) (k : ∀ H', At H' ((a, .ins C dx (putF f y fs)) :: F) → P H') : SFldK K f (.ref a) y H P :=
  ⟨a, C, dx, fs, rfl, hA.rd (.head _), c, n, hl, k _ (hA.upd rfl)⟩
def MethK (C : Addr) (m : Str) (x : V) (H : Hp) (P : Hp → Prop) : Prop := ∃ a dx fs, x = .ref a ∧ H a = some (.ins C dx fs) ∧ fs.lookup m = none ∧ P H
theorem rd_meth (k : ta σ H fun x H1 => MethK C m x H1 fun H1 => tl σ H1 fun vs H2 => sp (x :: vs) H2 Q E) : tMeth C m sp [] E ta tl σ H Q := by
  unfold tMeth
  simp only [List.append_nil]
  exact k
theorem rd_methk {P : Hp → Prop} (hA : At H L) (m' : (a, HO.ins C dx fs) ∈ L) (e : fs.lookup m = none) (k : P H) : MethK C m (.ref a) H P := ⟨a, dx, fs, rfl, hA.rd m', e, k⟩
def MakeK (C : Addr) (sp : Sp) (E : XK) (vs : List V) (H : Hp) (Q : VK) : Prop := ∀ x dx, H x = none → H dx = none → dx ≠ x → sp (.ref x :: vs) (upd (upd H dx (.own x)) x (.ins C dx [])) (fun v H2 => v = .non ∧ Q (.ref x) H2) E
def MadeK (v : V) (P : Prop) : Prop := v = .non ∧ P
theorem rd_make (k : tl σ H fun vs H1 => MakeK C sp E vs H1 Q) : tMake C sp [] E tl σ H Q := by
  unfold tMake
  simp only [List.append_nil]
  exact k
theorem rd_makek (hA : At H L) (k : ∀ x dx H', At H' ((x, .ins C dx []) :: (dx, .own x) :: L) → sp (.ref x :: xs) H' (fun v H2 => MadeK v (Q (.ref x) H2)) E) : MakeK C sp E xs H Q := fun x dx h1 h2 h3 => by
  refine k x dx _ (At.new (hA.new h2) ?_)
  rw [upd_ne h3.symm]
  exact h1
theorem rd_made {P : Prop} (k : P) : MadeK .non P := ⟨rfl, k⟩
def IsiK (K : PySem.W.Frag) : List V → Hp → VK → Prop := rIsi K
theorem call_isi : CallR X (.builtin "isinstance") (IsiK X.K) := L2.call_isi
theorem rd_isi {n t : String} {b : Bool} (h : TyX K H x (.type t)) (e : kitB t n = some b) (k : Q (.bl b) H) : IsiK K [x, .ty n] H Q := ⟨x, .ty n, .type t, .type n, b, rfl, .ty n, h, kit_ty e, k⟩
theorem ty_str (z : Str) : TyX K H (.str z) (.type "str") := .base (.str z)
theorem ty_int (z : Int) : TyX K H (.int z) (.type "int") := .base (.int z)
theorem ty_bl (z : Bool) : TyX K H (.bl z) (.type "bool") := .base (.bl z)
theorem ty_non : TyX K H .non (.type "NoneType") := .base .non
theorem ty_lst (hA : At H L) (m : (a, HO.lst xs) ∈ L) : TyX K H (.ref a) (.type "list") := .base (.lst (hA.rd m))
theorem ty_tup (hA : At H L) (m : (a, HO.tup xs) ∈ L) : TyX K H (.ref a) (.type "tuple") := .base (.tup (hA.rd m))
def rMulS : R2 := fun x y H Q => ∃ z n, x = .str z ∧ y = .int n ∧ PySem.MulOk z n ∧ Q (.str (Txt.mul z n)) H
theorem mulOk {z : Str} {n : Int} (h0 : 0 ≤ n) (h1 : n ≤ 1000) (hz : z.length ≤ 1000) : PySem.MulOk z n := by
  have e63 : (2 : Int) ^ 63 = 9223372036854775808 := by decide
  refine ⟨by rw [decide_eq_false (by omega), decide_eq_false (by omega)]; rfl, fun hn _ h => ?_, fun hn _ => ?_⟩
  · have hd : (2 ^ 63 - 1 : Int) / 1000 ≤ (2 ^ 63 - 1) / n := by
      refine Int.le_ediv_of_mul_le (by omega) ?_
      have : (2 ^ 63 - 1 : Int) / 1000 * n ≤ (2 ^ 63 - 1) / 1000 * 1000 := Int.mul_le_mul_of_nonneg_left h1 (by decide)
      exact Int.le_trans this (by decide)
    have : (1000 : Int) ≤ (2 ^ 63 - 1) / 1000 := by decide
    omega
  · unfold Builtin.Str.tooLong
    have : z.length * n.toNat ≤ 1000 * 1000 := Nat.mul_le_mul hz (by omega)
    exact decide_eq_false (by first | omega | (rw [sizeLine_eq]; omega) | (unfold sizeLine; omega))
theorem rd_mulS {z : Str} {n : Int} (h : (0 ≤ n ∧ n ≤ 1000) ∧ z.length ≤ 1000) (k : Q (.str (Txt.mul z n)) H) : rMulS (.str z) (.int n) H Q := ⟨z, n, rfl, rfl, mulOk h.1.1 h.1.2 h.2, k⟩
theorem rd_addS {z u : Str} (h : z.length + u.length ≤ 100000) (k : Q (.str (z ++ u)) H) : rAddS (.str z) (.str u) H Q := ⟨z, u, rfl, rfl, Nat.le_trans h (by decide), k⟩
theorem sIx_pos {n d : Nat} {i : Int} (h0 : 0 ≤ i) (h1 : i ≤ n) : HT.sIx n d (some i) = i.toNat := by
  show (if i < 0 then (i + (n : Int)).toNat else min i.toNat n) = i.toNat
  rw [if_neg (by omega)]
  omega
theorem rd_slFrom {α : Type} {f : α → V} {zs : List α} (hA : At H L) (m : (a, HO.lst (zs.map f)) ∈ L) (h0 : 0 ≤ i) (h1 : i ≤ zs.length) (k : ∀ p H', At H' ((p, .lst ((zs.drop i.toNat).map f)) :: L) → Q (.ref p) H') : SlK (rSlL K) (.ref a) (some i) none H Q := by
  refine rd_slL hA m fun p H' h => k p H' ?_
  have e : cutV (zs.map f) (some i) none = (zs.drop i.toNat).map f := by
    unfold cutV
    rw [sIx_pos h0 (by rw [List.length_map]; exact h1)]
    show ((zs.map f).drop i.toNat).take ((zs.map f).length - i.toNat) = _
    rw [List.map_drop]
    refine List.take_of_length_le ?_
    rw [List.length_drop]
    exact Nat.le_refl _
  rw [e] at h
  exact h
theorem rd_slTo {α : Type} {f : α → V} {zs : List α} (hA : At H L) (m : (a, HO.lst (zs.map f)) ∈ L) (h0 : 0 ≤ i) (h1 : i ≤ zs.length) (k : ∀ p H', At H' ((p, .lst ((zs.take i.toNat).map f)) :: L) → Q (.ref p) H') : SlK (rSlL K) (.ref a) none (some i) H Q := by
  refine rd_slL hA m fun p H' h => k p H' ?_
  have e : cutV (zs.map f) none (some i) = (zs.take i.toNat).map f := by
    unfold cutV
    rw [sIx_pos h0 (by rw [List.length_map]; exact h1)]
    show ((zs.map f).drop 0).take (i.toNat - 0) = _
    rw [List.map_take]
    rfl
  rw [e] at h
  exact h
theorem rd_catm {α : Type} {f : α → V} {us zs : List α} (hA : At H L) (m : (a, HO.lst (us.map f)) ∈ L) (m' : (b, HO.lst (zs.map f)) ∈ L) (hl : us.length + zs.length ≤ 100000) (k : ∀ p H', At H' ((p, .lst ((us ++ zs).map f)) :: L) → Q (.ref p) H') : rCat (.ref a) (.ref b) H Q :=
  rd_cat hA m m' (by rw [List.length_map, List.length_map]; exact hl) fun p H' h => k p H' (by rw [List.map_append]; exact h)
theorem rd_reversem {α : Type} {f : α → V} {zs : List α} (hA : At H ((a, HO.lst (zs.map f)) :: F)) (k : ∀ H', At H' ((a, .lst (zs.reverse.map f)) :: F) → Q .non H') : rReverse (.ref a) [] H Q :=
  rd_reverse hA fun H' h => k H' (by rw [List.map_reverse]; exact h)
end
theorem kit_same (a : String) : kitB a a = some true := by
  unfold kitB
  rw [if_pos (by simp)]
end Sw

namespace Sw
open PySem PySem.Spec PyProof.Rows L2 PySem.W
section
variable {prog : Program} {w : World} {A : Around} {E : Value → Shared → Prop} {s : Shared}
theorem sorted_src {β : Type} {R : Value → β → Prop} {enc : β → PyData} {bs : List β} {T : String} {d : Addr} {n : Nat} {P : Nat → Value → Prop} {OK : Heap → Prop} {Q : Value → Shared → Prop} (src : PySem.W.KdlSrc prog w T d d n P OK) (hh : A.handled = none) (hok : OK s.heap) (hn : n ≤ sizeLine)
    (he : ∀ acc : Array Value, ItemsOf P acc n → EachIs R acc.toList bs ∧ EachIs (fun v b => Reads s.heap v (enc b) []) acc.toList bs)
    (hal : AllAlike (bs.map enc)) (hk : Sortable (bs.map enc)) (hu : ∀ b, b ∈ bs → A.units + 3 + (enc b).depth < cLine)
    (h : ∀ (h' H' : Heap) (tk : Nat) (out : List Value) (c : Nat), (∀ b o, s.heap.get? b = some o → h'.get? b = some o) → (∀ b o, h'.get? b = some o → H'.get? b = some o) → H'.get? h'.objs.size = some (seqObj "list" out.toArray c) → EachIs R out (bs.mergeSort (dataLe false enc)) → Q (.ref h'.objs.size) { s with heap := H', toks := tk }) :
    wpAny (model prog w) A (call (.builtin "sorted") [.ref d]) Q E s := by
  refine Calls.call_function_entry PyProof.Rows.kind_sorted PyProof.Rows.plain_sorted PyProof.Rows.entry_sorted (PyProof.Rows.args_sorted1 _) ?_
  unfold Builtin.«sorted»
  refine wpAny_bind (m := checkCount "sorted" 1 1 _) (wpAny_pure ?_)
  refine wpAny_bind (PySem.W.kdu_collect (A := A.in1) src hh hok hn fun h' tk acc hkp hacc => ?_)
  obtain ⟨e1, e2⟩ := he acc hacc
  have hbl : bs.length ≤ sizeLine := by rw [← e1.length, Array.length_toList, hacc.1]; exact hn
  refine wpAny_bind (wpAny_newList ?_ (by rw [e1.length]; exact hbl))
  have hoL : (h'.push (seqObj "list" acc.toList.toArray 0)).get? h'.objs.size = some (seqObj "list" acc.toList.toArray 0) := Heap.get?_push_size _ rfl
  show wpAny _ _ _ _ _ { s with heap := h'.push (seqObj "list" acc.toList.toArray 0), toks := tk }
  refine wpAny_bind (wpAny_holding (list_sort_data (s := { s with heap := h'.push (seqObj "list" acc.toList.toArray 0), toks := tk }) hoL e1 (e2.mono fun v b r => ⟨[], Reads.keeps (fun b o q => Heap.get?_push_of_some _ (hkp b o q)) r, List.not_mem_nil⟩) hal hk hbl (fun b hb => ?_) fun out ho eo => ?_))
  · have := hu b hb
    show A.units + 1 + 1 + (enc b).depth < cLine
    omega
  · obtain ⟨c, hc⟩ := PyProof.Rows.sortedHeap_at (vs := acc.toList) (out := out.toArray) hoL
    refine wpAny_pure ⟨_, rfl, h h' _ tk out c hkp (fun b u e => ?_) (by first | exact hc | (rw [← hc])) eo⟩
    have hb : b < h'.objs.size := Heap.lt_size e
    rw [PyProof.Rows.sortedHeap_old (Nat.ne_of_lt hb) (by rw [size_push']; exact Nat.lt_succ_of_lt hb)]
    exact Heap.get?_push_of_some _ e
end
section
variable {X : Cx}
def rSrtK : List V → Hp → VK → Prop := fun vs H Q => ∃ (a : Addr) (kvs : List (Key × V)) (ks : List Str), vs = [V.ref a] ∧ Rd H a (.dK kvs) ∧ kvs.map (·.1) = ks.map Sum.inr ∧
  ∀ p, H p = none → Q (.ref p) (upd H p (.lst ((srt ks).map V.str)))
theorem each_strs : ∀ {us : List Value} {ks : List Str}, StrsAre us ks → EachIs (fun u x => ∃ t, u = Value.str x t) us ks
  | _, _, .nil => .nil
  | _, _, .cons _ t r => .cons ⟨t, rfl⟩ (each_strs r)
theorem vals_strs : ∀ {us : List Value} {ks : List Str}, EachIs (fun u x => ∃ t, u = Value.str x t) us ks → Vals (ks.map V.str) us
  | _, _, .nil => .nil
  | _, _, .cons h r => .cons h (vals_strs r)
theorem call_srtK (hcalm : X.calm = true) (hu : X.A.units + 64 < cLine) : CallR X (.builtin "sorted") rSrtK := by
  intro pins s σ H xs us Q I r q
  obtain ⟨a, kvs, ks, ex, hd, hks, q⟩ := q
  subst ex
  obtain ⟨u, eu, rx⟩ := vals1 r
  subst eu
  cases rx
  obtain ⟨z, lo, vs, rel, dd⟩ := dk_rd I.hok hd
  obtain ⟨ep, hat⟩ := dd.dictAt
  have hkeys : vs.map (·.1) = ks.map Sum.inr := rel.keys.symm.trans hks
  have hl : vs.length = ks.length := by
    have e := congrArg List.length hkeys
    rw [List.length_map, List.length_map] at e
    exact e
  refine sorted_src (bs := ks) (enc := Datum.toD) (R := fun u x => ∃ t, u = Value.str x t) (PySem.W.kdl_dict (knd := mixKind X.prog X.w) (kvs := vs) (ep := ep) lo) (I.ok.hd hcalm) hat (by have := rel.length; omega) (fun acc hacc => ?_) (AllAlike.of DatumOrd.alike) (srtb_strs ks) (fun b _ => ?_) fun h' H' tk out c hk1 hkp hg eo => ?_
  · have hal : acc.toList.length = ks.length := by rw [Array.length_toList, hacc.1, hl]
    have hS : StrsAre acc.toList ks := strs_at hal fun j v e => by
      obtain ⟨k, x, e1, e2⟩ := hacc.2 j v (by rw [← Array.getElem?_toList]; exact e)
      have e3 : (vs.map (·.1))[j]? = some k := by rw [List.getElem?_map, e1]; all_goals rfl
      rw [hkeys, List.getElem?_map] at e3
      cases e4 : ks[j]? with
      | none => rw [e4] at e3; cases e3
      | some y =>
        rw [e4] at e3
        have e5 : Sum.inr y = k := Option.some.inj e3
        subst e5
        obtain ⟨t, ev⟩ := Value.isStrOf_shape (x := y) (v := v) e2
        exact ⟨y, t, rfl, ev⟩
    have h1 := each_strs hS
    refine ⟨h1, h1.mono fun v b e => ?_⟩
    obtain ⟨t, rfl⟩ := e
    exact .str b t
  · have := Datum.depth_le b
    have h2 : Datum.depth Str ≤ 60 := by decide
    omega
  · have es : ks.mergeSort (dataLe false Datum.toD) = srt ks := by
      rw [dataLe_toD]
      rfl
    rw [es] at eo
    have hlen : ((srt ks).map V.str).length ≤ sizeLine := by
      rw [List.length_map, srt_len, ← hl, ← rel.length]
      exact z
    have I1 : Inv X pins σ H { s with heap := h', toks := tk } := I.kept hk1
    exact ⟨.ref h'.objs.size, upd H h'.objs.size (.lst ((srt ks).map V.str)), I1.laid (t' := tk) hkp (Nat.le_refl _) (show ObjOk X.prog X.w _ _ _ (.lst ((srt ks).map V.str)) from ⟨hlen, out, c, vals_strs eo, hg⟩), rfl, q _ (I1.hok.fresh (Nat.le_refl _))⟩
def rSrtT : List V → Hp → VK → Prop := fun vs H Q => ∃ (a : Addr) (es : List (Str × Str)), vs = [V.ref a] ∧ H a = some (.dT (dp es)) ∧
  ∀ (zs : List (Addr × Str × Str)) p, zs.map Prod.snd = srt es → (∀ z ∈ zs, H z.1 = some (.tup [.str z.2.1, .str z.2.2])) → H p = none → Q (.ref p) (upd H p (.lst (zs.map fun z => V.ref z.1)))
theorem kt_pairs {H : Hp} : ∀ {es : List (Str × Str)} {ks : List (List Key × Addr × Value)}, KT H (dp es) ks → ∃ zs : List (Addr × Str × Str), zs.map Prod.snd = es ∧ zs.map Prod.fst = ks.map (fun k => k.2.1) ∧ ∀ z ∈ zs, H z.1 = some (.tup [.str z.2.1, .str z.2.2])
  | [], ks, h => by
    cases h
    exact ⟨[], rfl, rfl, fun _ h => nomatch h⟩
  | e :: r, ks, h => by
    cases h with
    | cons h t =>
      rename_i q ks
      obtain ⟨zs, e1, e2, e3⟩ := kt_pairs t
      refine ⟨(q.2.1, e) :: zs, by rw [List.map_cons, e1], by rw [List.map_cons, e2]; rfl, fun z m => ?_⟩
      rcases List.mem_cons.mp m with rfl | m
      · exact h.2.1
      · exact e3 z m
theorem vals_zs : ∀ {us : List Value} {zs : List (Addr × Str × Str)}, EachIs (fun u z => u = Value.ref z.1) us zs → Vals (zs.map fun z => V.ref z.1) us
  | _, _, .nil => .nil
  | _, _, .cons h r => .cons h (vals_zs r)
theorem each_refs : ∀ (zs : List (Addr × Str × Str)), EachIs (fun u z => u = Value.ref z.1) ((zs.map Prod.fst).map Value.ref) zs
  | [] => .nil
  | z :: r => .cons rfl (each_refs r)
theorem each_mem2 {α β : Type} {R : α → β → Prop} : ∀ {us : List α} {zs : List β}, EachIs R us zs → EachIs (fun u z => R u z ∧ z ∈ zs) us zs
  | _, _, .nil => .nil
  | _, _, .cons h r => .cons ⟨h, .head _⟩ ((each_mem2 r).mono fun _ _ q => ⟨q.1, .tail _ q.2⟩)
theorem call_srtT (hcalm : X.calm = true) (hu : X.A.units + 64 < cLine) : CallR X (.builtin "sorted") rSrtT := by
  intro pins s σ H xs us Q I r q
  obtain ⟨d, es0, ex, hd, q⟩ := q
  subst ex
  obtain ⟨u, eu, rx⟩ := vals1 r
  subst eu
  cases rx
  obtain ⟨z, hs, ks, pr, o, es, ep, ho, hx, hdt, he, hn⟩ := (show ObjOk X.prog X.w H s.heap d (.dT (dp es0)) from I.hok d _ hd)
  have l1 : es.size = ks.length := size_of_entries he
  have l2 : (dp es0).length = ks.length := Paired.length pr
  obtain ⟨zs, z1, z2, z3⟩ := kt_pairs pr
  refine sorted_src (bs := zs) (enc := fun z => Datum.toD z.2) (R := fun u z => u = Value.ref z.1) (OK := fun h => h.get? d = some o) (kdl_raw hs hx hdt) (I.ok.hd hcalm) ho (by omega) (fun acc' it => ?_) ?_ ?_ (fun b _ => ?_) fun h' H' tk out c hk1 hkp hg eo => ?_
  · have ea : acc'.toList = ks.map fun x => Value.ref x.2.1 := by
      have hl : acc'.toList.length = ks.length := by rw [Array.length_toList, it.1]; exact l1
      apply List.ext_getElem?
      intro j
      rw [List.getElem?_map]
      cases hj : acc'.toList[j]? with
      | none =>
        have h1 := List.getElem?_eq_none_iff.mp hj
        rw [List.getElem?_eq_none (by omega)]
        all_goals rfl
      | some v =>
        obtain ⟨en, hen, hv⟩ := it.2 j v (by rw [← Array.getElem?_toList]; exact hj)
        have qe := entry_at he j
        rw [hen] at qe
        cases hb : ks[j]? with
        | none =>
          rw [hb] at qe
          exact nomatch (show some en = none from qe)
        | some b =>
          rw [hb] at qe
          have e2 : en = entryOfKey (tupleKind (mixKind X.prog X.w)) b := Option.some.inj qe
          rw [hv, e2]
          all_goals rfl
    have eb : acc'.toList = (zs.map Prod.fst).map Value.ref := by rw [ea, z2, List.map_map]; all_goals rfl
    have hE : EachIs (fun u (z : Addr × Str × Str) => u = Value.ref z.1) acc'.toList zs := by rw [eb]; exact each_refs zs
    refine ⟨hE, (each_mem2 hE).mono fun v b hvb => ?_⟩
    obtain ⟨rfl, hb⟩ := hvb
    obtain ⟨its, rv, ⟨o', ho', hc', n', hd'⟩, _⟩ := I.tuple (SqT.of (K := X.K) (z3 b hb))
    obtain ⟨u1, u2, rfl, ⟨t1, rfl⟩, ⟨t2, rfl⟩⟩ : ∃ u1 u2, its = [u1, u2] ∧ RelV (.str b.2.1) u1 ∧ RelV (.str b.2.2) u2 := by
      cases rv with
      | cons p q =>
        cases q with
        | cons p' q' =>
          cases q'
          exact ⟨_, _, rfl, p, p'⟩
    have hr := ReadsAll.cons (Reads.str (h := s.heap) b.2.1 t1) (ReadsAll.cons (Reads.str (h := s.heap) b.2.2 t2) ReadsAll.nil)
    exact Reads.tuple ho' hc' hd' hr
  · have em : zs.map (fun z => Datum.toD z.2) = es0.map Datum.toD := by rw [← z1, List.map_map]; rfl
    rw [em]
    exact AllAlike.of DatumOrd.alike
  · have em : zs.map (fun z => Datum.toD z.2) = es0.map Datum.toD := by rw [← z1, List.map_map]; rfl
    rw [em]
    exact srtb_pairs es0
  · have := Datum.depth_le b.2
    have h2 : Datum.depth (Str × Str) ≤ 60 := by decide
    show X.A.units + 3 + (Datum.toD b.2).depth < cLine
    omega
  · have hm : (zs.mergeSort (dataLe false fun z => Datum.toD z.2)).map Prod.snd = srt es0 := by
      have e1 := List.map_mergeSort (r := dataLe false (fun z : Addr × Str × Str => Datum.toD z.2)) (s := fun a b : Str × Str => !DatumOrd.lt b a) (f := Prod.snd) (l := zs) (fun a _ b _ => congrFun (congrFun (dataLe_toD (α := Str × Str)) a.2) b.2)
      rw [e1, z1]
      rfl
    have hmm : ∀ z ∈ zs.mergeSort (dataLe false fun z => Datum.toD z.2), H z.1 = some (.tup [.str z.2.1, .str z.2.2]) := fun z m => z3 z ((List.mergeSort_perm _ _).mem_iff.mp m)
    have hlen : ((zs.mergeSort (dataLe false fun z => Datum.toD z.2)).map fun z => V.ref z.1).length ≤ sizeLine := by
      have := congrArg List.length hm
      rw [List.length_map, srt_len] at this
      rw [List.length_map, this]
      have h3 : (dp es0).length = es0.length := List.length_map _
      omega
    have I1 : Inv X pins σ H { s with heap := h', toks := tk } := I.kept hk1
    exact ⟨.ref h'.objs.size, upd H h'.objs.size (.lst _), I1.laid (t' := tk) hkp (Nat.le_refl _) (show ObjOk X.prog X.w _ _ _ (.lst ((zs.mergeSort (dataLe false fun z => Datum.toD z.2)).map fun z => V.ref z.1)) from ⟨hlen, out, c, vals_zs eo, hg⟩), rfl, q _ _ hm hmm (I1.hok.fresh (Nat.le_refl _))⟩
end
section
variable {K : PySem.W.Frag} {σ : L2.St} {H : Hp} {Q : VK} {D : Ends} {L F : List Cell} {a b d p : Addr} {xs ys : List V} {i j : Int} {v w x y : V} {te ta tb : TE} {tl : TA} {R : L2.St → Hp → Prop} {tt : TT} {g : TG} {vs : List Nat}
theorem rd_srtK {ps : List (Str × V)} (hA : At H L) (m : (a, HO.dK (dk ps)) ∈ L) (k : ∀ p H', At H' ((p, .lst ((srt (ps.map Prod.fst)).map V.str)) :: L) → Q (.ref p) H') : rSrtK [.ref a] H Q :=
  ⟨a, dk ps, ps.map Prod.fst, rfl, .inl (hA.rd m), by unfold dk; rw [List.map_map, List.map_map]; rfl, fun p hp => k p _ (hA.new hp)⟩
theorem rd_srtKs {ks : List Str} (hA : At H L) (m : (a, HO.dK (ds ks)) ∈ L) (k : ∀ p H', At H' ((p, .lst ((srt ks).map V.str)) :: L) → Q (.ref p) H') : rSrtK [.ref a] H Q :=
  ⟨a, ds ks, ks, rfl, .inl (hA.rd m), by unfold ds; rw [List.map_map]; rfl, fun p hp => k p _ (hA.new hp)⟩
theorem at_tups {H : Hp} {L : List Cell} (hA : At H L) : ∀ (zs : List (Addr × Str × Str)), (∀ z ∈ zs, H z.1 = some (.tup [.str z.2.1, .str z.2.2])) → At H (zs.map (fun z => (z.1, HO.tup [V.str z.2.1, .str z.2.2])) ++ L)
  | [], _ => hA
  | z :: r, h => (at_tups hA r fun y m => h y (.tail _ m)).addT (h z (.head _))
theorem iss_tups : ∀ (zs : List (Addr × Str × Str)), Iss (zs.map (fun z => (z.1, HO.tup [V.str z.2.1, .str z.2.2]))) (zs.map fun z => V.ref z.1) (zs.map Prod.snd)
  | [] => .nil
  | z :: r => .cons (is_pair (.head _) (.str _) (.str _)) (RpAll.mono (fun _ m => .tail _ m) (iss_tups r))
theorem rd_srtT {es : List (Str × Str)} (hA : At H L) (m : (a, HO.dT (dp es)) ∈ L) (k : ∀ p vs W H', At H' ((p, .lst vs) :: (W ++ L)) → Iss W vs (srt es) → Q (.ref p) H') : rSrtT [.ref a] H Q := by
  refine ⟨a, es, rfl, hA.rd m, fun zs p e hz hp => ?_⟩
  have h1 := at_tups hA zs hz
  have h2 := iss_tups zs
  rw [e] at h2
  exact k p _ _ _ (h1.new hp) h2
end
end Sw

namespace Sw
open PySem L2 PySem.W
def rowO (t : Bool) (xs : List V) : HO := match t with
  | true => .tup xs
  | false => .lst xs
def Sq (K : PySem.W.Frag) (t : Bool) (H : Hp) (a : Addr) (xs : List V) : Prop := match t with
  | true => SqT K H a xs
  | false => SqL K H a xs
def Itw (K : PySem.W.Frag) (t : Bool) (a : Addr) : It := match t with
  | true => Itt K a
  | false => Itl K a
theorem Sq.of {K : PySem.W.Frag} {t : Bool} {H : Hp} {a : Addr} {xs : List V} (h : H a = some (rowO t xs)) : Sq K t H a xs := by
  cases t with
  | true => exact SqT.of h
  | false => exact SqL.of h
def RowK (K : PySem.W.Frag) (x : V) (H : Hp) (R : It → Hp → Prop) : Prop := ∃ a t, x = .ref a ∧ (∃ xs, Sq K t H a xs) ∧ R (Itw K t a) H
def iRow (K : PySem.W.Frag) (te : TE) : TI := fun σ H R => te σ H fun x H1 => RowK K x H1 R
section
variable {X : Cx} {K : PySem.W.Frag} {σ : L2.St} {H : Hp} {Q : VK} {D : Ends} {L F : List Cell} {a b d p : Addr} {xs ys : List V} {i j : Int} {v w x y z : V} {te ta tb tc td : TE} {tl : TA} {R : L2.St → Hp → Prop} {tt : TT} {g : TG} {tb' : TS} {vs : List Nat} {t : Bool}
theorem rd_iRow {R : It → Hp → Prop} (k : te σ H fun x H1 => RowK K x H1 R) : iRow K te σ H R := k
theorem rd_rowk {R : It → Hp → Prop} (hA : At H L) (m : (a, rowO t xs) ∈ L) (k : R (Itw K t a) H) : RowK K (.ref a) H R := ⟨a, t, rfl, ⟨xs, Sq.of (hA.rd m)⟩, k⟩
theorem rd_rowkL {R : It → Hp → Prop} (hA : At H L) (m : (a, HO.lst xs) ∈ L) (k : R (Itw K false a) H) : RowK K (.ref a) H R := rd_rowk (t := false) hA m k
theorem rd_lenRm {β : Type} {f : β → V} {zs : List β} (hA : At H L) (m : (a, rowO t (zs.map f)) ∈ L) (k : Q (.int (zs.length : Int)) H) : rLenQ K [.ref a] H Q := by
  cases t with
  | true => exact rd_lenTm hA m k
  | false => exact rd_lenLm hA m k
theorem rd_listR (hA : At H L) (m : (a, rowO t xs) ∈ L) (k : ∀ p H', At H' ((p, .lst xs) :: L) → Q (.ref p) H') : rList K [.ref a] H Q := by
  cases t with
  | true => exact rd_listT hA m k
  | false => exact rd_listL hA m k
theorem rd_inRs {z : Str} {zs : List Str} (hA : At H L) (m : (a, rowO t (zs.map V.str)) ∈ L) (k : Q (.bl (decide (z ∈ zs))) H) : rIn K false (.str z) (.ref a) H Q := by
  cases t with
  | true => exact rd_inTs hA m k
  | false => exact rd_inLs hA m k
theorem row_lst {L : List Cell} {a : Addr} {xs : List V} (m : (a, HO.lst xs) ∈ L) : (a, rowO false xs) ∈ L := m
theorem row_tup {L : List Cell} {a : Addr} {xs : List V} (m : (a, HO.tup xs) ∈ L) : (a, rowO true xs) ∈ L := m
theorem sub_perm {α : Type} {ys zs N : List α} (h1 : ys.Perm zs) (h2 : ∀ y ∈ zs, y ∈ N) : ∀ y ∈ ys, y ∈ N := fun y m => h2 y (h1.mem_iff.mp m)
theorem iss_mono {α : Type} {i1 : DecidableEq α} {i2 : Datum α} {W L : List Cell} {vs : List V} {xs : List α} (s : ∀ x ∈ W, x ∈ L) (h : Iss W vs xs) : Iss L vs xs := RpAll.mono s h
theorem loop_it {J : It} {n : Nat} {G : Hp → Prop} {Y : Nat → Hp → V → Hp → Prop} (w : L2.Walk J n G Y) (Pv : Nat → L2.St → Hp → Prop) (h0 : Pv 0 σ H) (hG : ∀ i σ H, i ≤ n → Pv i σ H → G H)
    (hs : ∀ i x σ H H', i < n → Pv i σ H → Y i H x H' → g x σ H' fun σ2 H2 => tb' { D with nx := Pv (i + 1), ct := Pv (i + 1), bk := D.nx } σ2 H2) (hd : ∀ σ H, Pv n σ H → D.nx σ H) : Loop J g tb' D σ H := for_it w Pv h0 hG hs hd
theorem loop_enum {β : Type} {f : β → V} {zs : List β} (Pv : Nat → L2.St → Hp → Prop) (h0 : Pv 0 σ H) (hG : ∀ i σ H, i ≤ zs.length → Pv i σ H → ∃ L, At H L ∧ (a, HO.lst (zs.map f)) ∈ L)
    (hs : ∀ (i : Nat) z T σ H, zs[i]? = some z → Pv i σ H → ∀ H', (∀ L, At H L → At H' ((T, .tup [.int (i : Int), f z]) :: L)) → g (.ref T) σ H' fun σ2 H2 => tb' { D with nx := Pv (i + 1), ct := Pv (i + 1), bk := D.nx } σ2 H2) (hd : ∀ σ H, Pv zs.length σ H → D.nx σ H) : Loop (Ite K a) g tb' D σ H := by
  have w : L2.Walk (Ite K a) zs.length (fun H => SqL K H a (zs.map f)) (YPair (fun i => some (.int (i : Nat))) (fun i => (zs.map f)[i]?)) := by
    have := walk_enum (K := K) (a := a) (xs := zs.map f)
    rw [List.length_map] at this
    exact this
  refine loop_it w Pv h0 (fun i σ H hi h => ?_) (fun i x σ H H' hi h hy => ?_) hd
  · obtain ⟨L, hA, m⟩ := hG i σ H hi h
    exact SqL.of (hA.rd m)
  · obtain ⟨T, y1, y2, rfl, h1, rfl, h3, h4⟩ := hy
    cases h3
    have h4' : (zs.map f)[i]? = some y2 := h4
    rw [List.getElem?_map] at h4'
    cases q : zs[i]? with
    | none => rw [q] at h4'; cases h4'
    | some z =>
      rw [q] at h4'
      cases h4'
      exact hs i z T σ H q h _ (fun L hA => hA.new h1)
theorem loop_enumI {α : Type} {i1 : DecidableEq α} {i2 : Datum α} {zs : List α} {us : List V} {W : List Cell} (hI : Iss W us zs) (Pv : Nat → L2.St → Hp → Prop) (h0 : Pv 0 σ H) (hG : ∀ i σ H, i ≤ zs.length → Pv i σ H → ∃ L, At H L ∧ (a, HO.lst us) ∈ L)
    (hs : ∀ (i : Nat) z v T σ H, zs[i]? = some z → Is W v z → Pv i σ H → ∀ H', (∀ L, At H L → At H' ((T, .tup [.int (i : Int), v]) :: L)) → g (.ref T) σ H' fun σ2 H2 => tb' { D with nx := Pv (i + 1), ct := Pv (i + 1), bk := D.nx } σ2 H2) (hd : ∀ σ H, Pv zs.length σ H → D.nx σ H) : Loop (Ite K a) g tb' D σ H := by
  have w : L2.Walk (Ite K a) zs.length (fun H => SqL K H a us) (YPair (fun i => some (.int (i : Nat))) (fun i => us[i]?)) := by
    have := walk_enum (K := K) (a := a) (xs := us)
    rw [hI.len] at this
    exact this
  refine loop_it w Pv h0 (fun i σ H hi h => ?_) (fun i x σ H H' hi h hy => ?_) hd
  · obtain ⟨L, hA, m⟩ := hG i σ H hi h
    exact SqL.of (hA.rd m)
  · obtain ⟨T, y1, y2, rfl, h1, rfl, h3, h4⟩ := hy
    cases h3
    have h4' : us[i]? = some y2 := h4
    obtain ⟨z, e2, hz⟩ := hI.at h4'
    exact hs i z y2 T σ H e2 hz h _ (fun L hA => hA.new h1)
def KeyK (x : V) (H : Hp) (R : It → Hp → Prop) : Prop := ∃ d o, x = .ref d ∧ ((∃ kvs, H d = some (.frz o (.dK kvs)) ∧ R (Itk d o kvs) H) ∨ ∃ kvs, H d = some (.frz o (.dT kvs)) ∧ R (Itkt d o kvs) H)
theorem rd_iKeys {R : It → Hp → Prop} (k : td σ H fun x H1 => KeyK x H1 R) : iKeys td σ H R := k
theorem rd_keyk {R : It → Hp → Prop} {o : Obj} {kvs : List (Key × V)} (hA : At H L) (m : (d, HO.frz o (.dK kvs)) ∈ L) (k : R (Itk d o kvs) H) : KeyK (.ref d) H R := ⟨d, o, rfl, .inl ⟨kvs, hA.rd m, k⟩⟩
theorem walk_dk {o : Obj} {ps : List (Str × V)} : L2.Walk (Itk d o (dk ps)) ps.length (fun H => H d = some (.frz o (.dK (dk ps)))) (fun i H x H' => H' = H ∧ ∃ z, ps[i]? = some z ∧ x = .str z.1) := by
  have w := walk_keys (d := d) (o := o) (kvs := dk ps)
  have e : (dk ps).length = ps.length := List.length_map _
  rw [e] at w
  refine w.mono (fun _ h => h) (fun i H x H' _ _ hy => ?_)
  obtain ⟨h1, k, v, h2, h3⟩ := hy
  refine ⟨h1, ?_⟩
  unfold dk at h2
  rw [List.getElem?_map] at h2
  cases q : ps[i]? with
  | none => rw [q] at h2; cases h2
  | some z =>
    rw [q] at h2
    cases h2
    exact ⟨z, rfl, h3⟩
def rDictP (K : PySem.W.Frag) : List V → Hp → VK → Prop := fun xs H Q => ∃ (a : Addr) (ps : List Addr) (kvs : List (Key × V)), xs = [.ref a] ∧ SqL K H a (ps.map V.ref) ∧ Paired (fun p kv => SqT K H p [kV kv.1, kv.2]) ps kvs ∧
    ∀ p, H p = none → Q (.ref p) (upd H p (.dK (mergeK [] kvs)))
theorem call_dictP (hcalm : X.calm = true) : CallR X (.type "dict") (rDictP X.K) := L2.call_dictP hcalm
theorem merge_dk : ∀ (ps acc : List (Str × V)), ((acc ++ ps).map Prod.fst).Nodup → mergeK (dk acc) (dk ps) = dk (acc ++ ps)
  | [], acc, _ => by rw [List.append_nil]; rfl
  | q :: r, acc, nd => by
    show mergeK (putK (dk acc) (Sum.inr q.1) q.2) (dk r) = _
    have hn : acc.lookup q.1 = none := by
      rw [List.lookup_eq_none_iff]
      intro z m
      rw [List.map_append, List.map_cons] at nd
      have := (List.nodup_append.mp nd).2.2 z.1 (List.mem_map.mpr ⟨z, m, rfl⟩) q.1 (.head _)
      simpa using fun e => this e.symm
    rw [putK_dk_new hn, merge_dk r (acc ++ [(q.1, q.2)]) (by rw [List.append_assoc]; exact nd), List.append_assoc]
    rfl
theorem paired_of {α β : Type} {Rr : α → β → Prop} {γ : Type} (f : γ → α) (g : γ → β) : ∀ (zs : List γ), (∀ z ∈ zs, Rr (f z) (g z)) → Paired Rr (zs.map f) (zs.map g)
  | [], _ => .nil
  | z :: r, h => .cons (h z (.head _)) (paired_of f g r fun y m => h y (.tail _ m))
theorem rd_dictP {zs : List (Addr × Str × V)} (hA : At H L) (m : (a, HO.lst (zs.map fun z => V.ref z.1)) ∈ L) (hz : ∀ z ∈ zs, (z.1, HO.tup [.str z.2.1, z.2.2]) ∈ L) (nd : (zs.map fun z => z.2.1).Nodup)
    (k : ∀ p H', At H' ((p, .dK (dk (zs.map Prod.snd))) :: L) → Q (.ref p) H') : rDictP K [.ref a] H Q := by
  refine ⟨a, zs.map Prod.fst, dk (zs.map Prod.snd), rfl, SqL.of (hA.rd (by rw [List.map_map]; exact m)), ?_, fun p hp => ?_⟩
  · unfold dk
    rw [List.map_map]
    exact paired_of _ _ zs fun z m => SqT.of (hA.rd (hz z m))
  · have e : mergeK [] (dk (zs.map Prod.snd)) = dk (zs.map Prod.snd) := by
      have := merge_dk (zs.map Prod.snd) [] (by rw [List.nil_append, List.map_map]; exact nd)
      exact this
    rw [e]
    exact k p _ (hA.new hp)
theorem kV_dk (ps : List (Str × V)) : ((dk ps).map fun kv => kV kv.1) = (ps.map Prod.fst).map V.str := by
  unfold dk
  rw [List.map_map, List.map_map]
  rfl
theorem rd_listDk {ps : List (Str × V)} (hA : At H L) (m : (a, HO.dK (dk ps)) ∈ L) (k : ∀ p H', At H' ((p, .lst ((ps.map Prod.fst).map V.str)) :: L) → Q (.ref p) H') : rListD [.ref a] H Q :=
  ⟨a, dk ps, rfl, hA.rd m, fun p hp => by rw [kV_dk]; exact k p _ (hA.new hp)⟩
def Rg1K (x : V) (H : Hp) (Q : Int → Int → Hp → Prop) : Prop := ∃ n, x = .int n ∧ Q 0 n H
def LRgK (a b : Int) (H : Hp) (Q : VK) : Prop := RgOk a b ∧ ∀ q, H q = none → Q (.ref q) (upd H q (.lst (rgV a b)))
theorem rd_lstRg {te : L2.St → Hp → (Int → Int → Hp → Prop) → Prop} (k : te σ H fun a b H1 => LRgK a b H1 Q) : tLstRg te σ H Q := k
theorem rd_rg1 {Q : Int → Int → Hp → Prop} (k : ta σ H fun x H1 => Rg1K x H1 Q) : tRg1 ta σ H Q := k
theorem rd_rg1k {Q : Int → Int → Hp → Prop} (k : Q 0 i H) : Rg1K (.int i) H Q := ⟨i, rfl, k⟩
theorem rd_lrg (hA : At H L) (h0 : 0 ≤ i) (h1 : i ≤ 1000000) (k : ∀ q H', At H' ((q, .lst ((List.range i.toNat).map nv)) :: L) → Q (.ref q) H') : LRgK 0 i H Q := by
  refine ⟨RgOk.of_le (by omega) (by omega) (by omega) h0, fun q hq => ?_⟩
  have e : rgV 0 i = (List.range i.toNat).map nv := by
    unfold rgV
    rw [Int.sub_zero]
    refine List.map_congr_left fun n _ => ?_
    rw [Int.zero_add]
  rw [e]
  exact k q _ (hA.new hq)
section
variable {T M M' G : List Cell} {c e : Cell}
theorem SubP.find (h : M.Perm (c :: M')) (s : SubP T M') : SubP (c :: T) M := s.c0.k h
theorem SubP.findS (h : M.Perm (G ++ M')) (s : SubP T M') : SubP (G ++ T) M := (SubP.app (F := G) s).k h
theorem pf_cell : (c :: M).Perm (c :: M) := .refl _
theorem pf_cons (h : M.Perm (c :: M')) : (e :: M).Perm (c :: e :: M') := (h.cons e).trans (.swap _ _ _)
theorem pf_app (h : M.Perm (c :: M')) : (G ++ M).Perm (c :: (G ++ M')) := (h.append_left G).trans List.perm_middle
theorem ps_seg : (G ++ M).Perm (G ++ M) := .refl _
theorem ps_cons (h : M.Perm (G ++ M')) : (e :: M).Perm (G ++ (e :: M')) := (h.cons e).trans List.perm_middle.symm
theorem ps_app {F : List Cell} (h : M.Perm (G ++ M')) : (F ++ M).Perm (G ++ (F ++ M')) := by
  refine (h.append_left F).trans ?_
  rw [← List.append_assoc, ← List.append_assoc]
  exact List.perm_append_comm.append_right M'
end
theorem fl_hd {f : Str} {v : V} {r : List (Str × V)} : List.lookup f ((f, v) :: r) = some v := by
  simp only [List.lookup, beq_self_eq_true]
theorem fl_tl {f g : Str} {w : V} {r : List (Str × V)} {o : Option V} (h : (f == g) = false) (k : List.lookup f r = o) : List.lookup f ((g, w) :: r) = o := by
  simp only [List.lookup, h]
  exact k
theorem fl_nil {f : Str} : List.lookup f ([] : List (Str × V)) = none := rfl
theorem pf_nil {f : Str} {v : V} : putF f v [] = [(f, v)] := rfl
theorem pf_hd {f : Str} {v w : V} {r : List (Str × V)} : putF f v ((f, w) :: r) = (f, v) :: r := by
  unfold putF
  rw [if_pos rfl]
theorem pf_tl {f g : Str} {v w : V} {r r' : List (Str × V)} (h : (g == f) = false) (k : putF f v r = r') : putF f v ((g, w) :: r) = (g, w) :: r' := by
  rw [putF, if_neg (fun e => by rw [e, beq_self_eq_true] at h; cases h), k]
theorem rd_sfldN {P : Hp → Prop} {f : Str} {C dx : Addr} {fs gs : List (Str × V)} (hA : At H ((a, HO.ins C dx fs) :: F)) (c : Cls K C) (n : NoAttr K C f) (hl : fs.length < 1000) (e : putF f y fs = gs) (k : ∀ H', At H' ((a, .ins C dx gs) :: F) → P H') : SFldK K f (.ref a) y H P :=
  rd_sfldk hA c n hl fun H' h => k H' (by rw [e] at h; exact h)
def ChK (z : V) (H : Hp) (f : Hp → Prop) (Q : VK) : Prop := ∃ k, z = .bl k ∧ (if k = true then f H else Q (.bl false) H)
theorem rd_chain {r r' : R2} (k : ta σ H fun x H1 => tb σ H1 fun y H2 => r x y H2 fun z H3 => ChK z H3 (fun H4 => tc σ H4 fun w' H5 => r' y w' H5 Q) Q) : tChain r r' ta tb tc σ H Q := k
theorem rd_chk {f : Hp → Prop} {c : Bool} (k : Br c (f H) (Q (.bl false) H)) : ChK (.bl c) H f Q := ⟨c, rfl, k⟩
def UnK (d : Addr) (od : Obj) (u : HO) (P : Hp → Prop) (H : Hp) : Prop := H d = some (.frz od u) ∧ P (upd H d u)
theorem rd_lockV {u : HO} {t : TE} (hA : At H ((d, u) :: F)) (hm : Mut (some u)) (ht : isT u = false) (k : ∀ od H1, At H1 ((d, .frz od u) :: F) → t σ H1 fun v H' => UnK d od u (Q v) H') : tLockE t σ H Q := rd_lockE hA hm ht k
theorem rd_unlk {u : HO} {od : Obj} {P : Hp → Prop} (hA : At H ((d, .frz od u) :: F)) (k : ∀ H', At H' ((d, u) :: F) → P H') : UnK d od u P H := un_lock hA k
end
section
variable {P : Program} {w : World} {K : PySem.W.Frag} {mg : Str → Option Value} {base : Heap}
theorem fnok {x qual : Str} {st : Stmt} {f : Addr} {fd : FuncData} {N ps : List Str} {k : Nat} {sp : Sp} (F : FunD K x qual (defArgs st) (defBody st) (defScope st) [] [] f fd) (S : FnScope N ps (defScope st))
    (len : ∀ vs H Q E, sp vs H Q E → vs.length = ps.length)
    (hbody : ∀ (cdv : Value) (A : Around) (outer : List Env) (s : Shared) (H : Hp) (vs : List V) (Q : VK) (E : XK), Room k (A.deeper (PyProof.Rows.envOfC qual (defScope st) s.heap.objs.size f cdv)) → sp vs H Q E →
      ∃ t, PSs (cxOf CX0 P w K mg base N qual (defScope st) f cdv A outer s H E).nox (defBody st) t ∧ t { nx := fun _ H' => Q .non H', rt := Q } (start N vs) H) : FnOk P w K mg base CX0 (k + 1) f fd ps sp := by
  refine F.ok S len fun cdv A outer s H vs Q E hr hs => ?_
  obtain ⟨t, h, q⟩ := hbody cdv A outer s H vs Q E hr hs
  exact ⟨t, h.nox, q⟩
theorem law_in {H : Hp} {a : Addr} {xs : List V} (hO : L2.Only H) (hS : SqL K H a xs) : ∃ L, At H L ∧ ∀ H', At H' L → SqL K H' a xs := by
  rcases hS with (e | ⟨o, e⟩) | h
  · rcases hO a with z | ⟨o, ys, z⟩
    · rw [z] at e
      cases e
    · rw [z] at e
      cases e
  · refine ⟨[(a, .frz o (.lst xs))], ⟨fun y m => ?_, List.pairwise_singleton _ _⟩, fun H' A => .inl (.inr ⟨o, A.rd (.head _)⟩)⟩
    cases List.mem_singleton.mp m
    exact e
  · exact ⟨[], At.nil, fun _ _ => .inr h⟩
structure MCal (P : Program) (w : World) (K : PySem.W.Frag) (mg : Str → Option Value) (base : Heap) (f : Addr) (k : Nat) (ps : List Str) (sp : Sp) : Prop where
  ex : ∃ fd, Binds K fd ps [] ∧ FnOk P w K mg base CX0 k f fd ps sp
theorem mcal {x qual : Str} {st : Stmt} {f : Addr} {N ps : List Str} {k : Nat} {sp : Sp} (F : ∃ fd, FunD K x qual (defArgs st) (defBody st) (defScope st) [] [] f fd) (S : FnScope N ps (defScope st))
    (hb : ∀ (kV doc pm : Value) (an : Option Addr) (cdv ct : Value) (us : List Value), us.length = ps.length → bindArgs (PySem.W.fnOf x qual (defArgs st) (defBody st) (defScope st) .none kV doc pm an cdv ct) ⟨us, []⟩ = pure (ps.zip us))
    (len : ∀ vs H Q E, sp vs H Q E → vs.length = ps.length)
    (hbody : ∀ (cdv : Value) (A : Around) (outer : List Env) (s : Shared) (H : Hp) (vs : List V) (Q : VK) (E : XK), Room k (A.deeper (PyProof.Rows.envOfC qual (defScope st) s.heap.objs.size f cdv)) → sp vs H Q E →
      ∃ t, PSs (cxOf CX0 P w K mg base N qual (defScope st) f cdv A outer s H E).nox (defBody st) t ∧ t { nx := fun _ H' => Q .non H', rt := Q } (start N vs) H) : MCal P w K mg base f (k + 1) ps sp := by
  obtain ⟨fd, hF⟩ := F
  refine ⟨fd, hF.bindsN hb, hF.ok S len fun cdv A outer s H vs Q E hr hs => ?_⟩
  obtain ⟨t, h, q⟩ := hbody cdv A outer s H vs Q E hr hs
  exact ⟨t, h.nox, q⟩
end
end Sw

namespace Sw
open PySem L2 PySem.W
def base20 : List Str := ["b", "aa", "zebra", "c", "quartzes", "ab", "m", "knows", "d", "mm", "likes", "z", "a", "ba", "abcdefgh", "y", "zz", "e", "x", "f"]
theorem base20_split : Txt.split "b aa zebra c quartzes ab m knows d mm likes z a ba abcdefgh y zz e x f" " " = base20 := by decide +kernel
theorem perm_erase {α : Type} : ∀ {l : List α} {n : Nat} {x : α}, l[n]? = some x → l.Perm (x :: l.eraseIdx n)
  | [], _, _, h => by simp at h
  | y :: r, 0, x, h => by
    simp at h
    subst h
    exact .refl _
  | y :: r, n + 1, x, h => by
    have := perm_erase (l := r) (n := n) (x := x) (by simpa using h)
    exact (List.Perm.cons y this).trans (.swap _ _ _)
theorem names_step {rest ns base : List Str} {n : Nat} {x : Str} (h : (rest ++ ns).Perm base) (e : rest[n]? = some x) : (rest.eraseIdx n ++ (ns ++ [x])).Perm base := by
  refine List.Perm.trans ?_ h
  have p := perm_erase e
  have q : (rest ++ ns).Perm (x :: rest.eraseIdx n ++ ns) := List.Perm.append_right ns p
  refine List.Perm.trans ?_ q.symm
  rw [← List.append_assoc]
  exact List.perm_append_comm (l₁ := rest.eraseIdx n ++ ns) (l₂ := [x])
end Sw
namespace Sw
open PySem L2 PySem.W
structure SOk (ns : List Str) (es : List (Str × Str)) : Prop where
  nd : es.Nodup
  mem : ∀ e ∈ es, e.1 ∈ ns ∧ e.2 ∈ ns
theorem SOk.nil (ns : List Str) : SOk ns [] := ⟨.nil, fun _ h => nomatch h⟩
theorem SOk.perm {ns : List Str} {es es' : List (Str × Str)} (h : SOk ns es) (p : es'.Perm es) : SOk ns es' := ⟨p.nodup_iff.mpr h.nd, fun e m => h.mem e (p.mem_iff.mp m)⟩
theorem SOk.cons {ns : List Str} {es : List (Str × Str)} {x y : Str} (h : SOk ns es) (hx : x ∈ ns) (hy : y ∈ ns) (hn : ¬ (x, y) ∈ es) : SOk ns ((x, y) :: es) :=
  ⟨List.nodup_cons.mpr ⟨hn, h.nd⟩, fun e m => by
    rcases List.mem_cons.mp m with rfl | m
    · exact ⟨hx, hy⟩
    · exact h.mem e m⟩
theorem ins_perm {α : Type} (l : List α) (n : Nat) (x : α) : (l.take n ++ [x] ++ l.drop n).Perm (x :: l) := by
  rw [List.append_assoc]
  refine (List.perm_middle (l₁ := l.take n) (a := x) (l₂ := l.drop n)).trans ?_
  rw [List.take_append_drop]
theorem SOk.ins {ns : List Str} {es : List (Str × Str)} {x y : Str} (h : SOk ns es) (n : Nat) (hx : x ∈ ns) (hy : y ∈ ns) (hn : ¬ (x, y) ∈ es) : SOk ns (es.take n ++ [(x, y)] ++ es.drop n) := (h.cons hx hy hn).perm (ins_perm _ _ _)
theorem SOk.app {ns : List Str} {es : List (Str × Str)} {x y : Str} (h : SOk ns es) (hx : x ∈ ns) (hy : y ∈ ns) (hn : ¬ (x, y) ∈ es) : SOk ns (es ++ [(x, y)]) := (h.cons hx hy hn).perm List.perm_append_comm
theorem iss_ins {W : List Cell} {vs : List V} {es : List (Str × Str)} {t : Addr} {x y : Str} (n : Nat) (h : Iss W vs es) : Iss ((t, HO.tup [.str x, .str y]) :: W) (vs.take n ++ [.ref t] ++ vs.drop n) (es.take n ++ [(x, y)] ++ es.drop n) := by
  have h' : Iss ((t, HO.tup [.str x, .str y]) :: W) vs es := RpAll.mono (fun _ m => .tail _ m) h
  exact Iss.app (Iss.app (Iss.take n h') (Iss.one (is_pair (.head _) (.str x) (.str y)))) (Iss.drop n h')
theorem iss_app {W : List Cell} {vs : List V} {es : List (Str × Str)} {t : Addr} {x y : Str} (h : Iss W vs es) : Iss ((t, HO.tup [.str x, .str y]) :: W) (vs ++ [.ref t]) (es ++ [(x, y)]) :=
  Iss.app (RpAll.mono (fun _ m => .tail _ m) h : Iss _ vs es) (Iss.one (is_pair (.head _) (.str x) (.str y)))
end Sw
namespace Sw
open PySem L2 PySem.W
structure VwOk (N : List Str) (es : List (Str × Str)) (ks us : List Nat) : Prop where
  kl : ks.length = N.length
  ul : us.length = N.length
  kb : ∀ (b m : Nat), ks[b]? = some m → ∀ a, m.testBit a = true ↔ ∃ x y, N[a]? = some x ∧ N[b]? = some y ∧ (x, y) ∈ es
  ub : ∀ (a m : Nat), us[a]? = some m → ∀ b, m.testBit b = true ↔ ∃ x y, N[a]? = some x ∧ N[b]? = some y ∧ (x, y) ∈ es
theorem bit_set (m n a : Nat) : (m ||| 1 <<< n).testBit a = true ↔ m.testBit a = true ∨ a = n := by
  rw [Nat.testBit_or, Nat.one_shiftLeft, Nat.testBit_two_pow, Bool.or_eq_true, decide_eq_true_eq]
  exact ⟨fun h => h.imp id Eq.symm, fun h => h.imp id Eq.symm⟩
theorem at_inj {N : List Str} (nd : N.Nodup) {i j : Nat} {x : Str} (h1 : N[i]? = some x) (h2 : N[j]? = some x) : i = j := by
  obtain ⟨hi, e1⟩ := List.getElem?_eq_some_iff.mp h1
  obtain ⟨hj, e2⟩ := List.getElem?_eq_some_iff.mp h2
  exact (List.getElem_inj nd).mp (e1.trans e2.symm)
theorem VwOk.zero (N : List Str) : VwOk N [] (List.replicate N.length 0) (List.replicate N.length 0) := by
  have z : ∀ (b m : Nat), (List.replicate N.length 0)[b]? = some m → ∀ a, m.testBit a = true ↔ ∃ x y, N[a]? = some x ∧ N[b]? = some y ∧ (x, y) ∈ ([] : List (Str × Str)) := fun b m h a => by
    have : m = 0 := by
      have := List.mem_of_getElem? h
      exact List.eq_of_mem_replicate this
    subst this
    simp
  refine ⟨List.length_replicate, List.length_replicate, z, fun a m h b => ?_⟩
  have : m = 0 := List.eq_of_mem_replicate (List.mem_of_getElem? h)
  subst this
  simp
theorem VwOk.step {N : List Str} {es : List (Str × Str)} {ks us : List Nat} (h : VwOk N es ks us) (nd : N.Nodup) {a b ka ua : Nat} {x y : Str} (ha : N[a]? = some x) (hb : N[b]? = some y) (hk : ks[b]? = some ka) (hu : us[a]? = some ua) :
    VwOk N (es ++ [(x, y)]) (ks.set b (ka ||| 1 <<< a)) (us.set a (ua ||| 1 <<< b)) := by
  refine ⟨by rw [List.length_set]; exact h.kl, by rw [List.length_set]; exact h.ul, fun b' m hm a' => ?_, fun a' m hm b' => ?_⟩
  · by_cases e : b = b'
    · subst e
      rw [List.getElem?_set_self (List.getElem?_eq_some_iff.mp hk).1] at hm
      cases hm
      rw [bit_set, h.kb b ka hk a']
      constructor
      · rintro (⟨u, v, h1, h2, h3⟩ | rfl)
        · exact ⟨u, v, h1, h2, List.mem_append_left _ h3⟩
        · exact ⟨x, y, ha, hb, List.mem_append_right _ (.head _)⟩
      · rintro ⟨u, v, h1, h2, h3⟩
        rcases List.mem_append.mp h3 with h3 | h3
        · exact .inl ⟨u, v, h1, h2, h3⟩
        · cases List.mem_singleton.mp h3
          exact .inr (at_inj nd h1 ha)
    · rw [List.getElem?_set_ne e] at hm
      rw [h.kb b' m hm a']
      constructor
      · rintro ⟨u, v, h1, h2, h3⟩
        exact ⟨u, v, h1, h2, List.mem_append_left _ h3⟩
      · rintro ⟨u, v, h1, h2, h3⟩
        rcases List.mem_append.mp h3 with h3 | h3
        · exact ⟨u, v, h1, h2, h3⟩
        · cases List.mem_singleton.mp h3
          exact absurd (at_inj nd hb h2) e
  · by_cases e : a = a'
    · subst e
      rw [List.getElem?_set_self (List.getElem?_eq_some_iff.mp hu).1] at hm
      cases hm
      rw [bit_set, h.ub a ua hu b']
      constructor
      · rintro (⟨u, v, h1, h2, h3⟩ | rfl)
        · exact ⟨u, v, h1, h2, List.mem_append_left _ h3⟩
        · exact ⟨x, y, ha, hb, List.mem_append_right _ (.head _)⟩
      · rintro ⟨u, v, h1, h2, h3⟩
        rcases List.mem_append.mp h3 with h3 | h3
        · exact .inl ⟨u, v, h1, h2, h3⟩
        · cases List.mem_singleton.mp h3
          exact .inr (at_inj nd h2 hb)
    · rw [List.getElem?_set_ne e] at hm
      rw [h.ub a' m hm b']
      constructor
      · rintro ⟨u, v, h1, h2, h3⟩
        exact ⟨u, v, h1, h2, List.mem_append_left _ h3⟩
      · rintro ⟨u, v, h1, h2, h3⟩
        rcases List.mem_append.mp h3 with h3 | h3
        · exact ⟨u, v, h1, h2, h3⟩
        · cases List.mem_singleton.mp h3
          exact absurd (at_inj nd ha h1) e
end Sw
namespace Sw
open PySem L2 PySem.W
abbrev Vw (L : List Cell) (p pn pk pu : Addr) (N : List Str) (ks us : List Nat) : Prop := (p, HO.lst [V.ref pn, .ref pk, .ref pu]) ∈ L ∧ (pn, HO.lst (N.map V.str)) ∈ L ∧ (pk, HO.lst (ks.map nv)) ∈ L ∧ (pu, HO.lst (us.map nv)) ∈ L
theorem bit_is {m k : Nat} : ((m >>> k &&& 1 : Nat) : Int) = 1 ↔ m.testBit k = true := by
  have h3 : m >>> k &&& 1 < 2 := by
    have := Nat.and_le_right (n := m >>> k) (m := 1)
    omega
  rw [Nat.testBit]
  rw [Nat.and_comm 1 (m >>> k)]
  constructor
  · intro h
    have : m >>> k &&& 1 = 1 := by omega
    rw [this]
    rfl
  · intro h
    have h2 : m >>> k &&& 1 ≠ 0 := by simpa using h
    omega
theorem bit_isF {m k : Nat} (h : ¬ ((m >>> k &&& 1 : Nat) : Int) = 1) : m.testBit k = false := by
  cases e : m.testBit k with
  | false => rfl
  | true => exact absurd (bit_is.mpr e) h
def setOf (N : List Str) (m : Nat) : List Str := (N.zipIdx.filter fun z => m.testBit z.2).map Prod.fst
end Sw
namespace Sw
open PySem L2 PySem.W
def hitN (us : List Nat) (m : Nat) : Nat → Nat
  | 0 => 0
  | i + 1 => if m.testBit i = true then hitN us m i ||| us.getD i 0 else hitN us m i
theorem hitN_yes {us : List Nat} {m i u : Nat} (h : m.testBit i = true) (e : us[i]? = some u) : hitN us m (i + 1) = hitN us m i ||| u := by
  rw [hitN, if_pos h, List.getD_eq_getElem?_getD, e]
  rfl
theorem hitN_no {us : List Nat} {m i : Nat} (h : m.testBit i = false) : hitN us m (i + 1) = hitN us m i := by
  rw [hitN, if_neg (by rw [h]; exact Bool.false_ne_true)]
end Sw
namespace Sw
open PySem L2 PySem.W
def keptN (ks : List Nat) (h : Nat) : Nat → Nat
  | 0 => 0
  | i + 1 => if ks.getD i 0 - (ks.getD i 0 &&& h) = 0 then keptN ks h i ||| 1 <<< i else keptN ks h i
end Sw
namespace Sw
open PySem L2 PySem.W
theorem or_bit_lt {x n k : Nat} (h : x < 2 ^ n) (hk : k < n) : x ||| 1 <<< k < 2 ^ n :=
  Nat.or_lt_two_pow h (by rw [Nat.shiftLeft_eq, Nat.one_mul]; exact Nat.pow_lt_pow_right (by decide) hk)
theorem keptN_lt (ks : List Nat) (h : Nat) {n : Nat} : ∀ i, i ≤ n → keptN ks h i < 2 ^ n
  | 0, _ => Nat.two_pow_pos n
  | i + 1, hi => by
    unfold keptN
    split
    · exact or_bit_lt (keptN_lt ks h i (Nat.le_of_succ_le hi)) hi
    · exact keptN_lt ks h i (Nat.le_of_succ_le hi)
end Sw
namespace Sw
open PySem L2 PySem.W
end Sw
namespace Sw
open PySem L2 PySem.W
def letters : Str := "abcdefghijklmnopqrstuvwxyz"
def nameB (z : Str) : Bool := decide (1 ≤ z.length ∧ z.length ≤ 8) && z.cps.toList.all fun c => decide (c ∈ letters.cps.toList)
theorem nameB_len {z : Str} (h : nameB z = true) : z.length ≤ 90000 := by
  unfold nameB at h
  have h9 := of_decide_eq_true (Bool.and_eq_true _ _ ▸ h).1
  omega
end Sw
namespace Sw
open PySem L2 PySem.W
theorem base20_ok : ∀ x ∈ base20, nameB x = true := by decide +kernel
end Sw
namespace Sw
open PySem L2 PySem.W
end Sw
namespace Sw
open PySem L2 PySem.W
theorem not_in_take {α : Type} {l : List α} (nd : l.Nodup) {i : Nat} {x : α} (h : l[i]? = some x) : ¬ x ∈ l.take i := fun m => by
  obtain ⟨j, hj, e⟩ := List.getElem_of_mem m
  rw [List.getElem_take] at e
  rw [List.length_take] at hj
  obtain ⟨hi, e2⟩ := List.getElem?_eq_some_iff.mp h
  have := (List.getElem_inj nd).mp (e.trans e2.symm)
  omega
def strikersOf (es : List (Str × Str)) (n : Str) : List Str := (es.filter fun e => e.2 == n).map Prod.fst
def struckOf (es : List (Str × Str)) (n : Str) : List Str := (es.filter fun e => e.1 == n).map Prod.snd
theorem mem_strikersOf {es : List (Str × Str)} {n x : Str} : x ∈ strikersOf es n ↔ (x, n) ∈ es := by
  unfold strikersOf
  rw [List.mem_map]
  constructor
  · rintro ⟨⟨a, b⟩, m, rfl⟩
    obtain ⟨m1, e⟩ := List.mem_filter.mp m
    have e : b = n := beq_iff_eq.mp e
    rw [← e]
    exact m1
  · intro m
    exact ⟨(x, n), List.mem_filter.mpr ⟨m, beq_iff_eq.mpr rfl⟩, rfl⟩
theorem mem_struckOf {es : List (Str × Str)} {n x : Str} : x ∈ struckOf es n ↔ (n, x) ∈ es := by
  unfold struckOf
  rw [List.mem_map]
  constructor
  · rintro ⟨⟨a, b⟩, m, rfl⟩
    obtain ⟨m1, e⟩ := List.mem_filter.mp m
    have e : a = n := beq_iff_eq.mp e
    rw [← e]
    exact m1
  · intro m
    exact ⟨(n, x), List.mem_filter.mpr ⟨m, beq_iff_eq.mpr rfl⟩, rfl⟩
theorem strikersOf_app (es : List (Str × Str)) (x y : Str) : strikersOf (es ++ [(x, y)]) y = strikersOf es y ++ [x] := by
  unfold strikersOf
  rw [List.filter_append, List.map_append, List.filter_cons, if_pos (beq_iff_eq.mpr rfl)]
  rfl
theorem struckOf_app (es : List (Str × Str)) (x y : Str) : struckOf (es ++ [(x, y)]) x = struckOf es x ++ [y] := by
  unfold struckOf
  rw [List.filter_append, List.map_append, List.filter_cons, if_pos (beq_iff_eq.mpr rfl)]
  rfl
theorem strikersOf_ne (es : List (Str × Str)) {x y k : Str} (h : k ≠ y) : strikersOf es k = strikersOf (es ++ [(x, y)]) k := by
  unfold strikersOf
  rw [List.filter_append, List.filter_cons, if_neg (fun e => h (beq_iff_eq.mp e).symm), List.filter_nil, List.append_nil]
theorem struckOf_ne (es : List (Str × Str)) {x y k : Str} (h : k ≠ x) : struckOf es k = struckOf (es ++ [(x, y)]) k := by
  unfold struckOf
  rw [List.filter_append, List.filter_cons, if_neg (fun e => h (beq_iff_eq.mp e).symm), List.filter_nil, List.append_nil]
theorem strikersOf_len (es : List (Str × Str)) (n : Str) : (strikersOf es n).length ≤ es.length := by
  unfold strikersOf
  rw [List.length_map]
  exact List.length_filter_le _ _
theorem struckOf_len (es : List (Str × Str)) (n : Str) : (struckOf es n).length ≤ es.length := by
  unfold struckOf
  rw [List.length_map]
  exact List.length_filter_le _ _
abbrev zr (Z : List (Str × Addr)) : List (Str × V) := Z.map fun z => (z.1, V.ref z.2)
def zl (f : Str → List Str) (Z : List (Str × Addr)) : List Cell := Z.map fun z => (z.2, HO.lst ((f z.1).map V.str))
theorem zr_keys (Z : List (Str × Addr)) : (zr Z).map Prod.fst = Z.map Prod.fst := by
  rw [List.map_map]
  rfl
theorem zr_at : ∀ {Z : List (Str × Addr)} {n : Str} {a : Addr}, (Z.map Prod.fst).Nodup → (n, a) ∈ Z → (zr Z).lookup n = some (.ref a)
  | z :: r, n, a, nd, m => by
    rw [List.map_cons] at nd
    obtain ⟨h1, h2⟩ := List.nodup_cons.mp nd
    rcases List.mem_cons.mp m with rfl | m
    · exact fl_hd
    · refine fl_tl (beq_eq_false_iff_ne.mpr fun e => h1 ?_) (zr_at h2 m)
      rw [← e]
      exact List.mem_map.mpr ⟨_, m, rfl⟩
theorem zr_none : ∀ {Z : List (Str × Addr)} {n : Str}, ¬ n ∈ Z.map Prod.fst → (zr Z).lookup n = none
  | [], _, _ => rfl
  | z :: r, n, h => by
    rw [List.map_cons] at h
    exact fl_tl (beq_eq_false_iff_ne.mpr fun e => h (e ▸ .head _)) (zr_none fun m => h (.tail _ m))
theorem zr_has {Z : List (Str × Addr)} {n : Str} (h : n ∈ Z.map Prod.fst) : ∃ a, (n, a) ∈ Z := by
  obtain ⟨⟨x, a⟩, m, rfl⟩ := List.mem_map.mp h
  exact ⟨a, m⟩
theorem zl_mem {f : Str → List Str} {Z : List (Str × Addr)} {n : Str} {a : Addr} (m : (n, a) ∈ Z) : (a, HO.lst ((f n).map V.str)) ∈ zl f Z := List.mem_map.mpr ⟨(n, a), m, rfl⟩
theorem zl_perm {Z : List (Str × Addr)} {n : Str} {a : Addr} (nd : (Z.map Prod.fst).Nodup) (m : (n, a) ∈ Z) (f f' : Str → List Str) (hf : ∀ k, k ≠ n → f k = f' k) :
    ∃ R, (zl f Z).Perm ((a, HO.lst ((f n).map V.str)) :: R) ∧ (zl f' Z).Perm ((a, HO.lst ((f' n).map V.str)) :: R) := by
  obtain ⟨Z1, Z2, rfl⟩ := List.append_of_mem m
  rw [List.map_append, List.map_cons] at nd
  obtain ⟨n1, n2, n3⟩ := List.nodup_append.mp nd
  have e1 : zl f Z1 = zl f' Z1 := List.map_congr_left fun z mz => by
    rw [hf z.1 fun e => n3 z.1 (List.mem_map.mpr ⟨z, mz, rfl⟩) n (.head _) e]
  have e2 : zl f Z2 = zl f' Z2 := List.map_congr_left fun z mz => by
    rw [hf z.1 fun e => (List.nodup_cons.mp n2).1 (e ▸ List.mem_map.mpr ⟨z, mz, rfl⟩)]
  refine ⟨zl f Z1 ++ zl f Z2, ?_, ?_⟩
  · unfold zl
    rw [List.map_append, List.map_cons]
    exact List.perm_middle
  · rw [e1, e2]
    unfold zl
    rw [List.map_append, List.map_cons]
    exact List.perm_middle
theorem At.zl {H : Hp} {f : Str → List Str} {Z : List (Str × Addr)} {F : List Cell} {n : Str} {a : Addr} (h : At H (zl f Z ++ F)) (nd : (Z.map Prod.fst).Nodup) (m : (n, a) ∈ Z) (f' : Str → List Str) (hf : ∀ k, k ≠ n → f k = f' k) :
    ∃ R, At H ((a, HO.lst ((f n).map V.str)) :: (R ++ F)) ∧ ∀ H', At H' ((a, HO.lst ((f' n).map V.str)) :: (R ++ F)) → At H' (Sw.zl f' Z ++ F) := by
  obtain ⟨R, p1, p2⟩ := zl_perm nd m f f' hf
  exact ⟨R, h.ofPerm (p1.append_right F), fun H' h' => h'.ofPerm (p2.symm.append_right F)⟩
structure WebA where
  dx : Addr
  d1 : Addr
  d2 : Addr
  d3 : Addr
  Z1 : List (Str × Addr)
  Z2 : List (Str × Addr)
def webC (K : PySem.W.Frag) (p : Addr) (w : WebA) (es : List (Str × Str)) : List Cell :=
  (p, .ins (He.ga K "Web") w.dx [("strikers_by", .ref w.d1), ("struck_by", .ref w.d2), ("own_pairs", .ref w.d3)]) :: (w.d1, .dK (dk (zr w.Z1))) :: (w.d2, .dK (dk (zr w.Z2))) :: (w.d3, .dT (dp es)) :: (zl (strikersOf es) w.Z1 ++ zl (struckOf es) w.Z2)
structure WebIn (K : PySem.W.Frag) (L : List Cell) (p : Addr) (N : List Str) (es : List (Str × Str)) : Prop where
  ex : ∃ w : WebA, (∀ x ∈ webC K p w es, x ∈ L) ∧ w.Z1.map Prod.fst = N ∧ w.Z2.map Prod.fst = N
theorem WebIn.mono {K : PySem.W.Frag} {L L' : List Cell} {p : Addr} {N : List Str} {es : List (Str × Str)} (h : WebIn K L p N es) (s : ∀ x ∈ L, x ∈ L') : WebIn K L' p N es := by
  obtain ⟨w, h1, h2⟩ := h.ex
  exact ⟨w, fun x m => s x (h1 x m), h2⟩
end Sw
namespace Sw
open PySem L2 PySem.W
theorem nd_len {α : Type} [DecidableEq α] : ∀ {l m : List α}, l.Nodup → (∀ x ∈ l, x ∈ m) → l.length ≤ m.length
  | [], _, _, _ => Nat.zero_le _
  | x :: r, m, nd, s => by
    obtain ⟨h1, h2⟩ := List.nodup_cons.mp nd
    have hx := s x (.head _)
    have := nd_len (l := r) (m := m.erase x) h2 fun y my => (List.mem_erase_of_ne fun e => h1 (by rw [← e]; exact my)).mpr (s y (.tail _ my))
    rw [List.length_erase_of_mem hx] at this
    have hp : 0 < m.length := List.length_pos_of_mem hx
    rw [List.length_cons]
    omega
end Sw
namespace Sw
open PySem L2 PySem.W
def ansB (es : List (Str × Str)) (ks : List Str) (z : Str) : Bool := (srt (strikersOf es z)).all fun x => decide (x ∈ ks)
theorem ansB_iff {es : List (Str × Str)} {ks : List Str} {z : Str} : ansB es ks z = true ↔ ∀ x, (x, z) ∈ es → x ∈ ks := by
  unfold ansB
  rw [List.all_eq_true]
  exact ⟨fun h x m => of_decide_eq_true (h x (srt_mem.mpr (mem_strikersOf.mpr m))), fun h x m => decide_eq_true (h x (mem_strikersOf.mp (srt_mem.mp m)))⟩
end Sw
namespace Sw
open PySem L2 PySem.W
theorem hitN_bit {us : List Nat} {m b : Nat} : ∀ i, (hitN us m i).testBit b = true ↔ ∃ a u, a < i ∧ m.testBit a = true ∧ us[a]? = some u ∧ u.testBit b = true
  | 0 => ⟨fun h => (by rw [hitN, Nat.zero_testBit] at h; cases h), fun ⟨_, _, h, _⟩ => absurd h (Nat.not_lt_zero _)⟩
  | i + 1 => by
    have ih := hitN_bit (us := us) (m := m) (b := b) i
    by_cases hb : m.testBit i = true
    · rw [hitN, if_pos hb, Nat.testBit_or, Bool.or_eq_true, ih]
      constructor
      · rintro (⟨a, u, h1, h2⟩ | h)
        · exact ⟨a, u, Nat.lt_succ_of_lt h1, h2⟩
        · rw [List.getD_eq_getElem?_getD] at h
          cases q : us[i]? with
          | none => rw [q] at h; rw [show (none : Option Nat).getD 0 = 0 from rfl, Nat.zero_testBit] at h; cases h
          | some u => rw [q] at h; exact ⟨i, u, Nat.lt_succ_self _, hb, q, h⟩
      · rintro ⟨a, u, h1, h2, h3, h4⟩
        rcases Nat.lt_or_eq_of_le (Nat.le_of_lt_succ h1) with h1 | rfl
        · exact .inl ⟨a, u, h1, h2, h3, h4⟩
        · refine .inr ?_
          rw [List.getD_eq_getElem?_getD, h3]
          exact h4
    · rw [hitN, if_neg hb, ih]
      constructor
      · rintro ⟨a, u, h1, h2⟩
        exact ⟨a, u, Nat.lt_succ_of_lt h1, h2⟩
      · rintro ⟨a, u, h1, h2, h3⟩
        rcases Nat.lt_or_eq_of_le (Nat.le_of_lt_succ h1) with h1 | rfl
        · exact ⟨a, u, h1, h2, h3⟩
        · exact absurd h2 hb
theorem mem_setOf {N : List Str} {m : Nat} {x : Str} : x ∈ setOf N m ↔ ∃ a, N[a]? = some x ∧ m.testBit a = true := by
  unfold setOf
  rw [List.mem_map]
  constructor
  · rintro ⟨⟨y, a⟩, h, rfl⟩
    obtain ⟨h1, h2⟩ := List.mem_filter.mp h
    exact ⟨a, List.mem_zipIdx_iff_getElem?.mp h1, h2⟩
  · rintro ⟨a, h1, h2⟩
    exact ⟨(x, a), List.mem_filter.mpr ⟨List.mem_zipIdx_iff_getElem?.mpr h1, h2⟩, rfl⟩
theorem quiet_same {N : List Str} {es : List (Str × Str)} {ks us : List Nat} (hV : VwOk N es ks us) (m : Nat) : (∀ x y, x ∈ setOf N m → y ∈ setOf N m → ¬ (x, y) ∈ es) ↔ hitN us m N.length &&& m = 0 := by
  constructor
  · intro h
    refine Nat.eq_of_testBit_eq fun b => ?_
    rw [Nat.zero_testBit, Nat.testBit_and]
    by_cases h1 : (hitN us m N.length).testBit b = true
    · by_cases h2 : m.testBit b = true
      · obtain ⟨a, u, ha, hma, hu, hub⟩ := (hitN_bit _).mp h1
        obtain ⟨x, y, hx, hy, he⟩ := (hV.ub a u hu b).mp hub
        exact absurd he (h x y (mem_setOf.mpr ⟨a, hx, hma⟩) (mem_setOf.mpr ⟨b, hy, h2⟩))
      · rw [Bool.eq_false_iff.mpr h2, Bool.and_false]
    · rw [Bool.eq_false_iff.mpr h1, Bool.false_and]
  · intro h x y hx hy he
    obtain ⟨a, hx, hma⟩ := mem_setOf.mp hx
    obtain ⟨b, hy, hmb⟩ := mem_setOf.mp hy
    have ha : a < N.length := (List.getElem?_eq_some_iff.mp hx).1
    have hu := List.getElem?_eq_getElem (l := us) (i := a) (by rw [hV.ul]; exact ha)
    have hub := (hV.ub a _ hu b).mpr ⟨x, y, hx, hy, he⟩
    have h1 := (hitN_bit (us := us) (m := m) (b := b) N.length).mpr ⟨a, _, ha, hma, hu, hub⟩
    have h2 : (hitN us m N.length &&& m).testBit b = true := by rw [Nat.testBit_and, h1, hmb]; rfl
    rw [h, Nat.zero_testBit] at h2
    cases h2
theorem sub_and {a b : Nat} : a - (a &&& b) = 0 ↔ ∀ j, a.testBit j = true → b.testBit j = true := by
  constructor
  · intro h j hj
    have h1 : a &&& b = a := Nat.le_antisymm Nat.and_le_left (by omega)
    rw [← h1, Nat.testBit_and, Bool.and_eq_true] at hj
    exact hj.2
  · intro h
    have h1 : a &&& b = a := Nat.eq_of_testBit_eq fun j => by
      rw [Nat.testBit_and]
      by_cases hj : a.testBit j = true
      · rw [hj, h j hj]
        rfl
      · rw [Bool.eq_false_iff.mpr hj, Bool.false_and]
    rw [h1]
    exact Nat.sub_self a
theorem keptN_bit {ks : List Nat} {h b : Nat} : ∀ i, (keptN ks h i).testBit b = true ↔ b < i ∧ ks.getD b 0 - (ks.getD b 0 &&& h) = 0
  | 0 => ⟨fun h => (by rw [keptN, Nat.zero_testBit] at h; cases h), fun h => absurd h.1 (Nat.not_lt_zero _)⟩
  | i + 1 => by
    have ih := keptN_bit (ks := ks) (h := h) (b := b) i
    by_cases hk : ks.getD i 0 - (ks.getD i 0 &&& h) = 0
    · rw [keptN, if_pos hk, bit_set, ih]
      constructor
      · rintro (h1 | rfl)
        · exact ⟨Nat.lt_succ_of_lt h1.1, h1.2⟩
        · exact ⟨Nat.lt_succ_self _, hk⟩
      · rintro ⟨h1, h2⟩
        rcases Nat.lt_or_eq_of_le (Nat.le_of_lt_succ h1) with h1 | rfl
        · exact .inl ⟨h1, h2⟩
        · exact .inr rfl
    · rw [keptN, if_neg hk, ih]
      constructor
      · rintro ⟨h1, h2⟩
        exact ⟨Nat.lt_succ_of_lt h1, h2⟩
      · rintro ⟨h1, h2⟩
        rcases Nat.lt_or_eq_of_le (Nat.le_of_lt_succ h1) with h1 | rfl
        · exact ⟨h1, h2⟩
        · exact absurd h2 hk
theorem bit_lt {m n j : Nat} (h : m < 2 ^ n) (hj : m.testBit j = true) : j < n := by
  refine Nat.lt_of_not_le fun hn => ?_
  rw [Nat.testBit_lt_two_pow (Nat.lt_of_lt_of_le h (Nat.pow_le_pow_right (by decide) hn))] at hj
  cases hj
theorem hit_iff {N : List Str} {es : List (Str × Str)} {ks us : List Nat} (hV : VwOk N es ks us) (nd : N.Nodup) {m a : Nat} {x : Str} (ha : N[a]? = some x) : (hitN us m N.length).testBit a = true ↔ ∃ n, n ∈ setOf N m ∧ (n, x) ∈ es := by
  rw [hitN_bit]
  constructor
  · rintro ⟨c, u, hc, hmc, hu, hub⟩
    obtain ⟨n, x', hn, hx', he⟩ := (hV.ub c u hu a).mp hub
    rw [ha] at hx'
    cases hx'
    exact ⟨n, mem_setOf.mpr ⟨c, hn, hmc⟩, he⟩
  · rintro ⟨n, hn, he⟩
    obtain ⟨c, hn, hmc⟩ := mem_setOf.mp hn
    have hc : c < N.length := (List.getElem?_eq_some_iff.mp hn).1
    have hu := List.getElem?_eq_getElem (l := us) (i := c) (by rw [hV.ul]; exact hc)
    exact ⟨c, _, hc, hmc, hu, (hV.ub c _ hu a).mpr ⟨n, x, hn, ha, he⟩⟩
theorem kept_iff {N : List Str} {es : List (Str × Str)} {ks us : List Nat} (hV : VwOk N es ks us) (nd : N.Nodup) (hS : SOk N es) {m j : Nat} {y : Str} (hj : N[j]? = some y) : (keptN ks (hitN us m N.length) N.length).testBit j = true ↔ ∀ x, (x, y) ∈ es → ∃ n, n ∈ setOf N m ∧ (n, x) ∈ es := by
  have hjl : j < N.length := (List.getElem?_eq_some_iff.mp hj).1
  have hk := List.getElem?_eq_getElem (l := ks) (i := j) (by rw [hV.kl]; exact hjl)
  have eg : ks.getD j 0 = ks[j]'(by rw [hV.kl]; exact hjl) := by rw [List.getD_eq_getElem?_getD, hk]; rfl
  rw [keptN_bit, sub_and, eg]
  constructor
  · rintro ⟨_, h⟩ x he
    obtain ⟨a, ha⟩ := List.getElem?_of_mem (hS.mem _ he).1
    exact (hit_iff hV nd ha).mp (h a ((hV.kb j _ hk a).mpr ⟨x, y, ha, hj, he⟩))
  · intro h
    refine ⟨hjl, fun a hab => ?_⟩
    obtain ⟨x, y', hx, hy', he⟩ := (hV.kb j _ hk a).mp hab
    rw [hj] at hy'
    cases hy'
    exact (hit_iff hV nd hx).mpr (h x he)
theorem back_same {N : List Str} {es : List (Str × Str)} {ks us : List Nat} (hV : VwOk N es ks us) (nd : N.Nodup) (hS : SOk N es) {m : Nat} (hm : m < 2 ^ N.length) : (∀ x y, y ∈ setOf N m → (x, y) ∈ es → ∃ n, n ∈ setOf N m ∧ (n, x) ∈ es) ↔ m - (m &&& keptN ks (hitN us m N.length) N.length) = 0 := by
  rw [sub_and]
  constructor
  · intro h j hj
    have hjl := bit_lt hm hj
    have hy := List.getElem?_eq_getElem hjl
    exact (kept_iff hV nd hS hy).mpr fun x he => h x _ (mem_setOf.mpr ⟨j, hy, hj⟩) he
  · intro h x y hy he
    obtain ⟨j, hy, hj⟩ := mem_setOf.mp hy
    exact (kept_iff hV nd hS hy).mp (h j hj) x he
theorem SOk.srt {ns : List Str} {es : List (Str × Str)} (h : SOk ns es) : SOk (Sw.srt ns) es := ⟨h.nd, fun e m => ⟨srt_mem.mpr (h.mem e m).1, srt_mem.mpr (h.mem e m).2⟩⟩
theorem quiet_perm {ys zs : List Str} {es : List (Str × Str)} (hp : ys.Perm zs) : (∀ x y, x ∈ ys → y ∈ ys → ¬ (x, y) ∈ es) ↔ ∀ x y, x ∈ zs → y ∈ zs → ¬ (x, y) ∈ es :=
  ⟨fun h x y hx hy => h x y (hp.mem_iff.mpr hx) (hp.mem_iff.mpr hy), fun h x y hx hy => h x y (hp.mem_iff.mp hx) (hp.mem_iff.mp hy)⟩
theorem back_perm {ys zs : List Str} {es : List (Str × Str)} (hp : ys.Perm zs) : (∀ x y, y ∈ ys → (x, y) ∈ es → ∃ n, n ∈ ys ∧ (n, x) ∈ es) ↔ ∀ x y, y ∈ zs → (x, y) ∈ es → ∃ n, n ∈ zs ∧ (n, x) ∈ es := by
  constructor
  · intro h x y hy he
    obtain ⟨n, hn, q⟩ := h x y (hp.mem_iff.mpr hy) he
    exact ⟨n, hp.mem_iff.mp hn, q⟩
  · intro h x y hy he
    obtain ⟨n, hn, q⟩ := h x y (hp.mem_iff.mp hy) he
    exact ⟨n, hp.mem_iff.mpr hn, q⟩
end Sw

namespace Sw
open PySem L2 PySem.W
def okD : Nat → PyData → Prop
  | 0, _ => False
  | n + 1, .list ds => ds.length < 100000 ∧ ∀ d ∈ ds, okD n d
  | n + 1, .tuple ds => ds.length < 100000 ∧ ∀ d ∈ ds, okD n d
  | _ + 1, .dict _ => False
  | _ + 1, _ => True
theorem plainAll_of : ∀ {ds : List PyData}, (∀ d ∈ ds, d.plain = true) → PyData.plainAll ds = true
  | [], _ => rfl
  | d :: r, h => by
    show (d.plain && PyData.plainAll r) = true
    rw [h d (.head _), plainAll_of fun e m => h e (.tail _ m)]
    rfl
theorem depthAll_of {n : Nat} : ∀ {ds : List PyData}, (∀ d ∈ ds, d.depth ≤ n) → PyData.depthAll ds ≤ n
  | [], _ => Nat.zero_le _
  | d :: r, h => Nat.max_le.mpr ⟨h d (.head _), depthAll_of fun e m => h e (.tail _ m)⟩
theorem okD_plain : ∀ {n : Nat} {d : PyData}, okD n d → d.plain = true
  | 0, _, h => h.elim
  | n + 1, .list ds, h => by rw [PyData.plain]; exact plainAll_of fun e m => okD_plain (h.2 e m)
  | n + 1, .tuple ds, h => by rw [PyData.plain]; exact plainAll_of fun e m => okD_plain (h.2 e m)
  | n + 1, .dict _, h => False.elim h
  | n + 1, .none, h => rfl
  | n + 1, .bool _, h => rfl
  | n + 1, .int _, h => rfl
  | n + 1, .str _, h => rfl
theorem okD_depth : ∀ {n : Nat} {d : PyData}, okD n d → d.depth ≤ n
  | 0, _, h => h.elim
  | n + 1, .list ds, h => by rw [PyData.depth]; exact Nat.succ_le_succ (depthAll_of fun e m => okD_depth (h.2 e m))
  | n + 1, .tuple ds, h => by rw [PyData.depth]; exact Nat.succ_le_succ (depthAll_of fun e m => okD_depth (h.2 e m))
  | n + 1, .dict _, h => False.elim h
  | n + 1, .none, h => Nat.zero_le _
  | n + 1, .bool _, h => Nat.zero_le _
  | n + 1, .int _, h => Nat.zero_le _
  | n + 1, .str _, h => Nat.zero_le _
theorem okD_int (n : Nat) (i : Int) : okD (n + 1) (.int i) := trivial
theorem okD_str (n : Nat) (i : Str) : okD (n + 1) (.str i) := trivial
theorem okD_bl (n : Nat) (i : Bool) : okD (n + 1) (.bool i) := trivial
theorem okD_map {α : Type} {i1 : DecidableEq α} {i2 : Datum α} {n : Nat} {xs : List α} (h : xs.length < 100000) (hx : ∀ x : α, okD n (Datum.toD x)) : okD (n + 1) (Datum.toD xs) := by
  show okD (n + 1) (.list (xs.map Datum.toD))
  refine ⟨by rw [List.length_map]; exact h, fun d m => ?_⟩
  obtain ⟨x, _, rfl⟩ := List.mem_map.mp m
  exact hx x
theorem okD_mapM {α : Type} {i1 : DecidableEq α} {i2 : Datum α} {n : Nat} {xs : List α} (h : xs.length < 100000) (hx : ∀ x ∈ xs, okD n (Datum.toD x)) : okD (n + 1) (Datum.toD xs) := by
  show okD (n + 1) (.list (xs.map Datum.toD))
  refine ⟨by rw [List.length_map]; exact h, fun d m => ?_⟩
  obtain ⟨x, mx, rfl⟩ := List.mem_map.mp m
  exact hx x mx
theorem okD_pair {α β : Type} {i1 : DecidableEq α} {i2 : Datum α} {j1 : DecidableEq β} {j2 : Datum β} {n : Nat} {x : α} {y : β} (hx : okD n (Datum.toD x)) (hy : okD n (Datum.toD y)) : okD (n + 1) (Datum.toD (x, y)) := by
  show okD (n + 1) (.tuple [Datum.toD x, Datum.toD y])
  refine ⟨(by decide : 2 < 100000), fun d m => ?_⟩
  rcases List.mem_cons.mp m with rfl | m
  · exact hx
  · cases List.mem_singleton.mp m
    exact hy
def knd : PyData → String
  | .none => "NoneType"
  | .bool _ => "bool"
  | .int _ => "int"
  | .str _ => "str"
  | .list _ => "list"
  | .tuple _ => "tuple"
  | .dict _ => "dict"
def kdL : PyData → Bool
  | .list _ => true
  | _ => false
def kdT : PyData → Bool
  | .tuple _ => true
  | _ => false
def kdS : PyData → Bool
  | .str _ => true
  | _ => false
def kdB : PyData → Bool
  | .bool _ => true
  | _ => false
def kdI : PyData → Bool
  | .bool _ => true
  | .int _ => true
  | _ => false
theorem kit_list : ∀ d : PyData, kitB (knd d) "list" = some (kdL d)
  | .none => (by decide +kernel : kitB "NoneType" "list" = some false)
  | .bool _ => (by decide +kernel : kitB "bool" "list" = some false)
  | .int _ => (by decide +kernel : kitB "int" "list" = some false)
  | .str _ => (by decide +kernel : kitB "str" "list" = some false)
  | .list _ => (by decide +kernel : kitB "list" "list" = some true)
  | .tuple _ => (by decide +kernel : kitB "tuple" "list" = some false)
  | .dict _ => (by decide +kernel : kitB "dict" "list" = some false)
theorem kit_tuple : ∀ d : PyData, kitB (knd d) "tuple" = some (kdT d)
  | .none => (by decide +kernel : kitB "NoneType" "tuple" = some false)
  | .bool _ => (by decide +kernel : kitB "bool" "tuple" = some false)
  | .int _ => (by decide +kernel : kitB "int" "tuple" = some false)
  | .str _ => (by decide +kernel : kitB "str" "tuple" = some false)
  | .list _ => (by decide +kernel : kitB "list" "tuple" = some false)
  | .tuple _ => (by decide +kernel : kitB "tuple" "tuple" = some true)
  | .dict _ => (by decide +kernel : kitB "dict" "tuple" = some false)
theorem kit_str : ∀ d : PyData, kitB (knd d) "str" = some (kdS d)
  | .none => (by decide +kernel : kitB "NoneType" "str" = some false)
  | .bool _ => (by decide +kernel : kitB "bool" "str" = some false)
  | .int _ => (by decide +kernel : kitB "int" "str" = some false)
  | .str _ => (by decide +kernel : kitB "str" "str" = some true)
  | .list _ => (by decide +kernel : kitB "list" "str" = some false)
  | .tuple _ => (by decide +kernel : kitB "tuple" "str" = some false)
  | .dict _ => (by decide +kernel : kitB "dict" "str" = some false)
theorem kit_bool : ∀ d : PyData, kitB (knd d) "bool" = some (kdB d)
  | .none => (by decide +kernel : kitB "NoneType" "bool" = some false)
  | .bool _ => (by decide +kernel : kitB "bool" "bool" = some true)
  | .int _ => (by decide +kernel : kitB "int" "bool" = some false)
  | .str _ => (by decide +kernel : kitB "str" "bool" = some false)
  | .list _ => (by decide +kernel : kitB "list" "bool" = some false)
  | .tuple _ => (by decide +kernel : kitB "tuple" "bool" = some false)
  | .dict _ => (by decide +kernel : kitB "dict" "bool" = some false)
theorem kit_int : ∀ d : PyData, kitB (knd d) "int" = some (kdI d)
  | .none => (by decide +kernel : kitB "NoneType" "int" = some false)
  | .bool _ => (by decide +kernel : kitB "bool" "int" = some true)
  | .int _ => (by decide +kernel : kitB "int" "int" = some true)
  | .str _ => (by decide +kernel : kitB "str" "int" = some false)
  | .list _ => (by decide +kernel : kitB "list" "int" = some false)
  | .tuple _ => (by decide +kernel : kitB "tuple" "int" = some false)
  | .dict _ => (by decide +kernel : kitB "dict" "int" = some false)
section
variable {X : Cx} {K : PySem.W.Frag} {σ : L2.St} {H : Hp} {Q : VK} {D : Ends} {L F : List Cell} {a b p : Addr} {xs ys : List V} {i j : Int} {v w x y z : V} {te ta tb tc td : TE} {tl : TA} {tt : TT} {g : TG} {tb' : TS} {vs : List Nat} {t : Bool}
theorem ty_rp (hA : At H L) {d : PyData} (h : Rp L v d) : TyX K H v (.type (knd d)) := by
  cases h with
  | non => exact ty_non
  | bl b => exact ty_bl b
  | int i => exact ty_int i
  | str z => exact ty_str z
  | lst m r => exact ty_lst hA m
  | tup m r => exact ty_tup hA m
def IsiT (K : PySem.W.Frag) : List V → Hp → VK → Prop := rIsiT K
theorem rd_isiT {m n s : String} {b c : Bool} (hA : At H L) (mt : (p, HO.tup [.ty m, .ty n]) ∈ L) (h : TyX K H x (.type s)) (e1 : kitB s m = some b) (e2 : kitB s n = some c) (k : Q (.bl (b || c)) H) : IsiT K [x, .ref p] H Q := by
  refine ⟨x, p, _, _, [.type m, .type n], b || c, rfl, hA.rd mt, .cons (.ty m) (.cons (.ty n) .nil), h, ?_, k⟩
  refine kitAny_cons (kit_ty e1) (fun hb => ?_) (fun hb => by rw [hb]; rfl)
  refine kitAny_cons (kit_ty e2) (fun hc => ?_) (fun hc => by rw [hc, Bool.or_true])
  rw [hb, hc]
  exact kitAny_nil
def kdN : PyData → Bool
  | .none => true
  | _ => false
theorem rd_isNr {d : PyData} (h : Rp L v d) (k : Q (.bl (kdN d)) H) : rIsN v .non H Q := by
  have e : decide (v = .non) = kdN d := by
    cases h <;> first | rfl | exact decide_eq_false (fun e => nomatch e)
  exact ⟨rfl, by rw [e]; exact k⟩
theorem rd_eqPr {n m : Nat} {d e : PyData} (hA : At H L) (h1 : Rp L v d) (h2 : Rp L w e) (o1 : okD n d) (o2 : okD m e) (hn : n ≤ 60) (k : Q (.bl (PyData.eqv d e)) H) : rEqP K v w H Q :=
  ⟨d, e, Rp.dp hA h1, Rp.dp hA h2, okD_plain o1, okD_plain o2, Nat.le_trans (okD_depth o1) hn, k⟩
theorem rd_lenR (hA : At H L) (m : (a, rowO t xs) ∈ L) (k : Q (.int (xs.length : Int)) H) : rLenQ K [.ref a] H Q := by
  cases t with
  | true => exact rd_lenT hA m k
  | false => exact rd_lenL hA m k
theorem map_idv (xs : List V) : xs.map (fun v => v) = xs := List.map_id' xs
theorem rd_slFromV (hA : At H L) (m : (a, HO.lst xs) ∈ L) (h0 : 0 ≤ i) (h1 : i ≤ xs.length) (k : ∀ p H', At H' ((p, .lst (xs.drop i.toNat)) :: L) → Q (.ref p) H') : SlK (rSlL K) (.ref a) (some i) none H Q :=
  rd_slFrom (f := fun v => v) (zs := xs) hA (by rw [map_idv]; exact m) h0 h1 fun p H' h => k p H' (by rw [map_idv] at h; exact h)
theorem rd_slToV (hA : At H L) (m : (a, HO.lst xs) ∈ L) (h0 : 0 ≤ i) (h1 : i ≤ xs.length) (k : ∀ p H', At H' ((p, .lst (xs.take i.toNat)) :: L) → Q (.ref p) H') : SlK (rSlL K) (.ref a) none (some i) H Q :=
  rd_slTo (f := fun v => v) (zs := xs) hA (by rw [map_idv]; exact m) h0 h1 fun p H' h => k p H' (by rw [map_idv] at h; exact h)
def ZipK (K : PySem.W.Frag) (vs : List V) (H : Hp) (R : It → Hp → Prop) : Prop := ∃ a b xs ys, vs = [.ref a, .ref b] ∧ ((SqL K H a xs ∧ SqL K H b ys ∧ R (Itz K a b) H) ∨ (SqT K H a xs ∧ SqT K H b ys ∧ R (RZ.ItzT K a b) H))
theorem rd_zip {R : It → Hp → Prop} (k : tl σ H fun vs H1 => ZipK K vs H1 R) : RZ.iZipA K tl σ H R := k
def Itzw (K : PySem.W.Frag) (t : Bool) (a b : Addr) : It := match t with
  | true => RZ.ItzT K a b
  | false => Itz K a b
theorem rd_zipk {R : It → Hp → Prop} (hA : At H L) (m : (a, rowO t xs) ∈ L) (m2 : (b, rowO t ys) ∈ L) (k : R (Itzw K t a b) H) : ZipK K [.ref a, .ref b] H R := by
  cases t with
  | true => exact ⟨a, b, xs, ys, rfl, .inr ⟨SqT.of (hA.rd m), SqT.of (hA.rd m2), k⟩⟩
  | false => exact ⟨a, b, xs, ys, rfl, .inl ⟨SqL.of (hA.rd m), SqL.of (hA.rd m2), k⟩⟩
end
theorem is_nil {α : Type} {i1 : DecidableEq α} {i2 : Datum α} {L : List Cell} {a : Addr} (m : (a, HO.lst []) ∈ L) : Is L (.ref a) ([] : List α) := .lst m .nil
theorem rd_brDT {p : Prop} {inst : Decidable p} {A B : Prop} (h : p) (k : A) : Br (decide p) A B := by rw [decide_eq_true h]; exact rd_brT k
theorem rd_brDF {p : Prop} {inst : Decidable p} {A B : Prop} (h : ¬ p) (k : B) : Br (decide p) A B := by rw [decide_eq_false h]; exact rd_brF k
theorem rd_brNDT {p : Prop} {inst : Decidable p} {A B : Prop} (h : ¬ p) (k : A) : Br (!decide p) A B := by rw [decide_eq_false h]; exact rd_brT k
theorem rd_brNDF {p : Prop} {inst : Decidable p} {A B : Prop} (h : p) (k : B) : Br (!decide p) A B := by rw [decide_eq_true h]; exact rd_brF k
theorem SOk.sub {ns : List Str} {es es' : List (Str × Str)} (h : SOk ns es) (s : es'.Sublist es) : SOk ns es' := ⟨h.nd.sublist s, fun e m => h.mem e (s.subset m)⟩

def hitL (es : List (Str × Str)) (ys : List Str) : List Str := ys.flatMap fun y => struckOf es y
theorem mem_hitL {es : List (Str × Str)} {ys : List Str} {x : Str} : x ∈ hitL es ys ↔ ∃ n, n ∈ ys ∧ (n, x) ∈ es := by
  unfold hitL
  rw [List.mem_flatMap]
  exact ⟨fun ⟨n, h1, h2⟩ => ⟨n, h1, mem_struckOf.mp h2⟩, fun ⟨n, h1, h2⟩ => ⟨n, h1, mem_struckOf.mpr h2⟩⟩
theorem ansB_congr {es : List (Str × Str)} {ks ks' : List Str} (h : ∀ x, x ∈ ks ↔ x ∈ ks') (z : Str) : ansB es ks z = ansB es ks' z :=
  Bool.eq_iff_iff.mpr (by
    rw [ansB_iff, ansB_iff]
    exact ⟨fun f x m => (h x).mp (f x m), fun f x m => (h x).mpr (f x m)⟩)
def keptL (N : List Str) (es : List (Str × Str)) (ys : List Str) : List Str := N.filter fun z => ansB es (hitL es ys) z
theorem mem_keptL {N : List Str} {es : List (Str × Str)} {ys : List Str} {z : Str} : z ∈ keptL N es ys ↔ z ∈ N ∧ ∀ x, (x, z) ∈ es → ∃ n, n ∈ ys ∧ (n, x) ∈ es := by
  unfold keptL
  rw [List.mem_filter, ansB_iff]
  exact ⟨fun ⟨a, b⟩ => ⟨a, fun x m => mem_hitL.mp (b x m)⟩, fun ⟨a, b⟩ => ⟨a, fun x m => mem_hitL.mpr (b x m)⟩⟩
theorem keptL_perm {N : List Str} {es : List (Str × Str)} {ys zs : List Str} (h : ys.Perm zs) : keptL N es ys = keptL N es zs := by
  unfold keptL
  congr 1
  funext z
  refine ansB_congr (fun x => ?_) z
  rw [mem_hitL, mem_hitL]
  exact ⟨fun ⟨n, a, b⟩ => ⟨n, h.mem_iff.mp a, b⟩, fun ⟨n, a, b⟩ => ⟨n, h.mem_iff.mpr a, b⟩⟩
theorem zipIdx_fst_filter {p : Str × Nat → Bool} {q : Str → Bool} : ∀ (N : List Str) (k : Nat), (∀ (i : Nat) x, N[i]? = some x → p (x, k + i) = q x) → ((N.zipIdx k).filter p).map Prod.fst = N.filter q
  | [], _, _ => rfl
  | x :: r, k, h => by
    have h0 := h 0 x rfl
    rw [Nat.add_zero] at h0
    have ih := zipIdx_fst_filter (p := p) (q := q) r (k + 1) fun i y e => by
      have := h (i + 1) y (by simpa using e)
      rw [show k + 1 + i = k + (i + 1) by omega]
      exact this
    rw [List.zipIdx_cons, List.filter_cons, List.filter_cons, h0]
    by_cases hq : q x = true
    · rw [if_pos hq, if_pos hq, List.map_cons, ih]
    · rw [if_neg hq, if_neg hq, ih]
theorem setOf_filter {N : List Str} {m : Nat} {q : Str → Bool} (h : ∀ (i : Nat) x, N[i]? = some x → (m.testBit i = true ↔ q x = true)) : setOf N m = N.filter q := by
  unfold setOf
  refine zipIdx_fst_filter N 0 fun i x e => ?_
  rw [Nat.zero_add]
  exact Bool.eq_iff_iff.mpr (h i x e)
theorem setOf_kept {N : List Str} {es : List (Str × Str)} {ks us : List Nat} (hV : VwOk N es ks us) (nd : N.Nodup) (hS : SOk N es) {m : Nat} : setOf N (keptN ks (hitN us m N.length) N.length) = keptL N es (setOf N m) := by
  unfold keptL
  refine setOf_filter fun i x e => ?_
  rw [kept_iff hV nd hS e, ansB_iff]
  exact ⟨fun h y m => mem_hitL.mpr (h y m), fun h y m => mem_hitL.mp (h y m)⟩
class LinO (α : Type) [DecidableEq α] [DatumOrd α] : Prop where
  tr : ∀ a b c : α, (!DatumOrd.lt b a) = true → (!DatumOrd.lt c b) = true → (!DatumOrd.lt c a) = true
  tot : ∀ a b : α, ((!DatumOrd.lt b a) || (!DatumOrd.lt a b)) = true
  anti : ∀ a b : α, (!DatumOrd.lt b a) = true → (!DatumOrd.lt a b) = true → a = b
theorem str_le {a b : Str} : (!(DatumOrd.lt b a)) = true ↔ a.cps.toList ≤ b.cps.toList := by
  show (!(decide (b.cps.toList < a.cps.toList))) = true ↔ _
  rw [Bool.not_eq_true', decide_eq_false_iff_not]
  exact Iff.rfl
theorem int_le {a b : Int} : (!(DatumOrd.lt b a)) = true ↔ a ≤ b := by
  show (!(decide (b < a))) = true ↔ _
  rw [Bool.not_eq_true', decide_eq_false_iff_not]
  exact Int.not_lt
instance : LinO Str where
  tr a b c h1 h2 := str_le.mpr (List.le_trans (str_le.mp h1) (str_le.mp h2))
  tot a b := by
    rw [Bool.or_eq_true, str_le, str_le]
    exact List.le_total _ _
  anti a b h1 h2 := by
    have e : a.cps.toList = b.cps.toList := List.le_antisymm (str_le.mp h1) (str_le.mp h2)
    cases a
    cases b
    exact congrArg _ (Array.toList_inj.mp e)
instance : LinO Int where
  tr a b c h1 h2 := int_le.mpr (Int.le_trans (int_le.mp h1) (int_le.mp h2))
  tot a b := by
    rw [Bool.or_eq_true, int_le, int_le]
    exact Int.le_total _ _
  anti a b h1 h2 := Int.le_antisymm (int_le.mp h1) (int_le.mp h2)
section
variable {α : Type} [DecidableEq α] [DatumOrd α] [LinO α]
def Rise (xs : List α) : Prop := xs.Pairwise fun a b => (!DatumOrd.lt b a) = true
theorem rise_srt (xs : List α) : Rise (srt xs) := List.pairwise_mergeSort (le := fun a b : α => !DatumOrd.lt b a) LinO.tr LinO.tot xs
theorem rise_eq {xs ys : List α} (h1 : Rise xs) (h2 : Rise ys) (p : xs.Perm ys) : xs = ys :=
  List.Perm.eq_of_pairwise (le := fun a b => (!DatumOrd.lt b a) = true) (fun a b _ _ => LinO.anti a b) h1 h2 p
theorem srt_of_rise {xs : List α} (h : Rise xs) : srt xs = xs := rise_eq (rise_srt xs) h (srt_perm xs)
theorem srt_congr {xs ys : List α} (p : xs.Perm ys) : srt xs = srt ys := rise_eq (rise_srt xs) (rise_srt ys) ((srt_perm xs).trans (p.trans (srt_perm ys).symm))
theorem rise_filter {xs : List α} (h : Rise xs) (p : α → Bool) : Rise (xs.filter p) := h.sublist List.filter_sublist
end
theorem filter_map_fst {p : Str × Nat → Bool} : ∀ (N : List Str) (k : Nat), (((N.zipIdx k).filter p).map Prod.fst).Sublist N
  | [], _ => .slnil
  | x :: r, k => by
    have ih := filter_map_fst (p := p) r (k + 1)
    rw [List.zipIdx_cons, List.filter_cons]
    by_cases h : p (x, k) = true
    · rw [if_pos h, List.map_cons]
      exact ih.cons₂ x
    · rw [if_neg h]
      exact ih.cons x
theorem setOf_sub (N : List Str) (m : Nat) : (setOf N m).Sublist N := filter_map_fst N 0
theorem setOf_rise {N : List Str} (h : Rise N) (m : Nat) : Rise (setOf N m) := List.Pairwise.sublist (setOf_sub N m) h
theorem setOf_inj {N : List Str} (nd : N.Nodup) {a b : Nat} (ha : a < 2 ^ N.length) (hb : b < 2 ^ N.length) (h : setOf N a = setOf N b) : a = b := by
  refine Nat.eq_of_testBit_eq fun j => ?_
  have one : ∀ {a b : Nat}, a < 2 ^ N.length → setOf N a = setOf N b → a.testBit j = true → b.testBit j = true := fun {a b} ha h hj => by
    have hl := bit_lt ha hj
    have hx := List.getElem?_eq_getElem hl
    have m : N[j] ∈ setOf N b := by
      rw [← h]
      exact mem_setOf.mpr ⟨j, hx, hj⟩
    obtain ⟨i, hi, hib⟩ := mem_setOf.mp m
    rw [at_inj nd hx hi]
    exact hib
  exact Bool.eq_iff_iff.mpr ⟨one ha h, one hb h.symm⟩
theorem whole_row {N ys : List Str} {es : List (Str × Str)} {ks us : List Nat} {b : Bool} {m : Nat} (hV : VwOk N es ks us) (nd : N.Nodup) (hr : Rise N) (hS : SOk N es) (hm : m < 2 ^ N.length) (hp : ys.Perm (setOf N m))
    (hb : b = true ↔ ((∀ x y, x ∈ ys → y ∈ ys → ¬ (x, y) ∈ es) ∧ ∀ x y, y ∈ ys → (x, y) ∈ es → ∃ n, n ∈ ys ∧ (n, x) ∈ es) ∧ keptL N es ys = srt ys) : b = true ↔ hitN us m N.length &&& m = 0 ∧ m = keptN ks (hitN us m N.length) N.length := by
  have e1 : keptL N es ys = srt ys ↔ keptN ks (hitN us m N.length) N.length = m := by
    rw [srt_congr hp, srt_of_rise (setOf_rise hr m), keptL_perm hp, ← setOf_kept hV nd hS]
    exact ⟨fun h => setOf_inj nd (keptN_lt _ _ _ (Nat.le_refl _)) hm h, fun h => by rw [h]⟩
  rw [hb, e1, quiet_perm hp, back_perm hp, quiet_same hV m, back_same hV nd hS hm]
  constructor
  · rintro ⟨⟨h1, _⟩, h2⟩
    exact ⟨h1, h2.symm⟩
  · rintro ⟨h1, h2⟩
    refine ⟨⟨h1, ?_⟩, h2.symm⟩
    rw [← h2, Nat.and_self]
    exact Nat.sub_self m
structure WR where
  w : Addr
  p : Addr
  pn : Addr
  pk : Addr
  pu : Addr
  e : Addr
  es : List (Str × Str)
  vs : List V
  ks : List Nat
  us : List Nat
structure WRok (K : PySem.W.Frag) (L : List Cell) (ns : List Str) (z : WR) : Prop where
  web : WebIn K L z.w ns z.es
  vw : Vw L z.p z.pn z.pk z.pu (srt ns) z.ks z.us
  ok : VwOk (srt ns) z.es z.ks z.us
  sok : SOk ns z.es
  len : z.es.length ≤ 3100
  row : (z.e, HO.lst z.vs) ∈ L
  iss : Iss L z.vs z.es
theorem rd_ixLe {K : PySem.W.Frag} {H : Hp} {Q : VK} {L : List Cell} {a : Addr} {i : Int} {α : Type} {f : α → V} {zs : List α} {z : α} (hA : At H L) (m : (a, HO.lst (zs.map f)) ∈ L) (h0 : 0 ≤ i) (h : zs[i.toNat]? = some z) (k : Q (f z) H) : rIxL K (.ref a) (.int i) H Q := by
  have hl := (List.getElem?_eq_some_iff.mp h).1
  refine rd_ixLm hA m h0 (by omega) fun z' h' => ?_
  rw [h] at h'
  cases h'
  exact k
def wordOf (b h : Bool) : Str := if b = true then "in" else if h = true then "out" else "open"
def wordL (N : List Str) (es : List (Str × Str)) (ys : List Str) : List (Str × Str) := N.map fun z => (z, wordOf (decide (z ∈ ys)) (decide (z ∈ hitL es ys)))
theorem rise_ext {xs ys : List Str} (h1 : Rise xs) (h2 : Rise ys) (n1 : xs.Nodup) (n2 : ys.Nodup) : xs = ys ↔ ∀ z, z ∈ xs ↔ z ∈ ys :=
  ⟨fun h z => by rw [h], fun h => rise_eq h1 h2 ((List.perm_ext_iff_of_nodup n1 n2).mpr h)⟩
theorem kept_eq {N ys : List Str} {es : List (Str × Str)} (hr : Rise N) (nd : N.Nodup) (ny : ys.Nodup) (hys : ∀ y ∈ ys, y ∈ N) : keptL N es ys = srt ys ↔ ∀ z ∈ N, (z ∈ ys ↔ ∀ x, (x, z) ∈ es → ∃ n, n ∈ ys ∧ (n, x) ∈ es) := by
  rw [rise_ext (show Rise (keptL N es ys) from rise_filter hr _) (rise_srt ys) (show (keptL N es ys).Nodup from nd.sublist List.filter_sublist) (srt_nodup.mpr ny)]
  constructor
  · intro h z hz
    have := h z
    rw [mem_keptL, srt_mem] at this
    rw [← this]
    exact ⟨And.right, fun g => ⟨hz, g⟩⟩
  · intro h z
    rw [mem_keptL, srt_mem]
    exact ⟨fun g => (h z g.1).mpr g.2, fun g => ⟨hys z g, (h z (hys z g)).mp g⟩⟩
def wdk (ws : List (Str × Str)) : List (Str × V) := ws.map fun e => (e.1, V.str e.2)
theorem iss_pairs : ∀ {W : List Cell} {vs : List V} {ws : List (Str × Str)}, Iss W vs ws → ∃ zs : List (Addr × Str × V), vs = zs.map (fun z => V.ref z.1) ∧ zs.map Prod.snd = wdk ws ∧ ∀ z ∈ zs, (z.1, HO.tup [.str z.2.1, z.2.2]) ∈ W
  | _, _, [], h => by
    cases h
    exact ⟨[], rfl, rfl, fun _ m => nomatch m⟩
  | W, _, (x, y) :: r, h => by
    cases h with
    | cons h1 h2 =>
      obtain ⟨p, rfl, m⟩ := is_pairS h1
      obtain ⟨zs, e1, e2, e3⟩ := iss_pairs (ws := r) h2
      refine ⟨(p, x, .str y) :: zs, by rw [e1]; rfl, by rw [List.map_cons, e2]; rfl, fun z mz => ?_⟩
      rcases List.mem_cons.mp mz with rfl | mz
      · exact m
      · exact e3 z mz
theorem wdk_fst (ws : List (Str × Str)) : (wdk ws).map Prod.fst = ws.map Prod.fst := by
  unfold wdk
  rw [List.map_map]
  rfl
theorem rd_dictW {K : PySem.W.Frag} {H : Hp} {Q : VK} {L : List Cell} {a : Addr} {vs : List V} {ws : List (Str × Str)} (hA : At H L) (m : (a, HO.lst vs) ∈ L) (hI : Iss L vs ws) (nd : (ws.map Prod.fst).Nodup) (k : ∀ p H', At H' ((p, .dK (dk (wdk ws))) :: L) → Q (.ref p) H') : rDictP K [.ref a] H Q := by
  obtain ⟨zs, rfl, e2, e3⟩ := iss_pairs hI
  have e4 : zs.map (fun z => z.2.1) = ws.map Prod.fst := by
    rw [← wdk_fst, ← e2, List.map_map]
    rfl
  refine rd_dictP hA m e3 (by rw [e4]; exact nd) fun p H' h => k p H' ?_
  rw [e2] at h
  exact h
theorem rd_inT3 {K : PySem.W.Frag} {H : Hp} {Q : VK} {L : List Cell} {a : Addr} {x u1 u2 u3 : Str} (hA : At H L) (m : (a, HO.tup [.str u1, .str u2, .str u3]) ∈ L) (k : Q (.bl (decide (x ∈ [u1, u2, u3]))) H) : rIn K false (.str x) (.ref a) H Q :=
  rd_inTs (zs := [u1, u2, u3]) hA m k
end Sw

namespace Sw
open PySem L2 PySem.W
section
variable {α β : Type} [DecidableEq α] [DatumOrd α] [LinO α] [DecidableEq β] [DatumOrd β] [LinO β]
theorem le_pair {p q : α × β} : (!DatumOrd.lt q p) = true ↔ (p.1 = q.1 ∧ (!DatumOrd.lt q.2 p.2) = true) ∨ (p.1 ≠ q.1 ∧ (!DatumOrd.lt q.1 p.1) = true) := by
  show (!(if q.1 = p.1 then DatumOrd.lt q.2 p.2 else DatumOrd.lt q.1 p.1)) = true ↔ _
  by_cases h : q.1 = p.1
  · rw [if_pos h]
    exact ⟨fun g => .inl ⟨h.symm, g⟩, fun g => g.elim And.right fun g => absurd h.symm g.1⟩
  · rw [if_neg h]
    exact ⟨fun g => .inr ⟨fun e => h e.symm, g⟩, fun g => g.elim (fun g => absurd g.1.symm h) And.right⟩
instance : LinO (α × β) where
  tr a b c h1 h2 := by
    rw [le_pair] at h1 h2 ⊢
    rcases h1 with ⟨e1, l1⟩ | ⟨e1, l1⟩ <;> rcases h2 with ⟨e2, l2⟩ | ⟨e2, l2⟩
    · exact .inl ⟨e1.trans e2, LinO.tr _ _ _ l1 l2⟩
    · exact .inr ⟨by rw [e1]; exact e2, by rw [e1]; exact l2⟩
    · exact .inr ⟨by rw [← e2]; exact e1, by rw [← e2]; exact l1⟩
    · refine .inr ⟨fun e => ?_, LinO.tr _ _ _ l1 l2⟩
      rw [← e] at l2
      exact e1 (LinO.anti _ _ l1 l2)
  tot a b := by
    rw [Bool.or_eq_true, le_pair, le_pair]
    by_cases h : a.1 = b.1
    · rcases Bool.or_eq_true_iff.mp (LinO.tot a.2 b.2) with g | g
      · exact .inl (.inl ⟨h, g⟩)
      · exact .inr (.inl ⟨h.symm, g⟩)
    · rcases Bool.or_eq_true_iff.mp (LinO.tot a.1 b.1) with g | g
      · exact .inl (.inr ⟨h, g⟩)
      · exact .inr (.inr ⟨fun e => h e.symm, g⟩)
  anti a b h1 h2 := by
    rw [le_pair] at h1 h2
    rcases h1 with ⟨e1, l1⟩ | ⟨e1, l1⟩
    · rcases h2 with ⟨e2, l2⟩ | ⟨e2, l2⟩
      · exact Prod.ext e1 (LinO.anti _ _ l1 l2)
      · exact absurd e1.symm e2
    · rcases h2 with ⟨e2, l2⟩ | ⟨e2, l2⟩
      · exact absurd e2.symm e1
      · exact absurd (LinO.anti _ _ l1 l2) e1
end
section
variable {X : Cx} {K : PySem.W.Frag} {σ : L2.St} {H : Hp} {Q : VK} {D : Ends} {L F : List Cell} {a b d p : Addr} {xs ys : List V} {i j : Int} {v w x y : V} {te ta tb : TE} {tl : TA} {R : L2.St → Hp → Prop} {tt : TT} {g : TG} {vs : List Nat} {t : Bool}
structure IcW (K : PySem.W.Frag) (C : Addr) : Prop where
  ha : PySem.W.findIn K (.ref C) "__class__" = some (some (.builtin "object.__class__"))
  hn : PySem.W.specialIn K (.builtin "object.__class__") "__get__" = some (some (.builtin "getset_descriptor.__get__"))
  htk : PySem.W.takesIn K (.builtin "object.__class__") = some true
  hm : PySem.W.mroIn K C (.type "object") = some true
theorem rd_isiC {C dx : Addr} {fs : List (Str × V)} (hA : At H L) (m : (a, HO.ins C dx fs) ∈ L) (cl : Cls K C) (ic : IcW K C) (k : Q (.bl true) H) : IsiK K [.ref a, .ref C] H Q :=
  ⟨.ref a, .ref C, .ref C, .ref C, true, rfl, .own C, .base (.ins (hA.rd m) cl ic.ha ic.hn ic.htk ic.hm), if_pos (beq_self_eq_true _), k⟩
theorem rd_slToA {α : Type} {f : α → V} {zs : List α} (hA : At H L) (m : (a, HO.lst (zs.map f)) ∈ L) (h0 : 0 ≤ i) (k : ∀ p H', At H' ((p, .lst ((zs.take i.toNat).map f)) :: L) → Q (.ref p) H') : SlK (rSlL K) (.ref a) none (some i) H Q := by
  refine rd_slL hA m fun p H' h => k p H' ?_
  have e : cutV (zs.map f) none (some i) = (zs.take i.toNat).map f := by
    unfold cutV
    show ((zs.map f).drop 0).take ((if i < 0 then (i + ((zs.map f).length : Int)).toNat else min i.toNat (zs.map f).length) - 0) = _
    rw [if_neg (by omega), List.drop_zero, Nat.sub_zero, List.map_take]
    by_cases h : i.toNat ≤ (zs.map f).length
    · rw [Nat.min_eq_left h]
    · rw [Nat.min_eq_right (by omega), List.take_length, List.take_of_length_le (by omega)]
  rw [e] at h
  exact h
end
theorem kit_tl : kitB "tuple" "list" = some false := by decide +kernel
theorem kit_lt : kitB "list" "tuple" = some false := by decide +kernel
section
variable {X : Cx} {K : PySem.W.Frag} {σ : L2.St} {H : Hp} {Q : VK} {D : Ends} {L F : List Cell} {a b d p : Addr} {xs ys : List V} {tc : TT} {tb : TS} {Pv : Nat → L2.St → Hp → Prop} {m : Nat}
def WhK (Pv : Nat → L2.St → Hp → Prop) (tb : TS) (D : Ends) (m : Nat) (σ : L2.St) (b : Bool) (H1 : Hp) : Prop := if b = true then ∃ N : L2.St → Hp → Prop, (∀ σ' H', N σ' H' → ∃ m', m' < m ∧ Pv m' σ' H') ∧ tb { D with nx := N, ct := N, bk := D.nx } σ H1 else D.nx σ H1
theorem rd_while (Pv : Nat → L2.St → Hp → Prop) (m : Nat) (h0 : Pv m σ H) (hs : ∀ m σ H, Pv m σ H → tc σ H fun b H1 => WhK Pv tb D m σ b H1) : tWhile tc tb D σ H := ⟨Pv, ⟨m, h0⟩, hs⟩
theorem rd_whD {q : Prop} {inst : Decidable q} (h1 : q → tb { D with nx := fun σ' H' => ∃ m', m' < m ∧ Pv m' σ' H', ct := fun σ' H' => ∃ m', m' < m ∧ Pv m' σ' H', bk := D.nx } σ H) (h2 : ¬ q → D.nx σ H) : WhK Pv tb D m σ (decide q) H := by
  unfold WhK
  by_cases h : q
  · rw [if_pos (decide_eq_true h)]
    exact ⟨_, fun _ _ g => g, h1 h⟩
  · rw [if_neg (by rw [decide_eq_false h]; exact Bool.false_ne_true)]
    exact h2 h
theorem rd_listDs {ks : List Str} (hA : At H L) (m : (a, HO.dK (ds ks)) ∈ L) (k : ∀ p H', At H' ((p, .lst (ks.map V.str)) :: L) → Q (.ref p) H') : rListD [.ref a] H Q := by
  have e : ds ks = dk (ks.map fun x => (x, V.bl true)) := by
    unfold ds dk
    rw [List.map_map]
    rfl
  rw [e] at m
  refine rd_listDk hA m fun p H' h => k p H' ?_
  have e2 : (ks.map fun x => (x, V.bl true)).map Prod.fst = ks := by
    rw [List.map_map]
    exact List.map_id' ks
  rw [e2] at h
  exact h
theorem rd_clear (hA : At H ((a, HO.lst xs) :: F)) (k : ∀ H', At H' ((a, .lst []) :: F) → Q .non H') : rClear (.ref a) [] H Q := ⟨a, xs, rfl, rfl, hA.rd (.head _), k _ (hA.upd rfl)⟩
end
def Clo (f : Str → List Str) (ys : List Str) (z : Str) : Prop := ∀ S : Str → Prop, (∀ y ∈ ys, S y) → (∀ z x, S z → x ∈ f z → S x) → S z
theorem Clo.base {f : Str → List Str} {ys : List Str} {z : Str} (h : z ∈ ys) : Clo f ys z := fun _ h1 _ => h1 z h
theorem Clo.step {f : Str → List Str} {ys : List Str} {z x : Str} (h : Clo f ys z) (m : x ∈ f z) : Clo f ys x := fun S h1 h2 => h2 z x (h S h1 h2) m
structure Going (f : Str → List Str) (N ys ks wt : List Str) : Prop where
  nd : ks.Nodup
  sub : ∀ z ∈ ks, z ∈ N
  w : ∀ z ∈ wt, z ∈ ks
  base : ∀ y ∈ ys, y ∈ ks
  clo : ∀ z ∈ ks, Clo f ys z
  out : ∀ z ∈ ks, ¬ z ∈ wt → ∀ x ∈ f z, x ∈ ks
def wayT (zs : List (Addr × Str × Addr)) : List Cell := zs.map fun z => (z.1, HO.tup [.str z.2.1, .ref z.2.2])
theorem way_perm {L : List Cell} (A B : List Cell) (t c : Cell) : (((A ++ [t]) ++ (B ++ [c])) ++ L).Perm (t :: c :: ((A ++ B) ++ L)) := by
  have e : ((A ++ [t]) ++ (B ++ [c])) ++ L = A ++ t :: (B ++ c :: L) := by simp [List.append_assoc]
  rw [e]
  refine List.perm_middle.trans (List.Perm.cons _ ?_)
  rw [← List.append_assoc]
  exact List.perm_middle
section
variable {X : Cx} {K : PySem.W.Frag} {σ : L2.St} {H : Hp} {Q : VK} {D : Ends} {L F : List Cell} {a b d p : Addr} {te : TE} {tt : TT} {g : TG} {vs : List Nat}
theorem lc_ways {us : List Str} (f : Str → List Str) (hA : At H L) (m : (a, HO.lst (us.map V.str)) ∈ L) (hn : us.length < 100000)
    (hs : ∀ u H' D acc (C : List Cell) (Yk : V → Hp → Prop) (Nk : Hp → Prop), u ∈ us → At H' ((D, .lst acc) :: (C ++ L)) → (∀ T b H4, At H4 ((T, .tup [.str u, .ref b]) :: (b, .lst ((f u).map V.str)) :: (D, .lst acc) :: (C ++ L)) → Yk (.ref T) H4) →
      g (.str u) (wipe σ vs) H' fun σ2 H2 => WipeK σ2 σ vs (tt σ2 H2 fun b H3 => Br b (te σ2 H3 Yk) (Nk H3)))
    (hd : ∀ D zs H', At H' ((D, .lst (zs.map fun z => V.ref z.1)) :: (wayT zs ++ (zl f (zs.map Prod.snd) ++ L))) → zs.map (fun z => z.2.1) = us → Q (.ref D) H') : LcK (Itl K a) g tt te vs σ H Q := by
  have w : L2.Walk (Itl K a) us.length (fun H => SqL K H a (us.map V.str)) (YAt (us.map V.str)) := by
    have := walk_list (K := K) (a := a) (xs := us.map V.str)
    rw [List.length_map] at this
    exact this
  refine lc_inv w hA (fun D i H' => ∃ zs, At H' ((D, .lst (zs.map fun z => V.ref z.1)) :: ((wayT zs ++ zl f (zs.map Prod.snd)) ++ L)) ∧ zs.map (fun z => z.2.1) = us.take i ∧ zs.length = i) (fun D H' h => ⟨[], h, rfl, rfl⟩) (fun D i H' _ ⟨zs, h, _⟩ => SqL.of (h.rd (.tail _ (List.mem_append_right _ m)))) (fun D i x H1 H' hi ⟨zs, h, e, hl⟩ hy => ?_) (fun D H' ⟨zs, h, e, _⟩ => hd D zs H' (by rw [List.append_assoc] at h; exact h) (by rw [List.take_length] at e; exact e))
  obtain ⟨rfl, e2⟩ := hy
  rw [List.getElem?_map, List.getElem?_eq_getElem hi] at e2
  cases e2
  have step : ∀ T b H4, At H4 ((T, .tup [.str us[i], .ref b]) :: (b, .lst ((f us[i]).map V.str)) :: (D, .lst (zs.map fun z => V.ref z.1)) :: ((wayT zs ++ zl f (zs.map Prod.snd)) ++ L)) → LcPut D (.ref T) H4 fun H5 => ∃ zs, At H5 ((D, .lst (zs.map fun z => V.ref z.1)) :: ((wayT zs ++ zl f (zs.map Prod.snd)) ++ L)) ∧ zs.map (fun z => z.2.1) = us.take (i + 1) ∧ zs.length = i + 1 := fun T b H4 h4 => by
    refine rd_lcPut (xs := zs.map fun z => V.ref z.1) (F := (T, .tup [.str us[i], .ref b]) :: (b, .lst ((f us[i]).map V.str)) :: ((wayT zs ++ zl f (zs.map Prod.snd)) ++ L)) h4.f2 (by rw [List.length_map]; omega) fun H5 h5 => ⟨zs ++ [(T, us[i], b)], ?_, ?_, by rw [List.length_append, hl]; rfl⟩
    · have ec : ((wayT (zs ++ [(T, us[i], b)]) ++ zl f ((zs ++ [(T, us[i], b)]).map Prod.snd)) ++ L).Perm ((T, .tup [.str us[i], .ref b]) :: (b, .lst ((f us[i]).map V.str)) :: ((wayT zs ++ zl f (zs.map Prod.snd)) ++ L)) := by
        unfold wayT zl
        rw [List.map_append, List.map_append, List.map_append]
        exact way_perm _ _ _ _
      rw [List.map_append]
      exact h5.ofPerm ((ec.symm).cons _)
    · rw [List.map_append, e, List.take_succ, List.getElem?_eq_getElem hi]
      rfl
  exact hs us[i] _ D _ _ _ _ (List.getElem_mem hi) h step
theorem rd_dictWay {zs : List (Addr × Str × Addr)} (hA : At H L) (m : (a, HO.lst (zs.map fun z => V.ref z.1)) ∈ L) (hz : ∀ c ∈ wayT zs, c ∈ L) (nd : (zs.map fun z => z.2.1).Nodup) (k : ∀ p H', At H' ((p, .dK (dk (zr (zs.map Prod.snd)))) :: L) → Q (.ref p) H') : rDictP K [.ref a] H Q := by
  refine rd_dictP (zs := zs.map fun z => (z.1, z.2.1, V.ref z.2.2)) hA (by rw [List.map_map]; exact m) (fun z mz => ?_) (by rw [List.map_map]; exact nd) fun p H' h => k p H' ?_
  · obtain ⟨u, mu, rfl⟩ := List.mem_map.mp mz
    exact hz _ (List.mem_map.mpr ⟨u, mu, rfl⟩)
  · rw [List.map_map] at h
    have e : zr (zs.map Prod.snd) = zs.map (Prod.snd ∘ fun z => (z.1, z.2.1, V.ref z.2.2)) := by
      show (zs.map Prod.snd).map _ = _
      rw [List.map_map]
      rfl
    rw [e]
    exact h
end
section
variable {X : Cx} {K : PySem.W.Frag} {σ : L2.St} {H : Hp} {Q : VK} {D : Ends} {L F : List Cell} {a b d p : Addr} {td ty tx : TE} {x y z v w : V} {P : Addr → Prop}
def HasD (x : V) (H : Hp) (P : Addr → Prop) : Prop := ∃ a, x = .ref a ∧ IsD H a ∧ P a
def DSetK (a : Addr) (y z : V) (H : Hp) (Q : VK) : Prop := ∃ (kvs : List (Key × V)) (k : Key), H a = some (.dK kvs) ∧ y = kV k ∧ kvs.length < sizeLine ∧ (∀ v, valV kvs k = some v → Q v H) ∧ (valV kvs k = none → Q z (upd H a (.dK (putK kvs k z))))
def DGet2K (a : Addr) (y z : V) (H : Hp) (Q : VK) : Prop := ∃ o, DGet H a y o ∧ Q (o.getD z) H
theorem rd_dsetd (k : td σ H fun x H1 => HasD x H1 fun a => ty σ H1 fun y H2 => tx σ H2 fun z H3 => DSetK a y z H3 Q) : tDSetd td ty tx σ H Q := k
theorem rd_dget2 (k : td σ H fun x H1 => HasD x H1 fun a => ty σ H1 fun y H2 => tx σ H2 fun z H3 => DGet2K a y z H3 Q) : tDGet2 td ty tx σ H Q := k
theorem rd_hasD {kvs : List (Key × V)} (hA : At H L) (m : (a, HO.dK kvs) ∈ L) (k : P a) : HasD (.ref a) H P := ⟨a, rfl, .inl ⟨kvs, .inl (hA.rd m)⟩, k⟩
theorem rd_dget2k {ps : List (Str × V)} {s : Str} (hA : At H L) (m : (a, HO.dK (dk ps)) ∈ L) (k : Q ((ps.lookup s).getD w) H) : DGet2K a (.str s) w H Q := by
  refine ⟨_, DGet.k (k := Sum.inr s) (hA.rd m), ?_⟩
  rw [valV_dk]
  exact k
end
structure WS where
  w : Addr
  e : Addr
  es : List (Str × Str)
  vs : List V
structure WSok (K : PySem.W.Frag) (L : List Cell) (ns : List Str) (z : WS) : Prop where
  web : WebIn K L z.w ns z.es
  sok : SOk ns z.es
  len : z.es.length ≤ 3100
  row : (z.e, HO.lst z.vs) ∈ L
  iss : Iss L z.vs z.es
def Zip0K (K : PySem.W.Frag) (vs : List V) (H : Hp) (R : It → Hp → Prop) : Prop := ∃ a b xs ys, vs = [.ref a, .ref b] ∧ SqL K H a xs ∧ SqL K H b ys ∧ R (Itz K a b) H
theorem rd_zip0 {K : PySem.W.Frag} {tl : TA} {σ : L2.St} {H : Hp} {R : It → Hp → Prop} (k : tl σ H fun vs H1 => Zip0K K vs H1 R) : iZip K tl σ H R := k
theorem rd_zip0k {K : PySem.W.Frag} {H : Hp} {L : List Cell} {a b : Addr} {xs ys : List V} {R : It → Hp → Prop} (hA : At H L) (m : (a, HO.lst xs) ∈ L) (m2 : (b, HO.lst ys) ∈ L) (k : R (Itz K a b) H) : Zip0K K [.ref a, .ref b] H R := ⟨a, b, xs, ys, rfl, SqL.of (hA.rd m), SqL.of (hA.rd m2), k⟩
theorem iss_c {α : Type} {i1 : DecidableEq α} {i2 : Datum α} {L : List Cell} {v : V} {vs : List V} {x : α} {xs : List α} (h : Is L v x) (h2 : Iss L vs xs) : Iss L (v :: vs) (x :: xs) := .cons h h2
theorem iss_n {α : Type} {i1 : DecidableEq α} {i2 : Datum α} {L : List Cell} : Iss L [] ([] : List α) := .nil
theorem okD_two {α : Type} {i1 : DecidableEq α} {i2 : Datum α} {n : Nat} {x y : α} (h : okD n (Datum.toD x)) (h2 : okD n (Datum.toD y)) : okD (n + 1) (Datum.toD [x, y]) := okD_mapM (by show 2 < 100000; decide) fun z m => by
  rcases List.mem_cons.mp m with rfl | m
  · exact h
  · cases List.mem_singleton.mp m
    exact h2
end Sw

namespace Sw
open PySem L2 PySem.W PyProof.Rows
def rUpdD : V → List V → Hp → VK → Prop := fun x vs H Q => ∃ (a b : Addr) (kvs more : List (Key × V)), x = .ref a ∧ vs = [.ref b] ∧ a ≠ b ∧ H a = some (.dK kvs) ∧ H b = some (.dK more) ∧ kvs.length + more.length ≤ sizeLine ∧ Q .non (upd H a (.dK (mergeK kvs more)))
section
variable {K : PySem.W.Frag} {H : Hp} {L F : List Cell} {a b : Addr} {Q : VK}
theorem rd_bmD {P : Hp → Prop} {kvs : List (Key × V)} (hA : At H L) (m : (a, HO.dK kvs) ∈ L) (k : P H) : BmK K "dict" (.ref a) H P := ⟨.inr (.inr (.inl ⟨rfl, .inl ⟨kvs, hA.rd m⟩⟩)), k⟩
def addS (ks ms : List Str) : List Str := ms.foldl insS ks
theorem merge_ds : ∀ (ms ks : List Str), mergeK (ds ks) (ds ms) = ds (addS ks ms)
  | [], _ => rfl
  | m :: ms, ks => by
    show mergeK (putK (ds ks) (Sum.inr m) (V.bl true)) (ds ms) = _
    rw [putK_ds, merge_ds ms]
    rfl
theorem ds_len (ks : List Str) : (ds ks).length = ks.length := by unfold ds; rw [List.length_map]
theorem dk_len (ps : List (Str × V)) : (dk ps).length = ps.length := by unfold dk; rw [List.length_map]
theorem rd_updD {ks ms : List Str} (hA : At H ((a, HO.dK (ds ks)) :: F)) (m : (b, HO.dK (ds ms)) ∈ F) (hl : ks.length + ms.length < 100000) (k : ∀ H', At H' ((a, .dK (ds (addS ks ms))) :: F) → Q .non H') : rUpdD (.ref a) [.ref b] H Q := by
  refine ⟨a, b, ds ks, ds ms, rfl, rfl, hA.ne m rfl, hA.rd (.head _), hA.rd (.tail _ m), by rw [ds_len, ds_len]; exact Nat.le_trans (Nat.le_of_lt hl) (by decide), k _ ?_⟩
  rw [merge_ds]
  exact hA.upd rfl
theorem rd_ixLast {xs : List V} {v : V} {i : Int} (hA : At H L) (m : (a, HO.lst (xs ++ [v])) ∈ L) (hi : i = -1) (k : Q v H) : rIxL K (.ref a) (.int i) H Q := by
  subst hi
  refine ⟨a, xs ++ [v], -1, v, rfl, rfl, SqL.of (hA.rd m), ?_, k⟩
  unfold atI ixN
  rw [List.length_append]
  have e : (-1 + ((xs.length : Int) + 1)).toNat = xs.length := by omega
  have h1 : (1 : Int) ≤ (xs.length : Int) + 1 := by omega
  simp [h1, e]
end
def tcs {α : Type} (ψ : α → List V) (zs : List (Addr × α)) : List Cell := zs.map fun z => (z.1, HO.tup (ψ z.2))
section
variable {K : PySem.W.Frag} {σ : L2.St} {H : Hp} {Q : VK} {L F : List Cell} {a : Addr} {g : TG} {tt : TT} {te : TE} {vs : List Nat}
theorem lc_tups {α : Type} {us : List α} {f : α → V} (ψ : α → List V) (p : α → Bool) (hA : At H L) (m : (a, HO.lst (us.map f)) ∈ L) (hn : us.length < 100000)
    (hs : ∀ u H' D acc (C : List Cell) (Yk : V → Hp → Prop) (Nk : Hp → Prop), u ∈ us → At H' ((D, .lst acc) :: (C ++ L)) → (∀ T H4, p u = true → At H4 ((T, .tup (ψ u)) :: (D, .lst acc) :: (C ++ L)) → Yk (.ref T) H4) → (∀ H4, p u = false → At H4 ((D, .lst acc) :: (C ++ L)) → Nk H4) →
      g (f u) (wipe σ vs) H' fun σ2 H2 => WipeK σ2 σ vs (tt σ2 H2 fun b H3 => Br b (te σ2 H3 Yk) (Nk H3)))
    (hd : ∀ D zs H', At H' ((D, .lst (zs.map fun z => V.ref z.1)) :: (tcs ψ zs ++ L)) → zs.map Prod.snd = us.filter p → Q (.ref D) H') : LcK (Itl K a) g tt te vs σ H Q := by
  have w : L2.Walk (Itl K a) us.length (fun H => SqL K H a (us.map f)) (YAt (us.map f)) := by
    have := walk_list (K := K) (a := a) (xs := us.map f)
    rw [List.length_map] at this
    exact this
  refine lc_inv w hA (fun D i H' => ∃ zs, At H' ((D, .lst (zs.map fun z => V.ref z.1)) :: (tcs ψ zs ++ L)) ∧ zs.map Prod.snd = (us.take i).filter p ∧ zs.length ≤ i) (fun D H' h => ⟨[], h, rfl, Nat.le_refl _⟩) (fun D i H' _ ⟨zs, h, _⟩ => SqL.of (h.rd (.tail _ (List.mem_append_right _ m)))) (fun D i x H1 H' hi ⟨zs, h, e, hl⟩ hy => ?_) (fun D H' ⟨zs, h, e, _⟩ => hd D zs H' h (by rw [List.take_length] at e; exact e))
  obtain ⟨rfl, e2⟩ := hy
  rw [List.getElem?_map, List.getElem?_eq_getElem hi] at e2
  cases e2
  have et : us.take (i + 1) = us.take i ++ [us[i]] := by rw [List.take_succ, List.getElem?_eq_getElem hi]; rfl
  have step : ∀ T H4, p us[i] = true → At H4 ((T, .tup (ψ us[i])) :: (D, .lst (zs.map fun z => V.ref z.1)) :: (tcs ψ zs ++ L)) → LcPut D (.ref T) H4 fun H5 => ∃ zs, At H5 ((D, .lst (zs.map fun z => V.ref z.1)) :: (tcs ψ zs ++ L)) ∧ zs.map Prod.snd = (us.take (i + 1)).filter p ∧ zs.length ≤ i + 1 := fun T H4 hp h4 => by
    refine rd_lcPut (xs := zs.map fun z => V.ref z.1) (F := (T, .tup (ψ us[i])) :: (tcs ψ zs ++ L)) h4.f1 (by rw [List.length_map]; omega) fun H5 h5 => ⟨zs ++ [(T, us[i])], ?_, ?_, by rw [List.length_append]; show zs.length + 1 ≤ _; omega⟩
    · have ec : (tcs ψ (zs ++ [(T, us[i])]) ++ L).Perm ((T, .tup (ψ us[i])) :: (tcs ψ zs ++ L)) := by
        unfold tcs
        rw [List.map_append, List.append_assoc]
        exact List.perm_middle
      rw [List.map_append]
      exact h5.ofPerm ((ec.symm).cons _)
    · rw [List.map_append, e, et, List.filter_append, List.filter_cons, if_pos hp]
      rfl
  refine hs us[i] _ D _ (tcs ψ zs) _ _ (List.getElem_mem hi) h step fun H4 hp h4 => ⟨zs, h4, ?_, by omega⟩
  rw [e, et, List.filter_append, List.filter_cons, if_neg (by rw [hp]; decide), List.filter_nil, List.append_nil]
end
theorem tcs_mem {α : Type} {ψ : α → List V} {zs : List (Addr × α)} {z : Addr × α} (m : z ∈ zs) : (z.1, HO.tup (ψ z.2)) ∈ tcs ψ zs := List.mem_map.mpr ⟨z, m, rfl⟩
section
variable {f g : Str → List Str} {N ys rs : List Str} {z : Str}
end
def inAny (acc : List (List Str)) (n : Str) : Prop := ∃ p ∈ acc, n ∈ p
instance (acc : List (List Str)) (n : Str) : Decidable (inAny acc n) := by unfold inAny; infer_instance
section
variable {c d : Str → List Str} {ns : List Str} {n : Str} {i : Nat} {acc : List (List Str)} {p : List Str}
end
def cl (zs : List (Addr × List Str)) : List Cell := zs.map fun z => (z.1, HO.lst (z.2.map V.str))
def clr (zs : List (Addr × List Str)) : List V := zs.map fun z => V.ref z.1
theorem cl_app (zs : List (Addr × List Str)) (z : Addr × List Str) : cl (zs ++ [z]) = cl zs ++ [(z.1, HO.lst (z.2.map V.str))] := List.map_append
theorem clr_app (zs : List (Addr × List Str)) (z : Addr × List Str) : clr (zs ++ [z]) = clr zs ++ [V.ref z.1] := List.map_append
theorem iss_cl {L : List Cell} : ∀ {zs : List (Addr × List Str)}, (∀ c ∈ cl zs, c ∈ L) → Iss L (clr zs) (zs.map Prod.snd)
  | [], _ => .nil
  | _ :: _, h => iss_c (is_strs (h _ (.head _))) (iss_cl fun c m => h c (.tail _ m))
theorem clr_len (zs : List (Addr × List Str)) : (clr zs).length = zs.length := List.length_map _
section
variable {N : List Str} {es : List (Str × Str)} {p : List Str} {n : Nat}
end
end Sw

namespace Sw
open PySem L2 PySem.W PyProof.Rows
def gotIn (N : List Str) (es : List (Str × Str)) (ws : List (Str × Str)) : List Str := N.filter fun n => decide (¬ n ∈ ws.map Prod.fst) && (strikersOf es n).all fun x => decide (ws.lookup x = some ("out" : Str))
def gotOut (N : List Str) (es : List (Str × Str)) (ws : List (Str × Str)) : List Str := N.filter fun n => decide (¬ n ∈ ws.map Prod.fst) && (strikersOf es n).any fun x => decide (ws.lookup x = some ("in" : Str))
def markW (u : Str) (ns : List Str) : List (Str × Str) := ns.map fun n => (n, u)
def wsIn (N : List Str) (es ws : List (Str × Str)) : List (Str × Str) := ws ++ markW "in" (gotIn N es ws)
def wsOut (N : List Str) (es ws : List (Str × Str)) : List (Str × Str) := wsIn N es ws ++ markW "out" (gotOut N es (wsIn N es ws))
def rowD3 (u : Str) (k : Int) (n : Str) : PyData := .tuple [.str n, .str u, .int k]
def openD (n : Str) : PyData := .tuple [.str n, .str "open", .none]
inductive Rds (N : List Str) (es : List (Str × Str)) : Int → List (Str × Str) → List PyData → List (Str × Str) → Prop
  | stop {k ws} : gotIn N es ws = [] → gotOut N es (wsIn N es ws) = [] → Rds N es k ws [] ws
  | go {k ws r w} : ¬ (gotIn N es ws = [] ∧ gotOut N es (wsIn N es ws) = []) → Rds N es (k + 1) (wsOut N es ws) r w →
      Rds N es k ws ((gotIn N es ws).map (rowD3 "in" k) ++ ((gotOut N es (wsIn N es ws)).map (rowD3 "out" k) ++ r)) w
section
variable {N : List Str} {es es' ws w w' : List (Str × Str)} {r r' : List PyData} {k : Int}
theorem Rds.uniq (h : Rds N es k ws r w) : ∀ {r' w'}, Rds N es k ws r' w' → r = r' ∧ w = w' := by
  induction h with
  | stop h1 h2 =>
    intro r' w' q
    cases q with
    | stop _ _ => exact ⟨rfl, rfl⟩
    | go h3 _ => exact absurd ⟨h1, h2⟩ h3
  | go h1 h2 ih =>
    intro r' w' q
    cases q with
    | stop h3 h4 => exact absurd ⟨h3, h4⟩ h1
    | go h3 h4 =>
      obtain ⟨e1, e2⟩ := ih h4
      exact ⟨by rw [e1], e2⟩
theorem gotIn_congr (h : ∀ x n, (x, n) ∈ es ↔ (x, n) ∈ es') : gotIn N es ws = gotIn N es' ws := by
  unfold gotIn
  refine List.filter_congr fun n _ => ?_
  congr 1
  rw [Bool.eq_iff_iff, List.all_eq_true, List.all_eq_true]
  exact ⟨fun q x m => q x (mem_strikersOf.mpr ((h x n).mpr (mem_strikersOf.mp m))), fun q x m => q x (mem_strikersOf.mpr ((h x n).mp (mem_strikersOf.mp m)))⟩
theorem gotOut_congr (h : ∀ x n, (x, n) ∈ es ↔ (x, n) ∈ es') : gotOut N es ws = gotOut N es' ws := by
  unfold gotOut
  refine List.filter_congr fun n _ => ?_
  congr 1
  rw [Bool.eq_iff_iff, List.any_eq_true, List.any_eq_true]
  exact ⟨fun ⟨x, m, q⟩ => ⟨x, mem_strikersOf.mpr ((h x n).mp (mem_strikersOf.mp m)), q⟩, fun ⟨x, m, q⟩ => ⟨x, mem_strikersOf.mpr ((h x n).mpr (mem_strikersOf.mp m)), q⟩⟩
theorem Rds.congr (hc : ∀ x n, (x, n) ∈ es ↔ (x, n) ∈ es') (h : Rds N es k ws r w) : Rds N es' k ws r w := by
  induction h with
  | stop h1 h2 =>
    refine .stop ?_ ?_
    · rw [← gotIn_congr hc]; exact h1
    · unfold wsIn
      rw [← gotIn_congr hc, ← gotOut_congr hc]
      exact h2
  | go h1 h2 ih =>
    unfold wsOut wsIn at ih
    unfold wsIn at h1
    unfold wsIn
    rw [gotIn_congr hc, gotOut_congr hc] at h1 ih ⊢
    exact .go h1 ih
theorem gotIn_sub {n : Str} (h : n ∈ gotIn N es ws) : n ∈ N ∧ ¬ n ∈ ws.map Prod.fst := by
  obtain ⟨m, q⟩ := List.mem_filter.mp h
  rw [Bool.and_eq_true] at q
  exact ⟨m, of_decide_eq_true q.1⟩
theorem gotOut_sub {n : Str} (h : n ∈ gotOut N es ws) : n ∈ N ∧ ¬ n ∈ ws.map Prod.fst := by
  obtain ⟨m, q⟩ := List.mem_filter.mp h
  rw [Bool.and_eq_true] at q
  exact ⟨m, of_decide_eq_true q.1⟩
theorem gotIn_nd (nd : N.Nodup) : (gotIn N es ws).Nodup := nd.filter _
theorem gotOut_nd (nd : N.Nodup) : (gotOut N es ws).Nodup := nd.filter _
theorem markW_fst (u : Str) (ns : List Str) : (markW u ns).map Prod.fst = ns := by
  unfold markW
  rw [List.map_map]
  exact List.map_id' ns
theorem keys_app {u : Str} {ns : List Str} (nd : (ws.map Prod.fst).Nodup) (nd2 : ns.Nodup) (hn : ∀ n ∈ ns, ¬ n ∈ ws.map Prod.fst) : ((ws ++ markW u ns).map Prod.fst).Nodup := by
  rw [List.map_append, markW_fst]
  exact List.nodup_append.mpr ⟨nd, nd2, fun a ha b hb e => hn b hb (e ▸ ha)⟩
theorem wsIn_nd (nd : (ws.map Prod.fst).Nodup) (ndN : N.Nodup) : ((wsIn N es ws).map Prod.fst).Nodup := keys_app nd (gotIn_nd ndN) fun n m => (gotIn_sub m).2
theorem wsOut_nd (nd : (ws.map Prod.fst).Nodup) (ndN : N.Nodup) : ((wsOut N es ws).map Prod.fst).Nodup := keys_app (wsIn_nd nd ndN) (gotOut_nd ndN) fun n m => (gotOut_sub m).2
end
def IsRounds (N : List Str) (es : List (Str × Str)) (ds : List PyData) : Prop := ∃ r w, Rds N es 1 [] r w ∧ ds = r ++ (N.filter fun n => decide (¬ n ∈ w.map Prod.fst)).map openD
theorem IsRounds.uniq {N : List Str} {es : List (Str × Str)} {ds ds' : List PyData} (h : IsRounds N es ds) (h' : IsRounds N es ds') : ds = ds' := by
  obtain ⟨r, w, q, rfl⟩ := h
  obtain ⟨r', w', q', rfl⟩ := h'
  obtain ⟨e1, e2⟩ := q.uniq q'
  rw [e1, e2]
theorem IsRounds.congr {N : List Str} {es es' : List (Str × Str)} {ds : List PyData} (hc : ∀ x n, (x, n) ∈ es ↔ (x, n) ∈ es') (h : IsRounds N es ds) : IsRounds N es' ds := by
  obtain ⟨r, w, q, e⟩ := h
  exact ⟨r, w, q.congr hc, e⟩
theorem wdk_app (ws vs : List (Str × Str)) : wdk (ws ++ vs) = wdk ws ++ wdk vs := List.map_append
theorem wdk_lookup (ws : List (Str × Str)) (z : Str) : (wdk ws).lookup z = (ws.lookup z).map V.str := by
  induction ws with
  | nil => rfl
  | cons e r ih =>
    obtain ⟨x, y⟩ := e
    rw [show wdk ((x, y) :: r) = (x, V.str y) :: wdk r from rfl, List.lookup_cons, List.lookup_cons]
    cases z == x
    · exact ih
    · rfl
section
variable {K : PySem.W.Frag} {σ : L2.St} {H : Hp} {Q : VK} {L F : List Cell} {a : Addr} {td ty : TE} {y : V}
def DGet1K (a : Addr) (y : V) (H : Hp) (Q : VK) : Prop := ∃ o, DGet H a y o ∧ Q (o.getD .non) H
theorem rd_dget1 (k : td σ H fun x H1 => HasD x H1 fun a => ty σ H1 fun y H2 => DGet1K a y H2 Q) : tDGet1 td ty σ H Q := k
theorem rd_dget1k {ps : List (Str × V)} {s : Str} (hA : At H L) (m : (a, HO.dK (dk ps)) ∈ L) (k : Q ((ps.lookup s).getD .non) H) : DGet1K a (.str s) H Q := by
  refine ⟨_, DGet.k (k := Sum.inr s) (hA.rd m), ?_⟩
  rw [valV_dk]
  exact k
theorem rd_dget2w {ws : List (Str × Str)} {s : Str} {w : V} (hA : At H L) (m : (a, HO.dK (dk (wdk ws))) ∈ L) (k : Q (((wdk ws).lookup s).getD w) H) : DGet2K a (.str s) w H Q := rd_dget2k hA m k
theorem rd_eqW {ws : List (Str × Str)} {x u : Str} (k : Q (.bl (decide (ws.lookup x = some u))) H) : rEq (((wdk ws).lookup x).getD .non) (.str u) H Q := by
  rw [wdk_lookup]
  cases q : ws.lookup x with
  | none =>
    rw [q] at k
    exact ⟨rfl, k⟩
  | some v =>
    rw [q] at k
    refine rd_eqS ?_
    have e : decide (v = u) = decide (some v = some u) := by simp
    rw [e]
    exact k
theorem rd_eqW2 {ws : List (Str × Str)} {x u : Str} (hu : ("" : Str) ≠ u) (k : Q (.bl (decide (ws.lookup x = some u))) H) : rEq (((wdk ws).lookup x).getD (.str "")) (.str u) H Q := by
  rw [wdk_lookup]
  cases q : ws.lookup x with
  | none =>
    rw [q] at k
    refine rd_eqS ?_
    have e : decide (("" : Str) = u) = decide ((none : Option Str) = some u) := by simp [hu]
    rw [e]
    exact k
  | some v =>
    rw [q] at k
    refine rd_eqS ?_
    have e : decide (v = u) = decide (some v = some u) := by simp
    rw [e]
    exact k
end
theorem rd_whB {D : Ends} {tb : TS} {Pv : Nat → L2.St → Hp → Prop} {m : Nat} {σ : L2.St} {H : Hp} {b : Bool} (h1 : b = true → tb { D with nx := fun σ' H' => ∃ m', m' < m ∧ Pv m' σ' H', ct := fun σ' H' => ∃ m', m' < m ∧ Pv m' σ' H', bk := D.nx } σ H) (h2 : b = false → D.nx σ H) : WhK Pv tb D m σ b H := by
  unfold WhK
  by_cases h : b = true
  · rw [if_pos h]
    exact ⟨_, fun _ _ g => g, h1 h⟩
  · rw [if_neg h]
    exact h2 (by simpa using h)
def optD : Option Int → PyData
  | some k => .int k
  | none => .none
def rowX (x : Str × Str × Option Int) : PyData := .tuple [.str x.1, .str x.2.1, optD x.2.2]
theorem Rds.rows {N : List Str} {es ws w : List (Str × Str)} {k : Int} {r : List PyData} (h : Rds N es k ws r w) : ∃ rs : List (Str × Str × Option Int), r = rs.map rowX ∧ w = ws ++ rs.map (fun x => (x.1, x.2.1)) := by
  induction h with
  | stop _ _ => exact ⟨[], rfl, (List.append_nil _).symm⟩
  | @go k ws r w _ _ ih =>
    obtain ⟨rs, e1, e2⟩ := ih
    refine ⟨(gotIn N es ws).map (fun n => (n, ("in" : Str), some k)) ++ ((gotOut N es (wsIn N es ws)).map (fun n => (n, ("out" : Str), some k)) ++ rs), ?_, ?_⟩
    · rw [e1, List.map_append, List.map_append, List.map_map, List.map_map]
      rfl
    · rw [e2, List.map_append, List.map_append, List.map_map, List.map_map]
      show wsIn N es ws ++ markW "out" (gotOut N es (wsIn N es ws)) ++ _ = _
      unfold wsIn markW
      rw [List.append_assoc, List.append_assoc]
      rfl
theorem IsRounds.rows {N : List Str} {es : List (Str × Str)} {ds : List PyData} (h : IsRounds N es ds) : ∃ rs : List (Str × Str × Option Int), ds = rs.map rowX ∧ ∃ r w, Rds N es 1 [] r w ∧ rs.map (fun x => (x.1, x.2.1)) = w ++ (N.filter fun n => decide (¬ n ∈ w.map Prod.fst)).map fun n => (n, ("open" : Str)) := by
  obtain ⟨r, w, q, e⟩ := h
  obtain ⟨rs, e1, e2⟩ := q.rows
  refine ⟨rs ++ (N.filter fun n => decide (¬ n ∈ w.map Prod.fst)).map fun n => (n, ("open" : Str), (none : Option Int)), ?_, r, w, q, ?_⟩
  · rw [e, e1, List.map_append, List.map_map]
    rfl
  · rw [List.map_append, List.map_map, e2]
    rfl
theorem rowX_ok (x : Str × Str × Option Int) : okD 5 (rowX x) := by
  obtain ⟨n, u, o⟩ := x
  refine ⟨by show 3 < 100000; decide, fun d m => ?_⟩
  rcases List.mem_cons.mp m with rfl | m
  · exact okD_str _ _
  rcases List.mem_cons.mp m with rfl | m
  · exact okD_str _ _
  cases List.mem_singleton.mp m
  cases o <;> exact trivial
theorem IsRounds.ok {N : List Str} {es : List (Str × Str)} {ds : List PyData} (h : IsRounds N es ds) (hl : ds.length < 100000) : okD 6 (.list ds) := by
  obtain ⟨rs, e, _⟩ := h.rows
  refine ⟨hl, fun d m => ?_⟩
  rw [e] at m
  obtain ⟨x, _, rfl⟩ := List.mem_map.mp m
  exact rowX_ok x
end Sw

namespace Sw
open PySem PySem.Spec PyProof.Rows L2 RT PySem.W
section
variable {prog : Program} {w : World} {A : Around} {E : Value → Shared → Prop} {s : Shared} {S it l : Addr} {items : Array Value} {c₀ : Nat}
end
def tLstRev (K : PySem.W.Frag) (te : TE) : TE := fun σ H Q => te σ H fun v H1 => ∃ (a : Addr) (xs : List V), v = .ref a ∧ SqL K H1 a xs ∧ ∀ q, H1 q = none → Q (.ref q) (upd H1 q (.lst xs.reverse))
theorem rpall_rev {L : List Cell} : ∀ {ds : List PyData} {vs : List V}, RpAll L vs ds → RpAll L vs.reverse ds.reverse
  | _, _, .nil => .nil
  | _, _, .cons h r => by
    rw [List.reverse_cons, List.reverse_cons]
    exact RpAll.app (rpall_rev r) (.cons h .nil)
theorem iss_rev {α : Type} {i1 : DecidableEq α} {i2 : Datum α} {L : List Cell} {vs : List V} {xs : List α} (h : Iss L vs xs) : Iss L vs.reverse xs.reverse := by
  have := rpall_rev h
  rw [← List.map_reverse] at this
  exact this
section
variable {K : PySem.W.Frag} {σ : L2.St} {H : Hp} {Q : VK} {L : List Cell} {a : Addr} {xs : List V} {te : TE} {R : L2.St → Hp → Prop}
theorem rd_gLst {n : Nat} {t : TGs} (hA : At H L) (m : (a, HO.lst xs) ∈ L) (hl : xs.length = n) (k : t xs σ H R) : gLst K n t (.ref a) σ H R := ⟨a, xs, rfl, SqL.of (hA.rd m), hl, k⟩
def RevK (K : PySem.W.Frag) (v : V) (H : Hp) (Q : VK) : Prop := ∃ (a : Addr) (xs : List V), v = .ref a ∧ SqL K H a xs ∧ ∀ q, H q = none → Q (.ref q) (upd H q (.lst xs.reverse))
theorem rd_lstRev (k : te σ H fun v H1 => RevK K v H1 Q) : tLstRev K te σ H Q := k
theorem rd_revkm {α : Type} {f : α → V} {zs : List α} (hA : At H L) (m : (a, HO.lst (zs.map f)) ∈ L) (k : ∀ q H', At H' ((q, .lst (zs.reverse.map f)) :: L) → Q (.ref q) H') : RevK K (.ref a) H Q := ⟨a, zs.map f, rfl, SqL.of (hA.rd m), fun q hq => k q _ (by rw [List.map_reverse]; exact hA.new hq)⟩
theorem rd_revk (hA : At H L) (m : (a, HO.lst xs) ∈ L) (k : ∀ q H', At H' ((q, .lst xs.reverse) :: L) → Q (.ref q) H') : RevK K (.ref a) H Q := ⟨a, xs, rfl, SqL.of (hA.rd m), fun q hq => k q _ (hA.new hq)⟩
end
end Sw

namespace Sw
open PySem L2 PySem.W PyProof.Rows
def LeastP (es : List (Str × Str)) (N : List Str) (n : Str) : Prop := ∀ S : Str → Prop, (∀ m ∈ N, (∀ x, (x, m) ∈ es → ∃ y, (y, x) ∈ es ∧ S y) → S m) → S n
theorem look_app {ws : List (Str × Str)} {u : Str} {G : List Str} {n : Str} : (ws ++ markW u G).lookup n = match ws.lookup n with | some v => some v | none => if n ∈ G then some u else none := by
  induction ws with
  | nil =>
    show (markW u G).lookup n = if n ∈ G then some u else none
    induction G with
    | nil => rfl
    | cons g r ih =>
      rw [show markW u (g :: r) = (g, u) :: markW u r from rfl, List.lookup_cons]
      by_cases h : n = g
      · rw [h, if_pos (List.mem_cons_self ..), beq_self_eq_true]
      · rw [beq_eq_false_iff_ne.mpr h]
        show (markW u r).lookup n = _
        rw [ih]
        by_cases h2 : n ∈ r
        · rw [if_pos h2, if_pos (.tail _ h2)]
        · rw [if_neg h2, if_neg fun m => (List.mem_cons.mp m).elim h h2]
  | cons e r ih =>
    rw [List.cons_append, List.lookup_cons, List.lookup_cons]
    cases n == e.1
    · exact ih
    · rfl
theorem look_key {ws : List (Str × Str)} {n u : Str} (h : ws.lookup n = some u) : n ∈ ws.map Prod.fst := by
  rcases Classical.em (n ∈ ws.map Prod.fst) with h2 | h2
  · exact h2
  · rw [List.lookup_eq_none_iff.mpr fun e m => bne_iff_ne.mpr fun q => h2 (List.mem_map.mpr ⟨e, m, q.symm⟩)] at h
    cases h
theorem key_look {ws : List (Str × Str)} {n : Str} (h : n ∈ ws.map Prod.fst) : ∃ u, ws.lookup n = some u := by
  cases q : ws.lookup n with
  | some u => exact ⟨u, rfl⟩
  | none =>
    obtain ⟨e, m, rfl⟩ := List.mem_map.mp h
    have := List.lookup_eq_none_iff.mp q e m
    exact absurd rfl (bne_iff_ne.mp this)
theorem look_none {ws : List (Str × Str)} {n : Str} (h : ¬ n ∈ ws.map Prod.fst) : ws.lookup n = none := by
  cases q : ws.lookup n with
  | none => rfl
  | some u => exact absurd (look_key q) h
structure RInv (N : List Str) (es ws : List (Str × Str)) : Prop where
  two : ∀ n u, ws.lookup n = some u → u = "in" ∨ u = "out"
  lst : ∀ n, ws.lookup n = some ("in" : Str) → LeastP es N n
  ins : ∀ n, ws.lookup n = some ("in" : Str) → ∀ x, (x, n) ∈ es → ws.lookup x = some ("out" : Str)
  outs : ∀ n, ws.lookup n = some ("out" : Str) → ∃ y, (y, n) ∈ es ∧ ws.lookup y = some ("in" : Str)
section
variable {N : List Str} {es ws w : List (Str × Str)} {k : Int} {r : List PyData} {n : Str}
theorem RInv.nil : RInv N es [] := ⟨(by intro _ _ h; cases h), (by intro _ h; cases h), (by intro _ h; cases h), (by intro _ h; cases h)⟩
theorem mem_gotIn : n ∈ gotIn N es ws ↔ n ∈ N ∧ ¬ n ∈ ws.map Prod.fst ∧ ∀ x, (x, n) ∈ es → ws.lookup x = some ("out" : Str) := by
  unfold gotIn
  rw [List.mem_filter, Bool.and_eq_true, decide_eq_true_iff, List.all_eq_true]
  exact and_congr Iff.rfl (and_congr Iff.rfl ⟨fun h x m => of_decide_eq_true (h x (mem_strikersOf.mpr m)), fun h x m => decide_eq_true (h x (mem_strikersOf.mp m))⟩)
theorem mem_gotOut : n ∈ gotOut N es ws ↔ n ∈ N ∧ ¬ n ∈ ws.map Prod.fst ∧ ∃ x, (x, n) ∈ es ∧ ws.lookup x = some ("in" : Str) := by
  unfold gotOut
  rw [List.mem_filter, Bool.and_eq_true, decide_eq_true_iff, List.any_eq_true]
  exact and_congr Iff.rfl (and_congr Iff.rfl ⟨fun ⟨x, m, h⟩ => ⟨x, mem_strikersOf.mp m, of_decide_eq_true h⟩, fun ⟨x, m, h⟩ => ⟨x, mem_strikersOf.mpr m, decide_eq_true h⟩⟩)
theorem look_in {u v : Str} {G : List Str} (h : (ws ++ markW u G).lookup n = some v) : ws.lookup n = some v ∨ (n ∈ G ∧ u = v) := by
  rw [look_app] at h
  cases q : ws.lookup n with
  | some z => rw [q] at h; exact .inl h
  | none =>
    rw [q] at h
    by_cases m : n ∈ G
    · rw [if_pos m] at h
      exact .inr ⟨m, Option.some.inj h⟩
    · rw [if_neg m] at h
      cases h
theorem look_old {u v : Str} {G : List Str} (h : ws.lookup n = some v) : (ws ++ markW u G).lookup n = some v := by rw [look_app, h]
theorem look_new {u : Str} {G : List Str} (h : ¬ n ∈ ws.map Prod.fst) (m : n ∈ G) : (ws ++ markW u G).lookup n = some u := by rw [look_app, look_none h, if_pos m]
theorem RInv.stepIn (h : RInv N es ws) : RInv N es (wsIn N es ws) := by
  have hio : ("in" : Str) ≠ "out" := by decide
  refine ⟨fun n u q => ?_, fun n q => ?_, fun n q x m => ?_, fun n q => ?_⟩
  · rcases look_in q with q | ⟨_, e⟩
    · exact h.two n u q
    · exact .inl e.symm
  · rcases look_in q with q | ⟨m, _⟩
    · exact h.lst n q
    · obtain ⟨m1, m2, m3⟩ := mem_gotIn.mp m
      intro S hS
      refine hS n m1 fun x mx => ?_
      obtain ⟨y, my, hy⟩ := h.outs x (m3 x mx)
      exact ⟨y, my, h.lst y hy S hS⟩
  · rcases look_in q with q | ⟨m', _⟩
    · exact look_old (h.ins n q x m)
    · exact look_old ((mem_gotIn.mp m').2.2 x m)
  · rcases look_in q with q | ⟨_, e⟩
    · obtain ⟨y, my, hy⟩ := h.outs n q
      exact ⟨y, my, look_old hy⟩
    · exact absurd e hio
theorem RInv.stepOut (h : RInv N es ws) : RInv N es (ws ++ markW "out" (gotOut N es ws)) := by
  have hio : ("out" : Str) ≠ "in" := by decide
  refine ⟨fun n u q => ?_, fun n q => ?_, fun n q x m => ?_, fun n q => ?_⟩
  · rcases look_in q with q | ⟨_, e⟩
    · exact h.two n u q
    · exact .inr e.symm
  · rcases look_in q with q | ⟨_, e⟩
    · exact h.lst n q
    · exact absurd e hio
  · rcases look_in q with q | ⟨_, e⟩
    · exact look_old (h.ins n q x m)
    · exact absurd e hio
  · rcases look_in q with q | ⟨m, _⟩
    · obtain ⟨y, my, hy⟩ := h.outs n q
      exact ⟨y, my, look_old hy⟩
    · obtain ⟨_, _, y, my, hy⟩ := mem_gotOut.mp m
      exact ⟨y, my, look_old hy⟩
theorem Rds.inv (hR : Rds N es k ws r w) : RInv N es ws → RInv N es w ∧ gotIn N es w = [] ∧ gotOut N es w = [] := by
  induction hR with
  | stop h1 h2 =>
    intro h
    refine ⟨h, h1, ?_⟩
    unfold wsIn at h2
    rw [h1, show markW "in" ([] : List Str) = [] from rfl, List.append_nil] at h2
    exact h2
  | go _ _ ih =>
    intro h
    exact ih h.stepIn.stepOut
end
structure IsLeast (N : List Str) (es : List (Str × Str)) (rs : List Str) : Prop where
  rise : Rise rs
  nd : rs.Nodup
  mem : ∀ z, z ∈ rs ↔ z ∈ N ∧ LeastP es N z
theorem IsLeast.uniq {N : List Str} {es : List (Str × Str)} {rs rs' : List Str} (h : IsLeast N es rs) (h' : IsLeast N es rs') : rs = rs' :=
  (rise_ext h.rise h'.rise h.nd h'.nd).mpr fun z => (h.mem z).trans (h'.mem z).symm
def hitF (N : List Str) (es : List (Str × Str)) (F : List Str) : List Str := N.filter fun n => (strikersOf es n).any fun x => decide (x ∈ F)
def moreF (N : List Str) (es : List (Str × Str)) (F : List Str) : List Str := N.filter fun n => (strikersOf es n).all fun x => decide (x ∈ hitF N es F)
section
variable {N F G : List Str} {es : List (Str × Str)} {n : Str}
theorem mem_hitF : n ∈ hitF N es F ↔ n ∈ N ∧ ∃ x, (x, n) ∈ es ∧ x ∈ F := by
  unfold hitF
  rw [List.mem_filter, List.any_eq_true]
  exact and_congr Iff.rfl ⟨fun ⟨x, m, h⟩ => ⟨x, mem_strikersOf.mp m, of_decide_eq_true h⟩, fun ⟨x, m, h⟩ => ⟨x, mem_strikersOf.mpr m, decide_eq_true h⟩⟩
theorem mem_moreF (hS : ∀ e ∈ es, e.1 ∈ N ∧ e.2 ∈ N) : n ∈ moreF N es F ↔ n ∈ N ∧ ∀ x, (x, n) ∈ es → ∃ y, (y, x) ∈ es ∧ y ∈ F := by
  unfold moreF
  rw [List.mem_filter, List.all_eq_true]
  exact and_congr Iff.rfl ⟨fun h x m => (mem_hitF.mp (of_decide_eq_true (h x (mem_strikersOf.mpr m)))).2, fun h x m => decide_eq_true (mem_hitF.mpr ⟨(hS _ (mem_strikersOf.mp m)).1, h x (mem_strikersOf.mp m)⟩)⟩
structure GoingL (N : List Str) (es : List (Str × Str)) (F : List Str) : Prop where
  rise : Rise F
  nd : F.Nodup
  sub : ∀ z ∈ F, z ∈ N
  lst : ∀ z ∈ F, LeastP es N z
  up : ∀ z ∈ F, z ∈ moreF N es F
theorem GoingL.nil : GoingL N es [] := ⟨.nil, .nil, (by intro _ h; cases h), (by intro _ h; cases h), (by intro _ h; cases h)⟩
theorem GoingL.next (h : GoingL N es F) (nd : N.Nodup) (hS : ∀ e ∈ es, e.1 ∈ N ∧ e.2 ∈ N) : GoingL N es (srt (moreF N es F)) := by
  refine ⟨rise_srt _, srt_nodup.mpr (nd.filter _), fun z m => (List.mem_filter.mp (srt_mem.mp m)).1, fun z m S hc => ?_, fun z m => ?_⟩
  · obtain ⟨mN, hm⟩ := (mem_moreF hS).mp (srt_mem.mp m)
    refine hc z mN fun x mx => ?_
    obtain ⟨y, my, hy⟩ := hm x mx
    exact ⟨y, my, h.lst y hy S hc⟩
  · obtain ⟨mN, hm⟩ := (mem_moreF hS).mp (srt_mem.mp m)
    refine (mem_moreF hS).mpr ⟨mN, fun x mx => ?_⟩
    obtain ⟨y, my, hy⟩ := hm x mx
    exact ⟨y, my, srt_mem.mpr (h.up y hy)⟩
end
theorem leastP_srt {es : List (Str × Str)} {N : List Str} {n : Str} : LeastP es (srt N) n ↔ LeastP es N n :=
  ⟨fun h S hS => h S fun m mN => hS m (srt_mem.mp mN), fun h S hS => h S fun m mN => hS m (srt_mem.mpr mN)⟩
theorem Rds.nd {N : List Str} {es ws w : List (Str × Str)} {k : Int} {r : List PyData} (hR : Rds N es k ws r w) (ndN : N.Nodup) : (ws.map Prod.fst).Nodup → (w.map Prod.fst).Nodup := by
  induction hR with
  | stop _ _ => exact id
  | go _ _ ih => exact fun h => ih (wsOut_nd h ndN)
theorem look_mem {ws : List (Str × Str)} {n u : Str} : ws.lookup n = some u → (n, u) ∈ ws := by
  induction ws with
  | nil => intro h; cases h
  | cons e r ih =>
    intro h
    rw [List.lookup_cons] at h
    cases q : n == e.1 with
    | true =>
      rw [q] at h
      have e1 : e.2 = u := Option.some.inj h
      rw [← e1, show n = e.1 from beq_iff_eq.mp q]
      exact .head _
    | false =>
      rw [q] at h
      exact .tail _ (ih h)
def insOf (rs : List (Str × Str × Option Int)) : List Str := (rs.filter fun x => decide (x.2.1 = ("in" : Str))).map fun x => x.1
end Sw

namespace Sw
open PySem L2 PySem.W PyProof.Rows
theorem ip_or {X : Cx} : PIp X .BitOr (rI0 fun i j => .int (Builtin.bitOr i j)) := by
  intro pins s σ H x y v u Q I r1 r2 h
  obtain ⟨i, j, e1, e2, q⟩ := h
  subst e1 e2
  obtain ⟨t, rfl⟩ := r1
  obtain ⟨t', rfl⟩ := r2
  exact PyProof.Rows.ior_int ⟨.int _, H, I.tok _, ⟨_, rfl⟩, q⟩
def maskL (N ys : List Str) : Nat := ys.foldl (fun m y => m ||| 1 <<< N.idxOf y) 0
theorem maskL_app (N ys : List Str) (y : Str) : maskL N (ys ++ [y]) = maskL N ys ||| 1 <<< N.idxOf y := by
  unfold maskL
  rw [List.foldl_append]
  rfl
theorem foldl_bits (N : List Str) (a : Nat) : ∀ (ys : List Str) (m : Nat), (ys.foldl (fun m y => m ||| 1 <<< N.idxOf y) m).testBit a = true ↔ m.testBit a = true ∨ ∃ y ∈ ys, N.idxOf y = a
  | [], m => ⟨.inl, fun h => h.elim id fun ⟨_, m, _⟩ => nomatch m⟩
  | y :: r, m => by
    rw [List.foldl_cons, foldl_bits N a r, bit_set]
    constructor
    · rintro ((h | h) | ⟨z, mz, e⟩)
      · exact .inl h
      · exact .inr ⟨y, .head _, h.symm⟩
      · exact .inr ⟨z, .tail _ mz, e⟩
    · rintro (h | ⟨z, mz, e⟩)
      · exact .inl (.inl h)
      · rcases List.mem_cons.mp mz with rfl | mz
        · exact .inl (.inr e.symm)
        · exact .inr ⟨z, mz, e⟩
theorem idx_at {N : List Str} {y : Str} (h : y ∈ N) : N[N.idxOf y]? = some y := by
  rw [List.getElem?_eq_getElem (List.idxOf_lt_length_iff.mpr h)]
  exact congrArg some (List.getElem_idxOf _)
theorem idx_of {N : List Str} {y : Str} {i : Nat} (nd : N.Nodup) (h : N[i]? = some y) : N.idxOf y = i := at_inj nd (idx_at (List.mem_of_getElem? h)) h
theorem maskL_bit {N ys : List Str} (nd : N.Nodup) (hs : ∀ y ∈ ys, y ∈ N) (a : Nat) : (maskL N ys).testBit a = true ↔ ∃ y ∈ ys, N[a]? = some y := by
  unfold maskL
  rw [foldl_bits, Nat.zero_testBit]
  constructor
  · rintro (h | ⟨y, m, e⟩)
    · cases h
    · exact ⟨y, m, by rw [← e]; exact idx_at (hs y m)⟩
  · rintro ⟨y, m, e⟩
    exact .inr ⟨y, m, idx_of nd e⟩
theorem VwOk.made {N : List Str} {es : List (Str × Str)} (nd : N.Nodup) (hS : ∀ e ∈ es, e.1 ∈ N ∧ e.2 ∈ N) : VwOk N es (N.map fun n => maskL N (srt (strikersOf es n))) (N.map fun n => maskL N (srt (struckOf es n))) := by
  refine ⟨List.length_map _, List.length_map _, fun b m h a => ?_, fun a m h b => ?_⟩
  · rw [List.getElem?_map] at h
    cases q : N[b]? with
    | none => rw [q] at h; cases h
    | some y =>
      rw [q] at h
      cases h
      rw [maskL_bit nd fun x m => (hS _ (mem_strikersOf.mp (srt_mem.mp m))).1]
      constructor
      · rintro ⟨x, m, e⟩
        exact ⟨x, y, e, rfl, mem_strikersOf.mp (srt_mem.mp m)⟩
      · rintro ⟨x, y', e, e2, m⟩
        cases e2
        exact ⟨x, srt_mem.mpr (mem_strikersOf.mpr m), e⟩
  · rw [List.getElem?_map] at h
    cases q : N[a]? with
    | none => rw [q] at h; cases h
    | some x =>
      rw [q] at h
      cases h
      rw [maskL_bit nd fun y m => (hS _ (mem_struckOf.mp (srt_mem.mp m))).2]
      constructor
      · rintro ⟨y, m, e⟩
        exact ⟨x, y, rfl, e, mem_struckOf.mp (srt_mem.mp m)⟩
      · rintro ⟨x', y, e, e2, m⟩
        cases e
        exact ⟨y, srt_mem.mpr (mem_struckOf.mpr m), e2⟩
theorem VwOk.uniq {N : List Str} {es : List (Str × Str)} {ks us ks' us' : List Nat} (h : VwOk N es ks us) (h' : VwOk N es ks' us') : ks = ks' ∧ us = us' := by
  have one : ∀ {l l' : List Nat}, l.length = l'.length → (∀ i m m', l[i]? = some m → l'[i]? = some m' → m = m') → l = l' := fun {l l'} hl hm => List.ext_getElem? fun i => by
    by_cases hi : i < l.length
    · rw [List.getElem?_eq_getElem hi, List.getElem?_eq_getElem (hl ▸ hi)]
      exact congrArg some (hm i _ _ (List.getElem?_eq_getElem hi) (List.getElem?_eq_getElem (hl ▸ hi)))
    · rw [List.getElem?_eq_none (by omega), List.getElem?_eq_none (by omega)]
  refine ⟨one (h.kl.trans h'.kl.symm) fun i m m' e e' => ?_, one (h.ul.trans h'.ul.symm) fun i m m' e e' => ?_⟩
  · refine Nat.eq_of_testBit_eq fun a => Bool.eq_iff_iff.mpr ((h.kb i m e a).trans (h'.kb i m' e' a).symm)
  · refine Nat.eq_of_testBit_eq fun a => Bool.eq_iff_iff.mpr ((h.ub i m e a).trans (h'.ub i m' e' a).symm)
structure SvIn (K : PySem.W.Frag) (L : List Cell) (p : Addr) (N : List Str) (ks us : List Nat) : Prop where
  ex : ∃ dx pn pk pu : Addr, (p, HO.ins (He.ga K "Sieve") dx [("order", V.ref pn), ("hitters", .ref pk), ("hits", .ref pu)]) ∈ L ∧ (pn, HO.lst (N.map V.str)) ∈ L ∧ (pk, HO.lst (ks.map nv)) ∈ L ∧ (pu, HO.lst (us.map nv)) ∈ L
theorem SvIn.mono {K : PySem.W.Frag} {L L' : List Cell} {p : Addr} {N : List Str} {ks us : List Nat} (h : SvIn K L p N ks us) (s : ∀ x ∈ L, x ∈ L') : SvIn K L' p N ks us := by
  obtain ⟨dx, pn, pk, pu, m1, m2, m3, m4⟩ := h.ex
  exact ⟨dx, pn, pk, pu, s _ m1, s _ m2, s _ m3, s _ m4⟩
def qOk (k u : Nat) (z : Nat × Nat) : Bool := decide (z.2 &&& 1 <<< k = 0) && decide (u &&& z.1 = 0)
def qAdd (k u : Nat) (z : Nat × Nat) : Nat × Nat := (z.1 ||| 1 <<< k, z.2 ||| u)
def qStep (k u : Nat) (ps : List (Nat × Nat)) : List (Nat × Nat) := if u &&& 1 <<< k = 0 then ps ++ (ps.filter (qOk k u)).map (qAdd k u) else ps
def quietP (us : List Nat) : Nat → List (Nat × Nat)
  | 0 => [(0, 0)]
  | k + 1 => qStep k (us.getD k 0) (quietP us k)
theorem quietP_step {us : List Nat} {k u : Nat} (h : us[k]? = some u) : quietP us (k + 1) = qStep k u (quietP us k) := by
  rw [quietP, List.getD_eq_getElem?_getD, h]
  rfl
theorem quietP_len (us : List Nat) : ∀ k, (quietP us k).length ≤ 2 ^ k
  | 0 => Nat.le_refl _
  | k + 1 => by
    have ih := quietP_len us k
    have hf := List.length_filter_le (qOk k (us.getD k 0)) (quietP us k)
    rw [quietP, Nat.pow_succ]
    unfold qStep
    split
    · rw [List.length_append, List.length_map]
      omega
    · omega
def standM (ks us : List Nat) (n : Nat) : List Nat := ((quietP us n).map Prod.fst).filter fun m => decide (m - (m &&& keptN ks (hitN us m n) n) = 0)
def wholeM (ks us : List Nat) (n : Nat) : List Nat := (standM ks us n).filter fun m => decide (m = keptN ks (hitN us m n) n)
end Sw

namespace Sw
open PySem L2 PySem.W PyProof.Rows
structure ExW (K : PySem.W.Frag) (C : Addr) : Prop where
  ex : PySem.W.excIn K C He.veBase "ValueError.__new__" = true
  kp : PySem.W.keepIn K (.ref C) = true
  sb : PySem.W.subIn K (.ref C) (.type "BaseException") = some true
  ty : PySem.W.typeIn K (.ref C) = some (.type "type")
theorem ExW.of {K : PySem.W.Frag} {C : Addr} (h : PySem.W.excIn K C He.veBase "ValueError.__new__" = true ∧ PySem.W.keepIn K (.ref C) = true ∧ PySem.W.subIn K (.ref C) (.type "BaseException") = some true ∧ PySem.W.typeIn K (.ref C) = some (.type "type")) : ExW K C := ⟨h.1, h.2.1, h.2.2.1, h.2.2.2⟩
theorem ExW.cls {K : PySem.W.Frag} {C : Addr} (h : ExW K C) : ∃ cd bm, PySem.W.clsIn K C = some cd ∧ cd.mro = .ref C :: bm := by
  have q := h.ex
  unfold PySem.W.excIn at q
  split at q
  · rename_i dd cd sl ho
    split at q
    · rename_i C' bm k0 k1 k2 k3 n k5 hm hs
      simp only [Bool.and_eq_true, beq_iff_eq] at q
      obtain ⟨⟨⟨⟨⟨rfl, _⟩, _⟩, _⟩, _⟩, _⟩ := q
      refine ⟨cd, bm, ?_, hm⟩
      unfold PySem.W.clsIn
      rw [ho]
    · cases q
  · cases q
theorem ExW.self {K : PySem.W.Frag} {C : Addr} (h : ExW K C) : PySem.W.exmOne K (.ref C) (.ref C) = some true := by
  obtain ⟨cd, bm, hc, hm⟩ := h.cls
  have hs : PySem.W.subIn K (.ref C) (.ref C) = some true := by
    show PySem.W.mroIn K C (.ref C) = some true
    first
      | (unfold PySem.W.mroIn; rw [hc]; simp [hm])
      | (unfold PySem.W.mroIn PySem.W.clsIn; unfold PySem.W.clsIn at hc; rw [hc]; simp [hm])
  show (if (PySem.W.subIn K (.ref C) (.type "BaseException") == some true) = true then (if ((PySem.W.clsIn K C).isSome && PySem.W.typeIn K (.ref C) == some (.type "type")) = true then PySem.W.subIn K (.ref C) (.ref C) else none) else none) = some true
  rw [h.sb, hc, h.ty, hs]
  rfl
def tRz (E : XK) (C : Addr) : TS := fun _ _ H => E (.ref C) none H
theorem ps_rz {X : Cx} {E : XK} {C : Addr} {x m : Str} {j : Nat} {p p2 pos pos' : Pos} (hc : X.calm = true) (tk : Takes X fun cls d _ H => E cls d H) (q : ExW X.K C) (gC : X.mg x = some (.ref C)) (hg : Gl X x) (hdb : (x == ("__debug__" : Str)) = false := by decide) :
    PS X (.Raise (some (.Call (.Name x p) [.Constant (.str m) j p2] [] pos)) none pos') (tRz E C) :=
  ps_raise hc tk (pmk_own PySem.F.excBase_ValueError q.ex gC q.kp (raises_own q.sb q.ty) hg hdb)
def tTry (K : PySem.W.Frag) (c : Addr) (tb : WX → TS) (ts : TS) : TS := fun D σ H => tb (wOnly K (.ref c) (fun _ _ _ => ts) (fun _ _ _ _ => False) D) D σ H
section
variable {X : Cx} {x : Str} {c : Addr} {body suite : List Stmt} {b₀ : Stmt} {np pos pos' : Pos} {tb : WX → TS} {ts : TS}
end
section
variable {K : PySem.W.Frag} {σ : L2.St} {H : Hp} {Q : VK} {D : Ends} {tl : TA} {ta : TE} {E : XK} {C : Addr} {tb : WX → TS} {ts : TS} {sp : Sp} {m : Str}
theorem rd_rz (k : E (.ref C) none H) : tRz E C D σ H := k
theorem rd_try (k : tb (wOnly K (.ref C) (fun _ _ _ => ts) (fun _ _ _ _ => False) D) D σ H) : tTry K C tb ts D σ H := k
theorem rd_callS {E : L2.St → XK} (k : tl σ H fun vs H1 => sp vs H1 Q (E σ)) : tCallS sp E tl σ H Q := k
theorem rd_only {Wout : WX} (h : ExW K C) (k : ts D σ H) : WE (wOnly K (.ref C) (fun _ _ _ => ts) Wout D) σ (.ref C) none H := ⟨true, h.self, fun _ _ _ => k, fun q => Bool.noConfusion q⟩
theorem rd_exE (k : E (.ref C) none H) : WE (fun cls d _ H => E cls d H) σ (.ref C) none H := k
def tMethE (C : Addr) (m : Str) (sp : Sp) (E : L2.St → XK) (ta : TE) (t : TA) : TE := fun σ H Q => ta σ H fun x H1 => MethK C m x H1 fun H1 => t σ H1 fun vs H2 => sp (x :: vs) H2 Q (E σ)
theorem rd_methE {E : L2.St → XK} (k : ta σ H fun x H1 => MethK C m x H1 fun H1 => tl σ H1 fun vs H2 => sp (x :: vs) H2 Q (E σ)) : tMethE C m sp E ta tl σ H Q := k
end
section
variable {X : Cx} {CX : CXT} {k : Nat} {f C : Addr} {fd : FuncData} {ps : List Str} {sp : Sp} {E : L2.St → XK} {m : Str} {pos apos : Pos} {e o : Expr} {es : List Expr} {ta : TE} {t : TA}
theorem pe_methE {pl : Sem Bool} (he : PE X o ta) (c : Cls X.K C) (hm : Meth X.K C m f) (F : FnOk X.prog X.w X.K X.mg X.base CX k f fd ps sp) (hr : Room k X.A) (hb : Binds X.K fd ps []) (hx : ∀ σ, PassesAt CX X σ (E σ)) (ha : PA X (e :: es) t)
    (hst : starEach (e :: es) X.env = (false, eval e X.env) :: starEach es X.env := by rfl) (hpl : (backTo pos (starEach es X.env)).any (·.1) = false := by rfl)
    (ht : eval (.Call (.Attribute o m apos) (e :: es) [] pos) X.env = (do
      let ov ← eval o X.env
      standAt apos.atName
      let (f, first) ← holding [ov] (getMethod ov m pl)
      callWith pos f first (backTo pos (starEach (e :: es) X.env)) (backToKw pos (keywordEach [] X.env))) := by rfl) :
    PE X (.Call (.Attribute o m apos) (e :: es) [] pos) (tMethE C m sp E ta t) := by
  refine ⟨fun pins s σ H Q I h => ?_⟩
  refine PySem.W.methodCall_KW (pl := pl) (thn (he.run pins s σ H _ I h) fun u s1 ⟨x, H1, I1, rx, a, dx, fs, ex, ea, l, q⟩ => ?_) ht
  subst ex
  obtain rfl : u = Value.ref a := rx
  refine getmeth_ok I1 ea c hm l ?_
  refine PySem.W.callWith_K (first := [.ref a]) (h₀ := X.base) I.ok.mod.kin hm.kp (thn (ha.run pos pins s1 σ H1 _ I1 q) fun us s2 ⟨vs, H2, I2, r, q2⟩ => ⟨I2.kIn, ?_⟩) hst hpl
  exact run_fnS (us := .ref a :: us) (vs := .ref a :: vs) F hr hb (hx σ) I2 (.cons rfl r) q2
end
section
variable {P : Program} {w : World} {K : PySem.W.Frag} {mg : Str → Option Value} {base : Heap}
structure CalX (P : Program) (w : World) (K : PySem.W.Frag) (mg : Str → Option Value) (base : Heap) (x : Str) (k : Nat) (ps : List Str) (sp : Sp) : Prop where
  ex : ∃ f fd, mg x = some (.ref f) ∧ PySem.W.keepIn K (.ref f) = true ∧ Binds K fd ps [] ∧ FnOk P w K mg base (L2.CX P w) k f fd ps sp
theorem Fn.calX {x : Str} {st : Stmt} {N ps : List Str} {k : Nat} {sp : Sp} (F : Fn K mg x st) (S : FnScope N ps (defScope st))
    (hb : ∀ (kV doc pm : Value) (an : Option Addr) (cdv ct : Value) (us : List Value), us.length = ps.length → bindArgs (PySem.W.fnOf x x (defArgs st) (defBody st) (defScope st) .none kV doc pm an cdv ct) ⟨us, []⟩ = pure (ps.zip us))
    (len : ∀ vs H Q E, sp vs H Q E → vs.length = ps.length)
    (hbody : ∀ (f : Addr) (cdv : Value) (A : Around) (outer : List Env) (s : Shared) (H : Hp) (vs : List V) (Q : VK) (E : XK), Room k (A.deeper (PyProof.Rows.envOfC x (defScope st) s.heap.objs.size f cdv)) → sp vs H Q E →
      ∃ t, PSs (cxOf (L2.CX P w) P w K mg base N x (defScope st) f cdv A outer s H E) (defBody st) t ∧ t { nx := fun _ H' => Q .non H', rt := Q } (start N vs) H) : CalX P w K mg base x (k + 1) ps sp := by
  obtain ⟨f, fd, hm, hF⟩ := F.ex
  exact ⟨f, fd, hm, hF.kp, hF.bindsN hb, hF.ok S len fun cdv A outer s H vs Q E hr hs => hbody f cdv A outer s H vs Q E hr hs⟩
structure MCalX (P : Program) (w : World) (K : PySem.W.Frag) (mg : Str → Option Value) (base : Heap) (f : Addr) (k : Nat) (ps : List Str) (sp : Sp) : Prop where
  ex : ∃ fd, Binds K fd ps [] ∧ FnOk P w K mg base (L2.CX P w) k f fd ps sp
theorem mcalX {x qual : Str} {st : Stmt} {f : Addr} {N ps : List Str} {k : Nat} {sp : Sp} (F : ∃ fd, FunD K x qual (defArgs st) (defBody st) (defScope st) [] [] f fd) (S : FnScope N ps (defScope st))
    (hb : ∀ (kV doc pm : Value) (an : Option Addr) (cdv ct : Value) (us : List Value), us.length = ps.length → bindArgs (PySem.W.fnOf x qual (defArgs st) (defBody st) (defScope st) .none kV doc pm an cdv ct) ⟨us, []⟩ = pure (ps.zip us))
    (len : ∀ vs H Q E, sp vs H Q E → vs.length = ps.length)
    (hbody : ∀ (cdv : Value) (A : Around) (outer : List Env) (s : Shared) (H : Hp) (vs : List V) (Q : VK) (E : XK), Room k (A.deeper (PyProof.Rows.envOfC qual (defScope st) s.heap.objs.size f cdv)) → sp vs H Q E →
      ∃ t, PSs (cxOf (L2.CX P w) P w K mg base N qual (defScope st) f cdv A outer s H E) (defBody st) t ∧ t { nx := fun _ H' => Q .non H', rt := Q } (start N vs) H) : MCalX P w K mg base f (k + 1) ps sp := by
  obtain ⟨fd, hF⟩ := F
  exact ⟨fd, hF.bindsN hb, hF.ok S len fun cdv A outer s H vs Q E hr hs => hbody cdv A outer s H vs Q E hr hs⟩
end
section
variable {K : PySem.W.Frag} {σ : L2.St} {H : Hp} {Q : VK} {L F : List Cell} {a : Addr} {g : TG} {tt : TT} {te : TE} {vs : List Nat}
theorem lc_lists {α : Type} {us : List α} {f : α → V} (ψ : α → List Str) (hA : At H L) (m : (a, HO.lst (us.map f)) ∈ L) (hn : us.length < 100000)
    (hs : ∀ u H' D acc (C : List Cell) (Yk : V → Hp → Prop) (Nk : Hp → Prop), u ∈ us → At H' ((D, .lst acc) :: (C ++ L)) → (∀ T H4, At H4 ((T, .lst ((ψ u).map V.str)) :: (D, .lst acc) :: (C ++ L)) → Yk (.ref T) H4) →
      g (f u) (wipe σ vs) H' fun σ2 H2 => WipeK σ2 σ vs (tt σ2 H2 fun b H3 => Br b (te σ2 H3 Yk) (Nk H3)))
    (hd : ∀ D zs H', At H' ((D, .lst (clr zs)) :: (cl zs ++ L)) → zs.map Prod.snd = us.map ψ → Q (.ref D) H') : LcK (Itl K a) g tt te vs σ H Q := by
  have w : L2.Walk (Itl K a) us.length (fun H => SqL K H a (us.map f)) (YAt (us.map f)) := by
    have := walk_list (K := K) (a := a) (xs := us.map f)
    rw [List.length_map] at this
    exact this
  refine lc_inv w hA (fun D i H' => ∃ zs, At H' ((D, .lst (clr zs)) :: (cl zs ++ L)) ∧ zs.map Prod.snd = (us.take i).map ψ ∧ zs.length ≤ i) (fun D H' h => ⟨[], h, rfl, Nat.le_refl _⟩) (fun D i H' _ ⟨zs, h, _⟩ => SqL.of (h.rd (.tail _ (List.mem_append_right _ m)))) (fun D i x H1 H' hi ⟨zs, h, e, hl⟩ hy => ?_) (fun D H' ⟨zs, h, e, _⟩ => hd D zs H' h (by rw [List.take_length] at e; exact e))
  obtain ⟨rfl, e2⟩ := hy
  rw [List.getElem?_map, List.getElem?_eq_getElem hi] at e2
  cases e2
  have et : us.take (i + 1) = us.take i ++ [us[i]] := by rw [List.take_succ, List.getElem?_eq_getElem hi]; rfl
  refine hs us[i] _ D _ (cl zs) _ _ (List.getElem_mem hi) h fun T H4 h4 => ?_
  refine rd_lcPut (xs := clr zs) (F := (T, .lst ((ψ us[i]).map V.str)) :: (cl zs ++ L)) h4.f1 (by rw [clr_len]; omega) fun H5 h5 => ⟨zs ++ [(T, ψ us[i])], ?_, ?_, by rw [List.length_append]; show zs.length + 1 ≤ _; omega⟩
  · have ec : (cl (zs ++ [(T, ψ us[i])]) ++ L).Perm ((T, .lst ((ψ us[i]).map V.str)) :: (cl zs ++ L)) := by
      rw [cl_app, List.append_assoc]
      exact List.perm_middle
    rw [clr_app]
    exact h5.ofPerm ((ec.symm).cons _)
  · rw [List.map_append, e, et, List.map_append]
    rfl
theorem cl_perm {zs zs' : List (Addr × List Str)} (p : zs'.Perm zs) : (cl zs').Perm (cl zs) := p.map _
theorem rd_srtL {zs : List (Addr × List Str)} (hA : At H L) (m : (a, HO.lst (clr zs)) ∈ L) (c : ∀ c ∈ cl zs, c ∈ L)
    (k : ∀ p zs' H', At H' ((p, .lst (clr zs')) :: L) → zs'.Perm zs → zs'.map Prod.snd = srt (zs.map Prod.snd) → Q (.ref p) H') : rSrt K [.ref a] H Q := by
  refine ⟨a, clr zs, (zs.map Prod.snd).map Datum.toD, rfl, SqL.of (hA.rd m), RpAll.dp hA (iss_cl c), AllAlike.of DatumOrd.alike, srtb_lists _, fun d hd' => ?_, fun p hp => ?_⟩
  · obtain ⟨z, _, rfl⟩ := List.mem_map.mp hd'
    exact Nat.le_trans (Datum.depth_le z) (by decide)
  · have e : (((clr zs).zip ((zs.map Prod.snd).map Datum.toD)).mergeSort (dataLe false (fun z : V × PyData => z.2))).map Prod.fst = clr (zs.mergeSort fun x y => !DatumOrd.lt y.2 x.2) := by
      unfold clr
      rw [List.map_map, zip_map_self]
      have e2 := mergeSort_zip (fun z : Addr × List Str => V.ref z.1) (Datum.toD ∘ Prod.snd : Addr × List Str → PyData) (fun d e => dataLe false (fun d : PyData => d) d e) zs
      have e3 : (dataLe false (fun z : V × PyData => z.2)) = fun a b : V × PyData => dataLe false (fun d : PyData => d) a.2 b.2 := rfl
      rw [e3, e2]
      have e4 : (fun a b : Addr × List Str => dataLe false (fun d : PyData => d) ((Datum.toD ∘ Prod.snd) a) ((Datum.toD ∘ Prod.snd) b)) = fun a b => !DatumOrd.lt b.2 a.2 := by
        funext x y
        exact congrFun (congrFun (dataLe_toD (α := List Str)) x.2) y.2
      rw [e4]
    have e' := List.map_mergeSort (r := fun x y : Addr × List Str => !DatumOrd.lt y.2 x.2) (s := fun a b : List Str => !DatumOrd.lt b a) (f := Prod.snd) (l := zs) (fun a _ b _ => rfl)
    exact k p (zs.mergeSort fun x y => !DatumOrd.lt y.2 x.2) _ (by
      have := hA.new (o := .lst (clr (zs.mergeSort fun x y => !DatumOrd.lt y.2 x.2))) hp
      rw [e]
      exact this) (List.mergeSort_perm _ _) e'
end
def lawQ (us : List Nat) (n : Nat) : Nat → List Nat
  | 0 => [0]
  | k + 1 => lawQ us n k ++ ((lawQ us n k).map fun m => m ||| 1 <<< k).filter fun m => decide (hitN us m n &&& m = 0)
theorem and_zero {x y : Nat} : x &&& y = 0 ↔ ∀ b, x.testBit b = true → y.testBit b = true → False := by
  constructor
  · intro h b hx hy
    have : (x &&& y).testBit b = true := by rw [Nat.testBit_and, hx, hy]; rfl
    rw [h, Nat.zero_testBit] at this
    cases this
  · intro h
    refine Nat.eq_of_testBit_eq fun b => ?_
    rw [Nat.zero_testBit, Nat.testBit_and]
    cases hx : x.testBit b with
    | false => rfl
    | true => cases hy : y.testBit b with
      | false => rfl
      | true => exact (h b hx hy).elim
theorem hit_or {us : List Nat} {n k u m : Nat} (hk : k < n) (e : us[k]? = some u) : hitN us (m ||| 1 <<< k) n = hitN us m n ||| u := by
  refine Nat.eq_of_testBit_eq fun b => Bool.eq_iff_iff.mpr ?_
  rw [Nat.testBit_or, Bool.or_eq_true, hitN_bit, hitN_bit]
  constructor
  · rintro ⟨a, v, ha, hm, hv, hb⟩
    rcases (bit_set _ _ _).mp hm with hm | rfl
    · exact .inl ⟨a, v, ha, hm, hv, hb⟩
    · rw [e] at hv
      cases hv
      exact .inr hb
  · rintro (⟨a, v, ha, hm, hv, hb⟩ | hb)
    · exact ⟨a, v, ha, (bit_set _ _ _).mpr (.inl hm), hv, hb⟩
    · exact ⟨k, u, hk, (bit_set _ _ _).mpr (.inr rfl), e, hb⟩
theorem one_bit {k b : Nat} : (1 <<< k).testBit b = true ↔ b = k := by
  have := bit_set 0 k b
  rw [Nat.zero_or, Nat.zero_testBit] at this
  exact this.trans ⟨fun h => h.elim (fun h => nomatch h) id, .inr⟩
theorem quiet_step {h u m B : Nat} (q : h &&& m = 0) : (h ||| u) &&& (m ||| B) = 0 ↔ u &&& B = 0 ∧ h &&& B = 0 ∧ u &&& m = 0 := by
  have q' := and_zero.mp q
  rw [and_zero, and_zero, and_zero, and_zero]
  constructor
  · intro z
    refine ⟨fun b h1 h2 => z b ?_ ?_, fun b h1 h2 => z b ?_ ?_, fun b h1 h2 => z b ?_ ?_⟩ <;> rw [Nat.testBit_or, Bool.or_eq_true] <;> first | exact .inl h1 | exact .inr h1 | exact .inl h2 | exact .inr h2
  · rintro ⟨z1, z2, z3⟩ b h1 h2
    rw [Nat.testBit_or, Bool.or_eq_true] at h1 h2
    rcases h1 with h1 | h1 <;> rcases h2 with h2 | h2
    · exact q' b h1 h2
    · exact z2 b h1 h2
    · exact z3 b h1 h2
    · exact z1 b h1 h2
theorem quietP_inv {us : List Nat} {n : Nat} (hl : us.length = n) : ∀ k, k ≤ n → ∀ z ∈ quietP us k, hitN us z.1 n = z.2 ∧ z.2 &&& z.1 = 0 ∧ z.1 < 2 ^ k
  | 0, _, z, m => by
    cases List.mem_singleton.mp m
    have e0 : ∀ i, hitN us 0 i = 0 := fun i => by
      refine Nat.eq_of_testBit_eq fun b => Bool.eq_iff_iff.mpr ?_
      rw [hitN_bit, Nat.zero_testBit]
      exact ⟨fun ⟨a, v, _, h, _⟩ => (by rw [Nat.zero_testBit] at h; cases h), fun h => (nomatch h)⟩
    exact ⟨e0 n, rfl, by decide⟩
  | k + 1, hk, z, m => by
    have ih := quietP_inv hl k (by omega)
    obtain ⟨u, hu⟩ : ∃ u, us[k]? = some u := ⟨_, List.getElem?_eq_getElem (by omega)⟩
    rw [quietP_step hu] at m
    unfold qStep at m
    split at m
    · rename_i hub
      rcases List.mem_append.mp m with m | m
      · obtain ⟨i1, i2, i3⟩ := ih z m
        exact ⟨i1, i2, by rw [Nat.pow_succ]; omega⟩
      · obtain ⟨y, my, rfl⟩ := List.mem_map.mp m
        obtain ⟨my, hy⟩ := List.mem_filter.mp my
        obtain ⟨i1, i2, i3⟩ := ih y my
        unfold qOk at hy
        rw [Bool.and_eq_true, decide_eq_true_eq, decide_eq_true_eq] at hy
        refine ⟨by unfold qAdd; rw [hit_or (by omega) hu, i1], ?_, ?_⟩
        · unfold qAdd
          exact (quiet_step i2).mpr ⟨hub, hy.1, hy.2⟩
        · unfold qAdd
          exact or_bit_lt (by rw [Nat.pow_succ]; omega) (Nat.lt_succ_self k)
    · obtain ⟨i1, i2, i3⟩ := ih z m
      exact ⟨i1, i2, by rw [Nat.pow_succ]; omega⟩
theorem lawQ_is {us : List Nat} {n : Nat} (hl : us.length = n) : ∀ k, k ≤ n → lawQ us n k = (quietP us k).map Prod.fst
  | 0, _ => rfl
  | k + 1, hk => by
    obtain ⟨u, hu⟩ : ∃ u, us[k]? = some u := ⟨_, List.getElem?_eq_getElem (by omega)⟩
    have inv := quietP_inv hl k (by omega)
    have key : ∀ z ∈ quietP us k, (decide (hitN us (z.1 ||| 1 <<< k) n &&& (z.1 ||| 1 <<< k) = 0)) = (decide (u &&& 1 <<< k = 0) && qOk k u z) := fun z m => by
      obtain ⟨i1, i2, _⟩ := inv z m
      rw [hit_or (by omega) hu, i1]
      unfold qOk
      rw [Bool.eq_iff_iff, decide_eq_true_eq, Bool.and_eq_true, Bool.and_eq_true, decide_eq_true_eq, decide_eq_true_eq, decide_eq_true_eq]
      exact quiet_step i2
    rw [lawQ, lawQ_is hl k (by omega), quietP_step hu, List.map_map, List.filter_map]
    have e : (quietP us k).filter ((fun m => decide (hitN us m n &&& m = 0)) ∘ ((fun m => m ||| 1 <<< k) ∘ Prod.fst)) = (quietP us k).filter fun z => decide (u &&& 1 <<< k = 0) && qOk k u z := List.filter_congr fun z m => key z m
    rw [e]
    unfold qStep
    split
    · rename_i hub
      rw [List.map_append, List.map_map]
      simp only [hub, decide_true, Bool.true_and]
      rfl
    · rename_i hub
      have : (quietP us k).filter (fun z => decide (u &&& 1 <<< k = 0) && qOk k u z) = [] := List.filter_eq_nil_iff.mpr fun z _ => by rw [decide_eq_false hub, Bool.false_and]; decide
      rw [this]
      exact List.append_nil _
theorem lawQ_len {us : List Nat} {n : Nat} (hl : us.length = n) (k : Nat) (hk : k ≤ n) : (lawQ us n k).length ≤ 2 ^ k := by
  rw [lawQ_is hl k hk, List.length_map]
  exact quietP_len us k
theorem standM_law {ks us : List Nat} {n : Nat} (hl : us.length = n) : (lawQ us n n).filter (fun m => decide (hitN us m n &&& m = 0 ∧ m - (m &&& keptN ks (hitN us m n) n) = 0)) = standM ks us n := by
  unfold standM
  rw [lawQ_is hl n (Nat.le_refl _)]
  refine List.filter_congr fun m mm => ?_
  obtain ⟨z, mz, rfl⟩ := List.mem_map.mp mm
  obtain ⟨i1, i2, _⟩ := quietP_inv hl n (Nat.le_refl _) z mz
  rw [decide_eq_decide]
  exact ⟨And.right, fun h => ⟨by rw [i1]; exact i2, h⟩⟩
end Sw

namespace Sw
open PySem L2 PySem.W PyProof.Rows
def chains : List (List Nat) :=
  [0, 1, 3, 7, 15, 31, 63, 127, 255, 511, 1023] :: [512, 513, 515, 519, 527, 543, 575, 639, 767] :: [256, 257, 259, 263, 271, 287, 319, 383, 895] :: [768, 769, 771, 775, 783, 799, 831] :: [128, 129, 131, 135, 143, 159, 191, 447, 959] :: [640, 641, 643, 647, 655, 671, 703] :: [384, 385, 387, 391, 399, 415, 927] :: [896, 897, 899, 903, 911] :: [64, 65, 67, 71, 79, 95, 223, 479, 991] :: [576, 577, 579, 583, 591, 607, 735] :: [320, 321, 323, 327, 335, 351, 863] :: [832, 833, 835, 839, 847] :: [192, 193, 195, 199, 207, 463, 975] :: [704, 705, 707, 711, 719] :: [448, 449, 451, 455, 967] :: [960, 961, 963] :: [32, 33, 35, 39, 47, 111, 239, 495, 1007] :: [544, 545, 547, 551, 559, 623, 751] :: [288, 289, 291, 295, 303, 367, 879] :: [800, 801, 803, 807, 815] :: [160, 161, 163, 167, 175, 431, 943] :: [672, 673, 675, 679, 687] :: [416, 417, 419, 423, 935] :: [928, 929, 931] ::
  [96, 97, 99, 103, 231, 487, 999] :: [608, 609, 611, 615, 743] :: [352, 353, 355, 359, 871] :: [864, 865, 867] :: [224, 225, 227, 483, 995] :: [736, 737, 739] :: [480, 481, 993] :: [992] :: [16, 17, 19, 23, 55, 119, 247, 503, 1015] :: [528, 529, 531, 535, 567, 631, 759] :: [272, 273, 275, 279, 311, 375, 887] :: [784, 785, 787, 791, 823] :: [144, 145, 147, 151, 183, 439, 951] :: [656, 657, 659, 663, 695] :: [400, 401, 403, 407, 919] :: [912, 913, 915] :: [80, 81, 83, 87, 215, 471, 983] :: [592, 593, 595, 599, 727] :: [336, 337, 339, 343, 855] :: [848, 849, 851] :: [208, 209, 211, 467, 979] :: [720, 721, 723] :: [464, 465, 977] :: [976] ::
  [48, 49, 51, 115, 243, 499, 1011] :: [560, 561, 563, 627, 755] :: [304, 305, 307, 371, 883] :: [816, 817, 819] :: [176, 177, 179, 435, 947] :: [688, 689, 691] :: [432, 433, 945] :: [944] :: [112, 113, 241, 497, 1009] :: [624, 625, 753] :: [368, 369, 881] :: [880] :: [240, 496, 1008] :: [752] :: [8, 9, 11, 27, 59, 123, 251, 507, 1019] :: [520, 521, 523, 539, 571, 635, 763] :: [264, 265, 267, 283, 315, 379, 891] :: [776, 777, 779, 795, 827] :: [136, 137, 139, 155, 187, 443, 955] :: [648, 649, 651, 667, 699] :: [392, 393, 395, 411, 923] :: [904, 905, 907] :: [72, 73, 75, 91, 219, 475, 987] :: [584, 585, 587, 603, 731] ::
  [328, 329, 331, 347, 859] :: [840, 841, 843] :: [200, 201, 203, 459, 971] :: [712, 713, 715] :: [456, 457, 969] :: [968] :: [40, 41, 43, 107, 235, 491, 1003] :: [552, 553, 555, 619, 747] :: [296, 297, 299, 363, 875] :: [808, 809, 811] :: [168, 169, 171, 427, 939] :: [680, 681, 683] :: [424, 425, 937] :: [936] :: [104, 105, 233, 489, 1001] :: [616, 617, 745] :: [360, 361, 873] :: [872] :: [232, 488, 1000] :: [744] :: [24, 25, 57, 121, 249, 505, 1017] :: [536, 537, 569, 633, 761] :: [280, 281, 313, 377, 889] :: [792, 793, 825] ::
  [152, 153, 185, 441, 953] :: [664, 665, 697] :: [408, 409, 921] :: [920] :: [88, 89, 217, 473, 985] :: [600, 601, 729] :: [344, 345, 857] :: [856] :: [216, 472, 984] :: [728] :: [56, 120, 248, 504, 1016] :: [568, 632, 760] :: [312, 376, 888] :: [824] :: [184, 440, 952] :: [696] :: [4, 5, 13, 29, 61, 125, 253, 509, 1021] :: [516, 517, 525, 541, 573, 637, 765] :: [260, 261, 269, 285, 317, 381, 893] :: [772, 773, 781, 797, 829] :: [132, 133, 141, 157, 189, 445, 957] :: [644, 645, 653, 669, 701] :: [388, 389, 397, 413, 925] :: [900, 901, 909] ::
  [68, 69, 77, 93, 221, 477, 989] :: [580, 581, 589, 605, 733] :: [324, 325, 333, 349, 861] :: [836, 837, 845] :: [196, 197, 205, 461, 973] :: [708, 709, 717] :: [452, 453, 965] :: [964] :: [36, 37, 45, 109, 237, 493, 1005] :: [548, 549, 557, 621, 749] :: [292, 293, 301, 365, 877] :: [804, 805, 813] :: [164, 165, 173, 429, 941] :: [676, 677, 685] :: [420, 421, 933] :: [932] :: [100, 101, 229, 485, 997] :: [612, 613, 741] :: [356, 357, 869] :: [868] :: [228, 484, 996] :: [740] :: [20, 21, 53, 117, 245, 501, 1013] :: [532, 533, 565, 629, 757] ::
  [276, 277, 309, 373, 885] :: [788, 789, 821] :: [148, 149, 181, 437, 949] :: [660, 661, 693] :: [404, 405, 917] :: [916] :: [84, 85, 213, 469, 981] :: [596, 597, 725] :: [340, 341, 853] :: [852] :: [212, 468, 980] :: [724] :: [52, 116, 244, 500, 1012] :: [564, 628, 756] :: [308, 372, 884] :: [820] :: [180, 436, 948] :: [692] :: [12, 28, 60, 124, 252, 508, 1020] :: [524, 540, 572, 636, 764] :: [268, 284, 316, 380, 892] :: [780, 796, 828] :: [140, 156, 188, 444, 956] :: [652, 668, 700] ::
  [396, 412, 924] :: [908] :: [76, 92, 220, 476, 988] :: [588, 604, 732] :: [332, 348, 860] :: [844] :: [204, 460, 972] :: [716] :: [44, 108, 236, 492, 1004] :: [556, 620, 748] :: [300, 364, 876] :: [812] :: [172, 428, 940] :: [684] :: [2, 6, 14, 30, 62, 126, 254, 510, 1022] :: [514, 518, 526, 542, 574, 638, 766] :: [258, 262, 270, 286, 318, 382, 894] :: [770, 774, 782, 798, 830] :: [130, 134, 142, 158, 190, 446, 958] :: [642, 646, 654, 670, 702] :: [386, 390, 398, 414, 926] :: [898, 902, 910] :: [66, 70, 78, 94, 222, 478, 990] :: [578, 582, 590, 606, 734] ::
  [322, 326, 334, 350, 862] :: [834, 838, 846] :: [194, 198, 206, 462, 974] :: [706, 710, 718] :: [450, 454, 966] :: [962] :: [34, 38, 46, 110, 238, 494, 1006] :: [546, 550, 558, 622, 750] :: [290, 294, 302, 366, 878] :: [802, 806, 814] :: [162, 166, 174, 430, 942] :: [674, 678, 686] :: [418, 422, 934] :: [930] :: [98, 102, 230, 486, 998] :: [610, 614, 742] :: [354, 358, 870] :: [866] :: [226, 482, 994] :: [738] :: [18, 22, 54, 118, 246, 502, 1014] :: [530, 534, 566, 630, 758] :: [274, 278, 310, 374, 886] :: [786, 790, 822] ::
  [146, 150, 182, 438, 950] :: [658, 662, 694] :: [402, 406, 918] :: [914] :: [82, 86, 214, 470, 982] :: [594, 598, 726] :: [338, 342, 854] :: [850] :: [210, 466, 978] :: [722] :: [50, 114, 242, 498, 1010] :: [562, 626, 754] :: [306, 370, 882] :: [818] :: [178, 434, 946] :: [690] :: [10, 26, 58, 122, 250, 506, 1018] :: [522, 538, 570, 634, 762] :: [266, 282, 314, 378, 890] :: [778, 794, 826] :: [138, 154, 186, 442, 954] :: [650, 666, 698] :: [394, 410, 922] :: [906] ::
  [74, 90, 218, 474, 986] :: [586, 602, 730] :: [330, 346, 858] :: [842] :: [202, 458, 970] :: [714] :: [42, 106, 234, 490, 1002] :: [554, 618, 746] :: [298, 362, 874] :: [810] :: [170, 426, 938] :: [682] :: []
def places : List Nat :=
  0 :: 0 :: 182 :: 0 :: 112 :: 112 :: 182 :: 0 :: 62 :: 62 :: 232 :: 62 :: 162 :: 112 :: 182 :: 0 :: 32 :: 32 :: 212 :: 32 :: 142 :: 142 :: 212 :: 32 ::
  92 :: 92 :: 232 :: 62 :: 162 :: 112 :: 182 :: 0 :: 16 :: 16 :: 198 :: 16 :: 128 :: 128 :: 198 :: 16 :: 78 :: 78 :: 246 :: 78 :: 176 :: 128 :: 198 :: 16 ::
  48 :: 48 :: 226 :: 48 :: 156 :: 142 :: 212 :: 32 :: 106 :: 92 :: 232 :: 62 :: 162 :: 112 :: 182 :: 0 :: 8 :: 8 :: 190 :: 8 :: 120 :: 120 :: 190 :: 8 ::
  70 :: 70 :: 240 :: 70 :: 170 :: 120 :: 190 :: 8 :: 40 :: 40 :: 220 :: 40 :: 150 :: 150 :: 220 :: 40 :: 100 :: 100 :: 240 :: 70 :: 170 :: 120 :: 190 :: 8 ::
  24 :: 24 :: 206 :: 24 :: 136 :: 136 :: 206 :: 24 :: 86 :: 86 :: 246 :: 78 :: 176 :: 128 :: 198 :: 16 :: 56 :: 56 :: 226 :: 48 :: 156 :: 142 :: 212 :: 32 ::
  106 :: 92 :: 232 :: 62 :: 162 :: 112 :: 182 :: 0 :: 4 :: 4 :: 186 :: 4 :: 116 :: 116 :: 186 :: 4 :: 66 :: 66 :: 236 :: 66 :: 166 :: 116 :: 186 :: 4 ::
  36 :: 36 :: 216 :: 36 :: 146 :: 146 :: 216 :: 36 :: 96 :: 96 :: 236 :: 66 :: 166 :: 116 :: 186 :: 4 :: 20 :: 20 :: 202 :: 20 :: 132 :: 132 :: 202 :: 20 ::
  82 :: 82 :: 250 :: 82 :: 180 :: 132 :: 202 :: 20 :: 52 :: 52 :: 230 :: 52 :: 160 :: 146 :: 216 :: 36 :: 110 :: 96 :: 236 :: 66 :: 166 :: 116 :: 186 :: 4 ::
  12 :: 12 :: 194 :: 12 :: 124 :: 124 :: 194 :: 12 :: 74 :: 74 :: 244 :: 74 :: 174 :: 124 :: 194 :: 12 :: 44 :: 44 :: 224 :: 44 :: 154 :: 150 :: 220 :: 40 ::
  104 :: 100 :: 240 :: 70 :: 170 :: 120 :: 190 :: 8 :: 28 :: 28 :: 210 :: 28 :: 140 :: 136 :: 206 :: 24 :: 90 :: 86 :: 246 :: 78 :: 176 :: 128 :: 198 :: 16 ::
  60 :: 56 :: 226 :: 48 :: 156 :: 142 :: 212 :: 32 :: 106 :: 92 :: 232 :: 62 :: 162 :: 112 :: 182 :: 0 :: 2 :: 2 :: 184 :: 2 :: 114 :: 114 :: 184 :: 2 ::
  64 :: 64 :: 234 :: 64 :: 164 :: 114 :: 184 :: 2 :: 34 :: 34 :: 214 :: 34 :: 144 :: 144 :: 214 :: 34 :: 94 :: 94 :: 234 :: 64 :: 164 :: 114 :: 184 :: 2 ::
  18 :: 18 :: 200 :: 18 :: 130 :: 130 :: 200 :: 18 :: 80 :: 80 :: 248 :: 80 :: 178 :: 130 :: 200 :: 18 :: 50 :: 50 :: 228 :: 50 :: 158 :: 144 :: 214 :: 34 ::
  108 :: 94 :: 234 :: 64 :: 164 :: 114 :: 184 :: 2 :: 10 :: 10 :: 192 :: 10 :: 122 :: 122 :: 192 :: 10 :: 72 :: 72 :: 242 :: 72 :: 172 :: 122 :: 192 :: 10 ::
  42 :: 42 :: 222 :: 42 :: 152 :: 152 :: 222 :: 42 :: 102 :: 102 :: 242 :: 72 :: 172 :: 122 :: 192 :: 10 :: 26 :: 26 :: 208 :: 26 :: 138 :: 138 :: 208 :: 26 ::
  88 :: 88 :: 248 :: 80 :: 178 :: 130 :: 200 :: 18 :: 58 :: 58 :: 228 :: 50 :: 158 :: 144 :: 214 :: 34 :: 108 :: 94 :: 234 :: 64 :: 164 :: 114 :: 184 :: 2 ::
  6 :: 6 :: 188 :: 6 :: 118 :: 118 :: 188 :: 6 :: 68 :: 68 :: 238 :: 68 :: 168 :: 118 :: 188 :: 6 :: 38 :: 38 :: 218 :: 38 :: 148 :: 148 :: 218 :: 38 ::
  98 :: 98 :: 238 :: 68 :: 168 :: 118 :: 188 :: 6 :: 22 :: 22 :: 204 :: 22 :: 134 :: 134 :: 204 :: 22 :: 84 :: 84 :: 250 :: 82 :: 180 :: 132 :: 202 :: 20 ::
  54 :: 54 :: 230 :: 52 :: 160 :: 146 :: 216 :: 36 :: 110 :: 96 :: 236 :: 66 :: 166 :: 116 :: 186 :: 4 :: 14 :: 14 :: 196 :: 14 :: 126 :: 126 :: 196 :: 14 ::
  76 :: 76 :: 244 :: 74 :: 174 :: 124 :: 194 :: 12 :: 46 :: 46 :: 224 :: 44 :: 154 :: 150 :: 220 :: 40 :: 104 :: 100 :: 240 :: 70 :: 170 :: 120 :: 190 :: 8 ::
  30 :: 30 :: 210 :: 28 :: 140 :: 136 :: 206 :: 24 :: 90 :: 86 :: 246 :: 78 :: 176 :: 128 :: 198 :: 16 :: 60 :: 56 :: 226 :: 48 :: 156 :: 142 :: 212 :: 32 ::
  106 :: 92 :: 232 :: 62 :: 162 :: 112 :: 182 :: 0 :: 1 :: 1 :: 183 :: 1 :: 113 :: 113 :: 183 :: 1 :: 63 :: 63 :: 233 :: 63 :: 163 :: 113 :: 183 :: 1 ::
  33 :: 33 :: 213 :: 33 :: 143 :: 143 :: 213 :: 33 :: 93 :: 93 :: 233 :: 63 :: 163 :: 113 :: 183 :: 1 :: 17 :: 17 :: 199 :: 17 :: 129 :: 129 :: 199 :: 17 ::
  79 :: 79 :: 247 :: 79 :: 177 :: 129 :: 199 :: 17 :: 49 :: 49 :: 227 :: 49 :: 157 :: 143 :: 213 :: 33 :: 107 :: 93 :: 233 :: 63 :: 163 :: 113 :: 183 :: 1 ::
  9 :: 9 :: 191 :: 9 :: 121 :: 121 :: 191 :: 9 :: 71 :: 71 :: 241 :: 71 :: 171 :: 121 :: 191 :: 9 :: 41 :: 41 :: 221 :: 41 :: 151 :: 151 :: 221 :: 41 ::
  101 :: 101 :: 241 :: 71 :: 171 :: 121 :: 191 :: 9 :: 25 :: 25 :: 207 :: 25 :: 137 :: 137 :: 207 :: 25 :: 87 :: 87 :: 247 :: 79 :: 177 :: 129 :: 199 :: 17 ::
  57 :: 57 :: 227 :: 49 :: 157 :: 143 :: 213 :: 33 :: 107 :: 93 :: 233 :: 63 :: 163 :: 113 :: 183 :: 1 :: 5 :: 5 :: 187 :: 5 :: 117 :: 117 :: 187 :: 5 ::
  67 :: 67 :: 237 :: 67 :: 167 :: 117 :: 187 :: 5 :: 37 :: 37 :: 217 :: 37 :: 147 :: 147 :: 217 :: 37 :: 97 :: 97 :: 237 :: 67 :: 167 :: 117 :: 187 :: 5 ::
  21 :: 21 :: 203 :: 21 :: 133 :: 133 :: 203 :: 21 :: 83 :: 83 :: 251 :: 83 :: 181 :: 133 :: 203 :: 21 :: 53 :: 53 :: 231 :: 53 :: 161 :: 147 :: 217 :: 37 ::
  111 :: 97 :: 237 :: 67 :: 167 :: 117 :: 187 :: 5 :: 13 :: 13 :: 195 :: 13 :: 125 :: 125 :: 195 :: 13 :: 75 :: 75 :: 245 :: 75 :: 175 :: 125 :: 195 :: 13 ::
  45 :: 45 :: 225 :: 45 :: 155 :: 151 :: 221 :: 41 :: 105 :: 101 :: 241 :: 71 :: 171 :: 121 :: 191 :: 9 :: 29 :: 29 :: 211 :: 29 :: 141 :: 137 :: 207 :: 25 ::
  91 :: 87 :: 247 :: 79 :: 177 :: 129 :: 199 :: 17 :: 61 :: 57 :: 227 :: 49 :: 157 :: 143 :: 213 :: 33 :: 107 :: 93 :: 233 :: 63 :: 163 :: 113 :: 183 :: 1 ::
  3 :: 3 :: 185 :: 3 :: 115 :: 115 :: 185 :: 3 :: 65 :: 65 :: 235 :: 65 :: 165 :: 115 :: 185 :: 3 :: 35 :: 35 :: 215 :: 35 :: 145 :: 145 :: 215 :: 35 ::
  95 :: 95 :: 235 :: 65 :: 165 :: 115 :: 185 :: 3 :: 19 :: 19 :: 201 :: 19 :: 131 :: 131 :: 201 :: 19 :: 81 :: 81 :: 249 :: 81 :: 179 :: 131 :: 201 :: 19 ::
  51 :: 51 :: 229 :: 51 :: 159 :: 145 :: 215 :: 35 :: 109 :: 95 :: 235 :: 65 :: 165 :: 115 :: 185 :: 3 :: 11 :: 11 :: 193 :: 11 :: 123 :: 123 :: 193 :: 11 ::
  73 :: 73 :: 243 :: 73 :: 173 :: 123 :: 193 :: 11 :: 43 :: 43 :: 223 :: 43 :: 153 :: 152 :: 222 :: 42 :: 103 :: 102 :: 242 :: 72 :: 172 :: 122 :: 192 :: 10 ::
  27 :: 27 :: 209 :: 27 :: 139 :: 138 :: 208 :: 26 :: 89 :: 88 :: 248 :: 80 :: 178 :: 130 :: 200 :: 18 :: 59 :: 58 :: 228 :: 50 :: 158 :: 144 :: 214 :: 34 ::
  108 :: 94 :: 234 :: 64 :: 164 :: 114 :: 184 :: 2 :: 7 :: 7 :: 189 :: 7 :: 119 :: 119 :: 189 :: 7 :: 69 :: 69 :: 239 :: 69 :: 169 :: 119 :: 189 :: 7 ::
  39 :: 39 :: 219 :: 39 :: 149 :: 148 :: 218 :: 38 :: 99 :: 98 :: 238 :: 68 :: 168 :: 118 :: 188 :: 6 :: 23 :: 23 :: 205 :: 23 :: 135 :: 134 :: 204 :: 22 ::
  85 :: 84 :: 250 :: 82 :: 180 :: 132 :: 202 :: 20 :: 55 :: 54 :: 230 :: 52 :: 160 :: 146 :: 216 :: 36 :: 110 :: 96 :: 236 :: 66 :: 166 :: 116 :: 186 :: 4 ::
  15 :: 15 :: 197 :: 15 :: 127 :: 126 :: 196 :: 14 :: 77 :: 76 :: 244 :: 74 :: 174 :: 124 :: 194 :: 12 :: 47 :: 46 :: 224 :: 44 :: 154 :: 150 :: 220 :: 40 ::
  104 :: 100 :: 240 :: 70 :: 170 :: 120 :: 190 :: 8 :: 31 :: 30 :: 210 :: 28 :: 140 :: 136 :: 206 :: 24 :: 90 :: 86 :: 246 :: 78 :: 176 :: 128 :: 198 :: 16 ::
  60 :: 56 :: 226 :: 48 :: 156 :: 142 :: 212 :: 32 :: 106 :: 92 :: 232 :: 62 :: 162 :: 112 :: 182 :: 0 :: []
def isIn (x : Nat) : List Nat → Bool
  | [] => false
  | y :: r => Nat.beq x y || isIn x r
theorem isIn_iff {x : Nat} : ∀ {l : List Nat}, isIn x l = true ↔ x ∈ l
  | [] => ⟨fun h => (nomatch h), fun h => (nomatch h)⟩
  | y :: r => by
    unfold isIn
    rw [Bool.or_eq_true, isIn_iff, List.mem_cons]
    exact ⟨fun h => h.imp Nat.eq_of_beq_eq_true id, fun h => h.imp (fun e => by rw [e]; exact Nat.beq_refl y) id⟩
def within (x : Nat) : List Nat → Bool
  | [] => true
  | y :: r => Nat.beq (Nat.land x y) x && within x r
def chainOk : List Nat → Bool
  | [] => true
  | x :: r => within x r && chainOk r
def nthC : List (List Nat) → Nat → List Nat
  | [], _ => []
  | C :: _, 0 => C
  | _ :: r, i + 1 => nthC r i
def allAt : List Nat → Nat → Bool
  | [], _ => true
  | i :: r, x => Nat.blt i 252 && (isIn x (nthC chains i) && allAt r (Nat.succ x))
theorem chains_ok : chains.all chainOk = true := by decide +kernel
theorem places_len : places.length = 1024 := by decide +kernel
theorem chains_all : allAt places 0 = true := by decide +kernel
theorem allAt_at : ∀ {l : List Nat} {k j i : Nat}, allAt l k = true → l[j]? = some i → i < 252 ∧ k + j ∈ nthC chains i
  | [], _, _, _, _, e => by simp at e
  | i :: r, k, 0, i', h, e => by
    unfold allAt at h
    rw [Bool.and_eq_true, Bool.and_eq_true] at h
    simp at e
    subst e
    exact ⟨Nat.le_of_ble_eq_true h.1, isIn_iff.mp h.2.1⟩
  | i :: r, k, j + 1, i', h, e => by
    unfold allAt at h
    rw [Bool.and_eq_true, Bool.and_eq_true] at h
    have := allAt_at (l := r) (k := k + 1) (j := j) (i := i') h.2.2 (by simpa using e)
    rw [show k + 1 + j = k + (j + 1) from by omega] at this
    exact this
theorem nthC_ok : ∀ {Cs : List (List Nat)} {i : Nat}, Cs.all chainOk = true → chainOk (nthC Cs i) = true
  | [], _, _ => rfl
  | C :: r, 0, h => by
    rw [List.all_cons, Bool.and_eq_true] at h
    exact h.1
  | C :: r, i + 1, h => by
    rw [List.all_cons, Bool.and_eq_true] at h
    exact nthC_ok (Cs := r) h.2
theorem within_at {x y : Nat} : ∀ {l : List Nat}, within x l = true → y ∈ l → x &&& y = x
  | [], _, m => nomatch m
  | z :: r, h, m => by
    unfold within at h
    rw [Bool.and_eq_true] at h
    rcases List.mem_cons.mp m with e | m
    · rw [e]
      exact Nat.eq_of_beq_eq_true h.1
    · exact within_at h.2 m
theorem chain_cmp {x y : Nat} : ∀ {l : List Nat}, chainOk l = true → x ∈ l → y ∈ l → x &&& y = x ∨ y &&& x = y
  | [], _, m, _ => nomatch m
  | z :: r, h, mx, my => by
    unfold chainOk at h
    rw [Bool.and_eq_true] at h
    rcases List.mem_cons.mp mx with ex | mx
    · rcases List.mem_cons.mp my with ey | my
      · rw [ex, ey]
        exact .inl (Nat.and_self _)
      · rw [ex]
        exact .inl (within_at h.1 my)
    · rcases List.mem_cons.mp my with ey | my
      · rw [ey]
        exact .inr (within_at h.1 mx)
      · exact chain_cmp h.2 mx my
theorem anti_len {ms : List Nat} (nd : ms.Nodup) (hb : ∀ m ∈ ms, m < 1024) (ha : ∀ x ∈ ms, ∀ y ∈ ms, x &&& y = x → x = y) : ms.length ≤ 252 := by
  have at' : ∀ x, x < 1024 → places.getD x 0 < 252 ∧ x ∈ nthC chains (places.getD x 0) := fun x hx => by
    have e : places[x]? = some (places.getD x 0) := by
      rw [List.getD_eq_getElem?_getD, List.getElem?_eq_getElem (by rw [places_len]; exact hx)]
      rfl
    have := allAt_at chains_all e
    rw [Nat.zero_add] at this
    exact this
  have h1 : (ms.map fun m => places.getD m 0).Nodup := by
    unfold List.Nodup
    rw [List.pairwise_map]
    refine List.Pairwise.imp_of_mem (fun {x y} mx my hne e => hne ?_) nd
    have i1 := (at' x (hb x mx)).2
    have i2 := (at' y (hb y my)).2
    rw [← e] at i2
    rcases chain_cmp (nthC_ok chains_ok) i1 i2 with q | q
    · exact ha x mx y my q
    · exact (ha y my x mx q).symm
  have h2 := nd_len h1 (m := List.range 252) fun z mz => by
    obtain ⟨m, mm, rfl⟩ := List.mem_map.mp mz
    exact List.mem_range.mpr (at' m (hb m mm)).1
  rw [List.length_map, List.length_range] at h2
  exact h2
theorem or_bit_inj {x y k : Nat} (hx : x < 2 ^ k) (hy : y < 2 ^ k) (e : x ||| 1 <<< k = y ||| 1 <<< k) : x = y := by
  refine Nat.eq_of_testBit_eq fun b => ?_
  by_cases hb : b < k
  · have := congrArg (fun z => z.testBit b) e
    rw [Nat.testBit_or, Nat.testBit_or] at this
    have e1 : (1 <<< k).testBit b = false := by
      cases q : (1 <<< k).testBit b with
      | false => rfl
      | true => exact absurd (one_bit.mp q) (by omega)
    rw [e1, Bool.or_false, Bool.or_false] at this
    exact this
  · have hp : 2 ^ k ≤ 2 ^ b := Nat.pow_le_pow_right (by decide) (by omega)
    rw [Nat.testBit_lt_two_pow (Nat.lt_of_lt_of_le hx hp), Nat.testBit_lt_two_pow (Nat.lt_of_lt_of_le hy hp)]
theorem quietP_nd {us : List Nat} {n : Nat} (hl : us.length = n) : ∀ k, k ≤ n → ((quietP us k).map Prod.fst).Nodup
  | 0, _ => List.nodup_cons.mpr ⟨fun h => (nomatch h), .nil⟩
  | k + 1, hk => by
    have ih := quietP_nd hl k (by omega)
    have inv := quietP_inv hl k (by omega)
    obtain ⟨u, hu⟩ : ∃ u, us[k]? = some u := ⟨_, List.getElem?_eq_getElem (by omega)⟩
    rw [quietP_step hu]
    unfold qStep
    split
    · rw [List.map_append, List.map_map]
      refine List.nodup_append.mpr ⟨ih, ?_, fun a ma b mb e => ?_⟩
      · have hf : (((quietP us k).filter (qOk k u)).map Prod.fst).Nodup := ih.sublist (List.filter_sublist.map _)
        unfold List.Nodup at hf ⊢
        rw [List.pairwise_map] at hf ⊢
        refine List.Pairwise.imp_of_mem (fun {x y} mx my hne e => hne ?_) hf
        exact or_bit_inj (inv x (List.mem_filter.mp mx).1).2.2 (inv y (List.mem_filter.mp my).1).2.2 e
      · obtain ⟨x, mx, rfl⟩ := List.mem_map.mp ma
        obtain ⟨y, my, rfl⟩ := List.mem_map.mp mb
        have hx := (inv x mx).2.2
        have hb : (x.1).testBit k = true := by
          rw [e]
          exact (bit_set _ _ _).mpr (.inr rfl)
        rw [Nat.testBit_lt_two_pow hx] at hb
        cases hb
    · exact ih
theorem standM_mem {ks us : List Nat} {n m : Nat} (hl : us.length = n) (h : m ∈ standM ks us n) : m < 2 ^ n ∧ hitN us m n &&& m = 0 := by
  unfold standM at h
  obtain ⟨z, mz, rfl⟩ := List.mem_map.mp (List.mem_filter.mp h).1
  obtain ⟨i1, i2, i3⟩ := quietP_inv hl n (Nat.le_refl _) z mz
  exact ⟨i3, by rw [i1]; exact i2⟩
theorem standM_nd {ks us : List Nat} {n : Nat} (hl : us.length = n) : (standM ks us n).Nodup := (quietP_nd hl n (Nat.le_refl _)).filter _
def outM (us : List Nat) (n : Nat) : List Nat := ((quietP us n).map Prod.fst).filter fun m => decide (hitN us m n ||| m = 2 ^ n - 1)
theorem hit_mono {us : List Nat} {n m m' : Nat} (h : m &&& m' = m) {b : Nat} (hb : (hitN us m n).testBit b = true) : (hitN us m' n).testBit b = true := by
  obtain ⟨a, u, ha, hm, hu, hb⟩ := (hitN_bit n).mp hb
  refine (hitN_bit n).mpr ⟨a, u, ha, ?_, hu, hb⟩
  rw [← h, Nat.testBit_and, Bool.and_eq_true] at hm
  exact hm.2
end Sw

namespace Sw
open PySem L2 PySem.W PySem.Calls PyProof.Rows PySem.HandSPX
def bitsN (m : Nat) : Nat := if h : m = 0 then 0 else m % 2 + bitsN (m / 2)
termination_by m
decreasing_by omega
theorem bitsN_zero : bitsN 0 = 0 := by rw [bitsN]; rfl
theorem bitsN_pos {m : Nat} (h : m ≠ 0) : bitsN m = m % 2 + bitsN (m / 2) := by rw [bitsN, dif_neg h]
theorem half_and {x y : Nat} (h : x &&& y = x) : x / 2 &&& y / 2 = x / 2 ∧ x % 2 ≤ y % 2 := by
  constructor
  · rw [← Nat.and_div_two, h]
  · have h0 := congrArg (fun z => z % 2) h
    have h1 : (x &&& y) % 2 = x % 2 := h0
    have hx : x.testBit 0 = true → y.testBit 0 = true := fun hb => by
      rw [← h, Nat.testBit_and, Bool.and_eq_true] at hb
      exact hb.2
    rw [Nat.testBit_zero, Nat.testBit_zero, decide_eq_true_eq, decide_eq_true_eq] at hx
    omega
theorem bits_le : ∀ (n : Nat) {x y : Nat}, x ≤ n → y ≤ n → x &&& y = x → bitsN x ≤ bitsN y ∧ (bitsN x = bitsN y → x = y)
  | 0, x, y, hx, hy, _ => by
    obtain rfl : x = 0 := by omega
    obtain rfl : y = 0 := by omega
    exact ⟨Nat.le_refl _, fun _ => rfl⟩
  | n + 1, x, y, hx, hy, h => by
    obtain ⟨h1, h2⟩ := half_and h
    by_cases y0 : y = 0
    · subst y0
      rw [Nat.and_zero] at h
      subst h
      exact ⟨Nat.le_refl _, fun _ => rfl⟩
    by_cases x0 : x = 0
    · subst x0
      rw [bitsN_zero]
      refine ⟨Nat.zero_le _, fun e => ?_⟩
      rw [bitsN_pos y0] at e
      have ih := bits_le n (x := 0) (y := y / 2) (by omega) (by omega) (Nat.zero_and _)
      rw [bitsN_zero] at ih
      have := ih.2 (by omega)
      omega
    rw [bitsN_pos x0, bitsN_pos y0]
    have ih := bits_le n (x := x / 2) (y := y / 2) (by omega) (by omega) h1
    refine ⟨by omega, fun e => ?_⟩
    have := ih.2 (by omega)
    omega
def mbA (p : Pos) : Arguments := { posonlyargs := [], args := [{ arg := "mask", annotation := none, pos := p }], vararg := none, kwonlyargs := [], kw_defaults := [], kwarg := none, defaults := [] }
def mbT (p1 p2 p3 : Pos) : Expr := .Compare (.Name "mask" p1) [.Gt] [.Constant (.int 0) 0 p2] p3
def mbW (q1 q2 q3 q4 q5 q6 q7 q8 q9 q10 : Pos) : List Stmt := [.AugAssign (.Name "many" q1) .Add (.BinOp (.Name "mask" q2) .BitAnd (.Constant (.int 1) 0 q3) q4) q5, .Assign [.Name "mask" q6] (.BinOp (.Name "mask" q7) .RShift (.Constant (.int 1) 0 q8) q9) q10]
def mbB (a1 a2 a3 p1 p2 p3 q1 q2 q3 q4 q5 q6 q7 q8 q9 q10 w r1 r2 : Pos) : List Stmt :=
  [.Assign [.Name "many" a1] (.Constant (.int 0) 0 a2) a3, .While (mbT p1 p2 p3) (mbW q1 q2 q3 q4 q5 q6 q7 q8 q9 q10) [] w, .Return (some (.Name "many" r1)) r2]
def mbS : Scope := { kind := .function, names := [("mask", .local), ("many", .local)], isGenerator := false, isCoroutine := false, more := [] }
structure MB (K : PySem.W.Frag) (f : Addr) : Prop where
  ex : ∃ (fd : FuncData) (p a1 a2 a3 p1 p2 p3 q1 q2 q3 q4 q5 q6 q7 q8 q9 q10 w r1 r2 : Pos), FunD K "many_bits" "many_bits" (mbA p) (mbB a1 a2 a3 p1 p2 p3 q1 q2 q3 q4 q5 q6 q7 q8 q9 q10 w r1 r2) mbS [] [] f fd
section
variable {prog : Program} {w : World} {A : Around} {E : Value → Shared → Prop} {s : Shared} {K : PySem.W.Frag}
theorem ldB {M : Model} {s : Shared} {L a : Addr} {cd : Value} {m : Str → Option Value} {x : Str} {pos : Pos} {v : Value} {Q : Value → Shared → Prop} {A : Around} {E : Value → Shared → Prop} (hl : (envOfC "many_bits" mbS L a cd).kindOf x = some .local) (hn : s.heap.Ns L m) (hv : m x = some v) (h : Q v s)
    (hd : (x == ("__debug__" : Str)) = false := by decide) : wpAny M A (eval (.Name x pos) (envOfC "many_bits" mbS L a cd)) Q E s := wpAny_Name (wpAny_loadName_local rfl hl hn hv h) hd
theorem ne_mm : ("mask" : Str) ≠ "many" := by decide
theorem ne_mm' : ("many" : Str) ≠ "mask" := by decide
theorem mb_loop {L a : Addr} {cd : Value} {R : Result → Shared → Prop} {p1 p2 p3 q1 q2 q3 q4 q5 q6 q7 q8 q9 q10 : Pos} {ns : Str → Option Value} {m : Nat} {t t0 : Tok} (hn : s.heap.Ns L ns) (h1 : ns "mask" = some (.int (m : Int) t)) (h2 : ns "many" = some (.int 0 t0))
    (hR : ∀ h' tk ns' u, h'.Ns L ns' → ns' "many" = some (.int (bitsN m : Nat) u) → Heap.SameBut L s.heap h' → R (.ok .next) { s with heap := h', toks := tk }) :
    codeAny (model prog w) A (.whileLoop (mbT p1 p2 p3) (mbW q1 q2 q3 q4 q5 q6 q7 q8 q9 q10) [] (envOfC "many_bits" mbS L a cd)) R s := by
  refine codeAny_whileLoop (fun k s' => ∃ h' tk ns' t' u', s' = { s with heap := h', toks := tk } ∧ h'.Ns L ns' ∧ ∃ many : Nat, ns' "mask" = some (.int (k : Int) t') ∧ ns' "many" = some (.int (many : Int) u') ∧ many + bitsN k = bitsN m ∧ Heap.SameBut L s.heap h') ?_ m
    ⟨s.heap, s.toks, ns, t, t0, rfl, hn, 0, h1, h2, by omega, .refl ..⟩
  rintro k s' ⟨h', tk, ns', t', u', rfl, hns, many, e1, e2, e3, hsb⟩
  refine wpAny_isTrue_Compare1 (ldB rfl hns e1 (wpAny_Constant_int (gt_int (wpAny_truthy_bool ?_))))
  by_cases hk : k = 0
  · subst hk
    rw [bitsN_zero] at e3
    have hd : decide ((0 : Int) < ((0 : Nat) : Int)) = false := by decide
    simp only [hd, Bool.false_eq_true, if_false]
    exact wpAny_execs_nil (hR _ _ ns' u' hns (by rw [e2]; exact congrArg (fun z : Nat => some (Value.int (z : Int) u')) (by omega)) hsb)
  · have hd : decide ((0 : Int) < (k : Int)) = true := decide_eq_true (by omega)
    simp only [hd, if_true]
    refine wpAny_execs_cons (wpAny_AugAssign_Name (wpAny_loadName_local rfl rfl hns e2 (wpAny_BinOp (ldB rfl hns e1 (wpAny_Constant_int (and_int (iadd_int (wpAny_storeName_local rfl hns fun h₁ hns₁ hsb₁ => ?_))))))))
    dsimp only at hns₁ hsb₁ ⊢
    refine wpAny_execs_cons (wpAny_Assign_Name (wpAny_BinOp (ldB rfl hns₁ (v := .int (k : Int) t') (by simpa [ne_mm] using e1) (wpAny_Constant_int (rshift_int (by decide) (wpAny_storeName_local rfl hns₁ fun h₂ hns₂ hsb₂ => ?_))))))
    dsimp only at hns₂ hsb₂ ⊢
    have ek : (k : Int).fdiv (2 ^ (1 : Int).toNat) = ((k / 2 : Nat) : Int) := by
      rw [Int.fdiv_eq_ediv_of_nonneg _ (by decide)]
      show (k : Int) / 2 = _
      omega
    have ea : Builtin.bitAnd (k : Int) 1 = ((k % 2 : Nat) : Int) := by
      have := bitAnd_nat k 1
      rw [show ((1 : Nat) : Int) = 1 from rfl] at this
      rw [this, Nat.and_one_is_mod]
    refine wpAny_execs_nil ⟨k / 2, by omega, h₂, _, _, ?t, ?u, rfl, hns₂, many + k % 2, ?_, ?_, ?_, (hsb.trans hsb₁).trans hsb₂⟩
    rotate_left 2
    · rw [if_pos rfl, ek]
    · rw [if_neg ne_mm', if_pos rfl, ea]
      rw [← Int.natCast_add]
    · rw [← e3, bitsN_pos hk]
      omega
theorem mb_call {f : Addr} {m : Nat} {t : Tok} (T : MB K f) (X : K.In s.heap) (hlim : s.heap.NoLimit) (hroom : A.depth < recursionLimit) :
    codeAny (model prog w) A (.call (.ref f) ⟨[.int (m : Int) t], []⟩) (fun r s' => ∃ u h' tk, r = .ok (.ret (.int (bitsN m : Nat) u)) ∧ s' = { s with heap := h', toks := tk } ∧ ∀ b o, s.heap.get? b = some o → h'.get? b = some o) s := by
  obtain ⟨fd, p, a1, a2, a3, p1, p2, p3, q1, q2, q3, q4, q5, q6, q7, q8, q9, q10, w', r1, r2, hF⟩ := T.ex
  obtain ⟨oc, od, dV, kV, doc, pm, an, cdv, ct, osl, rfl, lk, hcd, hd, _⟩ := hF.ex
  obtain rfl : dV = .none := hd.elim And.right fun h => absurd rfl h.1
  refine Att.call_fn (binds := [("mask", .int (m : Int) t)]) X hlim lk hcd hroom (BindsTo.of_eq (by first | rfl | with_unfolding_all rfl)) (by first | rfl | decide | with_unfolding_all rfl) (fun s₁ IC => ?_) rfl rfl rfl
  obtain ⟨h₁, tk₁, rfl⟩ := IC.toInCall.same
  have k : ∀ b o, s.heap.get? b = some o → h₁.get? b = some o := IC.toInCall.keep
  have hn := IC.toInCall.ns
  show wpAny _ _ (execs _ _) _ _ _
  refine wpAny_execs_cons (wpAny_Assign_Name (wpAny_Constant_int (wpAny_storeName_local rfl hn fun h₂ hns₂ hsb₂ => ?_)))
  dsimp only at hns₂ hsb₂ ⊢
  refine wpAny_execs_cons (wpAny_While (mb_loop (m := m) (t := t) hns₂ (by first | rfl | with_unfolding_all rfl | kernel_rfl) (by rw [if_pos rfl]) fun h' tk ns' u hns e hsb => ?_))
  refine wpAny_execs_cons (wpAny_Return_some (ldB rfl hns e ⟨u, h', tk, rfl, rfl, fun b o hb => ?_⟩))
  have hall := hsb₂.trans hsb
  rw [hall.2 b (Nat.ne_of_lt (Heap.lt_size hb))]
  exact k b o hb
end
def rSrtB (K : PySem.W.Frag) (f : Addr) : List V → List V → Hp → VK → Prop := fun vs zs H Q => ∃ (a : Addr) (ms : List Nat), vs = [V.ref a] ∧ zs = [V.ref f, .bl true] ∧ SqL K H a (ms.map nv) ∧
  ∀ (out : List Nat) (p : Addr), out.Perm ms → out.Pairwise (fun a b => bitsN b ≤ bitsN a) → H p = none → Q (.ref p) (upd H p (.lst (out.map nv)))
theorem each_nat : ∀ {ms : List Nat} {its : List Value}, Vals (ms.map nv) its → EachIs (fun (u : Value) (m : Nat) => RelV (nv m) u) its ms
  | [], _, .nil => .nil
  | _ :: _, _, .cons h r => .cons h (each_nat r)
theorem nat_each : ∀ {ms : List Nat} {its : List Value}, EachIs (fun (u : Value) (m : Nat) => RelV (nv m) u) its ms → Vals (ms.map nv) its
  | [], _, .nil => .nil
  | _ :: _, _, .cons h r => .cons h (nat_each r)
section
variable {X : Cx}
theorem cr_srtB {f : Addr} (T : MB X.K f) (hd : X.A.depth + 8 < recursionLimit) (hu : X.A.units + 64 < cLine) : CallRK X (.builtin "sorted") [Str.ofString "key", Str.ofString "reverse"] (rSrtB X.K f) := by
  intro pins s σ H vs zs us ws Q I r rz h
  obtain ⟨a, ms, rfl, rfl, hs, q⟩ := h
  obtain rfl := Vals.ref1 r
  obtain ⟨w1, w2, rfl, e1, e2⟩ := vals2 rz
  obtain rfl : w1 = Value.ref f := e1
  obtain rfl : w2 = Value.bool true := e2
  obtain ⟨its, rv, hl, hz⟩ := I.list hs
  have ea := each_nat rv
  have hlen := ea.length
  refine sorted_key_data (b := true) (fun m : Nat => PyData.int (bitsN m : Nat)) hl.isList ea (AllAlike.of fun b b' => by rfl) (Sortable.others fun b => ⟨fun e => (by cases e), fun _ e => (by cases e)⟩) (by rw [List.length_map] at hz; exact hz) (fun x _ => ?_) (PyProof.Rows.ksk_s2 _ _ _) (fun _ => PyProof.Rows.ksk_l2 _ _ _) (fun x => PyProof.Rows.ksk_t2 _ _ _) (fun v x hv _ h tk keeps => ?_) fun out c h' tk k1 n1 k2 k3 k4 => ?_
  · show X.A.units + 2 + 0 < cLine
    omega
  · obtain ⟨t, rfl⟩ := hv
    refine wpAny_call (codeAny_mono (mb_call (A := X.A.in1.in1) T (I.kIn.keeps keeps) (I.nolimit.keeps keeps) (by show X.A.depth < recursionLimit; omega)) fun r s' hq => ?_)
    obtain ⟨u, h2, tk2, rfl, rfl, hk⟩ := hq
    exact ⟨h2, tk2, rfl, hk, .int _ _⟩
  · have hp := List.mergeSort_perm ms (dataLe true fun m : Nat => PyData.int (bitsN m : Nat))
    refine ⟨.ref _, upd H (s.heap.objs.size + 1) (.lst _), I.laid (t' := tk) k1 (Nat.le_succ _) ⟨?_, out, c, nat_each k4, k2⟩, rfl, q _ _ hp ?_ (I.hok.fresh (Nat.le_succ _))⟩
    · rw [List.length_map, hp.length_eq]
      rw [List.length_map] at hz
      exact hz
    · have e : (dataLe true fun m : Nat => PyData.int (bitsN m : Nat)) = fun a b => decide (bitsN b ≤ bitsN a) := by
        have e1 := dataGe_int (fun m : Nat => (bitsN m : Int))
        rw [e1]
        funext a b
        rw [decide_eq_decide]
        omega
      rw [e]
      refine List.Pairwise.imp (fun h => of_decide_eq_true h) (List.pairwise_mergeSort (le := fun a b => decide (bitsN b ≤ bitsN a)) (fun a b c h1 h2 => ?_) (fun a b => ?_) ms)
      · rw [decide_eq_true_eq] at h1 h2 ⊢
        omega
      · rw [Bool.or_eq_true, decide_eq_true_eq, decide_eq_true_eq]
        omega
end
theorem dp8 {A : Around} (h : Room 1 A) : A.depth + 8 < recursionLimit := by
  have := h.dp
  omega
section
variable {K : PySem.W.Frag} {σ : L2.St} {H : Hp} {Q : VK} {L : List Cell} {a f : Addr} {tl tk : TA} {r : List V → List V → Hp → VK → Prop} {ms : List Nat}
theorem rd_ckw (k : tl σ H fun vs H1 => tk σ H1 fun zs H2 => r vs zs H2 Q) : tCKw r tl tk σ H Q := k
theorem rd_srtB (hA : At H L) (m : (a, HO.lst (ms.map nv)) ∈ L) (k : ∀ (out : List Nat) (p : Addr) (H' : Hp), At H' ((p, .lst (out.map nv)) :: L) → out.Perm ms → out.Pairwise (fun a b => bitsN b ≤ bitsN a) → Q (.ref p) H') : rSrtB K f [.ref a] [.ref f, .bl true] H Q :=
  ⟨a, ms, rfl, rfl, SqL.of (hA.rd m), fun out p h1 h2 hp => k out p _ (hA.new hp) h1 h2⟩
end
theorem within_iff {m o : Nat} : m - (m &&& o) = 0 ↔ m &&& o = m := by
  have := Nat.and_le_left (n := m) (m := o)
  omega
theorem bits_at {x y : Nat} (h : x &&& y = x) : bitsN x ≤ bitsN y ∧ (bitsN x = bitsN y → x = y) := bits_le (x + y) (by omega) (by omega) h
theorem within_tr {x y z : Nat} (h1 : x &&& y = x) (h2 : y &&& z = y) : x &&& z = x := by
  rw [← h1, Nat.and_assoc, h2]
def gstep (acc : List Nat) (m : Nat) : List Nat := if (acc.any fun o => decide (m - (m &&& o) = 0)) = true then acc else acc ++ [m]
structure GInv (P acc : List Nat) : Prop where
  sub : ∀ q ∈ acc, q ∈ P
  up : ∀ p ∈ P, ∃ q ∈ acc, p &&& q = p
  top : ∀ q ∈ acc, ∀ p ∈ P, q &&& p = q → q = p
  nd : acc.Nodup
theorem gfold : ∀ (R P acc : List Nat), GInv P acc → (P ++ R).Pairwise (fun a b => bitsN b ≤ bitsN a) → (P ++ R).Nodup → GInv (P ++ R) (R.foldl gstep acc)
  | [], P, acc, h, _, _ => by
    rw [List.append_nil]
    exact h
  | x :: R, P, acc, h, hs, hn => by
    rw [List.foldl_cons]
    have e : P ++ x :: R = (P ++ [x]) ++ R := by rw [List.append_assoc]; rfl
    rw [e] at hs hn ⊢
    refine gfold R (P ++ [x]) (gstep acc x) ?_ hs hn
    have hs1 := (List.pairwise_append.mp hs).1
    have hn1 := (List.nodup_append.mp hn).1
    have hbit : ∀ p ∈ P, bitsN x ≤ bitsN p := fun p m => (List.pairwise_append.mp hs1).2.2 p m x (.head _)
    have hnx : ¬ x ∈ P := fun m => (List.nodup_append.mp hn1).2.2 x m x (.head _) rfl
    have ht : ∀ q ∈ acc, ¬ q &&& x = q := fun q m hq => by
      have hb := bits_at hq
      have := hbit q (h.sub q m)
      have := hb.2 (by omega)
      subst this
      exact hnx (h.sub q m)
    unfold gstep
    split
    · rename_i hc
      obtain ⟨o, mo, ho⟩ := List.any_eq_true.mp hc
      have ho' := within_iff.mp (of_decide_eq_true ho)
      refine ⟨fun q m => List.mem_append_left _ (h.sub q m), fun p m => ?_, fun q m p mp hq => ?_, h.nd⟩
      · rcases List.mem_append.mp m with m | m
        · exact h.up p m
        · cases List.mem_singleton.mp m
          exact ⟨o, mo, ho'⟩
      · rcases List.mem_append.mp mp with mp | mp
        · exact h.top q m p mp hq
        · cases List.mem_singleton.mp mp
          exact absurd hq (ht q m)
    · rename_i hc
      have hno : ∀ o ∈ acc, ¬ x &&& o = x := fun o mo ho => hc (List.any_eq_true.mpr ⟨o, mo, decide_eq_true (within_iff.mpr ho)⟩)
      refine ⟨fun q m => ?_, fun p m => ?_, fun q m p mp hq => ?_, ?_⟩
      · rcases List.mem_append.mp m with m | m
        · exact List.mem_append_left _ (h.sub q m)
        · exact List.mem_append_right _ m
      · rcases List.mem_append.mp m with m | m
        · obtain ⟨q, mq, hq⟩ := h.up p m
          exact ⟨q, List.mem_append_left _ mq, hq⟩
        · exact ⟨p, List.mem_append_right _ m, Nat.and_self p⟩
      · rcases List.mem_append.mp m with m | m
        · rcases List.mem_append.mp mp with mp | mp
          · exact h.top q m p mp hq
          · cases List.mem_singleton.mp mp
            exact absurd hq (ht q m)
        · cases List.mem_singleton.mp m
          rcases List.mem_append.mp mp with mp | mp
          · obtain ⟨o, mo, ho⟩ := h.up p mp
            exact absurd (within_tr hq ho) (hno o mo)
          · exact (List.mem_singleton.mp mp).symm
      · refine List.nodup_append.mpr ⟨h.nd, List.nodup_cons.mpr ⟨fun m => (nomatch m), .nil⟩, fun a ma b mb e => ?_⟩
        cases List.mem_singleton.mp mb
        subst e
        exact hnx (h.sub a ma)
def greatOf (W : List Nat) : List Nat := W.filter fun m => !W.any fun o => decide (¬ m = o) && decide (m - (m &&& o) = 0)
def greatM (ks us : List Nat) (n : Nat) : List Nat := greatOf (wholeM ks us n)
theorem greatOf_mem {W : List Nat} {m : Nat} : m ∈ greatOf W ↔ m ∈ W ∧ ∀ o ∈ W, m &&& o = m → m = o := by
  unfold greatOf
  rw [List.mem_filter, Bool.not_eq_true']
  refine and_congr_right fun hm => ?_
  constructor
  · intro h o mo hw
    refine Decidable.byContradiction fun hne => ?_
    rw [List.any_eq_false] at h
    exact h o mo (by rw [decide_eq_true hne, decide_eq_true (within_iff.mpr hw)]; rfl)
  · intro h
    rw [List.any_eq_false]
    intro o mo hc
    rw [Bool.and_eq_true, decide_eq_true_eq, decide_eq_true_eq] at hc
    exact hc.1 (h o mo (within_iff.mp hc.2))
theorem great_perm {W S : List Nat} (nd : W.Nodup) (p : S.Perm W) (hs : S.Pairwise (fun a b => bitsN b ≤ bitsN a)) : (S.foldl gstep []).Perm (greatOf W) := by
  have g := gfold S [] [] ⟨fun _ m => (nomatch m), fun _ m => (nomatch m), fun _ m => (nomatch m), .nil⟩ hs (p.nodup_iff.mpr nd)
  rw [List.nil_append] at g
  refine (List.perm_ext_iff_of_nodup g.nd (nd.filter _)).mpr fun m => ?_
  refine Iff.trans ?_ (greatOf_mem (W := W) (m := m)).symm
  constructor
  · intro h
    exact ⟨p.mem_iff.mp (g.sub m h), fun o mo ho => g.top m h o (p.mem_iff.mpr mo) ho⟩
  · rintro ⟨h1, h2⟩
    obtain ⟨q, mq, hq⟩ := g.up m (p.mem_iff.mpr h1)
    rw [h2 q (p.mem_iff.mp (g.sub q mq)) hq]
    exact mq
theorem wholeM_nd {ks us : List Nat} {n : Nat} (hl : us.length = n) : (wholeM ks us n).Nodup := (standM_nd hl).filter _
theorem greatM_len {ks us : List Nat} {n : Nat} (hl : us.length = n) (hn : n ≤ 10) : (greatM ks us n).length ≤ 252 := by
  have hp : 2 ^ n ≤ 2 ^ 10 := Nat.pow_le_pow_right (by decide) hn
  have h10 : 2 ^ 10 = 1024 := rfl
  refine anti_len ((wholeM_nd hl).filter _) (fun m h => ?_) fun x hx y hy e => ?_
  · have := (standM_mem hl (List.mem_filter.mp (greatOf_mem.mp h).1).1).1
    omega
  · exact (greatOf_mem.mp hx).2 y (greatOf_mem.mp hy).1 e
section
variable {α : Type} [DecidableEq α] [DatumOrd α] [LinO α]
theorem le_cons {x y : α} {p q : List α} : (!DatumOrd.lt (y :: q) (x :: p)) = true ↔ (x = y ∧ (!DatumOrd.lt q p) = true) ∨ (x ≠ y ∧ (!DatumOrd.lt y x) = true) := by
  show (!(if y = x then PySem.W.listLt q p else DatumOrd.lt y x)) = true ↔ _
  by_cases h : y = x
  · rw [if_pos h]
    exact ⟨fun g => .inl ⟨h.symm, g⟩, fun g => g.elim And.right fun g => absurd h.symm g.1⟩
  · rw [if_neg h]
    exact ⟨fun g => .inr ⟨fun e => h e.symm, g⟩, fun g => g.elim (fun g => absurd g.1.symm h) And.right⟩
theorem le_nilL (q : List α) : (!DatumOrd.lt q ([] : List α)) = true := by cases q <;> rfl
theorem not_consN {x : α} {p : List α} (h : (!DatumOrd.lt ([] : List α) (x :: p)) = true) : False := by
  have h' : (!true) = true := h
  cases h'
theorem list_tr : ∀ a b c : List α, (!DatumOrd.lt b a) = true → (!DatumOrd.lt c b) = true → (!DatumOrd.lt c a) = true
  | [], _, c, _, _ => le_nilL c
  | x :: a, [], _, h1, _ => (not_consN h1).elim
  | x :: a, y :: b, [], _, h2 => (not_consN h2).elim
  | x :: a, y :: b, z :: c, h1, h2 => by
    rw [le_cons] at h1 h2 ⊢
    rcases h1 with ⟨e1, l1⟩ | ⟨e1, l1⟩ <;> rcases h2 with ⟨e2, l2⟩ | ⟨e2, l2⟩
    · exact .inl ⟨e1.trans e2, list_tr a b c l1 l2⟩
    · exact .inr ⟨by rw [e1]; exact e2, by rw [e1]; exact l2⟩
    · exact .inr ⟨by rw [← e2]; exact e1, by rw [← e2]; exact l1⟩
    · refine .inr ⟨fun e => ?_, LinO.tr _ _ _ l1 l2⟩
      rw [← e] at l2
      exact e1 (LinO.anti _ _ l1 l2)
theorem list_tot : ∀ a b : List α, (!DatumOrd.lt b a) = true ∨ (!DatumOrd.lt a b) = true
  | [], b => .inl (le_nilL b)
  | x :: a, [] => .inr (le_nilL _)
  | x :: a, y :: b => by
    rw [le_cons, le_cons]
    by_cases h : x = y
    · rcases list_tot a b with g | g
      · exact .inl (.inl ⟨h, g⟩)
      · exact .inr (.inl ⟨h.symm, g⟩)
    · rcases Bool.or_eq_true_iff.mp (LinO.tot x y) with g | g
      · exact .inl (.inr ⟨h, g⟩)
      · exact .inr (.inr ⟨fun e => h e.symm, g⟩)
theorem list_anti : ∀ a b : List α, (!DatumOrd.lt b a) = true → (!DatumOrd.lt a b) = true → a = b
  | [], [], _, _ => rfl
  | [], y :: b, _, h2 => (not_consN h2).elim
  | x :: a, [], h1, _ => (not_consN h1).elim
  | x :: a, y :: b, h1, h2 => by
    rw [le_cons] at h1 h2
    rcases h1 with ⟨e1, l1⟩ | ⟨e1, l1⟩
    · rcases h2 with ⟨e2, l2⟩ | ⟨e2, l2⟩
      · rw [e1, list_anti a b l1 l2]
      · exact absurd e1.symm e2
    · rcases h2 with ⟨e2, l2⟩ | ⟨e2, l2⟩
      · exact absurd e2.symm e1
      · exact absurd (LinO.anti _ _ l1 l2) e1
instance : LinO (List α) where
  tr := list_tr
  tot a b := by
    rw [Bool.or_eq_true]
    exact list_tot a b
  anti := list_anti
end
section
variable {K : PySem.W.Frag} {σ : L2.St} {H : Hp} {Q : VK} {L F : List Cell} {a : Addr} {g : TG} {tt : TT} {te : TE} {vs : List Nat}
end
end Sw

namespace Sw
open PySem L2 PySem.W
theorem lawQ_all {us : List Nat} {n : Nat} : ∀ k m, m < 2 ^ k → hitN us m n &&& m = 0 → m ∈ lawQ us n k
  | 0, m, hm, _ => by
    have : m = 0 := by simpa using hm
    rw [this]
    exact .head _
  | k + 1, m, hm, hq => by
    rw [lawQ]
    cases hb : m.testBit k with
    | false =>
      refine List.mem_append_left _ (lawQ_all k m ?_ hq)
      refine Nat.lt_of_not_le fun h => ?_
      obtain ⟨j, hj, hj2⟩ := Nat.exists_ge_and_testBit_of_ge_two_pow h
      have := bit_lt hm hj2
      have e : j = k := by omega
      rw [e, hb] at hj2
      cases hj2
    | true =>
      refine List.mem_append_right _ (List.mem_filter.mpr ⟨List.mem_map.mpr ⟨m ^^^ 1 <<< k, ?_, ?_⟩, decide_eq_true hq⟩)
      · have hs : (m ^^^ 1 <<< k) &&& m = m ^^^ 1 <<< k := by
          refine Nat.eq_of_testBit_eq fun b => ?_
          rw [Nat.testBit_and, Nat.testBit_xor]
          by_cases e : b = k
          · subst e
            rw [hb, one_bit.mpr rfl]
            rfl
          · have : (1 <<< k).testBit b = false := by
              rw [← Bool.not_eq_true]
              exact fun q => e (one_bit.mp q)
            rw [this]
            cases m.testBit b <;> rfl
        refine lawQ_all k _ ?_ ?_
        · refine Nat.lt_of_not_le fun h => ?_
          obtain ⟨j, hj, hj2⟩ := Nat.exists_ge_and_testBit_of_ge_two_pow h
          have hj3 : m.testBit j = true := by
            have : ((m ^^^ 1 <<< k) &&& m).testBit j = true := by rw [hs]; exact hj2
            rw [Nat.testBit_and, Bool.and_eq_true] at this
            exact this.2
          have := bit_lt hm hj3
          have e : j = k := by omega
          subst e
          rw [Nat.testBit_xor, hb, one_bit.mpr rfl] at hj2
          cases hj2
        · refine and_zero.mpr fun b h1 h2 => ?_
          have h3 := hit_mono (us := us) (n := n) hs h1
          rw [← hs, Nat.testBit_and, Bool.and_eq_true] at h2
          exact and_zero.mp hq b h3 h2.2
      · refine Nat.eq_of_testBit_eq fun b => ?_
        rw [Nat.testBit_or, Nat.testBit_xor]
        by_cases e : b = k
        · subst e
          rw [hb, one_bit.mpr rfl]
          rfl
        · have : (1 <<< k).testBit b = false := by
            rw [← Bool.not_eq_true]
            exact fun q => e (one_bit.mp q)
          rw [this]
          cases m.testBit b <;> rfl
theorem mem_standM {ks us : List Nat} {n m : Nat} (hl : us.length = n) : m ∈ standM ks us n ↔ m < 2 ^ n ∧ hitN us m n &&& m = 0 ∧ m - (m &&& keptN ks (hitN us m n) n) = 0 := by
  constructor
  · intro h
    have h1 := standM_mem hl h
    exact ⟨h1.1, h1.2, of_decide_eq_true (List.mem_filter.mp h).2⟩
  · rintro ⟨h1, h2, h3⟩
    refine List.mem_filter.mpr ⟨?_, decide_eq_true h3⟩
    rw [← lawQ_is hl n (Nat.le_refl _)]
    exact lawQ_all n m h1 h2
theorem mem_wholeM {ks us : List Nat} {n m : Nat} (hl : us.length = n) : m ∈ wholeM ks us n ↔ m < 2 ^ n ∧ hitN us m n &&& m = 0 ∧ m = keptN ks (hitN us m n) n := by
  constructor
  · intro h
    have h1 := (mem_standM hl).mp (List.mem_filter.mp h).1
    exact ⟨h1.1, h1.2.1, of_decide_eq_true (List.mem_filter.mp h).2⟩
  · rintro ⟨h1, h2, h3⟩
    refine List.mem_filter.mpr ⟨(mem_standM hl).mpr ⟨h1, h2, ?_⟩, decide_eq_true h3⟩
    rw [← h3, Nat.and_self]
    exact Nat.sub_self m
theorem setOf_mask {N ys : List Str} (nd : N.Nodup) (hs : ∀ y ∈ ys, y ∈ N) (z : Str) : z ∈ setOf N (maskL N ys) ↔ z ∈ ys := by
  rw [mem_setOf]
  constructor
  · rintro ⟨a, ha, hb⟩
    obtain ⟨y, hy, e⟩ := (maskL_bit nd hs a).mp hb
    rw [ha] at e
    cases e
    exact hy
  · intro hz
    have h1 := idx_at (hs z hz)
    exact ⟨_, h1, (maskL_bit nd hs _).mpr ⟨z, hz, h1⟩⟩
theorem maskL_lt {N ys : List Str} (nd : N.Nodup) (hs : ∀ y ∈ ys, y ∈ N) : maskL N ys < 2 ^ N.length := by
  refine Nat.lt_of_not_le fun h => ?_
  obtain ⟨j, hj, hj2⟩ := Nat.exists_ge_and_testBit_of_ge_two_pow h
  obtain ⟨y, _, e⟩ := (maskL_bit nd hs j).mp hj2
  have := (List.getElem?_eq_some_iff.mp e).1
  omega
def wholeP (N : List Str) (es : List (Str × Str)) (ys : List Str) : Prop := ((∀ x y, x ∈ ys → y ∈ ys → ¬ (x, y) ∈ es) ∧ ∀ x y, y ∈ ys → (x, y) ∈ es → ∃ n, n ∈ ys ∧ (n, x) ∈ es) ∧ keptL N es ys = srt ys
theorem setOf_perm {N ys : List Str} (nd : N.Nodup) (ny : ys.Nodup) (hs : ∀ y ∈ ys, y ∈ N) : ys.Perm (setOf N (maskL N ys)) :=
  (List.perm_ext_iff_of_nodup ny (nd.sublist (setOf_sub N _))).mpr fun z => (setOf_mask nd hs z).symm
theorem whole_mask {N ys : List Str} {es : List (Str × Str)} {ks us : List Nat} (hV : VwOk N es ks us) (nd : N.Nodup) (hr : Rise N) (hS : SOk N es) (ny : ys.Nodup) (hs : ∀ y ∈ ys, y ∈ N) : wholeP N es ys ↔ maskL N ys ∈ wholeM ks us N.length := by
  rw [mem_wholeM hV.ul]
  have := whole_row (b := @decide (wholeP N es ys) (Classical.propDecidable _)) hV nd hr hS (maskL_lt nd hs) (setOf_perm nd ny hs) (@decide_eq_true_iff _ (Classical.propDecidable _))
  rw [@decide_eq_true_iff _ (Classical.propDecidable _)] at this
  rw [this]
  exact ⟨fun h => ⟨maskL_lt nd hs, h.1, h.2⟩, fun h => ⟨h.2.1, h.2.2⟩⟩
theorem setOf_of {N ys : List Str} (nd : N.Nodup) (hr : Rise N) (ry : Rise ys) (ny : ys.Nodup) (hs : ∀ y ∈ ys, y ∈ N) : setOf N (maskL N ys) = ys :=
  (rise_ext (setOf_rise hr _) ry (nd.sublist (setOf_sub N _)) ny).mpr fun z => setOf_mask nd hs z
end Sw

namespace Sw
open PySem L2 PySem.W
section
variable {K : PySem.W.Frag} {σ : L2.St} {H : Hp} {Q : VK} {L F : List Cell} {a p : Addr} {x y z v v1 v2 v3 v4 v5 : V} {te tk tv : TE} {trs : List (TE × TE)} {QL : List (V × V) → Hp → Prop}
def DispK (p : Addr) (ps : List (V × V)) (H : Hp) (Q : VK) : Prop := H p = some (.dK []) ∧ ∃ kvs : List (Key × V), ps = kvs.map (fun kv => (kV kv.1, kv.2)) ∧ kvs.length ≤ 15 ∧ Q (.ref p) (upd H p (.dK (mergeK [] kvs)))
theorem rd_disp (hA : At H L) (k : ∀ p H', At H' ((p, .dK []) :: L) → tPairs trs σ H' fun ps H2 => DispK p ps H2 Q) : tDisp trs σ H Q := fun p hp => k p _ (hA.new hp)
theorem rd_prs0 (k : QL [] H) : tPairs [] σ H QL := k
theorem rd_prs (k : tk σ H fun x H1 => tv σ H1 fun y H2 => tPairs trs σ H2 fun ps H3 => QL ((x, y) :: ps) H3) : tPairs ((tk, tv) :: trs) σ H QL := k
theorem disp_any (ps : List (Str × V)) (hA : At H ((p, .dK []) :: F)) (nd : (ps.map Prod.fst).Nodup) (hl : ps.length ≤ 15) (k : ∀ H', At H' ((p, .dK (dk ps)) :: F) → Q (.ref p) H') : DispK p (ps.map fun e => (V.str e.1, e.2)) H Q := by
  refine ⟨hA.rd (.head _), dk ps, ?_, by rw [dk_len]; exact hl, ?_⟩
  · unfold dk
    rw [List.map_map]
    rfl
  · have := merge_dk ps [] (by simpa using nd)
    have e : mergeK [] (dk ps) = dk ps := this
    rw [e]
    exact k _ (hA.upd rfl)
theorem rd_disp1 {x1 : Str} (hA : At H ((p, .dK []) :: F)) (k : ∀ H', At H' ((p, .dK (dk [(x1, v1)])) :: F) → Q (.ref p) H') : DispK p [(.str x1, v1)] H Q := disp_any [(x1, v1)] hA (List.nodup_cons.mpr ⟨List.not_mem_nil, .nil⟩) (by show 1 ≤ 15; decide) k
theorem rd_disp2 {x1 x2 : Str} (hA : At H ((p, .dK []) :: F)) (nd : [x1, x2].Nodup) (k : ∀ H', At H' ((p, .dK (dk [(x1, v1), (x2, v2)])) :: F) → Q (.ref p) H') : DispK p [(.str x1, v1), (.str x2, v2)] H Q := disp_any [(x1, v1), (x2, v2)] hA nd (by show 2 ≤ 15; decide) k
theorem rd_disp3 {x1 x2 x3 : Str} (hA : At H ((p, .dK []) :: F)) (nd : [x1, x2, x3].Nodup) (k : ∀ H', At H' ((p, .dK (dk [(x1, v1), (x2, v2), (x3, v3)])) :: F) → Q (.ref p) H') : DispK p [(.str x1, v1), (.str x2, v2), (.str x3, v3)] H Q := disp_any [(x1, v1), (x2, v2), (x3, v3)] hA nd (by show 3 ≤ 15; decide) k
theorem rd_disp4 {x1 x2 x3 x4 : Str} (hA : At H ((p, .dK []) :: F)) (nd : [x1, x2, x3, x4].Nodup) (k : ∀ H', At H' ((p, .dK (dk [(x1, v1), (x2, v2), (x3, v3), (x4, v4)])) :: F) → Q (.ref p) H') : DispK p [(.str x1, v1), (.str x2, v2), (.str x3, v3), (.str x4, v4)] H Q := disp_any [(x1, v1), (x2, v2), (x3, v3), (x4, v4)] hA nd (by show 4 ≤ 15; decide) k
def rDictD : List V → Hp → VK → Prop := fun xs H Q => ∃ (a : Addr) (kvs : List (Key × V)), xs = [.ref a] ∧ Rd H a (.dK kvs) ∧ ∀ p, H p = none → Q (.ref p) (upd H p (.dK kvs))
theorem rd_dictD {kvs : List (Key × V)} (hA : At H L) (m : (a, HO.dK kvs) ∈ L) (k : ∀ p H', At H' ((p, .dK kvs) :: L) → Q (.ref p) H') : rDictD [.ref a] H Q := ⟨a, kvs, rfl, .inl (hA.rd m), fun p hp => k p _ (hA.new hp)⟩
theorem rd_inT2 {x u1 u2 : Str} (hA : At H L) (m : (a, HO.tup [.str u1, .str u2]) ∈ L) (k : Q (.bl (decide (x ∈ [u1, u2]))) H) : rIn K false (.str x) (.ref a) H Q :=
  rd_inTs (zs := [u1, u2]) hA m k
end
section
variable {K : PySem.W.Frag} {σ : L2.St} {H : Hp} {Q : VK} {L F : List Cell} {a : Addr} {g : TG} {tt : TT} {te : TE} {vs : List Nat}
theorem rd_dpkW {P : Hp → Prop} {ws : List (Str × Str)} {z u : Str} (hA : At H ((a, HO.dK (dk (wdk ws))) :: F)) (hn : (wdk ws).lookup z = none) (hl : ws.length < 100000) (k : ∀ H', At H' ((a, .dK (dk (wdk (ws ++ [(z, u)])))) :: F) → P H') : DPK (.ref a) (.str z) (.str u) H P :=
  rd_dpkD hA hn (by unfold wdk; rw [List.length_map]; exact hl) fun H' h => k H' (by rw [wdk_app]; exact h)
end
section
variable {K : PySem.W.Frag} {σ : L2.St} {H : Hp} {Q : VK} {L F : List Cell} {a : Addr} {g : TG} {tt : TT} {te : TE} {vs : List Nat} {α β : Type}
def olc (zs : List (Addr × List V × List β)) : List Cell := zs.map fun z => (z.1, HO.lst z.2.1)
def olr (zs : List (Addr × List V × List β)) : List V := zs.map fun z => V.ref z.1
end
theorem takes_no {X : Cx} : Takes X (fun _ _ _ _ => False) := fun _ _ ⟨_, _, _, _, _, _, _, _, _, _, _, _, _, _, _, _, h⟩ => h.elim
end Sw

namespace Sw
open PySem L2 PySem.W
abbrev OLD := List (Addr × List V × List PyData)
def pB (b : Bool) (r : Addr) (zs : OLD) : List Cell := match b with
  | true => []
  | false => (r, .lst (olr zs)) :: olc zs
def dueD (N : List Str) (es : List (Str × Str)) (ks us : List Nat) (u : Str) : List PyData :=
  if u = "standing" then (srt ((standM ks us N.length).map (setOf N))).map Datum.toD
  else if u = "whole" then (srt ((wholeM ks us N.length).map (setOf N))).map Datum.toD
  else if u = "tellings" then (srt ((wholeM ks us N.length).map fun m => wordL N es (setOf N m))).map Datum.toD
  else if u = "greatest" then (srt ((greatM ks us N.length).map (setOf N))).map Datum.toD
  else (srt ((outM us N.length).map (setOf N))).map Datum.toD
def five5 : List Str := ["standing", "whole", "greatest", "outright", "tellings"]
structure Due5 (L : List Cell) (d : Addr) (N : List Str) (es : List (Str × Str)) (ks us : List Nat) : Prop where
  ex : ∃ a1 a2 a3 a4 a5 : Addr, (d, HO.dK (dk [("standing", .ref a1), ("whole", .ref a2), ("greatest", .ref a3), ("outright", .ref a4), ("tellings", .ref a5)])) ∈ L ∧
    Rp L (.ref a1) (.list (dueD N es ks us "standing")) ∧ Rp L (.ref a2) (.list (dueD N es ks us "whole")) ∧ Rp L (.ref a3) (.list (dueD N es ks us "greatest")) ∧ Rp L (.ref a4) (.list (dueD N es ks us "outright")) ∧ Rp L (.ref a5) (.list (dueD N es ks us "tellings"))
theorem Due5.mono {L L' : List Cell} {d : Addr} {N : List Str} {es : List (Str × Str)} {ks us : List Nat} (h : Due5 L d N es ks us) (s : ∀ c ∈ L, c ∈ L') : Due5 L' d N es ks us := by
  obtain ⟨a1, a2, a3, a4, a5, m, h1, h2, h3, h4, h5⟩ := h.ex
  exact ⟨a1, a2, a3, a4, a5, s _ m, Rp.mono s h1, Rp.mono s h2, Rp.mono s h3, Rp.mono s h4, Rp.mono s h5⟩
theorem Due5.at {L : List Cell} {d : Addr} {N : List Str} {es : List (Str × Str)} {ks us : List Nat} (h : Due5 L d N es ks us) {u : Str} (hu : u ∈ five5) :
    ∃ (ps : List (Str × V)) (a : Addr) (vd : List V), (d, HO.dK (dk ps)) ∈ L ∧ ps.lookup u = some (.ref a) ∧ (a, HO.lst vd) ∈ L ∧ RpAll L vd (dueD N es ks us u) := by
  obtain ⟨a1, a2, a3, a4, a5, m, h1, h2, h3, h4, h5⟩ := h.ex
  have go : ∀ {a : Addr} {ds : List PyData}, Rp L (.ref a) (.list ds) → ∃ vd, (a, HO.lst vd) ∈ L ∧ RpAll L vd ds := fun h => by
    cases h with
    | lst m r => exact ⟨_, m, r⟩
  unfold five5 at hu
  rcases List.mem_cons.mp hu with rfl | hu
  · obtain ⟨vd, q1, q2⟩ := go h1
    exact ⟨_, a1, vd, m, fl_hd, q1, q2⟩
  rcases List.mem_cons.mp hu with rfl | hu
  · obtain ⟨vd, q1, q2⟩ := go h2
    exact ⟨_, a2, vd, m, fl_tl (by decide +kernel) fl_hd, q1, q2⟩
  rcases List.mem_cons.mp hu with rfl | hu
  · obtain ⟨vd, q1, q2⟩ := go h3
    exact ⟨_, a3, vd, m, fl_tl (by decide +kernel) (fl_tl (by decide +kernel) fl_hd), q1, q2⟩
  rcases List.mem_cons.mp hu with rfl | hu
  · obtain ⟨vd, q1, q2⟩ := go h4
    exact ⟨_, a4, vd, m, fl_tl (by decide +kernel) (fl_tl (by decide +kernel) (fl_tl (by decide +kernel) fl_hd)), q1, q2⟩
  rcases List.mem_cons.mp hu with rfl | hu
  · obtain ⟨vd, q1, q2⟩ := go h5
    exact ⟨_, a5, vd, m, fl_tl (by decide +kernel) (fl_tl (by decide +kernel) (fl_tl (by decide +kernel) (fl_tl (by decide +kernel) fl_hd))), q1, q2⟩
  · cases hu
section
variable {K : PySem.W.Frag} {σ : L2.St} {H : Hp} {Q : VK} {L F : List Cell} {a : Addr} {v w : V} {D : Ends}
end
section
variable {K : PySem.W.Frag} {σ : L2.St} {H : Hp} {Q : VK} {L F : List Cell} {a : Addr} {v w : V} {te : TE}
def RevLK (K : PySem.W.Frag) (x : V) (H : Hp) (Q : VK) : Prop := ∃ a xs, x = .ref a ∧ SqL K H a xs ∧ ∀ p, H p = none → Q (.ref p) (upd H p (.lst xs.reverse))
theorem rd_revL (k : te σ H fun x H1 => RevLK K x H1 Q) : tRevL K te σ H Q := k
theorem rd_revLkm {α : Type} {f : α → V} {zs : List α} (hA : At H L) (m : (a, HO.lst (zs.map f)) ∈ L) (k : ∀ p H', At H' ((p, .lst (zs.reverse.map f)) :: L) → Q (.ref p) H') : RevLK K (.ref a) H Q := ⟨a, zs.map f, rfl, SqL.of (hA.rd m), fun q hq => k q _ (by rw [List.map_reverse]; exact hA.new hq)⟩
theorem rd_revLk {xs : List V} (hA : At H L) (m : (a, HO.lst xs) ∈ L) (k : ∀ p H', At H' ((p, .lst xs.reverse) :: L) → Q (.ref p) H') : RevLK K (.ref a) H Q := ⟨a, xs, rfl, SqL.of (hA.rd m), fun q hq => k q _ (hA.new hq)⟩
theorem rd_isB {b c : Bool} (k : Q (.bl (decide (b = c))) H) : rIsB (.bl b) (.bl c) H Q := ⟨b, c, rfl, rfl, k⟩
theorem rd_notB {b c : Bool} (k : Q (.bl (!decide (b = c))) H) : rNotB (.bl b) (.bl c) H Q := ⟨b, c, rfl, rfl, k⟩
end
section
variable {N : List Str} {es : List (Str × Str)} {ks us : List Nat} {u : Str}
end
section
variable {K : PySem.W.Frag} {σ : L2.St} {H : Hp} {Q : VK} {L F : List Cell} {a : Addr}
end
section
variable {K : PySem.W.Frag} {σ : L2.St} {H : Hp} {Q : VK} {L F : List Cell} {a : Addr} {D : Ends} {tl : TA}
theorem loop_rangeL {g : TG} {tb : TS} {n : Nat} {lo : Int} (Pv : Nat → L2.St → Hp → Prop) (h0 : Pv 0 σ H)
    (hs : ∀ i σ H, i < n → Pv i σ H → g (.int (lo + (i : Nat))) σ H fun σ2 H2 => tb { D with nx := Pv (i + 1), ct := Pv (i + 1), bk := D.nx } σ2 H2) (hd : ∀ σ H, Pv n σ H → D.nx σ H) : Loop (Itr lo n) g tb D σ H :=
  for_range Pv h0 (fun i σ H hi hp => hs i σ H hi hp) hd
def IR2K (vs : List V) (H : Hp) (R : It → Hp → Prop) : Prop := ∃ i j, vs = [V.int i, V.int j] ∧ (-2 ^ 62 ≤ i ∧ i < 2 ^ 62 ∧ -2 ^ 62 ≤ j ∧ j < 2 ^ 62) ∧ R (Itr i (j - i).toNat) H
theorem rd_iRng2 {R : It → Hp → Prop} (k : tl σ H fun vs H1 => IR2K vs H1 R) : iRng2 tl σ H R := k
theorem rd_ir2k {R : It → Hp → Prop} {i j : Int} (h : -1000000000 ≤ i ∧ i < 1000000000 ∧ -1000000000 ≤ j ∧ j < 1000000000) (k : R (Itr i (j - i).toNat) H) : IR2K [.int i, .int j] H R := ⟨i, j, rfl, by omega, k⟩
end
structure LS where
  t : Addr
  x : Addr
  p : Addr
  e : Addr
  dd : Addr
  vs : List V
  ns : List Str
  es : List (Str × Str)
  ks : List Nat
  us : List Nat
structure LSok (K : PySem.W.Frag) (L : List Cell) (z : LS) : Prop where
  mt : (z.t, HO.tup [.ref z.x, .ref z.p, .ref z.e]) ∈ L
  web : WebIn K L z.x z.ns z.es
  mp : (z.p, HO.lst (z.ns.map V.str)) ∈ L
  me : (z.e, HO.lst z.vs) ∈ L
  iss : Iss L z.vs z.es
  nd : z.ns.Nodup
  sok : SOk z.ns z.es
  nb : ∀ y ∈ z.ns, nameB y = true
  hl : z.ns.length ≤ 10 ∧ z.es.length ≤ 3000
  vw : VwOk (srt z.ns) z.es z.ks z.us
  due : Due5 L z.dd (srt z.ns) z.es z.ks z.us
theorem LSok.mono {K : PySem.W.Frag} {L L' : List Cell} {z : LS} (h : LSok K L z) (s : ∀ c ∈ L, c ∈ L') : LSok K L' z :=
  ⟨s _ h.mt, h.web.mono s, s _ h.mp, s _ h.me, iss_mono s h.iss, h.nd, h.sok, h.nb, h.hl, h.vw, h.due.mono s⟩
theorem VwOk.congr {N : List Str} {es es' : List (Str × Str)} {ks us : List Nat} (hc : ∀ e, e ∈ es ↔ e ∈ es') (h : VwOk N es ks us) : VwOk N es' ks us :=
  ⟨h.kl, h.ul, fun b m e a => (h.kb b m e a).trans ⟨fun ⟨x, y, h1, h2, h3⟩ => ⟨x, y, h1, h2, (hc _).mp h3⟩, fun ⟨x, y, h1, h2, h3⟩ => ⟨x, y, h1, h2, (hc _).mpr h3⟩⟩,
    fun a m e b => (h.ub a m e b).trans ⟨fun ⟨x, y, h1, h2, h3⟩ => ⟨x, y, h1, h2, (hc _).mp h3⟩, fun ⟨x, y, h1, h2, h3⟩ => ⟨x, y, h1, h2, (hc _).mpr h3⟩⟩⟩
theorem SOk.perm2 {ns ns' : List Str} {es es' : List (Str × Str)} (h : SOk ns es) (p : es'.Perm es) (q : ns'.Perm ns) : SOk ns' es' :=
  ⟨p.nodup_iff.mpr h.nd, fun e m => ⟨q.mem_iff.mpr (h.mem e (p.mem_iff.mp m)).1, q.mem_iff.mpr (h.mem e (p.mem_iff.mp m)).2⟩⟩
end Sw

namespace Sw
open PySem L2 PySem.W
section
variable {K : PySem.W.Frag} {σ : L2.St} {H : Hp} {Q : VK} {L F : List Cell} {a b : Addr} {g : TG} {tt : TT} {te : TE} {vs : List Nat}
theorem rd_extend {xs ys : List V} (hA : At H ((a, HO.lst xs) :: F)) (m : (b, HO.lst ys) ∈ F) (hl : xs.length + ys.length ≤ 100000) (k : ∀ H', At H' ((a, .lst (xs ++ ys)) :: F) → Q .non H') : rExtend (.ref a) [.ref b] H Q :=
  ⟨a, b, xs, ys, rfl, rfl, hA.rd (.head _), hA.rd (.tail _ m), Nat.le_trans hl (by decide), k _ (hA.upd rfl)⟩
theorem rd_extendm {α : Type} {f : α → V} {xs ys : List α} (hA : At H ((a, HO.lst (xs.map f)) :: F)) (m : (b, HO.lst (ys.map f)) ∈ F) (hl : xs.length + ys.length ≤ 100000) (k : ∀ H', At H' ((a, .lst ((xs ++ ys).map f)) :: F) → Q .non H') : rExtend (.ref a) [.ref b] H Q :=
  rd_extend hA m (by rw [List.length_map, List.length_map]; exact hl) fun H' h => k H' (by rw [List.map_append]; exact h)
end
end Sw

namespace Sw
open PySem PySem.Spec PyProof.Rows L2 PySem.W
def keyS (e : Int × Value) : Str := match e.2 with | .str k _ => k | _ => Str.empty
def GoodS (P : Program) (w : World) (e : Int × Value) : Prop := ∃ k tk, e.2 = Value.str k tk ∧ e.1 = (strKind P w).hash k
def SetX (P : Program) (w : World) (h : Heap) (a : Addr) (S : Str → Bool) (n : Nat) : Prop :=
  ∃ o es ep t, h.get? a = some o ∧ o.ExactSet ∧ o.data = .set es ep t ∧ (∀ e ∈ es.toList, GoodS P w e) ∧ (es.toList.map keyS).Nodup ∧ (∀ k, S k = true ↔ k ∈ es.toList.map keyS) ∧
    es.size < scanBound ∧ t.fits es.size = true ∧ es.size = n ∧ Ris t.place.toList ∧ (w.params.followText "set-order" = true ∨ t.led = true)
section
variable {P : Program} {w : World} {h h' : Heap} {a : Addr} {S : Str → Bool} {n : Nat}
theorem SetX.at (R : SetX P w h a S n) (k : ∀ o, h.get? a = some o → h'.get? a = some o) : SetX P w h' a S n := by
  obtain ⟨o, es, ep, t, ho, r⟩ := R
  exact ⟨o, es, ep, t, k o ho, r⟩
theorem SetX.congr {S' : Str → Bool} {n' : Nat} (R : SetX P w h a S n) (e : ∀ k, S' k = S k) (en : n = n') : SetX P w h a S' n' := by
  have q : S' = S := funext e
  rw [q, ← en]; exact R
end
section
variable {P : Program} {w : World} {A : Around} {E : Value → Shared → Prop} {s : Shared} {a : Addr} {S : Str → Bool} {n : Nat}
end
section
variable {prog : Program} {w : World} {A : Around} {R : Result → Shared → Prop} {I : Addr} {fp wr : List Addr} {G : Array GenState → Array GenState → Prop} {n : Nat} {P : Nat → Value → Prop} {St : Nat → Shared → Prop}
end
section
variable {prog : Program} {w : World} {A : Around} {E : Value → Shared → Prop} {s : Shared}
end
end Sw

namespace Sw
open PySem PySem.Spec PyProof.Rows L2 PySem.W
open PySem.Sem (wp)
section
variable {prog : Program} {w : World} {A : Around} {E : Value → Shared → Prop} {s : Shared}
end

section
variable {prog : Program} {w : World} {A : Around} {E : Value → Shared → Prop} {s : Shared}

end
def ItzM (K : PySem.W.Frag) (a b : Addr) : It :=
  ⟨fun i H => ∃ (xs ys : List V) (x y : V), SqL K H a xs ∧ SqT K H b ys ∧ xs[i]? = some x ∧ ys[i]? = some y,
    fun i H v H' => ∃ T x y, v = .ref T ∧ H T = none ∧ H' = upd H T (.tup [x, y]) ∧ (∀ xs, SqL K H a xs → xs[i]? = some x) ∧ ∀ ys, SqT K H b ys → ys[i]? = some y,
    fun i H => ∃ xs ys : List V, SqL K H a xs ∧ SqT K H b ys ∧ (xs.length ≤ i ∨ ys.length ≤ i)⟩
def iZipM (K : PySem.W.Frag) (ta : TA) : TI := fun σ H R => ta σ H fun vs H1 => ∃ a b xs ys, vs = [.ref a, .ref b] ∧ SqL K H1 a xs ∧ SqT K H1 b ys ∧ R (ItzM K a b) H1
section
variable {prog : Program} {w : World} {A : Around} {E : Value → Shared → Prop} {s : Shared}
structure ZL (h : Heap) (z TI TO i1 i2 l1 l2 S N : Addr) (xs ys : Array Value) (m i : Nat) : Prop where
  pt : IsPair h TI (.ref i1) (.ref i2)
  a1 : h.IsListIter i1 l1 i
  a2 : h.IsListIter i2 l2 i
  x : h.IsList l1 xs
  y : h.IsList l2 ys
  zz : (i = 0 ∧ IsZip h z TI TO .none ∧ ∃ a b, IsPair h TO a b) ∨ (0 < i ∧ ∃ f oT, IsZipHeld h z TI TO N f ∧ h.get? N = some oT)
  ss : ∃ c, h.get? S = some { cls := .type "list", dict := none, data := .seq ((List.range m).map fun j => Value.ref (N + j)).toArray c, slots := #[] }
  tt : ∀ j x y, j < i → xs[j]? = some x → ys[j]? = some y → IsPair h (N + j) x y
  sz : h.objs.size = N + i
structure ZO (z TI TO i1 i2 l1 l2 S N : Addr) : Prop where
  D : ZipApart z TI TO i1 i2 l1 l2
  lz : z < S
  lTI : TI < S
  lTO : TO < S
  li1 : i1 < S
  li2 : i2 < S
  ll1 : l1 < S
  ll2 : l2 < S
  lS : S < N
end
section
variable {X : Cx} {pins : List (Addr × Obj)} {σ : L2.St} {H H' : Hp} {s : Shared} {h' : Heap}
def prT (ts : List Addr) (zs : List (V × V)) : List Cell := (ts.zip zs).map fun z => (z.1, HO.tup [z.2.1, z.2.2])
def zipH (H : Hp) (p N : Addr) (ps : List (V × V)) : Hp := fun a => if a = p then some (.lst ((List.range ps.length).map fun j => V.ref (N + j))) else if N ≤ a ∧ a < N + ps.length then (ps[a - N]?).map fun z => HO.tup [z.1, z.2] else H a
theorem zipH_at {H : Hp} {p N : Addr} {ps : List (V × V)} {L : List Cell} (hA : At H L) (hp : H p = none) (hN : p < N) (hf : ∀ a, N ≤ a → H a = none) : At (zipH H p N ps) ((p, .lst ((List.range ps.length).map fun j => V.ref (N + j))) :: (prT ((List.range ps.length).map (N + ·)) ps ++ L)) := by
  have hL : ∀ c ∈ L, c.1 ≠ p ∧ ¬ N ≤ c.1 := fun c m => by
    have e := hA.get c m
    exact ⟨fun h => (by rw [h, hp] at e; exact nomatch e), fun h => (by rw [hf _ h] at e; exact nomatch e)⟩
  have hT : ∀ c ∈ prT ((List.range ps.length).map (N + ·)) ps, ∃ j z, ps[j]? = some z ∧ c = (N + j, HO.tup [z.1, z.2]) := fun c m => by
    obtain ⟨u, mu, rfl⟩ := List.mem_map.mp m
    obtain ⟨i, hi⟩ := List.getElem?_of_mem mu
    rw [List.getElem?_zip_eq_some, List.getElem?_map] at hi
    obtain ⟨h1, h2⟩ := hi
    have hil : i < ps.length := (List.getElem?_eq_some_iff.mp h2).1
    rw [List.getElem?_range hil] at h1
    have h1 : N + i = u.1 := Option.some.inj h1
    exact ⟨i, u.2, h2, by rw [h1]⟩
  have hge : ∀ j : Nat, N ≤ N + j := fun j => Nat.le_add_right _ _
  refine ⟨fun c m => ?_, ?_⟩
  · unfold zipH
    rcases List.mem_cons.mp m with rfl | m
    · rw [if_pos rfl]
    · rcases List.mem_append.mp m with m | m
      · obtain ⟨j, z, hz, rfl⟩ := hT c m
        have hjl : j < ps.length := (List.getElem?_eq_some_iff.mp hz).1
        have hne : N + j ≠ p := fun e => by
          have := hge j
          rw [e] at this
          exact Nat.lt_irrefl _ (Nat.lt_of_lt_of_le hN this)
        show (if N + j = p then _ else _) = _
        rw [if_neg hne, if_pos ⟨hge j, Nat.add_lt_add_left hjl N⟩, Nat.add_sub_cancel_left, hz]
        rfl
      · obtain ⟨h1, h2⟩ := hL c m
        rw [if_neg h1, if_neg (fun h => h2 h.1)]
        exact hA.get c m
  · refine List.pairwise_cons.mpr ⟨fun c m => ?_, List.pairwise_append.mpr ⟨?_, hA.sep, fun c m d md => ?_⟩⟩
    · intro e
      rcases List.mem_append.mp m with m | m
      · obtain ⟨j, z, hz, rfl⟩ := hT c m
        have e : p = N + j := e
        have := hge j
        rw [← e] at this
        exact absurd (Nat.lt_of_lt_of_le hN this) (Nat.lt_irrefl _)
      · exact absurd e.symm (hL c m).1
    · refine List.pairwise_of_forall_mem_list fun c m d md _ => ?_
      obtain ⟨j, z, hz, rfl⟩ := hT c m
      rfl
    · intro _
      obtain ⟨j, z, hz, rfl⟩ := hT c m
      rfl
def tLstZip (K : PySem.W.Frag) (ta : TA) : TE := fun σ H Q => ta σ H fun vs H1 => ∃ (a b : Addr) (xs ys : List V), vs = [.ref a, .ref b] ∧ SqL K H1 a xs ∧ SqL K H1 b ys ∧
  ∀ p N, H1 p = none → p < N → (∀ c, N ≤ c → H1 c = none) → Q (.ref p) (zipH H1 p N (xs.zip ys))
end
section
variable {X : Cx} {K : PySem.W.Frag} {σ : L2.St} {H : Hp} {Q : VK} {L W : List Cell} {a b p : Addr} {tl : TA}
def LstZipK (K : PySem.W.Frag) (vs : List V) (H1 : Hp) (Q : VK) : Prop := ∃ (a b : Addr) (xs ys : List V), vs = [.ref a, .ref b] ∧ SqL K H1 a xs ∧ SqL K H1 b ys ∧
  ∀ p N, H1 p = none → p < N → (∀ c, N ≤ c → H1 c = none) → Q (.ref p) (zipH H1 p N (xs.zip ys))
theorem rd_lstZip (k : tl σ H fun vs H1 => LstZipK K vs H1 Q) : tLstZip K tl σ H Q := k
theorem rd_lstZipV {xs ys : List V} (hA : At H L) (m : (a, HO.lst xs) ∈ L) (m2 : (b, HO.lst ys) ∈ L) (k : ∀ p ts H', ts.length = (xs.zip ys).length → At H' ((p, .lst (ts.map V.ref)) :: (prT ts (xs.zip ys) ++ L)) → Q (.ref p) H') : LstZipK K [.ref a, .ref b] H Q := by
  refine ⟨a, b, xs, ys, rfl, SqL.of (hA.rd m), SqL.of (hA.rd m2), fun p N h1 h2 h3 => k p ((List.range (xs.zip ys).length).map (N + ·)) _ (by rw [List.length_map, List.length_range]) ?_⟩
  have q := zipH_at (ps := xs.zip ys) hA h1 h2 h3
  rw [List.map_map]
  exact q
theorem iss_prT : ∀ {ts : List Addr} {ps : List (Str × Str)}, ts.length = ps.length → Iss (prT ts (ps.map fun z => (V.str z.1, V.str z.2))) (ts.map V.ref) ps
  | [], [], _ => .nil
  | t :: ts, p :: ps, h => by
    have ih := iss_prT (ts := ts) (ps := ps) (Nat.succ.inj h)
    exact iss_c (is_pair (.head _) (.str p.1) (.str p.2)) (iss_mono (fun _ m => .tail _ m) ih)
theorem zip_mapS (xs ys : List Str) : (xs.map V.str).zip (ys.map V.str) = (xs.zip ys).map fun z => (V.str z.1, V.str z.2) := by
  rw [List.zip_map]
  rfl
theorem rd_lstZipS {xs ys : List Str} (hA : At H L) (m : (a, HO.lst (xs.map V.str)) ∈ L) (m2 : (b, HO.lst (ys.map V.str)) ∈ L) (k : ∀ p vs W H', At H' ((p, .lst vs) :: (W ++ L)) → Iss W vs (xs.zip ys) → Q (.ref p) H') : LstZipK K [.ref a, .ref b] H Q :=
  rd_lstZipV hA m m2 fun p ts H' hl h => by
    rw [zip_mapS] at h hl
    exact k p _ _ H' h (iss_prT (by rw [hl, List.length_map]))
def pickV (xs : List V) (lo hi st : Option Int) : List V := (sliceRange (sliceBounds lo hi st xs.length).1 (sliceBounds lo hi st xs.length).2.1 (sliceBounds lo hi st xs.length).2.2).filterMap fun i => xs[i]?
def SlStepK (K : PySem.W.Frag) (x : V) (lo hi st : Option Int) (H : Hp) (Q : VK) : Prop := ∃ a xs, x = .ref a ∧ SqL K H a xs ∧ st ≠ some 0 ∧ ∀ p, H p = none → Q (.ref p) (upd H p (.lst (pickV xs lo hi st)))
def tSlSt (K : PySem.W.Frag) (te : TE) (tl th ts : TO) : TE := fun σ H Q => te σ H fun x H1 => tl σ H1 fun l H2 => th σ H2 fun u H3 => ts σ H3 fun st H4 => SlStepK K x l u st H4 Q
def every2 {α : Type} : List α → List α
  | [] => []
  | [a] => [a]
  | a :: _ :: r => a :: every2 r
theorem every2_map {α β : Type} (f : α → β) : ∀ l : List α, every2 (l.map f) = (every2 l).map f
  | [] => rfl
  | [a] => rfl
  | a :: b :: r => by
    show f a :: every2 (r.map f) = f a :: (every2 r).map f
    rw [every2_map f r]
theorem ev2 {α : Type} (xs : List α) : ∀ (m a b : Nat), b - a = m → b ≤ xs.length → ((List.range ((b - a + 1) / 2)).map fun k => a + 2 * k).filterMap (fun i => xs[i]?) = every2 ((xs.take b).drop a) := by
  intro m
  induction m using Nat.strongRecOn with
  | ind m ih =>
    intro a b hm hb
    by_cases h0 : b ≤ a
    · have e : (b - a + 1) / 2 = 0 := by omega
      rw [e, List.drop_eq_nil_of_le (by rw [List.length_take]; omega)]
      rfl
    · have ha : a < xs.length := by omega
      have hal : a < (xs.take b).length := by rw [List.length_take]; omega
      by_cases h1 : b = a + 1
      · have e : (b - a + 1) / 2 = 1 := by omega
        rw [e, List.drop_eq_getElem_cons hal, List.drop_eq_nil_of_le (by rw [List.length_take]; omega)]
        show [a + 2 * 0].filterMap (fun i => xs[i]?) = [_]
        rw [List.filterMap_cons, show a + 2 * 0 = a from rfl, List.getElem?_eq_getElem ha, List.getElem_take]
        rfl
      · have e : (b - a + 1) / 2 = (b - (a + 2) + 1) / 2 + 1 := by omega
        have hal2 : a + 1 < (xs.take b).length := by rw [List.length_take]; omega
        have ih' := ih (b - (a + 2)) (by omega) (a + 2) b rfl hb
        rw [e, List.range_succ_eq_map, List.map_cons, List.map_map, List.filterMap_cons, show a + 2 * 0 = a from rfl, List.getElem?_eq_getElem ha, List.drop_eq_getElem_cons hal, List.drop_eq_getElem_cons hal2]
        show xs[a] :: _ = (xs.take b)[a] :: every2 ((xs.take b).drop (a + 2))
        rw [← ih', List.getElem_take]
        congr 1
        refine congrArg (List.filterMap _) (List.map_congr_left fun k _ => ?_)
        show a + 2 * (k + 1) = a + 2 + 2 * k
        omega
def loN : Option Int → Nat
  | none => 0
  | some i => i.toNat
def hiN {α : Type} (zs : List α) : Option Int → List α
  | none => zs
  | some i => zs.take i.toNat
def NonN : Option Int → Prop
  | none => True
  | some i => 0 ≤ i
theorem pick2 {α : Type} (f : α → V) (zs : List α) {lo hi : Option Int} (h1 : NonN lo) (h2 : NonN hi) : pickV (zs.map f) lo hi (some 2) = (every2 ((hiN zs hi).drop (loN lo))).map f := by
  have hb : ∃ b : Nat, b ≤ zs.length ∧ (sliceBounds lo hi (some 2) zs.length).2.1 = (b : Int) ∧ hiN zs hi = zs.take b := by
    cases hi with
    | none => exact ⟨zs.length, Nat.le_refl _, rfl, by rw [List.take_length]; rfl⟩
    | some i =>
      have h2 : 0 ≤ i := h2
      refine ⟨min i.toNat zs.length, Nat.min_le_right _ _, ?_, ?_⟩
      · show (if (2 : Int) > 0 then max 0 (min (if i < 0 then i + (zs.length : Int) else i) (zs.length : Int)) else max (-1) (min (if i < 0 then i + (zs.length : Int) else i) ((zs.length : Int) - 1))) = _
        rw [if_pos (by decide), if_neg (by omega)]
        omega
      · show zs.take i.toNat = _
        by_cases h : i.toNat ≤ zs.length
        · rw [Nat.min_eq_left h]
        · rw [Nat.min_eq_right (by omega), List.take_length, List.take_of_length_le (by omega)]
  have ha : ∃ a : Nat, (sliceBounds lo hi (some 2) zs.length).1 = (a : Int) ∧ ((a = loN lo ∧ a ≤ zs.length) ∨ (a = zs.length ∧ zs.length ≤ loN lo)) := by
    cases lo with
    | none => exact ⟨0, rfl, .inl ⟨rfl, Nat.zero_le _⟩⟩
    | some i =>
      have h1 : 0 ≤ i := h1
      refine ⟨min i.toNat zs.length, ?_, ?_⟩
      · show (if (2 : Int) > 0 then max 0 (min (if i < 0 then i + (zs.length : Int) else i) (zs.length : Int)) else max (-1) (min (if i < 0 then i + (zs.length : Int) else i) ((zs.length : Int) - 1))) = _
        rw [if_pos (by decide), if_neg (by omega)]
        omega
      · show (_ = i.toNat ∧ _) ∨ (_ ∧ _ ≤ i.toNat)
        by_cases h : i.toNat ≤ zs.length
        · exact .inl ⟨Nat.min_eq_left h, Nat.min_le_right _ _⟩
        · exact .inr ⟨Nat.min_eq_right (by omega), by omega⟩
  obtain ⟨b, hbl, eb, eh⟩ := hb
  obtain ⟨a, ea, hal⟩ := ha
  unfold pickV
  rw [List.length_map, ea, eb, eh]
  show (sliceRange (a : Int) (b : Int) 2).filterMap _ = _
  have hd : (zs.take b).drop (loN lo) = (zs.take b).drop a := by
    rcases hal with ⟨h, _⟩ | ⟨h, h'⟩
    · rw [h]
    · rw [List.drop_eq_nil_of_le (by rw [List.length_take]; omega), List.drop_eq_nil_of_le (by rw [List.length_take]; omega)]
  have er : sliceRange (a : Int) (b : Int) 2 = (List.range ((b - a + 1) / 2)).map fun k => a + 2 * k := by
    unfold sliceRange
    have hc : ((if (2 : Int) > 0 then (if (a : Int) < b then ((b : Int) - a + 2 - 1) / 2 else 0) else (if (a : Int) > b then ((a : Int) - b - 2 - 1) / (-2) else 0) : Int)).toNat = (b - a + 1) / 2 := by
      rw [if_pos (by decide)]
      by_cases h : (a : Int) < b
      · rw [if_pos h]
        omega
      · rw [if_neg h]
        omega
    show (List.range (Int.toNat _)).map _ = _
    rw [hc]
    refine List.map_congr_left fun k _ => ?_
    show ((a : Int) + 2 * (k : Int)).toNat = a + 2 * k
    omega
  rw [er, hd, ← every2_map, List.map_drop, List.map_take]
  exact ev2 (zs.map f) _ a b rfl (by rw [List.length_map]; exact hbl)
theorem rd_slSt {te : TE} {tl th ts : TO} (k : te σ H fun x H1 => tl σ H1 fun l H2 => th σ H2 fun u H3 => ts σ H3 fun st H4 => SlStepK K x l u st H4 Q) : tSlSt K te tl th ts σ H Q := k
theorem rd_slSt2 {α : Type} {f : α → V} {zs : List α} {lo hi : Option Int} (hA : At H L) (m : (a, HO.lst (zs.map f)) ∈ L) (h1 : NonN lo) (h2 : NonN hi) (k : ∀ p H', At H' ((p, .lst ((every2 ((hiN zs hi).drop (loN lo))).map f)) :: L) → Q (.ref p) H') : SlStepK K (.ref a) lo hi (some 2) H Q :=
  ⟨a, _, rfl, SqL.of (hA.rd m), by decide, fun p h => k p _ (by rw [← pick2 f zs h1 h2]; exact hA.new h)⟩
def SrtSetK (K : PySem.W.Frag) (x : V) (H : Hp) (Q : VK) : Prop := ∃ (l : Addr) (xs : List Str), x = V.ref l ∧ SqL K H l (xs.map V.str) ∧ xs.length + 1 < scanBound ∧ ∀ p, H p = none → Q (.ref p) (upd H p (.lst ((srt (addS [] xs)).map V.str)))
def tSrtSet (K : PySem.W.Frag) (ta : TE) : TE := fun σ H Q => ta σ H fun x H1 => SrtSetK K x H1 Q
def LenSetK (K : PySem.W.Frag) (x : V) (H : Hp) (Q : VK) : Prop := ∃ (l : Addr) (xs : List Str) (t : Bool), x = V.ref l ∧ Sq K t H l (xs.map V.str) ∧ xs.length + 1 < scanBound ∧ Q (.int (addS [] xs).length) H
def tLenSet (K : PySem.W.Frag) (ta : TE) : TE := fun σ H Q => ta σ H fun x H1 => LenSetK K x H1 Q
theorem rd_srtSet {te : TE} (k : te σ H fun x H1 => SrtSetK K x H1 Q) : tSrtSet K te σ H Q := k
theorem rd_srtSetk {xs : List Str} (hA : At H L) (m : (a, HO.lst (xs.map V.str)) ∈ L) (h : xs.length < 4000) (k : ∀ p H', At H' ((p, .lst ((srt (addS [] xs)).map V.str)) :: L) → Q (.ref p) H') : SrtSetK K (.ref a) H Q :=
  ⟨a, xs, rfl, SqL.of (hA.rd m), by unfold scanBound; omega, fun p h => k p _ (hA.new h)⟩
theorem rd_lenSet {te : TE} (k : te σ H fun x H1 => LenSetK K x H1 Q) : tLenSet K te σ H Q := k
theorem rd_lenSetk {xs : List Str} {t : Bool} (hA : At H L) (m : (a, rowO t (xs.map V.str)) ∈ L) (h : xs.length < 4000) (k : Q (.int (addS [] xs).length) H) : LenSetK K (.ref a) H Q :=
  ⟨a, xs, t, rfl, Sq.of (hA.rd m), by unfold scanBound; omega, k⟩
end
end Sw

namespace Sw
open PySem L2 PySem.W
theorem findSome_take {α β : Type} {g : α → Option β} : ∀ {l : List α} {i : Nat} {x : α} {b : β}, l[i]? = some x → (l.take i).findSome? g = none → g x = some b → l.findSome? g = some b
  | [], _, _, _, h, _, _ => by simp at h
  | y :: r, 0, x, b, h, _, hb => by
    have e : y = x := by simpa using h
    rw [List.findSome?_cons, e, hb]
  | y :: r, i + 1, x, b, h, hn, hb => by
    rw [List.take_succ_cons, List.findSome?_cons] at hn
    cases hy : g y with
    | some z => rw [hy] at hn; cases hn
    | none =>
      rw [hy] at hn
      rw [List.findSome?_cons, hy]
      exact findSome_take (l := r) (i := i) (by simpa using h) hn hb
theorem findSome_snoc {α β : Type} {g : α → Option β} {l : List α} {i : Nat} {x : α} (h : l[i]? = some x) (hn : (l.take i).findSome? g = none) (hx : g x = none) : (l.take (i + 1)).findSome? g = none := by
  rw [List.take_succ, h, List.findSome?_append, hn]
  show List.findSome? g [x] = none
  rw [List.findSome?_cons, hx]
  rfl
theorem find_take {α : Type} {p : α → Bool} : ∀ {l : List α} {i : Nat} {x : α}, l[i]? = some x → (∀ y ∈ l.take i, p y = false) → p x = true → l.find? p = some x
  | [], _, _, h, _, _ => by simp at h
  | y :: r, 0, x, h, _, hp => by
    have e : y = x := by simpa using h
    rw [List.find?_cons, e, hp]
  | y :: r, i + 1, x, h, hn, hp => by
    rw [List.find?_cons, hn y (.head _)]
    exact find_take (l := r) (i := i) (by simpa using h) (fun z m => hn z (.tail _ m)) hp
theorem find_none {α : Type} {p : α → Bool} {l : List α} (h : ∀ y ∈ l, p y = false) : l.find? p = none := List.find?_eq_none.mpr fun x m => by rw [h x m]; exact Bool.false_ne_true
theorem take_snoc {α : Type} {q : α → Prop} {l : List α} {i : Nat} {x : α} (h : l[i]? = some x) (hn : ∀ y ∈ l.take i, q y) (hx : q x) : ∀ y ∈ l.take (i + 1), q y := fun y m => by
  rw [List.take_succ, h] at m
  rcases List.mem_append.mp m with m | m
  · exact hn y m
  · rw [List.mem_singleton.mp m]; exact hx
def clashF (f : Str → List Str) (held : List Str) : Option (Str × Str) := (srt held).findSome? fun y => ((f y).find? fun x => decide (x ∈ held)).map fun x => (x, y)
def unansF (f : Str → List Str) (held : List Str) : Option (Str × Str) := (srt held).findSome? fun x => ((f x).find? fun y => !((f y).any fun z => decide (z ∈ held))).map fun y => (x, y)
theorem clash_some {f : Str → List Str} {held : List Str} {p : Str × Str} (h : clashF f held = some p) : p.1 ∈ held ∧ p.2 ∈ held ∧ p.1 ∈ f p.2 := by
  obtain ⟨y, hy, e⟩ := List.exists_of_findSome?_eq_some h
  rw [Option.map_eq_some_iff] at e
  obtain ⟨x, hx, rfl⟩ := e
  have h1 := List.find?_some hx
  exact ⟨of_decide_eq_true h1, srt_mem.mp hy, List.mem_of_find?_eq_some hx⟩
theorem clash_none {f : Str → List Str} {held : List Str} (h : clashF f held = none) : ∀ x y, x ∈ held → y ∈ held → ¬ x ∈ f y := fun x y hx hy hm => by
  have h1 := List.findSome?_eq_none_iff.mp h y (srt_mem.mpr hy)
  rw [Option.map_eq_none_iff] at h1
  exact absurd (decide_eq_true hx) (List.find?_eq_none.mp h1 x hm)
theorem unans_some {f : Str → List Str} {held : List Str} {p : Str × Str} (h : unansF f held = some p) : p.1 ∈ held ∧ p.2 ∈ f p.1 ∧ ∀ z ∈ f p.2, ¬ z ∈ held := by
  obtain ⟨x, hx, e⟩ := List.exists_of_findSome?_eq_some h
  rw [Option.map_eq_some_iff] at e
  obtain ⟨y, hy, rfl⟩ := e
  refine ⟨srt_mem.mp hx, List.mem_of_find?_eq_some hy, fun z hz hm => ?_⟩
  have h1 := List.find?_some hy
  rw [Bool.not_eq_true'] at h1
  rw [List.any_eq_false] at h1
  exact h1 z hz (decide_eq_true hm)
theorem unans_none {f : Str → List Str} {held : List Str} (h : unansF f held = none) : ∀ x y, x ∈ held → y ∈ f x → ∃ z ∈ f y, z ∈ held := fun x y hx hy => by
  have h1 := List.findSome?_eq_none_iff.mp h x (srt_mem.mpr hx)
  rw [Option.map_eq_none_iff] at h1
  have h2 := List.find?_eq_none.mp h1 y hy
  rw [Bool.not_eq_true', Bool.not_eq_false] at h2
  obtain ⟨z, hz, hm⟩ := List.any_eq_true.mp h2
  exact ⟨z, hz, of_decide_eq_true hm⟩
inductive Grown where
  | told (l : List Str)
  | no (d : PyData)
def growL (g : Str → Grown) (fin : List PyData → PyData) : List Str → List PyData → Grown
  | [], acc => .no (fin acc)
  | x :: r, acc => match g x with
    | .told l => .told l
    | .no d => growL g fin r (acc ++ [d])
def clashD (p : Str × Str) : PyData := .tuple [.str "clash", .str p.1, .str p.2]
def answerD (p : Str × Str) (ds : List PyData) : PyData := .tuple [.str "answer", .str p.1, .str p.2, .tuple ds]
def grow (f : Str → List Str) : Nat → List Str → Grown
  | 0, _ => .told []
  | n + 1, held => match clashF f held with
    | some p => .no (clashD p)
    | none => match unansF f held with
      | none => .told (srt held)
      | some p => growL (fun x => grow f n (held ++ [x])) (answerD p) (f p.2) []
theorem growL_told {g : Str → Grown} {fin : List PyData → PyData} {l : List Str} : ∀ {xs : List Str} {acc : List PyData}, growL g fin xs acc = .told l → ∃ x ∈ xs, g x = .told l
  | [], _, h => by cases h
  | x :: r, acc, h => by
    unfold growL at h
    cases e : g x with
    | told l' =>
      rw [e] at h
      cases h
      exact ⟨x, .head _, e⟩
    | no d =>
      rw [e] at h
      obtain ⟨y, m, q⟩ := growL_told (xs := r) h
      exact ⟨y, .tail _ m, q⟩
theorem growL_no {g : Str → Grown} {fin : List PyData → PyData} {d : PyData} : ∀ {xs : List Str} {acc : List PyData}, growL g fin xs acc = .no d → ∀ x ∈ xs, ∃ d', g x = .no d'
  | [], _, _, _, m => nomatch m
  | x :: r, acc, h, y, m => by
    unfold growL at h
    cases e : g x with
    | told l' =>
      rw [e] at h
      cases h
    | no d' =>
      rw [e] at h
      rcases List.mem_cons.mp m with rfl | m
      · exact ⟨d', e⟩
      · exact growL_no (xs := r) h y m
theorem growL_take {g : Str → Grown} {fin : List PyData → PyData} : ∀ {xs : List Str} {acc ds : List PyData}, xs.map g = ds.map Grown.no → growL g fin xs acc = .no (fin (acc ++ ds))
  | [], acc, [], _ => by rw [List.append_nil]; rfl
  | [], _, _ :: _, h => nomatch h
  | _ :: _, _, [], h => nomatch h
  | x :: xs, acc, d :: ds, h => by
    rw [List.map_cons, List.map_cons] at h
    injection h with h1 h2
    unfold growL
    rw [h1]
    show growL g fin xs (acc ++ [d]) = _
    rw [growL_take (xs := xs) (ds := ds) h2, List.append_assoc]
    rfl
theorem growL_stop {g : Str → Grown} {fin : List PyData → PyData} {l : List Str} : ∀ {xs : List Str} {acc ds : List PyData} {i : Nat} {x : Str}, xs[i]? = some x → (xs.take i).map g = ds.map Grown.no → g x = .told l → growL g fin xs acc = .told l
  | [], _, _, _, _, h, _, _ => by simp at h
  | y :: xs, acc, ds, 0, x, h, _, hg => by
    have e : y = x := by simpa using h
    unfold growL
    rw [e, hg]
  | y :: xs, acc, [], i + 1, x, h, hd, hg => nomatch hd
  | y :: xs, acc, d :: ds, i + 1, x, h, hd, hg => by
    rw [List.take_succ_cons, List.map_cons, List.map_cons] at hd
    injection hd with h1 h2
    unfold growL
    rw [h1]
    exact growL_stop (xs := xs) (i := i) (by simpa using h) h2 hg
def outN (N held : List Str) : Nat := (N.filter fun x => decide (¬ x ∈ held)).length
theorem outN_le (N held : List Str) : outN N held ≤ N.length := List.length_filter_le _ _
theorem outN_snoc {N held : List Str} {x : Str} (hN : x ∈ N) (hx : ¬ x ∈ held) : outN N (held ++ [x]) < outN N held := by
  unfold outN
  have e : N.filter (fun y => decide (¬ y ∈ held ++ [x])) = (N.filter fun y => decide (¬ y ∈ held)).filter fun y => decide (y ≠ x) := by
    rw [List.filter_filter]
    refine List.filter_congr fun y _ => ?_
    rw [Bool.eq_iff_iff, Bool.and_eq_true, decide_eq_true_eq, decide_eq_true_eq, decide_eq_true_eq, List.mem_append, List.mem_singleton]
    constructor
    · exact fun h => ⟨fun e => h (.inr e), fun m => h (.inl m)⟩
    · rintro ⟨h1, h2⟩ (h | h)
      · exact h2 h
      · exact h1 h
  rw [e]
  refine List.length_filter_lt_length_iff_exists.mpr ⟨x, List.mem_filter.mpr ⟨hN, decide_eq_true hx⟩, ?_⟩
  rw [decide_eq_true_eq]
  exact fun h => h rfl
def StandF (f : Str → List Str) (S : Str → Prop) : Prop := (∀ x y, S x → S y → ¬ x ∈ f y) ∧ ∀ x y, S x → y ∈ f x → ∃ z, z ∈ f y ∧ S z
theorem grow_told {f : Str → List Str} {N : List Str} (hN : ∀ z ∈ N, ∀ x ∈ f z, x ∈ N) : ∀ {n : Nat} {held l : List Str}, outN N held < n → (∀ z ∈ held, z ∈ N) → grow f n held = .told l →
    ∃ more, l = srt (held ++ more) ∧ (∀ z ∈ more, z ∈ N ∧ ¬ z ∈ held) ∧ more.Nodup ∧ StandF f (· ∈ held ++ more)
  | 0, held, l, hm, _, _ => absurd hm (Nat.not_lt_zero _)
  | n + 1, held, l, hm, hh, h => by
    unfold grow at h
    cases hc : clashF f held with
    | some p => rw [hc] at h; cases h
    | none =>
      rw [hc] at h
      cases hu : unansF f held with
      | none =>
        rw [hu] at h
        have h : Grown.told (srt held) = .told l := h
        cases h
        exact ⟨[], by rw [List.append_nil], (fun _ m => nomatch m), .nil, by
          rw [List.append_nil]
          exact ⟨clash_none hc, fun x y hx hy => unans_none hu x y hx hy⟩⟩
      | some p =>
        rw [hu] at h
        obtain ⟨x, hx, e⟩ := growL_told h
        obtain ⟨u1, u2, u3⟩ := unans_some hu
        have hxN : x ∈ N := hN _ (hN _ (hh _ u1) _ u2) _ hx
        have hxh : ¬ x ∈ held := u3 x hx
        obtain ⟨more, e1, e2, e3, e4⟩ := grow_told hN (n := n) (held := held ++ [x]) (by have := outN_snoc hxN hxh; omega) (fun z m => by
          rcases List.mem_append.mp m with m | m
          · exact hh z m
          · rw [List.mem_singleton.mp m]; exact hxN) e
        have ea : held ++ [x] ++ more = held ++ (x :: more) := by rw [List.append_assoc]; rfl
        rw [ea] at e1 e4
        refine ⟨x :: more, e1, fun z m => ?_, List.nodup_cons.mpr ⟨fun m => (e2 x m).2 (List.mem_append_right _ (.head _)), e3⟩, e4⟩
        rcases List.mem_cons.mp m with rfl | m
        · exact ⟨hxN, hxh⟩
        · exact ⟨(e2 z m).1, fun m' => (e2 z m).2 (List.mem_append_left _ m')⟩
theorem grow_no {f : Str → List Str} {N : List Str} (hN : ∀ z ∈ N, ∀ x ∈ f z, x ∈ N) : ∀ {n : Nat} {held : List Str} {d : PyData}, outN N held < n → (∀ z ∈ held, z ∈ N) → grow f n held = .no d →
    ∀ S : Str → Prop, StandF f S → ¬ ∀ z ∈ held, S z
  | 0, held, d, hm, _, _ => absurd hm (Nat.not_lt_zero _)
  | n + 1, held, d, hm, hh, h => fun S hS hs => by
    unfold grow at h
    cases hc : clashF f held with
    | some p =>
      obtain ⟨c1, c2, c3⟩ := clash_some hc
      exact hS.1 _ _ (hs _ c1) (hs _ c2) c3
    | none =>
      rw [hc] at h
      cases hu : unansF f held with
      | none =>
        rw [hu] at h
        have h : Grown.told (srt held) = .no d := h
        cases h
      | some p =>
        rw [hu] at h
        obtain ⟨u1, u2, u3⟩ := unans_some hu
        obtain ⟨x, hx, hSx⟩ := hS.2 _ _ (hs _ u1) u2
        obtain ⟨d', e⟩ := growL_no h x hx
        have hxN : x ∈ N := hN _ (hN _ (hh _ u1) _ u2) _ hx
        refine grow_no hN (n := n) (held := held ++ [x]) (by have := outN_snoc hxN (u3 x hx); omega) (fun z m => ?_) e S hS fun z m => ?_
        · rcases List.mem_append.mp m with m | m
          · exact hh z m
          · rw [List.mem_singleton.mp m]; exact hxN
        · rcases List.mem_append.mp m with m | m
          · exact hs z m
          · rw [List.mem_singleton.mp m]; exact hSx
def opV (t : Addr) : Option (Str × Str) → V
  | none => .non
  | some _ => .ref t
def clashC (t : Addr) : Option (Str × Str) → List Cell
  | none => []
  | some p => [(t, HO.tup [.str "clash", .str p.1, .str p.2])]
def twoC (t : Addr) : Option (Str × Str) → List Cell
  | none => []
  | some p => [(t, HO.tup [.str p.1, .str p.2])]
def Grown.word : Grown → Str
  | .told _ => "told"
  | .no _ => "none"
def GrOk (W : List Cell) (v : V) : Grown → Prop
  | .told l => ∃ p, v = .ref p ∧ W = [(p, HO.lst (l.map V.str))]
  | .no d => Rp W v d
abbrev skF (es : List (Str × Str)) (n : Str) : List Str := srt (strikersOf es n)
theorem skF_in {N : List Str} {es : List (Str × Str)} (hS : SOk N es) : ∀ z ∈ N, ∀ x ∈ skF es z, x ∈ N := fun z _ x m => (hS.mem _ (mem_strikersOf.mp (srt_mem.mp m))).1
theorem grow_clash {f : Str → List Str} {n : Nat} {held : List Str} {p : Str × Str} (e : clashF f held = some p) : grow f (n + 1) held = .no (clashD p) := by rw [grow, e]
theorem grow_tells {f : Str → List Str} {n : Nat} {held : List Str} (e : clashF f held = none) (e2 : unansF f held = none) : grow f (n + 1) held = .told (srt held) := by rw [grow, e, e2]
theorem grow_tries {f : Str → List Str} {n : Nat} {held : List Str} {p : Str × Str} (e : clashF f held = none) (e2 : unansF f held = some p) : grow f (n + 1) held = growL (fun x => grow f n (held ++ [x])) (answerD p) (f p.2) [] := by rw [grow, e, e2]
theorem alm_here {A L : List Cell} : ∀ c ∈ A, c ∈ A ++ L := fun c m => List.mem_append_left _ m
theorem alm_cons {A L : List Cell} {x : Cell} (h : ∀ c ∈ A, c ∈ L) : ∀ c ∈ A, c ∈ x :: L := fun c m => .tail _ (h c m)
theorem alm_app {A L B : List Cell} (h : ∀ c ∈ A, c ∈ L) : ∀ c ∈ A, c ∈ B ++ L := fun c m => List.mem_append_right _ (h c m)
abbrev kM (ks us : List Nat) (n m : Nat) : Nat := keptN ks (hitN us m n) n
def SubM (a b : Nat) : Prop := ∀ i, a.testBit i = true → b.testBit i = true
theorem SubM.land {a b : Nat} (h : SubM a b) : a &&& b = a := Nat.eq_of_testBit_eq fun i => by
  rw [Nat.testBit_and]
  cases e : a.testBit i with
  | false => rfl
  | true => rw [h i e]; rfl
theorem SubM.le {a b : Nat} (h : SubM a b) : a ≤ b := by
  have := Nat.and_le_right (n := a) (m := b)
  rw [h.land] at this
  exact this
theorem SubM.trans {a b c : Nat} (h : SubM a b) (h' : SubM b c) : SubM a c := fun i q => h' i (h i q)
theorem SubM.zero (b : Nat) : SubM 0 b := fun i h => by rw [Nat.zero_testBit] at h; cases h
theorem kM_mono {ks us : List Nat} {n a b : Nat} (h : SubM a b) : SubM (kM ks us n a) (kM ks us n b) := fun i hi => by
  obtain ⟨h1, h2⟩ := (keptN_bit n).mp hi
  refine (keptN_bit n).mpr ⟨h1, sub_and.mpr fun j hj => hit_mono h.land (sub_and.mp h2 j hj)⟩
theorem mem_skF {es : List (Str × Str)} {x z : Str} : x ∈ skF es z ↔ (x, z) ∈ es := by
  unfold skF
  rw [srt_mem, mem_strikersOf]
theorem StandF.congr {f : Str → List Str} {S S' : Str → Prop} (h : ∀ z, S z ↔ S' z) (hS : StandF f S) : StandF f S' :=
  ⟨fun x y hx hy => hS.1 x y ((h x).mpr hx) ((h y).mpr hy), fun x y hx hy => by
    obtain ⟨z, h1, h2⟩ := hS.2 x y ((h x).mpr hx) hy
    exact ⟨z, h1, (h z).mp h2⟩⟩
theorem standF_set {N : List Str} {es : List (Str × Str)} {ks us : List Nat} (hV : VwOk N es ks us) (nd : N.Nodup) (hS : SOk N es) {m : Nat} (hm : m < 2 ^ N.length) : StandF (skF es) (· ∈ setOf N m) ↔ m ∈ standM ks us N.length := by
  rw [mem_standM hV.ul, ← quiet_same hV m, ← back_same hV nd hS hm]
  constructor
  · intro h
    refine ⟨hm, fun x y hx hy he => h.1 x y hx hy (mem_skF.mpr he), fun x y hy he => ?_⟩
    obtain ⟨z, h1, h2⟩ := h.2 y x hy (mem_skF.mpr he)
    exact ⟨z, h2, mem_skF.mp h1⟩
  · intro h
    refine ⟨fun x y hx hy he => h.2.1 x y hx hy (mem_skF.mp he), fun x y hx hy => ?_⟩
    obtain ⟨z, h1, h2⟩ := h.2.2 y x hx (mem_skF.mp hy)
    exact ⟨z, mem_skF.mpr h2, h1⟩
theorem standF_mask {N ys : List Str} {es : List (Str × Str)} {ks us : List Nat} (hV : VwOk N es ks us) (nd : N.Nodup) (hS : SOk N es) (hs : ∀ y ∈ ys, y ∈ N) : StandF (skF es) (· ∈ ys) ↔ maskL N ys ∈ standM ks us N.length := by
  rw [← standF_set hV nd hS (maskL_lt nd hs)]
  exact ⟨StandF.congr fun z => (setOf_mask nd hs z).symm, StandF.congr fun z => setOf_mask nd hs z⟩
theorem mask_sub {N ys : List Str} {m : Nat} (nd : N.Nodup) (hs : ∀ y ∈ ys, y ∈ N) : maskL N ys - (maskL N ys &&& m) = 0 ↔ ∀ y ∈ ys, y ∈ setOf N m := by
  rw [sub_and]
  constructor
  · intro h y hy
    have e := idx_at (hs y hy)
    exact mem_setOf.mpr ⟨_, e, h _ ((maskL_bit nd hs _).mpr ⟨y, hy, e⟩)⟩
  · intro h j hj
    obtain ⟨y, hy, e⟩ := (maskL_bit nd hs j).mp hj
    obtain ⟨a, ha, hb⟩ := mem_setOf.mp (h y hy)
    have : a = j := by
      have h1 := (List.getElem?_eq_some_iff.mp ha).1
      exact (List.getElem?_inj h1 nd).mp (ha.trans e.symm)
    rw [← this]
    exact hb
theorem standM_len {ks us : List Nat} {n : Nat} (hl : us.length = n) (hn : n ≤ 12) : (standM ks us n).length ≤ 4096 := by
  have h8 : (standM ks us n).length ≤ ((quietP us n).map Prod.fst).length := List.length_filter_le _ _
  have h9 := quietP_len us n
  rw [List.length_map] at h8
  have h10 : 2 ^ n ≤ 2 ^ 12 := Nat.pow_le_pow_right (by decide) hn
  omega
structure ToldOk (N : List Str) (ks us : List Nat) (ys l : List Str) : Prop where
  nd : l.Nodup
  rise : Rise l
  sub : ∀ u ∈ l, u ∈ N
  mem : maskL N l ∈ standM ks us N.length
  all : maskL N ys - (maskL N ys &&& maskL N l) = 0
theorem grow_ok {N ys l : List Str} {es : List (Str × Str)} {ks us : List Nat} (hV : VwOk N es ks us) (nd : N.Nodup) (hS : SOk N es) (ny : ys.Nodup) (hs : ∀ y ∈ ys, y ∈ N) {n : Nat} (hf : outN N ys < n) (h : grow (skF es) n ys = .told l) : ToldOk N ks us ys l := by
  obtain ⟨more, e1, e2, e3, e4⟩ := grow_told (fun z m x mx => skF_in hS z m x mx) hf hs h
  have nd2 : (ys ++ more).Nodup := List.nodup_append.mpr ⟨ny, e3, fun a ha b hb e => (e2 b hb).2 (e ▸ ha)⟩
  have hsub : ∀ u ∈ l, u ∈ N := fun u mu => by
    rw [e1] at mu
    rcases List.mem_append.mp (srt_mem.mp mu) with m | m
    · exact hs u m
    · exact (e2 u m).1
  refine ⟨by rw [e1]; exact srt_nodup.mpr nd2, by rw [e1]; exact rise_srt _, hsub, (standF_mask hV nd hS hsub).mp (StandF.congr (fun z => ?_) e4), ?_⟩
  · rw [e1, srt_mem]
  · refine (mask_sub nd hs).mpr fun y hy => (setOf_mask nd hsub y).mpr ?_
    rw [e1]
    exact srt_mem.mpr (List.mem_append_left _ hy)
theorem grow_any {N ys : List Str} {es : List (Str × Str)} {ks us : List Nat} (hV : VwOk N es ks us) (nd : N.Nodup) (hS : SOk N es) (ny : ys.Nodup) (hs : ∀ y ∈ ys, y ∈ N) {n : Nat} (hf : outN N ys < n) :
    ((standM ks us N.length).any fun u => decide (maskL N ys - (maskL N ys &&& u) = 0)) = true ↔ ∃ l, grow (skF es) n ys = .told l := by
  rw [List.any_eq_true]
  constructor
  · rintro ⟨m, hm, h⟩
    cases hg : grow (skF es) n ys with
    | told l => exact ⟨l, rfl⟩
    | no d =>
      have hlt := ((mem_standM hV.ul).mp hm).1
      exact absurd ((mask_sub nd hs).mp (of_decide_eq_true h)) (grow_no (fun z m x mx => skF_in hS z m x mx) hf hs hg (· ∈ setOf N m) ((standF_set hV nd hS hlt).mpr hm))
  · rintro ⟨l, hg⟩
    have hT := grow_ok hV nd hS ny hs hf hg
    exact ⟨_, hT.mem, decide_eq_true hT.all⟩
theorem rd_slFromA {K : PySem.W.Frag} {H : Hp} {L : List Cell} {a : Addr} {i : Int} {Q : VK} {α : Type} {f : α → V} {zs : List α} (hA : At H L) (m : (a, HO.lst (zs.map f)) ∈ L) (h0 : 0 ≤ i) (k : ∀ p H', At H' ((p, .lst ((zs.drop i.toNat).map f)) :: L) → Q (.ref p) H') : SlK (rSlL K) (.ref a) (some i) none H Q := by
  refine rd_slL hA m fun p H' h => k p H' ?_
  have e : cutV (zs.map f) (some i) none = (zs.drop i.toNat).map f := by
    unfold cutV
    have e1 : HT.sIx (zs.map f).length 0 (some i) = min i.toNat (zs.map f).length := by
      show (if i < 0 then _ else min i.toNat (zs.map f).length) = _
      rw [if_neg (by omega)]
    rw [e1]
    show ((zs.map f).drop _).take ((zs.map f).length - _) = _
    rw [List.take_of_length_le (by rw [List.length_drop]; exact Nat.le_refl _), List.map_drop]
    by_cases hq : i.toNat ≤ (zs.map f).length
    · rw [Nat.min_eq_left hq]
    · have h5 : (zs.map f).length ≤ i.toNat := by omega
      rw [Nat.min_eq_right h5, List.drop_of_length_le h5, List.drop_of_length_le (Nat.le_refl _)]
  rw [e] at h
  exact h
theorem rd_ixEnd {K : PySem.W.Frag} {H : Hp} {L : List Cell} {a : Addr} {Q : VK} {α : Type} {f : α → V} {zs : List α} (hA : At H L) (m : (a, HO.lst (zs.map f)) ∈ L) (h : 0 < zs.length) (k : ∀ z, zs.getLast? = some z → Q (f z) H) : rIxL K (.ref a) (.int (-1)) H Q := by
  obtain ⟨z, hz⟩ : ∃ z, zs.getLast? = some z := by
    rw [List.getLast?_eq_getElem?]
    exact ⟨_, List.getElem?_eq_getElem (by omega)⟩
  refine rd_ixL hA m ?_ (k z hz)
  unfold atI ixN
  rw [if_neg (by decide)]
  rw [List.getLast?_eq_getElem?] at hz
  rw [List.length_map]
  rw [if_pos (by omega)]
  have e : (-1 + (zs.length : Int)).toNat = zs.length - 1 := by omega
  rw [e]
  show (zs.map f)[zs.length - 1]? = _
  rw [List.getElem?_map, hz]
  rfl
end Sw

namespace Sw
open PySem L2 PySem.W
section
variable {X : Cx} {K : PySem.W.Frag} {σ : L2.St} {H : Hp} {Q : VK} {D : Ends} {L F : List Cell} {a b d p : Addr} {te : TE} {tt : TT} {g : TG} {vs : List Nat}
theorem lc_rps {us : List Str} (f : Str → PyData) (hA : At H L) (m : (a, HO.lst (us.map V.str)) ∈ L) (hn : us.length < 100000)
    (hs : ∀ u H' D acc (C : List Cell) (Yk : V → Hp → Prop) (Nk : Hp → Prop), u ∈ us → At H' ((D, .lst acc) :: (C ++ L)) → (∀ v W H4, At H4 (W ++ ((D, .lst acc) :: (C ++ L))) → Rp W v (f u) → Yk v H4) →
      g (.str u) (wipe σ vs) H' fun σ2 H2 => WipeK σ2 σ vs (tt σ2 H2 fun b H3 => Br b (te σ2 H3 Yk) (Nk H3)))
    (hd : ∀ D xs W H', At H' ((D, .lst xs) :: (W ++ L)) → RpAll W xs (us.map f) → Q (.ref D) H') : LcK (Itl K a) g tt te vs σ H Q := by
  have w : L2.Walk (Itl K a) us.length (fun H => SqL K H a (us.map V.str)) (YAt (us.map V.str)) := by
    have := walk_list (K := K) (a := a) (xs := us.map V.str)
    rw [List.length_map] at this
    exact this
  refine lc_inv w hA (fun D i H' => ∃ xs W, At H' ((D, .lst xs) :: (W ++ L)) ∧ RpAll W xs ((us.take i).map f) ∧ xs.length = i) (fun D H' h => ⟨[], [], h, .nil, rfl⟩) (fun D i H' _ ⟨xs, W, h, _⟩ => SqL.of (h.rd (.tail _ (List.mem_append_right _ m)))) (fun D i x H1 H' hi ⟨xs, W, h, e, hl⟩ hy => ?_) (fun D H' ⟨xs, W, h, e, _⟩ => hd D xs W H' h (by rw [List.take_length] at e; exact e))
  obtain ⟨rfl, e2⟩ := hy
  rw [List.getElem?_map, List.getElem?_eq_getElem hi] at e2
  cases e2
  have step : ∀ v W2 H4, At H4 (W2 ++ ((D, .lst xs) :: (W ++ L))) → Rp W2 v (f us[i]) → LcPut D v H4 fun H5 => ∃ xs W, At H5 ((D, .lst xs) :: (W ++ L)) ∧ RpAll W xs ((us.take (i + 1)).map f) ∧ xs.length = i + 1 := fun v W2 H4 h4 r4 => by
    refine rd_lcPut (xs := xs) (F := W2 ++ (W ++ L)) (h4.ofPerm List.perm_middle) (by omega) fun H5 h5 => ⟨xs ++ [v], W2 ++ W, ?_, ?_, by rw [List.length_append, hl]; rfl⟩
    · rw [List.append_assoc]
      exact h5
    · rw [List.take_succ, List.getElem?_eq_getElem hi, List.map_append]
      exact RpAll.app (RpAll.mono (fun _ m => List.mem_append_right _ m) e) (.cons (Rp.mono (fun _ m => List.mem_append_left _ m) r4) .nil)
  exact hs us[i] _ D _ _ _ _ (List.getElem_mem hi) h step
end
def beyondD (i : Nat) (ds : List PyData) : PyData := .tuple [.str "beyond", .int i, .tuple ds]
def coverD (x : Str) (ds : List PyData) : PyData := .tuple [.str "cover", .str x, .tuple ds]
def firstF (S : List (List Str)) (held : List Str) : Option Nat := S.findIdx? fun one => held.all fun x => decide (x ∈ one)
def othersF (N : List Str) (S : List (List Str)) (i : Nat) : List Str := N.filter fun x => decide (¬ x ∈ S.getD i [])
def gtree (f : Str → List Str) (N : List Str) (S : List (List Str)) : Nat → List Str → PyData
  | 0, _ => .none
  | n + 1, held => match clashF f held with
    | some p => clashD p
    | none => match unansF f held with
      | some p => answerD p ((f p.2).map fun x => gtree f N S n (held ++ [x]))
      | none => match firstF S held with
        | some i => beyondD i ((othersF N S i).map fun x => gtree f N S n (held ++ [x]))
        | none => .none
def coverL (f : Str → List Str) (x : Str) : List Str := srt (addS [] (f x ++ [x]))
def TrOk (f : Str → List Str) (N : List Str) (S : List (List Str)) (ws : List Str) : Nat → List Str → PyData → Prop
  | 0, _, _ => False
  | n + 1, held, d =>
    (∃ p, d = clashD p ∧ ("clash" : Str) ∈ ws ∧ p.1 ∈ held ∧ p.2 ∈ held ∧ p.1 ∈ f p.2) ∨
    (∃ p ds, d = answerD p ds ∧ ("answer" : Str) ∈ ws ∧ p.1 ∈ held ∧ p.2 ∈ f p.1 ∧ (∀ z ∈ f p.2, ¬ z ∈ held) ∧ ds.length = (f p.2).length ∧ ∀ q ∈ (f p.2).zip ds, TrOk f N S ws n (held ++ [q.1]) q.2) ∨
    (∃ i ds, d = beyondD i ds ∧ ("beyond" : Str) ∈ ws ∧ i < S.length ∧ (∀ z ∈ held, z ∈ S.getD i []) ∧ ds.length = (othersF N S i).length ∧ ∀ q ∈ (othersF N S i).zip ds, TrOk f N S ws n (held ++ [q.1]) q.2) ∨
    (∃ x ds, d = coverD x ds ∧ ("cover" : Str) ∈ ws ∧ x ∈ N ∧ ¬ x ∈ held ∧ (∀ z ∈ held, ¬ z ∈ f x) ∧ ds.length = (coverL f x).length ∧ ∀ q ∈ (coverL f x).zip ds, TrOk f N S ws n (held ++ [q.1]) q.2)
theorem growL_nos {g : Str → Grown} {fin : List PyData → PyData} : ∀ {xs : List Str} {acc : List PyData} {d : PyData}, growL g fin xs acc = .no d → ∃ ds, xs.map g = ds.map Grown.no ∧ d = fin (acc ++ ds)
  | [], acc, d, h => ⟨[], rfl, by rw [List.append_nil]; exact (Grown.no.inj h).symm⟩
  | x :: r, acc, d, h => by
    unfold growL at h
    cases e : g x with
    | told l => rw [e] at h; cases h
    | no d' =>
      rw [e] at h
      obtain ⟨ds, h1, h2⟩ := growL_nos (xs := r) h
      exact ⟨d' :: ds, by rw [List.map_cons, List.map_cons, e, h1], by rw [h2, List.append_assoc]; rfl⟩
theorem zip_no {l : List Str} {g : Str → Grown} {ds : List PyData} (h : l.map g = ds.map Grown.no) : l.length = ds.length ∧ ∀ q ∈ l.zip ds, q.1 ∈ l ∧ g q.1 = .no q.2 := by
  refine ⟨by have := congrArg List.length h; rw [List.length_map, List.length_map] at this; exact this, fun q m => ?_⟩
  obtain ⟨i, hi⟩ := List.getElem?_of_mem m
  obtain ⟨h1, h2⟩ := List.getElem?_zip_eq_some.mp hi
  have h3 := congrArg (fun l => l[i]?) h
  simp only [List.getElem?_map, h1, h2, Option.map_some] at h3
  exact ⟨List.mem_of_getElem? h1, Option.some.inj h3⟩
section
variable {f : Str → List Str} {N : List Str} {S : List (List Str)} {ws : List Str}
theorem held_snoc {held : List Str} {x : Str} (h : ∀ z ∈ held, z ∈ N) (hx : x ∈ N) : ∀ z ∈ held ++ [x], z ∈ N := fun z m => by
  rcases List.mem_append.mp m with m | m
  · exact h z m
  · rw [List.mem_singleton.mp m]; exact hx
theorem grow_tr (hN : ∀ z ∈ N, ∀ x ∈ f z, x ∈ N) (w1 : ("clash" : Str) ∈ ws) (w2 : ("answer" : Str) ∈ ws) : ∀ {n : Nat} {held : List Str} {d : PyData}, outN N held < n → (∀ z ∈ held, z ∈ N) → grow f n held = .no d → TrOk f N S ws n held d
  | 0, held, d, hm, _, _ => absurd hm (Nat.not_lt_zero _)
  | n + 1, held, d, hm, hh, h => by
    unfold grow at h
    cases hc : clashF f held with
    | some p =>
      rw [hc] at h
      obtain ⟨c1, c2, c3⟩ := clash_some hc
      exact .inl ⟨p, (Grown.no.inj h).symm, w1, c1, c2, c3⟩
    | none =>
      rw [hc] at h
      cases hu : unansF f held with
      | none =>
        rw [hu] at h
        have h : Grown.told (srt held) = .no d := h
        cases h
      | some p =>
        rw [hu] at h
        obtain ⟨u1, u2, u3⟩ := unans_some hu
        obtain ⟨ds, e1, e2⟩ := growL_nos (xs := f p.2) h
        obtain ⟨l1, l2⟩ := zip_no e1
        refine .inr (.inl ⟨p, ds, e2, w2, u1, u2, u3, l1.symm, fun q m => ?_⟩)
        obtain ⟨m1, m2⟩ := l2 q m
        have hxN : q.1 ∈ N := hN _ (hN _ (hh _ u1) _ u2) _ m1
        exact grow_tr hN w1 w2 (n := n) (by have := outN_snoc hxN (u3 _ m1); omega) (held_snoc hh hxN) m2
theorem first_at {held : List Str} {i : Nat} (h : firstF S held = some i) : i < S.length ∧ ∀ z ∈ held, z ∈ S.getD i [] := by
  obtain ⟨hi, h1, _⟩ := List.findIdx?_eq_some_iff_getElem.mp h
  refine ⟨hi, fun z m => ?_⟩
  rw [List.getD_eq_getElem?_getD, List.getElem?_eq_getElem hi]
  exact of_decide_eq_true (List.all_eq_true.mp h1 z m)
theorem others_out {held : List Str} {i : Nat} (h : firstF S held = some i) {x : Str} (m : x ∈ othersF N S i) : x ∈ N ∧ ¬ x ∈ held := by
  obtain ⟨h1, h2⟩ := List.mem_filter.mp m
  exact ⟨h1, fun hx => of_decide_eq_true h2 ((first_at h).2 x hx)⟩
def FirstOk (f : Str → List Str) (N : List Str) (S : List (List Str)) (end_ : List Str → Prop) : Prop := ∀ held : List Str, (∀ z ∈ held, z ∈ N) → clashF f held = none → end_ held → (firstF S held).isSome = true
end
theorem gtree_eq {f : Str → List Str} {N : List Str} {S : List (List Str)} {n : Nat} {held : List Str} : gtree f N S (n + 1) held = match clashF f held with
    | some p => clashD p
    | none => match unansF f held with
      | some p => answerD p ((f p.2).map fun x => gtree f N S n (held ++ [x]))
      | none => match firstF S held with
        | some i => beyondD i ((othersF N S i).map fun x => gtree f N S n (held ++ [x]))
        | none => .none := rfl
theorem first_is {S : List (List Str)} {held s : List Str} (h : s ∈ S) (hs : ∀ z ∈ held, z ∈ s) : (firstF S held).isSome = true := by
  unfold firstF
  rw [List.findIdx?_isSome, List.any_eq_true]
  exact ⟨s, h, List.all_eq_true.mpr fun z m => decide_eq_true (hs z m)⟩
section
variable {N : List Str} {es : List (Str × Str)} {ks us : List Nat}
theorem kept_stand (hV : VwOk N es ks us) (nd : N.Nodup) (hS : SOk N es) {m : Nat} (h : m ∈ standM ks us N.length) : kM ks us N.length m ∈ standM ks us N.length ∧ SubM m (kM ks us N.length m) := by
  obtain ⟨h1, h2, h3⟩ := (mem_standM hV.ul).mp h
  have hs : SubM m (kM ks us N.length m) := sub_and.mp h3
  have hlt : kM ks us N.length m < 2 ^ N.length := keptN_lt ks _ N.length (Nat.le_refl _)
  have q := (quiet_same hV m).mpr h2
  have kin : ∀ y, y ∈ setOf N (kM ks us N.length m) → ∀ x, (x, y) ∈ es → ∃ n, n ∈ setOf N m ∧ (n, x) ∈ es := fun y hy => by
    obtain ⟨j, hj, hb⟩ := mem_setOf.mp hy
    exact (kept_iff hV nd hS hj).mp hb
  refine ⟨(mem_standM hV.ul).mpr ⟨hlt, (quiet_same hV _).mp fun x y hx hy he => ?_, sub_and.mpr (kM_mono hs)⟩, hs⟩
  obtain ⟨n, hn, hne⟩ := kin y hy x he
  obtain ⟨n', hn', hne'⟩ := kin x hx n hne
  exact q n' n hn' hn hne'
theorem stand_whole (hV : VwOk N es ks us) (nd : N.Nodup) (hS : SOk N es) : ∀ (k : Nat) {m : Nat}, 2 ^ N.length - m ≤ k → m ∈ standM ks us N.length → ∃ w ∈ wholeM ks us N.length, SubM m w
  | 0, m, hk, h => by
    have := ((mem_standM hV.ul).mp h).1
    omega
  | k + 1, m, hk, h => by
    obtain ⟨h1, h2⟩ := kept_stand hV nd hS h
    by_cases e : m = kM ks us N.length m
    · exact ⟨m, List.mem_filter.mpr ⟨h, decide_eq_true e⟩, fun _ h => h⟩
    · have hle := h2.le
      have hlt := ((mem_standM hV.ul).mp h).1
      obtain ⟨w, mw, hw⟩ := stand_whole hV nd hS k (m := kM ks us N.length m) (by omega) h1
      exact ⟨w, mw, h2.trans hw⟩
theorem SubM.of_land {a b : Nat} (h : a &&& b = a) : SubM a b := fun i hi => by
  have := hi
  rw [← h, Nat.testBit_and, Bool.and_eq_true] at this
  exact this.2
theorem up_great {W : List Nat} {B : Nat} (hB : ∀ m ∈ W, m < B) : ∀ (k : Nat) {m : Nat}, B - m ≤ k → m ∈ W → ∃ w ∈ greatOf W, SubM m w
  | 0, m, hk, h => by
    have := hB m h
    omega
  | k + 1, m, hk, h => by
    by_cases e : m ∈ greatOf W
    · exact ⟨m, e, fun _ h => h⟩
    · have h2 : ¬ ∀ o ∈ W, m &&& o = m → m = o := fun h3 => e (greatOf_mem.mpr ⟨h, h3⟩)
      have h4 : ∃ o, o ∈ W ∧ m &&& o = m ∧ ¬ m = o := Classical.byContradiction fun hn => h2 fun o mo ho => Classical.byContradiction fun hne => hn ⟨o, mo, ho, hne⟩
      obtain ⟨o, mo, ho, hne⟩ := h4
      have hle := (SubM.of_land ho).le
      have hlt := hB m h
      obtain ⟨w, mw, hw⟩ := up_great hB k (m := o) (by omega) mo
      exact ⟨w, mw, (SubM.of_land ho).trans hw⟩
theorem stand_great (hV : VwOk N es ks us) (nd : N.Nodup) (hS : SOk N es) {m : Nat} (h : m ∈ standM ks us N.length) : ∃ w ∈ greatM ks us N.length, SubM m w := by
  obtain ⟨w, mw, hw⟩ := stand_whole hV nd hS _ (Nat.le_refl _) h
  obtain ⟨w2, mw2, hw2⟩ := up_great (W := wholeM ks us N.length) (fun m hm => ((mem_standM hV.ul).mp (List.mem_filter.mp hm).1).1) _ (Nat.le_refl _) mw
  exact ⟨w2, mw2, hw.trans hw2⟩
theorem great_stand (hV : VwOk N es ks us) (nd : N.Nodup) (hS : SOk N es) {m : Nat} : m ∈ greatOf (standM ks us N.length) ↔ m ∈ greatM ks us N.length := by
  constructor
  · intro h
    obtain ⟨h1, h2⟩ := greatOf_mem.mp h
    obtain ⟨w, mw, hw⟩ := stand_great hV nd hS h1
    have : m = w := h2 w (List.mem_filter.mp (greatOf_mem.mp mw).1).1 hw.land
    rw [this]
    exact mw
  · intro h
    obtain ⟨h1, h2⟩ := greatOf_mem.mp h
    refine greatOf_mem.mpr ⟨(List.mem_filter.mp h1).1, fun o mo ho => ?_⟩
    obtain ⟨w, mw, hw⟩ := stand_great hV nd hS mo
    have e : m = w := h2 w (greatOf_mem.mp mw).1 ((SubM.of_land ho).trans hw).land
    refine Nat.le_antisymm (SubM.of_land ho).le ?_
    rw [e]
    exact hw.le
theorem great_first (hV : VwOk N es ks us) (nd : N.Nodup) (hS : SOk N es) : FirstOk (skF es) N (srt ((greatM ks us N.length).map (setOf N))) fun held => unansF (skF es) held = none := fun held hh hc hu => by
  have hst : StandF (skF es) (· ∈ held) := ⟨clash_none hc, fun x y hx hy => unans_none hu x y hx hy⟩
  obtain ⟨w, mw, hw⟩ := stand_great hV nd hS ((standF_mask hV nd hS hh).mp hst)
  refine first_is (srt_mem.mpr (List.mem_map.mpr ⟨w, mw, rfl⟩)) fun z mz => ?_
  exact (mask_sub nd hh).mp (sub_and.mpr hw) z mz
end
theorem inV_nats (x : Nat) (zs : List Nat) : inV (.int (x : Int)) (zs.map nv) = decide (x ∈ zs) := by
  unfold inV
  rw [List.any_map]
  rw [Bool.eq_iff_iff, List.any_eq_true, decide_eq_true_eq]
  constructor
  · rintro ⟨y, m, e⟩
    have e : ((y : Int) == (x : Int)) = true := e
    have e : (y : Int) = (x : Int) := by simpa using e
    have e : y = x := by omega
    rw [← e]
    exact m
  · intro m
    exact ⟨x, m, by show ((x : Int) == (x : Int)) = true; simp⟩
theorem rd_inLn {K : PySem.W.Frag} {H : Hp} {Q : VK} {L : List Cell} {a : Addr} {x : Nat} {zs : List Nat} (hA : At H L) (m : (a, HO.lst (zs.map nv)) ∈ L) (k : Q (.bl (decide (x ∈ zs))) H) : rIn K false (.int (x : Int)) (.ref a) H Q :=
  ⟨a, zs.map nv, rfl, .inl (SqL.of (hA.rd m)), rfl, by rw [List.all_map]; exact List.all_eq_true.mpr fun _ _ => rfl, by show Q (.bl (inV (.int (x : Int)) (zs.map nv))) H; rw [inV_nats]; exact k⟩
end Sw

namespace Sw
open PySem L2 PySem.W
def ZipMK (K : PySem.W.Frag) (vs : List V) (H : Hp) (R : It → Hp → Prop) : Prop := ∃ a b xs ys, vs = [.ref a, .ref b] ∧ SqL K H a xs ∧ SqT K H b ys ∧ R (ItzM K a b) H
theorem rd_zipM {K : PySem.W.Frag} {tl : TA} {σ : L2.St} {H : Hp} {R : It → Hp → Prop} (k : tl σ H fun vs H1 => ZipMK K vs H1 R) : iZipM K tl σ H R := k
theorem rd_zipMk {K : PySem.W.Frag} {H : Hp} {L : List Cell} {a b : Addr} {xs ys : List V} {R : It → Hp → Prop} (hA : At H L) (m : (a, HO.lst xs) ∈ L) (m2 : (b, HO.tup ys) ∈ L) (k : R (ItzM K a b) H) : ZipMK K [.ref a, .ref b] H R := ⟨a, b, xs, ys, rfl, SqL.of (hA.rd m), SqT.of (hA.rd m2), k⟩
theorem rd_ninTs {K : PySem.W.Frag} {H : Hp} {Q : VK} {L : List Cell} {a : Addr} {x : Str} {zs : List Str} (hA : At H L) (m : (a, HO.tup (zs.map V.str)) ∈ L) (k : Q (.bl (!decide (x ∈ zs))) H) : rIn K true (.str x) (.ref a) H Q :=
  ⟨a, zs.map V.str, rfl, .inr (SqT.of (hA.rd m)), rfl, flat_strs zs, by show Q (.bl (!inV (.str x) (zs.map V.str))) H; rw [inV_strs]; exact k⟩
section
variable {L : List Cell} {v : V}
end
section
variable {N : List Str} {es : List (Str × Str)} {ks us : List Nat}
end
structure TOk (N : List Str) (es : List (Str × Str)) (ks us : List Nat) (S : List (List Str)) (held : List Str) : Prop where
  nd : N.Nodup
  rise : Rise N
  ok : SOk N es
  vw : VwOk N es ks us
  sub : ∀ z ∈ held, z ∈ N
  sets : ∀ s ∈ S, ∀ z ∈ s, z ∈ N
  len : N.length ≤ 12
  slen : S.length ≤ 1000
theorem TOk.snoc {N : List Str} {es : List (Str × Str)} {ks us : List Nat} {S : List (List Str)} {held : List Str} {x : Str} (h : TOk N es ks us S held) (hx : x ∈ N) : TOk N es ks us S (held ++ [x]) :=
  ⟨h.nd, h.rise, h.ok, h.vw, held_snoc h.sub hx, h.sets, h.len, h.slen⟩
theorem maskL_one {N : List Str} (x : Str) : maskL N [x] = 1 <<< N.idxOf x := by
  unfold maskL
  show 0 ||| _ = _
  rw [Nat.zero_or]
def swN : Option Nat → V
  | none => .non
  | some i => .int (i : Int)
theorem firstF_at {S : List (List Str)} {held s : List Str} {i : Nat} (h : S[i]? = some s) (hn : ∀ y ∈ S.take i, (held.all fun x => decide (x ∈ y)) = false) (hs : (held.all fun x => decide (x ∈ s)) = true) : firstF S held = some i := by
  unfold firstF
  refine List.findIdx?_eq_some_iff_getElem.mpr ⟨(List.getElem?_eq_some_iff.mp h).1, by rw [(List.getElem?_eq_some_iff.mp h).2]; exact hs, fun j hj => ?_⟩
  have hil := (List.getElem?_eq_some_iff.mp h).1
  rw [hn _ (List.mem_take_iff_getElem.mpr ⟨j, by omega, rfl⟩)]
  exact Bool.false_ne_true
theorem firstF_no {S : List (List Str)} {held : List Str} (hn : ∀ y ∈ S, (held.all fun x => decide (x ∈ y)) = false) : firstF S held = none := by
  unfold firstF
  exact List.findIdx?_eq_none_iff.mpr hn
section
variable {K : PySem.W.Frag} {H : Hp} {Q : VK} {L : List Cell} {a : Addr} {v : V}
theorem rd_slT {xs : List V} {l u : Option Int} (hA : At H L) (m : (a, HO.tup xs) ∈ L) (hw : ¬ (HT.sIx xs.length 0 l = 0 ∧ HT.sIx xs.length xs.length u = xs.length)) (k : ∀ p H', At H' ((p, .tup (cutV xs l u)) :: L) → Q (.ref p) H') : SlK (rSlT K) (.ref a) l u H Q :=
  ⟨a, xs, rfl, SqT.of (hA.rd m), hw, fun p hp => k p _ (hA.new hp)⟩
theorem rd_sl3 {x y z : V} (hA : At H L) (m : (a, HO.tup [x, y, z]) ∈ L) (k : ∀ p H', At H' ((p, .tup [y, z]) :: L) → Q (.ref p) H') : SlK (rSlT K) (.ref a) (some 1) none H Q :=
  rd_slT hA m (show ¬ (HT.sIx 3 0 (some 1) = 0 ∧ HT.sIx 3 3 none = 3) from by decide) k
theorem rd_sl4 {x y z w : V} (hA : At H L) (m : (a, HO.tup [x, y, z, w]) ∈ L) (k : ∀ p H', At H' ((p, .tup [y, z]) :: L) → Q (.ref p) H') : SlK (rSlT K) (.ref a) (some 1) (some 3) H Q :=
  rd_slT hA m (show ¬ (HT.sIx 4 0 (some 1) = 0 ∧ HT.sIx 4 4 (some 3) = 4) from by decide) k
theorem rd_ninPn {x : Nat} {zs : List Nat} (hA : At H L) (m : (a, HO.lst (zs.map nv)) ∈ L) (k : Q (.bl (!decide (x ∈ zs))) H) : rNinP K (.int (x : Int)) (.ref a) H Q := by
  refine rd_ninP (x := (x : Int)) (zs := zs.map fun n : Nat => (n : Int)) (by decide) hA (is_int _) (is_ints (by rw [List.map_map]; exact m)) ?_
  have e : decide ((x : Int) ∈ zs.map fun n : Nat => (n : Int)) = decide (x ∈ zs) := by
    rw [decide_eq_decide, List.mem_map]
    constructor
    · rintro ⟨n, mn, e⟩
      have e : n = x := by omega
      exact e ▸ mn
    · exact fun h => ⟨x, h, rfl⟩
  rw [e]
  exact k
end
section
variable {N : List Str} {es : List (Str × Str)} {ks us : List Nat}
end
section
variable {f : Str → List Str} {N held : List Str} {S : List (List Str)} {n : Nat} {p : Str × Str} {i : Nat} {x : Str}
theorem gt_clash (e : clashF f held = some p) : gtree f N S (n + 1) held = clashD p := by rw [gtree_eq, e]
theorem gt_ans (e : clashF f held = none) (e2 : unansF f held = some p) : gtree f N S (n + 1) held = answerD p ((f p.2).map fun x => gtree f N S n (held ++ [x])) := by rw [gtree_eq, e, e2]
theorem gt_bey (e : clashF f held = none) (e2 : unansF f held = none) (e3 : firstF S held = some i) : gtree f N S (n + 1) held = beyondD i ((othersF N S i).map fun x => gtree f N S n (held ++ [x])) := by rw [gtree_eq, e, e2, e3]
end
end Sw

namespace Sw
open PySem L2 PySem.W
def fibN : Nat → Nat
  | 0 => 1
  | 1 => 1
  | n + 2 => fibN (n + 1) + fibN n
theorem fibN_pos : ∀ n, 1 ≤ fibN n
  | 0 => Nat.le_refl _
  | 1 => Nat.le_refl _
  | n + 2 => Nat.le_trans (fibN_pos (n + 1)) (Nat.le_add_right _ _)
theorem fibN_up (n : Nat) : fibN (n + 1) ≤ fibN (n + 2) := Nat.le_add_right _ _
theorem fibN_mono {a b : Nat} (h : a ≤ b) : fibN a ≤ fibN b := by
  induction h with
  | refl => exact Nat.le_refl _
  | @step m _ ih =>
    refine Nat.le_trans ih ?_
    cases m with
    | zero => exact Nat.le_refl _
    | succ m => exact fibN_up m
theorem filter_len2 {α : Type} (p : α → Bool) : ∀ F : List α, F.length = (F.filter p).length + (F.filter fun x => !p x).length
  | [] => rfl
  | x :: F => by
    have ih := filter_len2 p F
    rw [List.filter_cons, List.filter_cons, List.length_cons]
    cases p x with
    | true =>
      show _ = (x :: F.filter p).length + (F.filter fun x => !p x).length
      rw [List.length_cons]
      omega
    | false =>
      show _ = (F.filter p).length + (x :: F.filter fun x => !p x).length
      rw [List.length_cons]
      omega
def ConfIn (E : Str → Str → Prop) (V : List Str) (A B : List Str) : Prop := ∃ a b, a ∈ V ∧ b ∈ V ∧ a ∈ A ∧ b ∈ B ∧ E a b
theorem len_le_one {α : Type} {R : α → α → Prop} {F : List α} (h : F.Pairwise R) (hn : ∀ A ∈ F, ∀ B ∈ F, ¬ R A B) : F.length ≤ 1 := by
  cases F with
  | nil => exact Nat.zero_le _
  | cons A F =>
    cases F with
    | nil => exact Nat.le_refl _
    | cons B F => exact absurd ((List.pairwise_cons.mp h).1 B (.head _)) (hn A (.head _) B (.tail _ (.head _)))
theorem conf_bound {E : Str → Str → Prop} (hE : ∀ a b, E a b → E b a) : ∀ (n : Nat) (V : List Str), V.length ≤ n → ∀ F : List (List Str), (∀ A ∈ F, ∀ a b, a ∈ A → b ∈ A → ¬ E a b) → F.Pairwise (ConfIn E V) → F.length ≤ fibN n
  | 0, V, hl, F, hi, hp => by
    have e : V = [] := List.length_eq_zero_iff.mp (Nat.le_zero.mp hl)
    subst e
    exact len_le_one hp fun A _ B _ ⟨a, b, ha, _⟩ => nomatch ha
  | 1, [], hl, F, hi, hp => len_le_one hp fun A _ B _ ⟨a, b, ha, _⟩ => nomatch ha
  | 1, [v], hl, F, hi, hp => len_le_one hp fun A mA B _ ⟨a, b, ha, hb, haA, hbB, he⟩ => by
    rw [List.mem_singleton] at ha hb
    subst ha
    subst hb
    exact hi A mA _ _ haA haA he
  | 1, _ :: _ :: _, hl, F, hi, hp => absurd hl (by simp)
  | n + 2, [], hl, F, hi, hp => Nat.le_trans (len_le_one hp fun A _ B _ ⟨a, b, ha, _⟩ => nomatch ha) (fibN_pos _)
  | n + 2, v :: V, hl, F, hi, hp => by
    have hl1 : V.length ≤ n + 1 := by
      have : (v :: V).length = V.length + 1 := rfl
      omega
    by_cases hu : ∃ u, u ∈ V ∧ E u v
    · obtain ⟨u, huV, huE⟩ := hu
      have hs := filter_len2 (fun A : List Str => decide (v ∈ A)) F
      have h0 : (F.filter fun A => !decide (v ∈ A)).length ≤ fibN (n + 1) := by
        refine conf_bound hE (n + 1) V hl1 _ (fun A mA => hi A (List.mem_filter.mp mA).1) ((hp.filter _).imp_of_mem fun {A B} mA mB ⟨a, b, ha, hb, haA, hbB, he⟩ => ?_)
        have nA : ¬ v ∈ A := by simpa using (List.mem_filter.mp mA).2
        have nB : ¬ v ∈ B := by simpa using (List.mem_filter.mp mB).2
        refine ⟨a, b, ?_, ?_, haA, hbB, he⟩
        · rcases List.mem_cons.mp ha with e | h
          · exact absurd (e ▸ haA) nA
          · exact h
        · rcases List.mem_cons.mp hb with e | h
          · exact absurd (e ▸ hbB) nB
          · exact h
      have h1 : (F.filter fun A => decide (v ∈ A)).length ≤ fibN n := by
        refine conf_bound hE n (V.erase u) (by rw [List.length_erase_of_mem huV]; omega) _ (fun A mA => hi A (List.mem_filter.mp mA).1) ((hp.filter _).imp_of_mem fun {A B} mA mB ⟨a, b, ha, hb, haA, hbB, he⟩ => ?_)
        obtain ⟨mA, vA⟩ := List.mem_filter.mp mA
        obtain ⟨mB, vB⟩ := List.mem_filter.mp mB
        have vA := of_decide_eq_true vA
        have vB := of_decide_eq_true vB
        refine ⟨a, b, ?_, ?_, haA, hbB, he⟩
        · rcases List.mem_cons.mp ha with e | h
          · exact absurd (e ▸ he) (hi B mB v b vB hbB)
          · refine (List.mem_erase_of_ne fun e => ?_).mpr h
            exact hi A mA u v (e ▸ haA) vA huE
        · rcases List.mem_cons.mp hb with e | h
          · exact absurd (e ▸ he) (hi A mA a v haA vA)
          · refine (List.mem_erase_of_ne fun e => ?_).mpr h
            exact hi B mB u v (e ▸ hbB) vB huE
      rw [hs]
      show _ ≤ fibN (n + 1) + fibN n
      omega
    · refine Nat.le_trans (conf_bound hE (n + 1) V hl1 F hi (hp.imp_of_mem fun {A B} mA mB ⟨a, b, ha, hb, haA, hbB, he⟩ => ?_)) (fibN_up n)
      refine ⟨a, b, ?_, ?_, haA, hbB, he⟩
      · rcases List.mem_cons.mp ha with e | h
        · subst e
          rcases List.mem_cons.mp hb with e | h
          · subst e
            exact absurd he (hi A mA _ _ haA haA)
          · exact absurd ⟨b, h, hE _ _ he⟩ hu
        · exact h
      · rcases List.mem_cons.mp hb with e | h
        · subst e
          rcases List.mem_cons.mp ha with e | h
          · subst e
            exact absurd he (hi A mA _ _ haA haA)
          · exact absurd ⟨a, h, he⟩ hu
        · exact h
def edgeE (es : List (Str × Str)) (a b : Str) : Prop := (a, b) ∈ es ∨ (b, a) ∈ es
section
variable {N : List Str} {es : List (Str × Str)} {ks us : List Nat}
theorem masks_few (nd : N.Nodup) {ms : List Nat} (hm : ms.Nodup) (hq : ∀ m ∈ ms, ∀ x y, x ∈ setOf N m → y ∈ setOf N m → ¬ (x, y) ∈ es) (hc : ∀ m ∈ ms, ∀ o ∈ ms, m ≠ o → ∃ a b, a ∈ setOf N m ∧ b ∈ setOf N o ∧ edgeE es a b) : ms.length ≤ fibN N.length := by
  have h := conf_bound (E := edgeE es) (fun a b h => h.symm) N.length N (Nat.le_refl _) (ms.map (setOf N)) (fun A mA a b ha hb he => ?_) ?_
  · rw [List.length_map] at h
    exact h
  · obtain ⟨m, mm, rfl⟩ := List.mem_map.mp mA
    rcases he with he | he
    · exact hq m mm a b ha hb he
    · exact hq m mm b a hb ha he
  · refine List.pairwise_map.mpr (List.Pairwise.imp_of_mem (R := fun a b => a ≠ b) (fun {m o} mm mo hne => ?_) hm)
    obtain ⟨a, b, h1, h2, h3⟩ := hc m mm o mo hne
    exact ⟨a, b, (setOf_sub N m).subset h1, (setOf_sub N o).subset h2, h1, h2, h3⟩
theorem mem_setOf_or {m o : Nat} {x : Str} : x ∈ setOf N (m ||| o) ↔ x ∈ setOf N m ∨ x ∈ setOf N o := by
  rw [mem_setOf, mem_setOf, mem_setOf]
  constructor
  · rintro ⟨a, ha, hb⟩
    rw [Nat.testBit_or, Bool.or_eq_true] at hb
    exact hb.elim (fun h => .inl ⟨a, ha, h⟩) fun h => .inr ⟨a, ha, h⟩
  · rintro (⟨a, ha, hb⟩ | ⟨a, ha, hb⟩)
    · exact ⟨a, ha, by rw [Nat.testBit_or, hb, Bool.true_or]⟩
    · exact ⟨a, ha, by rw [Nat.testBit_or, hb, Bool.or_true]⟩
theorem great_few (hV : VwOk N es ks us) (nd : N.Nodup) (hS : SOk N es) : (greatM ks us N.length).length ≤ fibN N.length := by
  have st : ∀ m ∈ greatM ks us N.length, m ∈ standM ks us N.length := fun m h => (List.mem_filter.mp (greatOf_mem.mp h).1).1
  refine masks_few (es := es) nd ((wholeM_nd hV.ul).filter _) (fun m hm => ?_) fun m hm o ho hne => ?_
  · exact (quiet_same hV m).mpr ((mem_standM hV.ul).mp (st m hm)).2.1
  · refine Classical.byContradiction fun hno => hne ?_
    have hno : ∀ a b, a ∈ setOf N m → b ∈ setOf N o → ¬ edgeE es a b := fun a b ha hb he => hno ⟨a, b, ha, hb, he⟩
    have fm := (standF_set hV nd hS ((mem_standM hV.ul).mp (st m hm)).1).mpr (st m hm)
    have fo := (standF_set hV nd hS ((mem_standM hV.ul).mp (st o ho)).1).mpr (st o ho)
    have hlt : m ||| o < 2 ^ N.length := Nat.or_lt_two_pow ((mem_standM hV.ul).mp (st m hm)).1 ((mem_standM hV.ul).mp (st o ho)).1
    have fu : StandF (skF es) (· ∈ setOf N (m ||| o)) := by
      refine ⟨fun x y hx hy he => ?_, fun x y hx hy => ?_⟩
      · rcases mem_setOf_or.mp hx with hx | hx
        · rcases mem_setOf_or.mp hy with hy | hy
          · exact fm.1 x y hx hy he
          · exact hno x y hx hy (.inl (mem_skF.mp he))
        · rcases mem_setOf_or.mp hy with hy | hy
          · exact hno y x hy hx (.inr (mem_skF.mp he))
          · exact fo.1 x y hx hy he
      · rcases mem_setOf_or.mp hx with hx | hx
        · obtain ⟨z, h1, h2⟩ := fm.2 x y hx hy
          exact ⟨z, h1, mem_setOf_or.mpr (.inl h2)⟩
        · obtain ⟨z, h1, h2⟩ := fo.2 x y hx hy
          exact ⟨z, h1, mem_setOf_or.mpr (.inr h2)⟩
    obtain ⟨w, mw, hw⟩ := stand_great hV nd hS ((standF_set hV nd hS hlt).mp fu)
    have hm1 : SubM m w := fun i hi => hw i (by rw [Nat.testBit_or, hi, Bool.true_or])
    have ho1 : SubM o w := fun i hi => hw i (by rw [Nat.testBit_or, hi, Bool.or_true])
    rw [(greatOf_mem.mp hm).2 w (greatOf_mem.mp mw).1 hm1.land, (greatOf_mem.mp ho).2 w (greatOf_mem.mp mw).1 ho1.land]
theorem great_le (hV : VwOk N es ks us) (nd : N.Nodup) (hS : SOk N es) (h : N.length ≤ 12) : (greatM ks us N.length).length ≤ 233 := Nat.le_trans (great_few hV nd hS) (Nat.le_trans (fibN_mono h) (by decide))
end
end Sw

namespace Sw
open PySem L2 PySem.W
theorem okD_up : ∀ {n : Nat} {d : PyData}, okD n d → okD (n + 1) d
  | 0, _, h => h.elim
  | n + 1, .list ds, h => ⟨h.1, fun d m => okD_up (h.2 d m)⟩
  | n + 1, .tuple ds, h => ⟨h.1, fun d m => okD_up (h.2 d m)⟩
  | n + 1, .dict _, h => h.elim
  | n + 1, .none, _ => trivial
  | n + 1, .bool _, _ => trivial
  | n + 1, .int _, _ => trivial
  | n + 1, .str _, _ => trivial
theorem okD_le {n m : Nat} {d : PyData} (h : n ≤ m) (o : okD n d) : okD m d := by
  induction h with
  | refl => exact o
  | step _ ih => exact okD_up ih
section
variable {f : Str → List Str} {N : List Str} {S : List (List Str)} {ws : List Str}
end
section
variable {K : PySem.W.Frag} {H : Hp} {L : List Cell} {a : Addr} {Q : VK}
theorem rd_slInit {xs : List Str} {x : Str} (hA : At H L) (m : (a, HO.lst ((xs ++ [x]).map V.str)) ∈ L) (k : ∀ p H', At H' ((p, .lst (xs.map V.str)) :: L) → Q (.ref p) H') : SlK (rSlL K) (.ref a) none (some (-1)) H Q := by
  refine rd_slL hA m fun p H' h => k p H' ?_
  have e : cutV ((xs ++ [x]).map V.str) none (some (-1)) = xs.map V.str := by
    have hl : ((xs ++ [x]).map V.str).length = xs.length + 1 := by rw [List.length_map, List.length_append]; rfl
    unfold cutV
    rw [hl]
    have e1 : HT.sIx (xs.length + 1) (xs.length + 1) (some (-1)) = xs.length := by
      show (if (-1 : Int) < 0 then ((-1 : Int) + ((xs.length + 1 : Nat) : Int)).toNat else min (-1 : Int).toNat (xs.length + 1)) = xs.length
      rw [if_pos (by decide)]
      omega
    rw [e1]
    show ((( xs ++ [x]).map V.str).drop 0).take (xs.length - 0) = _
    rw [List.drop_zero, Nat.sub_zero, List.map_append, List.take_append_of_le_length (by rw [List.length_map]; exact Nat.le_refl _)]
    exact List.take_of_length_le (by rw [List.length_map]; exact Nat.le_refl _)
  rw [e] at h
  exact h
end
end Sw

namespace Sw
open PySem L2 PySem.W
theorem ip_le {a b : Int × Int} : (!(DatumOrd.lt b a)) = true ↔ a.1 < b.1 ∨ (a.1 = b.1 ∧ a.2 ≤ b.2) := by
  show (!(if b.1 = a.1 then DatumOrd.lt b.2 a.2 else DatumOrd.lt b.1 a.1)) = true ↔ _
  by_cases h : b.1 = a.1
  · rw [if_pos h, int_le]
    constructor
    · exact fun g => .inr ⟨h.symm, g⟩
    · exact fun g => g.elim (fun g => by omega) And.right
  · rw [if_neg h, int_le]
    constructor
    · exact fun g => .inl (by omega)
    · exact fun g => g.elim (fun g => by omega) (fun g => by omega)
instance : LinO (Int × Int) where
  tr a b c h1 h2 := by
    rw [ip_le] at h1 h2 ⊢
    omega
  tot a b := by
    rw [Bool.or_eq_true, ip_le, ip_le]
    omega
  anti a b h1 h2 := by
    rw [ip_le] at h1 h2
    exact Prod.ext (by omega) (by omega)
section
variable {bt : Nat → Nat}
end
section
variable {N : List Str} {es : List (Str × Str)} {ks us : List Nat}
end
end Sw

namespace Sw
open PySem L2 PySem.W
def rc (rs : List (Addr × Bool × List Str)) : List Cell := rs.map fun z => (z.1, rowO z.2.1 (z.2.2.map V.str))
def rcr (rs : List (Addr × Bool × List Str)) : List V := rs.map fun z => V.ref z.1
section
variable {X : Cx} {K : PySem.W.Frag} {σ : L2.St} {H : Hp} {Q : VK} {L F : List Cell} {te : TE} {tt : TT} {g : TG} {vs : List Nat} {l : Addr} {a b c : Int}
end
end Sw

namespace Sw
open PySem L2 PySem.W
inductive FoW where
  | told (l : List Str)
  | no (d : PyData)
  | sets (zs : List (Addr × List Str)) (d : PyData)
def foOk (v : V) (L : List Cell) : FoW → Prop
  | .told l => True ∧ l.length ≤ 1000
  | .no d => Rp L v d
  | .sets zs d => Rp L v d ∧ zs.length ≤ 1000 ∧ ∀ u ∈ zs, u.2.length ≤ 1000
theorem kit_sl : kitB "str" "list" = some false := by decide +kernel
theorem no_nt : ¬ (("none" : Str) = "told") := by decide +kernel
end Sw

namespace Sw
open PySem L2 PySem.W
structure LW where
  t : Addr
  x : Addr
  q : Addr
  e : Addr
  vs : List V
  ns : List Str
  es : List (Str × Str)
  ks : List Nat
  us : List Nat
structure LWok (K : PySem.W.Frag) (L : List Cell) (z : LW) : Prop where
  mt : (z.t, HO.tup [.ref z.x, .ref z.q, .ref z.e]) ∈ L
  web : WebIn K L z.x z.ns z.es
  mq : (z.q, HO.lst (z.ns.map V.str)) ∈ L
  me : (z.e, HO.lst z.vs) ∈ L
  iss : Iss L z.vs z.es
  nd : z.ns.Nodup
  sok : SOk z.ns z.es
  nb : ∀ y ∈ z.ns, nameB y = true
  hl : z.ns.length ≤ 12 ∧ z.es.length ≤ 3000
  vw : VwOk (srt z.ns) z.es z.ks z.us
theorem LWok.mono {K : PySem.W.Frag} {L L' : List Cell} {z : LW} (h : LWok K L z) (s : ∀ c ∈ L, c ∈ L') : LWok K L' z :=
  ⟨s _ h.mt, h.web.mono s, s _ h.mq, s _ h.me, iss_mono s h.iss, h.nd, h.sok, h.nb, h.hl, h.vw⟩
theorem foOk.mono {v : V} {L L' : List Cell} (s : ∀ c ∈ L, c ∈ L') : ∀ {fo : FoW}, foOk v L fo → foOk v L' fo
  | .told _, h => h
  | .no _, h => Rp.mono s h
  | .sets _ _, h => ⟨Rp.mono s h.1, h.2⟩
end Sw

namespace Sw
open PySem L2 PySem.W
def isN (zs : List Str) : PyData → Bool
  | .str x => decide (x ∈ zs)
  | _ => false
theorem isN_iff {zs : List Str} {d : PyData} : isN zs d = true ↔ ∃ x, d = .str x ∧ x ∈ zs := by
  cases d with
  | str x => exact ⟨fun h => ⟨x, rfl, of_decide_eq_true h⟩, fun ⟨y, e, m⟩ => by cases e; exact decide_eq_true m⟩
  | _ => exact ⟨fun h => (nomatch h), fun ⟨_, e, _⟩ => nomatch e⟩
theorem eqv_str_d {x : Str} {d : PyData} : PyData.eqv (.str x) d = (match d with | .str y => decide (x = y) | _ => false) := by
  cases d with
  | str y =>
    have := Datum.eqv x y
    exact this
  | none => rfl
  | bool b => rfl
  | int i => rfl
  | list xs => rfl
  | tuple xs => rfl
  | dict kvs => rfl
theorem eqv_str_any {zs : List Str} {d : PyData} : ((zs.map Datum.toD).any fun z => PyData.eqv z d) = isN zs d := by
  rw [Bool.eq_iff_iff, isN_iff, List.any_map, List.any_eq_true]
  constructor
  · rintro ⟨x, m, e⟩
    have e : PyData.eqv (.str x) d = true := e
    rw [eqv_str_d] at e
    cases d with
    | str y => exact ⟨y, rfl, of_decide_eq_true e ▸ m⟩
    | _ => cases e
  · rintro ⟨x, rfl, m⟩
    refine ⟨x, m, ?_⟩
    show PyData.eqv (.str x) (.str x) = true
    rw [eqv_str_d]
    exact decide_eq_true rfl
section
variable {K : PySem.W.Frag} {H : Hp} {Q : VK} {L : List Cell} {a : Addr} {v : V} {d : PyData}
theorem rd_ninPr {n : Nat} {zs : List Str} {t : Bool} (hA : At H L) (h1 : Rp L v d) (o : okD n d) (hn : n ≤ 60) (m : (a, rowO t (zs.map V.str)) ∈ L) (k : Q (.bl (!isN zs d)) H) : rNinP K v (.ref a) H Q := by
  refine ⟨d, zs.map Datum.toD, Rp.dp hA h1, ?_, okD_plain o, plainAll_map zs, Nat.le_trans (okD_depth o) hn, by rw [eqv_str_any]; exact k⟩
  cases t with
  | false => exact .inl (Rp.dp hA (is_strs m))
  | true => exact .inr (Rp.dp hA (.tup m (iss_strs zs)))
theorem rd_inPr {n : Nat} {zs : List Str} {t : Bool} (hA : At H L) (h1 : Rp L v d) (o : okD n d) (hn : n ≤ 60) (m : (a, rowO t (zs.map V.str)) ∈ L) (k : Q (.bl (isN zs d)) H) : rInP K v (.ref a) H Q := by
  refine ⟨d, zs.map Datum.toD, Rp.dp hA h1, ?_, okD_plain o, plainAll_map zs, Nat.le_trans (okD_depth o) hn, by rw [eqv_str_any]; exact k⟩
  cases t with
  | false => exact .inl (Rp.dp hA (is_strs m))
  | true => exact .inr (Rp.dp hA (.tup m (iss_strs zs)))
end
section
variable {L : List Cell}
end
structure TlIn (K : PySem.W.Frag) (L : List Cell) (p : Addr) (ns : List Str) (es : List (Str × Str)) (ws : List Str) (rs : List (Addr × Bool × List Str)) : Prop where
  ex : ∃ (dx x wd ts np : Addr) (t : Bool), (p, HO.ins (He.ga K "TreeLook") dx [("web", V.ref x), ("allowed", .ref wd), ("told_sets", .ref ts), ("own_names", .ref np)]) ∈ L ∧ WebIn K L x ns es ∧ (wd, HO.tup (ws.map V.str)) ∈ L ∧ (ts, rowO t (rcr rs)) ∈ L ∧ (np, HO.lst ((srt ns).map V.str)) ∈ L
  rows : ∀ c ∈ rc rs, c ∈ L
  nd : ns.Nodup
  sok : SOk ns es
  nb : ∀ y ∈ ns, nameB y = true
  len : ns.length ≤ 12 ∧ es.length ≤ 3000
  rlen : rs.length ≤ 1000
  sub : ∀ z ∈ rs, ∀ y ∈ z.2.2, y ∈ ns
  wok : ∀ y ∈ ws, y = "clash" ∨ y = "answer" ∨ y = "beyond" ∨ y = "cover"
theorem TlIn.mono {K : PySem.W.Frag} {L L' : List Cell} {p : Addr} {ns : List Str} {es : List (Str × Str)} {ws : List Str} {rs : List (Addr × Bool × List Str)} (h : TlIn K L p ns es ws rs) (s : ∀ x ∈ L, x ∈ L') : TlIn K L' p ns es ws rs := by
  obtain ⟨dx, x, wd, ts, np, t, m1, m2, m3, m4, m5⟩ := h.ex
  exact ⟨⟨dx, x, wd, ts, np, t, s _ m1, m2.mono s, s _ m3, s _ m4, s _ m5⟩, fun c m => s _ (h.rows c m), h.nd, h.sok, h.nb, h.len, h.rlen, h.sub, h.wok⟩
section
variable {X : Cx} {K : PySem.W.Frag} {σ : L2.St} {H : Hp} {Q : VK} {L : List Cell} {a b : Addr} {ys : List V} {te : TE} {tt : TT} {g : TG} {vs : List Nat}
end
section
variable {f : Str → List Str} {N : List Str} {S : List (List Str)} {ws : List Str} {n : Nat} {held : List Str} {r : List PyData}
end
section
variable {K : PySem.W.Frag} {H : Hp} {Q : VK} {L : List Cell} {a : Addr} {t : Bool} {xs : List V} {v : V} {i : Int}
theorem rd_ninRs {z : Str} {zs : List Str} (hA : At H L) (m : (a, rowO t (zs.map V.str)) ∈ L) (k : Q (.bl (!decide (z ∈ zs))) H) : rIn K true (.str z) (.ref a) H Q := by
  cases t with
  | true => exact rd_ninTs hA m k
  | false => exact rd_ninLs hA m k
end
end Sw

namespace Sw
open PySem PySem.Spec PyProof.Rows L2 PySem.W
open PySem.Sem (wp)
open AutoSeq1 (wpAny_loadPart')
section
variable {prog : Program} {w : World} {A : Around} {E : Value → Shared → Prop} {s : Shared}
def IteT (K : PySem.W.Frag) (a : Addr) : It :=
  ⟨fun i H => ∃ (xs : List V) (x : V), SqT K H a xs ∧ xs[i]? = some x, fun i H v H' => ∃ T x, v = .ref T ∧ H T = none ∧ H' = upd H T (.tup [.int (i : Nat), x]) ∧ ∀ xs, SqT K H a xs → xs[i]? = some x, fun i H => ∃ xs : List V, SqT K H a xs ∧ xs.length ≤ i⟩
def Itew (K : PySem.W.Frag) (t : Bool) (a : Addr) : It := match t with
  | true => IteT K a
  | false => Ite K a
def iEnumR (K : PySem.W.Frag) (ta : TA) : TI := fun σ H R => ta σ H fun vs H1 => ∃ a, vs = [.ref a] ∧ ((∃ xs, SqL K H1 a xs ∧ R (Ite K a) H1) ∨ (∃ xs, SqT K H1 a xs ∧ R (IteT K a) H1))
end
section
variable {X : Cx} {K : PySem.W.Frag} {σ : L2.St} {H : Hp} {Q : VK} {D : Ends} {L F : List Cell} {a b d p : Addr} {xs ys : List V} {t : Bool} {tl : TA} {g : TG} {tb' : TS} {tt : TT} {te : TE} {vs : List Nat}
def EnRK (K : PySem.W.Frag) (vs : List V) (H : Hp) (R : It → Hp → Prop) : Prop := ∃ a, vs = [.ref a] ∧ ((∃ xs, SqL K H a xs ∧ R (Ite K a) H) ∨ (∃ xs, SqT K H a xs ∧ R (IteT K a) H))
theorem rd_enR {R : It → Hp → Prop} (k : tl σ H fun vs H1 => EnRK K vs H1 R) : iEnumR K tl σ H R := k
theorem rd_enRk {R : It → Hp → Prop} (hA : At H L) (m : (a, rowO t xs) ∈ L) (k : R (Itew K t a) H) : EnRK K [.ref a] H R := by
  cases t with
  | true => exact ⟨a, rfl, .inr ⟨xs, SqT.of (hA.rd m), k⟩⟩
  | false => exact ⟨a, rfl, .inl ⟨xs, SqL.of (hA.rd m), k⟩⟩
end
end Sw

namespace Sw
open PySem L2 PySem.W
def rSlW (K : PySem.W.Frag) : V → Option Int → Option Int → Hp → VK → Prop := fun x lo hi H Q => rSlL K x lo hi H Q ∨ rSlT K x lo hi H Q
theorem rd_slToR {K : PySem.W.Frag} {H : Hp} {L : List Cell} {a : Addr} {i : Int} {Q : VK} {t : Bool} {α : Type} {f : α → V} {zs : List α} (hA : At H L) (m : (a, rowO t (zs.map f)) ∈ L) (h0 : 0 ≤ i) (h1 : i < zs.length) (k : ∀ p H', At H' ((p, rowO t ((zs.take i.toNat).map f)) :: L) → Q (.ref p) H') : SlK (rSlW K) (.ref a) none (some i) H Q := by
  cases t with
  | false => exact .inl (rd_slTo hA m h0 (by omega) k)
  | true =>
    have es : HT.sIx (zs.map f).length (zs.map f).length (some i) = i.toNat := sIx_pos h0 (by rw [List.length_map]; omega)
    refine .inr (rd_slT hA m (fun h => ?_) fun p H' h => k p H' ?_)
    · have h2 := h.2
      rw [es, List.length_map] at h2
      omega
    · have e : cutV (zs.map f) none (some i) = (zs.take i.toNat).map f := by
        unfold cutV
        rw [es]
        show ((zs.map f).drop 0).take (i.toNat - 0) = _
        rw [List.map_take]
        rfl
      rw [e] at h
      exact h
section
variable {X : Cx} {K : PySem.W.Frag} {σ : L2.St} {H : Hp} {Q : VK} {L F : List Cell} {a : Addr} {t : Bool} {g : TG} {tt : TT} {te : TE} {vs : List Nat}
end
end Sw

namespace Sw
open PySem PySem.Spec PySem.Calls PyProof.Rows L2 PySem.W
open PySem.Sem (wp)
section
variable {prog : Program} {w : World} {A : Around} {E : Value → Shared → Prop} {s : Shared}
end
section
variable {prog : Program} {w : World} {A : Around} {E : Value → Shared → Prop} {s : Shared} {κ : PyProof.Rows.KeyKind}
end
section
variable {prog : Program} {w : World} {A : Around} {E : Value → Shared → Prop} {s : Shared} {β : Type} {R : Value → β → Prop} {enc : β → PyData} {vs : List Value} {bs : List β}
end
section
variable {X : Cx}
def rSrtU (K : PySem.W.Frag) : List V → Hp → VK → Prop := fun vs H Q => ∃ (a : Addr) (xs : List V) (ds : List PyData), vs = [V.ref a] ∧ SqT K H a xs ∧ DpAll K H xs ds ∧ AllAlike ds ∧ Sortable ds ∧ (∀ d ∈ ds, d.depth ≤ 60) ∧
  ∀ p, H p = none → Q (.ref p) (upd H p (.lst (((xs.zip ds).mergeSort (dataLe false (fun z : V × PyData => z.2))).map Prod.fst)))
def rSrtW (K : PySem.W.Frag) : List V → Hp → VK → Prop := fun vs H Q => rSrt K vs H Q ∨ rSrtU K vs H Q
end
section
variable {K : PySem.W.Frag} {H : Hp} {Q : VK} {L : List Cell} {a : Addr}
theorem rd_srtFU {α : Type} {i1 : DecidableEq α} {i2 : DatumOrd α} {f : α → V} {zs : List α} (hA : At H L) (m : (a, HO.tup (zs.map f)) ∈ L) (hf : ∀ z ∈ zs, Rp L (f z) (Datum.toD z)) (hk : Sortable (zs.map Datum.toD)) (hd : Datum.depth α ≤ 60)
    (k : ∀ p H', At H' ((p, .lst ((srt zs).map f)) :: L) → Q (.ref p) H') : rSrtU K [.ref a] H Q := by
  have hall : DpAll K H (zs.map f) (zs.map Datum.toD) := by
    have : ∀ us : List α, (∀ z ∈ us, Rp L (f z) (Datum.toD z)) → RpAll L (us.map f) (us.map Datum.toD) := by
      intro us
      induction us with
      | nil => intro _; exact .nil
      | cons u r ih => intro h; exact .cons (h u (.head _)) (ih fun z m => h z (.tail _ m))
    exact RpAll.dp hA (this zs hf)
  refine ⟨a, zs.map f, zs.map Datum.toD, rfl, SqT.of (hA.rd m), hall, AllAlike.of DatumOrd.alike, hk, fun d hd' => ?_, fun p hp => ?_⟩
  · obtain ⟨z, _, rfl⟩ := List.mem_map.mp hd'
    exact Nat.le_trans (Datum.depth_le z) hd
  · have e : (((zs.map f).zip (zs.map Datum.toD)).mergeSort (dataLe false (fun z : V × PyData => z.2))).map Prod.fst = (srt zs).map f := by
      rw [zip_map_self]
      have e2 := mergeSort_zip f (Datum.toD : α → PyData) (fun d e => dataLe false (fun d : PyData => d) d e) zs
      have e3 : (dataLe false (fun z : V × PyData => z.2)) = fun a b : V × PyData => dataLe false (fun d : PyData => d) a.2 b.2 := rfl
      rw [e3, e2]
      have e4 : (fun a b : α => dataLe false (fun d : PyData => d) (Datum.toD a) (Datum.toD b)) = fun a b => !DatumOrd.lt b a := by
        rw [← dataLe_toD]
        rfl
      rw [e4]
      rfl
    rw [e]
    exact k p _ (hA.new hp)

theorem rd_srtRS {zs : List Str} {t : Bool} (hA : At H L) (m : (a, rowO t (zs.map V.str)) ∈ L) (k : ∀ p H', At H' ((p, .lst ((srt zs).map V.str)) :: L) → Q (.ref p) H') : rSrtW K [.ref a] H Q := by
  cases t with
  | false => exact .inl (rd_srtS hA m k)
  | true => exact .inr (rd_srtFU hA m (fun z _ => .str z) (srtb_strs zs) (by decide) k)
end
end Sw

namespace Sw
open PySem L2 PySem.W
end Sw

namespace Sw
open PySem L2 PySem.W PyProof.Rows
def HoldP (es : List (Str × Str)) (ys : List Str) : Prop := (∀ x y, x ∈ ys → y ∈ ys → ¬ (x, y) ∈ es) ∧ ∀ x y, y ∈ ys → (x, y) ∈ es → ∃ n, n ∈ ys ∧ (n, x) ∈ es
def listS (N : List Str) (ms : List Nat) : List (List Str) := srt (ms.map (setOf N))
structure SetI (N ys : List Str) : Prop where
  rise : Rise ys
  nd : ys.Nodup
  sub : ∀ y ∈ ys, y ∈ N
section
variable {N : List Str} {es : List (Str × Str)} {ks us ms : List Nat} {ys zs : List Str}
theorem mem_listS : ys ∈ listS N ms ↔ ∃ m ∈ ms, setOf N m = ys := by
  unfold listS
  rw [srt_mem, List.mem_map]
theorem SetI.of (nd : N.Nodup) (hr : Rise N) (m : Nat) : SetI N (setOf N m) := ⟨setOf_rise hr m, nd.sublist (setOf_sub N m), fun y h => (setOf_sub N m).subset h⟩
theorem SetI.len (nd : N.Nodup) (h : SetI N ys) : ys.length ≤ N.length := nd_len h.nd h.sub
theorem SetI.mask (nd : N.Nodup) (hr : Rise N) (h : SetI N ys) : setOf N (maskL N ys) = ys := setOf_of nd hr h.rise h.nd h.sub
theorem listS_set (nd : N.Nodup) (hr : Rise N) (h : ys ∈ listS N ms) : SetI N ys := by
  obtain ⟨m, _, rfl⟩ := mem_listS.mp h
  exact .of nd hr m
theorem SetI.ext (h1 : SetI N ys) (h2 : SetI N zs) (h : ∀ z, z ∈ ys ↔ z ∈ zs) : ys = zs := (rise_ext h1.rise h2.rise h1.nd h2.nd).mpr h
theorem holdP_iff : HoldP es ys ↔ StandF (skF es) (· ∈ ys) := by
  unfold HoldP StandF
  refine and_congr ⟨fun h x y hx hy m => h x y hx hy (mem_skF.mp m), fun h x y hx hy m => h x y hx hy (mem_skF.mpr m)⟩ ⟨fun h x y hx m => ?_, fun h x y hy m => ?_⟩
  · obtain ⟨n, hn, hne⟩ := h y x hx (mem_skF.mp m)
    exact ⟨n, mem_skF.mpr hne, hn⟩
  · obtain ⟨n, hn, hne⟩ := h y x hy (mem_skF.mpr m)
    exact ⟨n, hne, mem_skF.mp hn⟩
theorem in_stand (hV : VwOk N es ks us) (nd : N.Nodup) (hr : Rise N) (hS : SOk N es) (h : SetI N ys) : ys ∈ listS N (standM ks us N.length) ↔ HoldP es ys := by
  rw [holdP_iff, mem_listS]
  constructor
  · rintro ⟨m, hm, rfl⟩
    exact (standF_set hV nd hS (standM_mem hV.ul hm).1).mpr hm
  · intro q
    exact ⟨maskL N ys, (standF_mask hV nd hS h.sub).mp q, h.mask nd hr⟩
theorem in_whole (hV : VwOk N es ks us) (nd : N.Nodup) (hr : Rise N) (hS : SOk N es) (h : SetI N ys) : ys ∈ listS N (wholeM ks us N.length) ↔ HoldP es ys ∧ ∀ z ∈ N, (∀ x, (x, z) ∈ es → ∃ n, n ∈ ys ∧ (n, x) ∈ es) → z ∈ ys := by
  have e : ys ∈ listS N (wholeM ks us N.length) ↔ wholeP N es ys := by
    rw [whole_mask hV nd hr hS h.nd h.sub, mem_listS]
    refine ⟨fun ⟨m, hm, e⟩ => ?_, fun q => ⟨_, q, h.mask nd hr⟩⟩
    subst e
    have hlt := ((mem_wholeM hV.ul).mp hm).1
    have e2 : maskL N (setOf N m) = m := setOf_inj nd (maskL_lt nd h.sub) hlt (h.mask nd hr)
    rw [e2]
    exact hm
  rw [e]
  unfold wholeP
  rw [kept_eq hr nd h.nd h.sub]
  exact ⟨fun ⟨q, k⟩ => ⟨q, fun z hz hx => (k z hz).mpr hx⟩, fun ⟨q, k⟩ => ⟨q, fun z hz => ⟨fun m x mx => q.2 x z m mx, k z hz⟩⟩⟩
theorem rise_ext2 {α : Type} [DecidableEq α] [DatumOrd α] [LinO α] {xs ys : List α} (h1 : Rise xs) (h2 : Rise ys) (n1 : xs.Nodup) (n2 : ys.Nodup) (h : ∀ z, z ∈ xs ↔ z ∈ ys) : xs = ys :=
  rise_eq h1 h2 ((List.perm_ext_iff_of_nodup n1 n2).mpr h)
theorem IsLeast.srt (h : IsLeast N es ys) : IsLeast (Sw.srt N) es ys := ⟨h.rise, h.nd, fun z => by rw [h.mem z, srt_mem, leastP_srt]⟩
theorem IsLeast.set (h : IsLeast N es ys) : SetI N ys := ⟨h.rise, h.nd, fun z m => ((h.mem z).mp m).1⟩
theorem IsLeast.up (h : IsLeast N es ys) {z : Str} (hz : z ∈ N) (q : ∀ x, (x, z) ∈ es → ∃ n, n ∈ ys ∧ (n, x) ∈ es) : z ∈ ys := by
  refine (h.mem z).mpr ⟨hz, fun S hS => hS z hz fun x mx => ?_⟩
  obtain ⟨n, hn, hne⟩ := q x mx
  exact ⟨n, hne, ((h.mem n).mp hn).2 S hS⟩
theorem IsLeast.down (h : IsLeast N es ys) (hS : SOk N es) {z : Str} (hz : z ∈ ys) : ∀ x, (x, z) ∈ es → ∃ n, n ∈ ys ∧ (n, x) ∈ es := by
  refine ((h.mem z).mp hz).2 (fun m => ∀ x, (x, m) ∈ es → ∃ n, n ∈ ys ∧ (n, x) ∈ es) fun m hm q x mx => ?_
  obtain ⟨y, my, hy⟩ := q x mx
  exact ⟨y, h.up (hS.mem _ my).1 hy, my⟩
theorem IsLeast.quiet (h : IsLeast N es ys) (hS : SOk N es) : ∀ x y, x ∈ ys → y ∈ ys → ¬ (x, y) ∈ es := by
  intro x y hx hy he
  refine ((h.mem y).mp hy).2 (fun m => ∀ x, (x, m) ∈ es → ¬ x ∈ ys) (fun m hm q x mx hx => ?_) x he hx
  obtain ⟨y, my, hy⟩ := q x mx
  obtain ⟨n, hn, hne⟩ := h.down hS hx y my
  exact hy n hne hn
theorem IsLeast.hold (h : IsLeast N es ys) (hS : SOk N es) : HoldP es ys := ⟨h.quiet hS, fun x y hy he => h.down hS hy x he⟩
theorem IsLeast.whole (h : IsLeast N es ys) (hV : VwOk N es ks us) (nd : N.Nodup) (hr : Rise N) (hS : SOk N es) : ys ∈ listS N (wholeM ks us N.length) :=
  (in_whole hV nd hr hS h.set).mpr ⟨h.hold hS, fun _ hz q => h.up hz q⟩
theorem IsLeast.within (h : IsLeast N es ys) (hV : VwOk N es ks us) (nd : N.Nodup) (hr : Rise N) (hS : SOk N es) (hw : zs ∈ listS N (wholeM ks us N.length)) : ∀ z ∈ ys, z ∈ zs := by
  obtain ⟨_, hk⟩ := (in_whole hV nd hr hS (listS_set nd hr hw)).mp hw
  intro z hz
  refine ((h.mem z).mp hz).2 (· ∈ zs) fun m hm q => hk m hm fun x mx => ?_
  obtain ⟨y, my, hy⟩ := q x mx
  exact ⟨y, hy, my⟩
end
end Sw
namespace Sw
open PySem L2 PySem.W PyProof.Rows
end Sw
namespace Sw
open PySem L2 PySem.W PyProof.Rows
section
variable {K : PySem.W.Frag} {H : Hp} {Q : VK} {L : List Cell} {v w : V} {α : Type} {i1 : DecidableEq α} {i2 : Datum α} {x : α} {zs : List α}
end
end Sw

namespace Sw
open PySem L2 PySem.W
section
variable {K : PySem.W.Frag} {σ : L2.St} {H : Hp} {Q : VK} {D : Ends} {L F : List Cell} {a b d p : Addr} {xs ys : List V} {v w x y : V} {te : TE} {tt : TT} {g : TG} {vs : List Nat}
end
section
variable {g : Nat → Nat} {f : Str → List Str} {N : List Str} {S S' : List (List Str)} {ws : List Str}
end
end Sw
namespace Sw
open PySem L2 PySem.W
section
variable {K : PySem.W.Frag} {σ : L2.St} {H : Hp} {Q : VK} {L F : List Cell} {a : Addr} {g : TG} {tt : TT} {te : TE} {vs : List Nat}
end
end Sw
namespace Sw
open PySem L2 PySem.W
end Sw

namespace Sw
open PySem L2 PySem.W
section
variable {N ns : List Str} {es : List (Str × Str)} {ks us : List Nat} {s0 : List Str} {S' : List (List Str)}
end
end Sw

namespace Sw
open PySem L2 PySem.W
section
variable {K : PySem.W.Frag} {σ : L2.St} {H : Hp} {Q : VK} {D : Ends} {L F : List Cell} {a d : Addr} {g : TG} {tt : TT} {te : TE} {tb' : TS} {vs : List Nat} {v : V}
end
end Sw
namespace Sw
open PySem L2 PySem.W PyProof.Rows
section
variable {N : List Str} {es : List (Str × Str)} {ks us : List Nat}
end
end Sw

namespace Sw
open PySem L2 PySem.W PyProof.Rows
abbrev Row3 : Type := Str × Str × Option Int
def wordsOf (rs : List Row3) : List (Str × Str) := rs.map fun x => (x.1, x.2.1)
def RowInv (es : List (Str × Str)) (k : Int) (rs : List Row3) : Prop :=
  ∀ x ∈ rs, ∃ j : Int, x.2.2 = some j ∧ j < k ∧ ((x.2.1 = "in" ∧ ∀ y, (y, x.1) ∈ es → ∃ i : Int, (y, ("out" : Str), some i) ∈ rs ∧ i < j) ∨ (x.2.1 = "out" ∧ ∃ y, (y, x.1) ∈ es ∧ ∃ i : Int, (y, ("in" : Str), some i) ∈ rs ∧ i ≤ j))
theorem row_of {es : List (Str × Str)} {k : Int} {rs : List Row3} {n u : Str} (h : RowInv es k rs) (m : (n, u) ∈ wordsOf rs) : ∃ j : Int, (n, u, some j) ∈ rs ∧ j < k := by
  obtain ⟨⟨a, b, c⟩, mx, e⟩ := List.mem_map.mp m
  cases e
  obtain ⟨j, e1, e2, _⟩ := h _ mx
  cases e1
  exact ⟨j, mx, e2⟩
theorem RowInv.step {N : List Str} {es : List (Str × Str)} {k : Int} {rs : List Row3} (h : RowInv es k rs) :
    RowInv es (k + 1) (rs ++ ((gotIn N es (wordsOf rs)).map (fun n => (n, ("in" : Str), some k)) ++ (gotOut N es (wsIn N es (wordsOf rs))).map fun n => (n, ("out" : Str), some k))) := by
  intro x mx
  rcases List.mem_append.mp mx with mx | mx
  · obtain ⟨j, e1, e2, h3⟩ := h x mx
    refine ⟨j, e1, by omega, ?_⟩
    rcases h3 with ⟨e3, h3⟩ | ⟨e3, y, my, i, mi, hi⟩
    · refine .inl ⟨e3, fun y my => ?_⟩
      obtain ⟨i, mi, hi⟩ := h3 y my
      exact ⟨i, List.mem_append_left _ mi, hi⟩
    · exact .inr ⟨e3, y, my, i, List.mem_append_left _ mi, hi⟩
  · rcases List.mem_append.mp mx with mx | mx
    · obtain ⟨n, mn, rfl⟩ := List.mem_map.mp mx
      obtain ⟨_, _, h3⟩ := mem_gotIn.mp mn
      refine ⟨k, rfl, by omega, .inl ⟨rfl, fun y my => ?_⟩⟩
      obtain ⟨i, mi, hi⟩ := row_of h (look_mem (h3 y my))
      exact ⟨i, List.mem_append_left _ mi, hi⟩
    · obtain ⟨n, mn, rfl⟩ := List.mem_map.mp mx
      obtain ⟨_, _, y, my, hy⟩ := mem_gotOut.mp mn
      refine ⟨k, rfl, by omega, .inr ⟨rfl, y, my, ?_⟩⟩
      rcases look_in hy with hy | ⟨m', _⟩
      · obtain ⟨i, mi, hi⟩ := row_of h (look_mem hy)
        exact ⟨i, List.mem_append_left _ mi, by omega⟩
      · exact ⟨k, List.mem_append_right _ (List.mem_append_left _ (List.mem_map.mpr ⟨y, m', rfl⟩)), by omega⟩
theorem mark_keys {N : List Str} {u : Str} {G : List Str} (hg : ∀ n ∈ G, n ∈ N) {ws : List (Str × Str)} (h : ∀ n ∈ ws.map Prod.fst, n ∈ N) : ∀ n ∈ (ws ++ markW u G).map Prod.fst, n ∈ N := fun n m => by
  rw [List.map_append] at m
  rcases List.mem_append.mp m with m | m
  · exact h n m
  · obtain ⟨e, me, rfl⟩ := List.mem_map.mp m
    obtain ⟨z, mz, rfl⟩ := List.mem_map.mp me
    exact hg z mz
theorem Rds.keys {N : List Str} {es ws w : List (Str × Str)} {k : Int} {r : List PyData} (hR : Rds N es k ws r w) : (∀ n ∈ ws.map Prod.fst, n ∈ N) → ∀ n ∈ w.map Prod.fst, n ∈ N := by
  induction hR with
  | stop _ _ => exact id
  | go _ _ ih => exact fun h => ih (mark_keys (fun n m => (mem_gotOut.mp m).1) (mark_keys (fun n m => (mem_gotIn.mp m).1) h))
structure MarksOk (N : List Str) (es : List (Str × Str)) (rs : List Row3) : Prop where
  nd : (rs.map fun x => x.1).Nodup
  mem : ∀ n, n ∈ (rs.map fun x => x.1) ↔ n ∈ N
  row : ∀ x ∈ rs, (∃ j : Int, x.2.2 = some j ∧ ((x.2.1 = "in" ∧ ∀ y, (y, x.1) ∈ es → ∃ i : Int, (y, ("out" : Str), some i) ∈ rs ∧ i < j) ∨ (x.2.1 = "out" ∧ ∃ y, (y, x.1) ∈ es ∧ ∃ i : Int, (y, ("in" : Str), some i) ∈ rs ∧ i ≤ j))) ∨
    (x.2.2 = none ∧ x.2.1 = "open" ∧ (∀ y o, (y, x.1) ∈ es → ¬ (y, ("in" : Str), o) ∈ rs) ∧ ∃ y o, (y, x.1) ∈ es ∧ (y, ("open" : Str), o) ∈ rs)
structure TupW (K : PySem.W.Frag) (a : Addr) (xs : List Str) : Prop where
  sq : ∀ H, SqT K H a (xs.map V.str)
def mkr (Z : List (Addr × Row3)) : List (Str × V) := Z.map fun z => (z.2.1, V.ref z.1)
theorem LeastP.more {es : List (Str × Str)} {N : List Str} {z n : Str} (hS : SOk N es) (hz : ¬ z ∈ N) (hn : n ∈ N) : LeastP es (N ++ [z]) n ↔ LeastP es N n := by
  constructor
  · intro h S hc
    have := h (fun m => S m ∨ m = z) fun m hm q => by
      rcases List.mem_append.mp hm with hm | hm
      · refine .inl (hc m hm fun x mx => ?_)
        obtain ⟨y, my, hy⟩ := q x mx
        rcases hy with hy | rfl
        · exact ⟨y, my, hy⟩
        · exact absurd (hS.mem _ my).1 hz
      · exact .inr (List.mem_singleton.mp hm)
    exact this.resolve_right fun e => hz (e ▸ hn)
  · exact fun h S hc => h S fun m hm q => hc m (List.mem_append_left _ hm) q
theorem IsLeast.more {es : List (Str × Str)} {N ys : List Str} {z : Str} (h : IsLeast N es ys) (hS : SOk N es) (hz : ¬ z ∈ N) (hr : Rise (ys ++ [z])) : IsLeast (N ++ [z]) es (ys ++ [z]) := by
  refine ⟨hr, List.nodup_append.mpr ⟨h.nd, List.nodup_cons.mpr ⟨(fun m => nomatch m), .nil⟩, fun a ha b hb e => ?_⟩, fun n => ?_⟩
  · cases List.mem_singleton.mp hb
    exact hz (e ▸ ((h.mem a).mp ha).1)
  · rw [List.mem_append, List.mem_append, List.mem_singleton]
    constructor
    · rintro (m | rfl)
      · obtain ⟨m1, m2⟩ := (h.mem n).mp m
        exact ⟨.inl m1, (LeastP.more hS hz m1).mpr m2⟩
      · exact ⟨.inr rfl, fun S hc => hc n (List.mem_append_right _ (.head _)) fun x mx => absurd (hS.mem _ mx).2 hz⟩
    · rintro ⟨m | rfl, q⟩
      · exact .inl ((h.mem n).mpr ⟨m, (LeastP.more hS hz m).mp q⟩)
      · exact .inr rfl
theorem at_fst {β : Type} {rs : List (Str × β)} (nd : (rs.map fun x => x.1).Nodup) {x y : Str × β} (hx : x ∈ rs) (hy : y ∈ rs) (e : x.1 = y.1) : x = y := by
  obtain ⟨i, hi⟩ := List.getElem?_of_mem hx
  obtain ⟨j, hj⟩ := List.getElem?_of_mem hy
  have q1 : (rs.map fun x => x.1)[i]? = some x.1 := by rw [List.getElem?_map, hi]; rfl
  have q2 : (rs.map fun x => x.1)[j]? = some x.1 := by rw [List.getElem?_map, hj, e]; rfl
  have := at_inj nd q1 q2
  subst this
  rw [hi] at hj
  cases hj
  rfl
theorem mem_insOf {rs : List Row3} {n : Str} : n ∈ insOf rs ↔ ∃ o, (n, ("in" : Str), o) ∈ rs := by
  unfold insOf
  rw [List.mem_map]
  constructor
  · rintro ⟨⟨a, b, c⟩, m, rfl⟩
    obtain ⟨m1, m2⟩ := List.mem_filter.mp m
    have m2 : b = "in" := of_decide_eq_true m2
    subst m2
    exact ⟨c, m1⟩
  · rintro ⟨o, m⟩
    exact ⟨_, List.mem_filter.mpr ⟨m, decide_eq_true rfl⟩, rfl⟩
theorem MarksOk.word {N ys : List Str} {es : List (Str × Str)} {rs : List Row3} (hM : MarksOk N es rs) (hy : ∀ n, n ∈ ys ↔ n ∈ insOf rs) {x : Row3} (hx : x ∈ rs) : x.2.1 = wordOf (decide (x.1 ∈ ys)) (decide (x.1 ∈ hitL es ys)) := by
  have c1 : ¬ ("out" : Str) = "in" := by decide
  have c2 : ¬ ("open" : Str) = "in" := by decide
  have hno : ∀ u, x.2.1 = u → ¬ u = "in" → ¬ x.1 ∈ ys := fun u e hu m => by
    obtain ⟨o, mo⟩ := mem_insOf.mp ((hy _).mp m)
    have := at_fst hM.nd hx mo rfl
    rw [this] at e
    exact hu e.symm
  unfold wordOf
  rcases hM.row x hx with ⟨j, _, ⟨q2, _⟩ | ⟨q2, y, q3, i, q4, _⟩⟩ | ⟨_, q2, q3, _⟩
  · have m : x.1 ∈ ys := (hy _).mpr (mem_insOf.mpr ⟨x.2.2, by rw [← q2]; exact hx⟩)
    rw [q2, decide_eq_true m, if_pos rfl]
  · have m := hno _ q2 c1
    have h : x.1 ∈ hitL es ys := mem_hitL.mpr ⟨y, (hy _).mpr (mem_insOf.mpr ⟨_, q4⟩), q3⟩
    rw [q2, decide_eq_false m, decide_eq_true h, if_neg (by decide), if_pos rfl]
  · have m := hno _ q2 c2
    have h : ¬ x.1 ∈ hitL es ys := fun h => by
      obtain ⟨y, my, he⟩ := mem_hitL.mp h
      obtain ⟨o, mo⟩ := mem_insOf.mp ((hy _).mp my)
      exact q3 y o he mo
    rw [q2, decide_eq_false m, decide_eq_false h, if_neg (by decide), if_neg (by decide)]
theorem rise_first {α β : Type} [DecidableEq α] [DatumOrd α] [LinO α] [DecidableEq β] [DatumOrd β] [LinO β] {N : List α} (hr : Rise N) (nd : N.Nodup) (f : α → β) : Rise (N.map fun z => (z, f z)) := by
  unfold Rise at *
  rw [List.pairwise_map]
  refine (hr.and nd).imp fun {a b} h => ?_
  rw [le_pair]
  exact .inr ⟨h.2, h.1⟩
theorem MarksOk.told {N ys : List Str} {es : List (Str × Str)} {rs : List Row3} (hM : MarksOk (srt N) es rs) (nd : N.Nodup) (hy : ∀ n, n ∈ ys ↔ n ∈ insOf rs) : srt (wordsOf rs) = wordL (srt N) es ys := by
  have nds := srt_nodup.mpr nd
  refine rise_eq (rise_srt _) (rise_first (rise_srt N) nds _) ((srt_perm _).trans ?_)
  have e : wordsOf rs = (rs.map fun x => x.1).map fun z => (z, wordOf (decide (z ∈ ys)) (decide (z ∈ hitL es ys))) := by
    unfold wordsOf
    rw [List.map_map]
    exact List.map_congr_left fun x mx => Prod.ext rfl (hM.word hy mx)
  rw [e]
  exact ((List.perm_ext_iff_of_nodup hM.nd nds).mpr hM.mem).map _
end Sw

namespace Sw
open PySem L2 PySem.W PyProof.Rows
section
variable {K : PySem.W.Frag} {σ : L2.St} {H : Hp} {Q : VK} {L F : List Cell} {a b : Addr} {g : TG} {tt : TT} {te : TE} {vs : List Nat}
theorem rd_ixTm {i : Int} {α : Type} {f : α → V} {zs : List α} {z : α} (hA : At H L) (m : (a, HO.tup (zs.map f)) ∈ L) (h0 : 0 ≤ i) (h : zs[i.toNat]? = some z) (k : Q (f z) H) : rIxT K (.ref a) (.int i) H Q :=
  rd_ixT hA m (atI_of h0 (by rw [List.getElem?_map, h]; rfl)) k
def TRevK (K : PySem.W.Frag) (v : V) (H : Hp) (Q : VK) : Prop := ∃ (a : Addr) (xs : List V), v = .ref a ∧ SqL K H a xs ∧ ∀ q, H q = none → Q (.ref q) (upd H q (.tup xs.reverse))
theorem rd_tupRev {te : TE} (k : te σ H fun v H1 => TRevK K v H1 Q) : RT.tTupRev K te σ H Q := k
theorem rd_trevk {α : Type} {f : α → V} {zs : List α} (hA : At H L) (m : (a, HO.lst (zs.map f)) ∈ L) (k : ∀ q H', At H' ((q, .tup (zs.reverse.map f)) :: L) → Q (.ref q) H') : TRevK K (.ref a) H Q := ⟨a, zs.map f, rfl, SqL.of (hA.rd m), fun q hq => k q _ (by rw [List.map_reverse]; exact hA.new hq)⟩
end
section
variable {es : List (Str × Str)} {rs : List Row3} {N : List Str} {n : Str} {g : Str → Str × Option Int}
end
def LooseR (m : Int) (x y : Row3) : Prop := y.1 = x.1 ∧ y.2.1 = x.2.1 ∧ ((x.2.2 = none ∧ y.2.2 = none) ∨ ∃ j j' : Int, x.2.2 = some j ∧ y.2.2 = some j' ∧ (x.2.1 = "in" → 10 * j - 4 + m ≤ j' ∧ j' ≤ 10 * j + m) ∧ (x.2.1 = "out" → 10 * j + m ≤ j' ∧ j' ≤ 10 * j + 4 + m))
inductive LooseAll (m : Int) : List Row3 → List Row3 → Prop
  | nil : LooseAll m [] []
  | snoc {xs ys : List Row3} {x y : Row3} : LooseAll m xs ys → LooseR m x y → LooseAll m (xs ++ [x]) (ys ++ [y])
theorem LooseAll.fst {m : Int} {xs ys : List Row3} (h : LooseAll m xs ys) : (ys.map fun x => x.1) = xs.map fun x => x.1 := by
  induction h with
  | nil => rfl
  | snoc _ r ih =>
    rw [List.map_append, List.map_append, ih]
    exact congrArg (fun z => _ ++ [z]) r.1
theorem LooseAll.to {m : Int} {xs ys : List Row3} (h : LooseAll m xs ys) : ∀ x ∈ xs, ∃ y ∈ ys, LooseR m x y := by
  induction h with
  | nil => exact fun _ h => nomatch h
  | snoc _ r ih =>
    intro x mx
    rcases List.mem_append.mp mx with mx | mx
    · obtain ⟨y, my, h⟩ := ih x mx
      exact ⟨y, List.mem_append_left _ my, h⟩
    · cases List.mem_singleton.mp mx
      exact ⟨_, List.mem_append_right _ (.head _), r⟩
theorem LooseAll.of {m : Int} {xs ys : List Row3} (h : LooseAll m xs ys) : ∀ y ∈ ys, ∃ x ∈ xs, LooseR m x y := by
  induction h with
  | nil => exact fun _ h => nomatch h
  | snoc _ r ih =>
    intro y my
    rcases List.mem_append.mp my with my | my
    · obtain ⟨x, mx, h⟩ := ih y my
      exact ⟨x, List.mem_append_left _ mx, h⟩
    · cases List.mem_singleton.mp my
      exact ⟨_, List.mem_append_right _ (.head _), r⟩
theorem MarksOk.loose {m : Int} {N : List Str} {es : List (Str × Str)} {rs zs : List Row3} (hM : MarksOk N es rs) (hL : LooseAll m rs zs) : MarksOk N es zs := by
  refine ⟨by rw [hL.fst]; exact hM.nd, fun n => by rw [hL.fst]; exact hM.mem n, fun z mz => ?_⟩
  obtain ⟨⟨n, u, o⟩, mx, e1, e2, e3⟩ := hL.of z mz
  obtain ⟨zn, zu, zo⟩ := z
  have e1 : zn = n := e1
  have e2 : zu = u := e2
  subst e1 e2
  have up : ∀ {y v : Str} {i : Int}, (y, v, some i) ∈ rs → ∃ i' : Int, (y, v, some i') ∈ zs ∧ (v = "in" → 10 * i - 4 + m ≤ i' ∧ i' ≤ 10 * i + m) ∧ (v = "out" → 10 * i + m ≤ i' ∧ i' ≤ 10 * i + 4 + m) := fun {y v i} h => by
    obtain ⟨⟨a, b, c⟩, mc, f1, f2, f3⟩ := hL.to _ h
    have f1 : a = y := f1
    have f2 : b = v := f2
    subst f1 f2
    rcases f3 with ⟨f, _⟩ | ⟨j, j', f, g, f4, f5⟩
    · cases f
    · have f : some i = some j := f
      cases f
      have g : c = some j' := g
      subst g
      exact ⟨j', mc, f4, f5⟩
  rcases hM.row _ mx with ⟨j, g1, ⟨g2, g3⟩ | ⟨g2, y, g3, i, g4, g5⟩⟩ | ⟨g1, g2, g3, y, oy, g4, g5⟩
  · have g1 : o = some j := g1
    have g2 : zu = "in" := g2
    subst g1 g2
    rcases e3 with ⟨f, _⟩ | ⟨k, k', f, g, f4, f5⟩
    · cases f
    have f : some j = some k := f
    cases f
    have g : zo = some k' := g
    subst g
    refine .inl ⟨k', rfl, .inl ⟨rfl, fun y my => ?_⟩⟩
    obtain ⟨i, mi, hi⟩ := g3 y my
    obtain ⟨i', mi', _, h5⟩ := up mi
    have h5 := h5 rfl
    have f4 := f4 rfl
    exact ⟨i', mi', by omega⟩
  · have g1 : o = some j := g1
    have g2 : zu = "out" := g2
    subst g1 g2
    rcases e3 with ⟨f, _⟩ | ⟨k, k', f, g, f4, f5⟩
    · cases f
    have f : some j = some k := f
    cases f
    have g : zo = some k' := g
    subst g
    obtain ⟨i', mi', h4, _⟩ := up g4
    have h4 := h4 rfl
    have f5 := f5 rfl
    exact .inl ⟨k', rfl, .inr ⟨rfl, y, g3, i', mi', by omega⟩⟩
  · have g1 : o = none := g1
    have g2 : zu = "open" := g2
    subst g1 g2
    rcases e3 with ⟨_, f⟩ | ⟨k, k', f, _⟩
    · have f : zo = none := f
      subst f
      refine .inr ⟨rfl, rfl, fun y' o' my' m' => ?_, ?_⟩
      · obtain ⟨⟨a, b, c⟩, mc, f1, f2, _⟩ := hL.of _ m'
        have f1 : y' = a := f1
        have f2 : "in" = b := f2
        subst f1 f2
        exact g3 _ _ my' mc
      · obtain ⟨⟨a, b, c⟩, mc, f1, f2, _⟩ := hL.to _ g5
        have f1 : a = y := f1
        have f2 : b = "open" := f2
        subst f1 f2
        exact ⟨_, _, g4, mc⟩
    · cases f
theorem MarksOk.perm {N : List Str} {es : List (Str × Str)} {rs zs : List Row3} (hM : MarksOk N es rs) (hp : zs.Perm rs) : MarksOk N es zs := by
  refine ⟨(hp.map _).nodup_iff.mpr hM.nd, fun n => ((hp.map _).mem_iff).trans (hM.mem n), fun x mx => ?_⟩
  rcases hM.row x (hp.mem_iff.mp mx) with ⟨j, g1, ⟨g2, g3⟩ | ⟨g2, y, g3, i, g4, g5⟩⟩ | ⟨g1, g2, g3, y, oy, g4, g5⟩
  · exact .inl ⟨j, g1, .inl ⟨g2, fun y my => by
      obtain ⟨i, mi, hi⟩ := g3 y my
      exact ⟨i, hp.mem_iff.mpr mi, hi⟩⟩⟩
  · exact .inl ⟨j, g1, .inr ⟨g2, y, g3, i, hp.mem_iff.mpr g4, g5⟩⟩
  · exact .inr ⟨g1, g2, fun y o my m => g3 y o my (hp.mem_iff.mp m), y, oy, g4, hp.mem_iff.mpr g5⟩
end Sw

namespace Sw
open PySem L2 PySem.W PyProof.Rows
section
variable {K : PySem.W.Frag} {σ : L2.St} {H : Hp} {Q : VK} {L F : List Cell} {a b : Addr} {g : TG} {tt : TT} {te : TE} {vs : List Nat}
theorem rd_setLS {R : Hp → Prop} {i : Int} {x : Str} {zs : List Str} (hA : At H ((a, HO.lst (zs.map V.str)) :: F)) (h0 : 0 ≤ i) (h1 : i < zs.length) (k : ∀ H', At H' ((a, .lst ((zs.set i.toNat x).map V.str)) :: F) → R H') : rSetL (.ref a) (.int i) (.str x) H R :=
  rd_setLi hA h0 (by rw [List.length_map]; exact h1) fun H' h => k H' (by rw [List.map_set]; exact h)
end
section
variable {K : PySem.W.Frag} {σ : L2.St} {H : Hp} {a : Addr} {t : Bool} {g : TG} {tb' : TS} {D : Ends}
end
def RecW (K : PySem.W.Frag) (C : List Cell) (T : Addr) : Prop := ∃ (x q e : Addr) (ns : List Str) (vs : List V) (es : List (Str × Str)), (T, HO.tup [.ref x, .ref q, .ref e]) ∈ C ∧ WebIn K C x ns es ∧ (q, HO.lst (ns.map V.str)) ∈ C ∧ (e, HO.lst vs) ∈ C ∧ Iss C vs es ∧ ns.Nodup ∧ SOk ns es ∧ (∀ z ∈ ns, nameB z = true) ∧ ns.length ≤ 30 ∧ es.length ≤ 3000
theorem RecW.mono {K : PySem.W.Frag} {C C' : List Cell} {T : Addr} (h : RecW K C T) (s : ∀ c ∈ C, c ∈ C') : RecW K C' T := by
  obtain ⟨x, q, e, ns, vs, es, h1, h2, h3, h4, h5, h6⟩ := h
  exact ⟨x, q, e, ns, vs, es, s _ h1, h2.mono s, s _ h3, s _ h4, iss_mono s h5, h6⟩
end Sw

namespace Sw
open PySem L2 PySem.W PyProof.Rows
section
variable {K : PySem.W.Frag} {σ : L2.St} {H : Hp} {Q : VK} {L F : List Cell} {a b : Addr} {g : TG} {tt : TT} {te : TE} {vs : List Nat}
end
def OddV (W : List Cell) (v : V) : Prop := ∃ d, Rp W v d ∧ okD 4 d
theorem OddV.mono {W W' : List Cell} {v : V} (h : OddV W v) (s : ∀ c ∈ W, c ∈ W') : OddV W' v := by
  obtain ⟨d, h1, h2⟩ := h
  exact ⟨d, h1.mono s, h2⟩
def AnyV (W : List Cell) (v : V) : Prop := ∃ d, Rp W v d ∧ okD 6 d
theorem AnyV.mono {W W' : List Cell} {v : V} (h : AnyV W v) (s : ∀ c ∈ W, c ∈ W') : AnyV W' v := by
  obtain ⟨d, h1, h2⟩ := h
  exact ⟨d, h1.mono s, h2⟩
theorem OddV.any {W : List Cell} {v : V} (h : OddV W v) : AnyV W v := by
  obtain ⟨d, h1, h2⟩ := h
  exact ⟨d, h1, okD_le (by decide) h2⟩
end Sw

namespace Sw
open PySem L2 PySem.W PyProof.Rows
instance : LinO (T3 Int Int Str) where
  tr a b c h1 h2 := LinO.tr (α := Int × (Int × Str)) (a.a, (a.b, a.c)) (b.a, (b.b, b.c)) (c.a, (c.b, c.c)) h1 h2
  tot a b := LinO.tot (α := Int × (Int × Str)) (a.a, (a.b, a.c)) (b.a, (b.b, b.c))
  anti a b h1 h2 := by
    have e := LinO.anti (α := Int × (Int × Str)) (a.a, (a.b, a.c)) (b.a, (b.b, b.c)) h1 h2
    exact T3.same (congrArg Prod.fst e) (congrArg (fun z : Int × (Int × Str) => z.2.1) e) (congrArg (fun z : Int × (Int × Str) => z.2.2) e)
def RowE (es : List (Str × Str)) (X : List Row3) (z : Row3) : Prop :=
  (∃ j : Int, z.2 = (("in" : Str), some j) ∧ 1 ≤ j ∧ (∀ x, (x, z.1) ∈ es → ∃ i : Int, (x, ("out" : Str), some i) ∈ X ∧ i < j) ∧ (j = 1 ∨ ∃ x, (x, z.1) ∈ es ∧ (x, ("out" : Str), some (j - 1)) ∈ X)) ∨
  (∃ j : Int, z.2 = (("out" : Str), some j) ∧ 1 ≤ j ∧ (∃ x, (x, z.1) ∈ es ∧ (x, ("in" : Str), some j) ∈ X) ∧ ∀ x (i : Int), (x, z.1) ∈ es → (x, ("in" : Str), some i) ∈ X → j ≤ i) ∨
  (z.2 = (("open" : Str), none) ∧ (∃ x, (x, z.1) ∈ es ∧ (x, ("open" : Str), none) ∈ X) ∧ ∀ x (i : Int), (x, z.1) ∈ es → ¬ (x, ("in" : Str), some i) ∈ X)
structure ExR (N : List Str) (es : List (Str × Str)) (X : List Row3) : Prop where
  names : (X.map fun x => x.1).Perm N
  nd : N.Nodup
  ok : ∀ z ∈ X, RowE es X z
def Told (X : List Row3) (k : Int) (ws : List (Str × Str)) : Prop := ∀ n u, ws.lookup n = some u ↔ ∃ j : Int, (n, u, some j) ∈ X ∧ j < k
section
variable {N : List Str} {es ws w : List (Str × Str)} {X : List Row3} {k : Int} {r : List PyData}
theorem ExR.one (h : ExR N es X) {n : Str} {a b : Str × Option Int} (ha : (n, a) ∈ X) (hb : (n, b) ∈ X) : a = b := by
  have nd := h.names.nodup_iff.mpr h.nd
  obtain ⟨i, hi⟩ := List.getElem?_of_mem ha
  obtain ⟨j, hj⟩ := List.getElem?_of_mem hb
  have li := (List.getElem?_eq_some_iff.mp hi).1
  have ei : (X.map fun x => x.1)[i]? = some n := by rw [List.getElem?_map, hi]; rfl
  have ej : (X.map fun x => x.1)[j]? = some n := by rw [List.getElem?_map, hj]; rfl
  have e := (List.getElem?_inj (by rw [List.length_map]; exact li) nd).mp (ei.trans ej.symm)
  subst e
  rw [hi] at hj
  injection hj with hj
  exact congrArg Prod.snd hj
theorem told_key {n : Str} : n ∈ ws.map Prod.fst ↔ ∃ u, ws.lookup n = some u := ⟨key_look, fun ⟨_, h⟩ => look_key h⟩
theorem ExR.row (h : ExR N es X) {n : Str} (m : n ∈ N) : ∃ z, (n, z) ∈ X := by
  obtain ⟨x, mx, e⟩ := List.mem_map.mp (h.names.mem_iff.mpr m)
  exact ⟨x.2, by rw [← e]; exact mx⟩
theorem ExR.name (h : ExR N es X) {n : Str} {z : Str × Option Int} (m : (n, z) ∈ X) : n ∈ N := h.names.mem_iff.mp (List.mem_map.mpr ⟨_, m, rfl⟩)
theorem ExR.isIn (h : ExR N es X) {n : Str} {j : Int} (m : (n, ("in" : Str), some j) ∈ X) : 1 ≤ j ∧ (∀ x, (x, n) ∈ es → ∃ i : Int, (x, ("out" : Str), some i) ∈ X ∧ i < j) ∧ (j = 1 ∨ ∃ x, (x, n) ∈ es ∧ (x, ("out" : Str), some (j - 1)) ∈ X) := by
  rcases h.ok _ m with ⟨i, e, g⟩ | ⟨i, e, g⟩ | ⟨e, g⟩
  · have e : (("in" : Str), some j) = (("in" : Str), some i) := e
    injection e with _ e
    injection e with e
    subst e
    exact g
  · have e : (("in" : Str), some j) = (("out" : Str), some i) := e
    injection e with e _
    exact absurd e (by decide)
  · have e : (("in" : Str), some j) = (("open" : Str), none) := e
    injection e with e _
    exact absurd e (by decide)
theorem ExR.isOut (h : ExR N es X) {n : Str} {j : Int} (m : (n, ("out" : Str), some j) ∈ X) : 1 ≤ j ∧ (∃ x, (x, n) ∈ es ∧ (x, ("in" : Str), some j) ∈ X) ∧ ∀ x (i : Int), (x, n) ∈ es → (x, ("in" : Str), some i) ∈ X → j ≤ i := by
  rcases h.ok _ m with ⟨i, e, g⟩ | ⟨i, e, g⟩ | ⟨e, g⟩
  · have e : (("out" : Str), some j) = (("in" : Str), some i) := e
    injection e with e _
    exact absurd e (by decide)
  · have e : (("out" : Str), some j) = (("out" : Str), some i) := e
    injection e with _ e
    injection e with e
    subst e
    exact g
  · have e : (("out" : Str), some j) = (("open" : Str), none) := e
    injection e with e _
    exact absurd e (by decide)
theorem ExR.inAt (h : ExR N es X) (hT : Told X k ws) (hk : 1 ≤ k) {n : Str} : n ∈ gotIn N es ws ↔ (n, ("in" : Str), some k) ∈ X := by
  rw [mem_gotIn]
  constructor
  · rintro ⟨mn, nk, hs⟩
    obtain ⟨z, mz⟩ := h.row mn
    rcases h.ok _ mz with ⟨j, e, g1, g2, g3⟩ | ⟨j, e, g1, ⟨x, mx, g2⟩, g3⟩ | ⟨e, ⟨x, mx, g2⟩, g3⟩
    · have e : z = (("in" : Str), some j) := e
      subst e
      have hj : ¬ j < k := fun hj => nk (told_key.mpr ⟨_, (hT n _).mpr ⟨j, mz, hj⟩⟩)
      rcases Int.lt_or_eq_of_le (Int.not_lt.mp hj) with hj | hj
      · rcases g3 with g3 | ⟨x, mx, g3⟩
        · omega
        · obtain ⟨i, mi, hi⟩ := (hT x _).mp (hs x mx)
          have e := h.one mi g3
          injection e with _ e
          injection e with e
          omega
      · subst hj
        exact mz
    · obtain ⟨i, mi, hi⟩ := (hT x _).mp (hs x mx)
      have e := h.one mi g2
      injection e with e _
      exact absurd e (by decide)
    · obtain ⟨i, mi, hi⟩ := (hT x _).mp (hs x mx)
      have e := h.one mi g2
      injection e with e _
      exact absurd e (by decide)
  · intro m
    refine ⟨h.name m, fun hn => ?_, fun x mx => ?_⟩
    · obtain ⟨u, hu⟩ := told_key.mp hn
      obtain ⟨j, mj, hj⟩ := (hT n u).mp hu
      have e := h.one mj m
      injection e with _ e
      injection e with e
      omega
    · obtain ⟨i, mi, hi⟩ := (h.isIn m).2.1 x mx
      exact (hT x _).mpr ⟨i, mi, hi⟩
theorem ExR.toldIn (h : ExR N es X) (hT : Told X k ws) (hk : 1 ≤ k) {n u : Str} : (wsIn N es ws).lookup n = some u ↔ (∃ j : Int, (n, u, some j) ∈ X ∧ j < k) ∨ (u = "in" ∧ (n, ("in" : Str), some k) ∈ X) := by
  constructor
  · intro g
    rcases look_in g with g | ⟨g, e⟩
    · exact .inl ((hT n u).mp g)
    · exact .inr ⟨e.symm, (h.inAt hT hk).mp g⟩
  · rintro (g | ⟨e, g⟩)
    · exact look_old ((hT n u).mpr g)
    · subst e
      have g := (h.inAt hT hk).mpr g
      exact look_new (gotIn_sub g).2 g
theorem ExR.outAt (h : ExR N es X) (hT : Told X k ws) (hk : 1 ≤ k) {n : Str} : n ∈ gotOut N es (wsIn N es ws) ↔ (n, ("out" : Str), some k) ∈ X := by
  rw [mem_gotOut]
  constructor
  · rintro ⟨mn, nk, x, mx, hx⟩
    have hx' : ∃ i : Int, (x, ("in" : Str), some i) ∈ X ∧ i ≤ k := by
      rcases (h.toldIn hT hk).mp hx with ⟨i, mi, hi⟩ | ⟨_, g⟩
      · exact ⟨i, mi, by omega⟩
      · exact ⟨k, g, Int.le_refl _⟩
    obtain ⟨i, mi, hi⟩ := hx'
    obtain ⟨z, mz⟩ := h.row mn
    rcases h.ok _ mz with ⟨j, e, g1, g2, g3⟩ | ⟨j, e, g1, _, g3⟩ | ⟨e, _, g3⟩
    · obtain ⟨i', mi', _⟩ := g2 x mx
      have e := h.one mi mi'
      injection e with e _
      exact absurd e (by decide)
    · have e : z = (("out" : Str), some j) := e
      subst e
      have hj : ¬ j < k := fun hj => nk (told_key.mpr ⟨_, (h.toldIn hT hk).mpr (.inl ⟨j, mz, hj⟩)⟩)
      have := g3 x i mx mi
      have e : j = k := by omega
      rw [← e]
      exact mz
    · exact absurd mi (g3 x i mx)
  · intro m
    obtain ⟨_, ⟨x, mx, hx⟩, _⟩ := h.isOut m
    refine ⟨h.name m, fun hn => ?_, x, mx, (h.toldIn hT hk).mpr (.inr ⟨rfl, hx⟩)⟩
    obtain ⟨u, hu⟩ := told_key.mp hn
    rcases (h.toldIn hT hk).mp hu with ⟨j, mj, hj⟩ | ⟨_, g⟩
    · have e := h.one mj m
      injection e with _ e
      injection e with e
      omega
    · have e := h.one g m
      injection e with e _
      exact absurd e (by decide)
theorem ExR.toldOut (h : ExR N es X) (hT : Told X k ws) (hk : 1 ≤ k) : Told X (k + 1) (wsOut N es ws) := fun n u => by
  constructor
  · intro g
    rcases look_in g with g | ⟨g, e⟩
    · rcases (h.toldIn hT hk).mp g with ⟨j, mj, hj⟩ | ⟨e, g⟩
      · exact ⟨j, mj, by omega⟩
      · exact ⟨k, by rw [e]; exact g, by omega⟩
    · exact ⟨k, by rw [← e]; exact (h.outAt hT hk).mp g, by omega⟩
  · rintro ⟨j, mj, hj⟩
    by_cases hj' : j < k
    · exact look_old ((h.toldIn hT hk).mpr (.inl ⟨j, mj, hj'⟩))
    · have e : j = k := by omega
      subst e
      rcases h.ok _ mj with ⟨i, e, _⟩ | ⟨i, e, _⟩ | ⟨e, _⟩
      · have e : (u, some j) = (("in" : Str), some i) := e
        injection e with e _
        subst e
        exact look_old ((h.toldIn hT hk).mpr (.inr ⟨rfl, mj⟩))
      · have e : (u, some j) = (("out" : Str), some i) := e
        injection e with e _
        subst e
        have g := (h.outAt hT hk).mpr mj
        exact look_new (gotOut_sub g).2 g
      · have e : (u, some j) = (("open" : Str), none) := e
        injection e with _ e
        cases e
theorem ExR.none_on (h : ExR N es X) (hk : 1 ≤ k) (h1 : ∀ n, ¬ (n, ("in" : Str), some k) ∈ X) (h2 : ∀ n, ¬ (n, ("out" : Str), some k) ∈ X) : ∀ (d : Nat) (n u : Str), ¬ (n, u, some (k + (d : Int))) ∈ X := by
  intro d
  induction d with
  | zero =>
    intro n u m
    rw [show k + ((0 : Nat) : Int) = k by omega] at m
    rcases h.ok _ m with ⟨i, e, _⟩ | ⟨i, e, _⟩ | ⟨e, _⟩
    · have e : (u, some k) = (("in" : Str), some i) := e
      injection e with e _
      subst e
      exact h1 n m
    · have e : (u, some k) = (("out" : Str), some i) := e
      injection e with e _
      subst e
      exact h2 n m
    · have e : (u, some k) = (("open" : Str), none) := e
      injection e with _ e
      cases e
  | succ d ih =>
    have noIn : ∀ n, ¬ (n, ("in" : Str), some (k + ((d + 1 : Nat) : Int))) ∈ X := fun n m => by
      rcases (h.isIn m).2.2 with g | ⟨x, _, mx⟩
      · omega
      · rw [show k + ((d + 1 : Nat) : Int) - 1 = k + (d : Int) by omega] at mx
        exact ih x _ mx
    intro n u m
    rcases h.ok _ m with ⟨i, e, _⟩ | ⟨i, e, _⟩ | ⟨e, _⟩
    · have e : (u, some (k + ((d + 1 : Nat) : Int))) = (("in" : Str), some i) := e
      injection e with e _
      subst e
      exact noIn n m
    · have e : (u, some (k + ((d + 1 : Nat) : Int))) = (("out" : Str), some i) := e
      injection e with e _
      subst e
      obtain ⟨_, ⟨x, _, mx⟩, _⟩ := h.isOut m
      exact noIn x mx
    · have e : (u, some (k + ((d + 1 : Nat) : Int))) = (("open" : Str), none) := e
      injection e with _ e
      cases e
def wdOf (b : Int) : Str := if b = 0 then "in" else "out"
def row3T (t : T3 Int Int Str) : Row3 := (t.c, wdOf t.b, some t.a)
def keyIn (X : List Row3) (t : T3 Int Int Str) : Prop := (t.b = 0 ∧ (t.c, ("in" : Str), some t.a) ∈ X) ∨ (t.b = 1 ∧ (t.c, ("out" : Str), some t.a) ∈ X)
theorem t3_le {s t : T3 Int Int Str} (h : s.a < t.a) : (!DatumOrd.lt t s) = true := by
  show (!(if t.a = s.a then _ else decide (t.a < s.a))) = true
  rw [if_neg (by omega), decide_eq_false (by omega)]
  rfl
theorem t3_le2 {s t : T3 Int Int Str} (h : s.a = t.a) (h2 : s.b < t.b) : (!DatumOrd.lt t s) = true := by
  show (!(if t.a = s.a then (if t.b = s.b then _ else decide (t.b < s.b)) else _)) = true
  rw [if_pos h.symm, if_neg (by omega), decide_eq_false (by omega)]
  rfl
theorem t3_le3 {a b : Int} {m n : Str} (h : (!DatumOrd.lt n m) = true) : (!DatumOrd.lt (T3.mk a b n) (T3.mk a b m)) = true := by
  show (!(if a = a then (if b = b then DatumOrd.lt n m else _) else _)) = true
  rw [if_pos rfl, if_pos rfl]
  exact h
theorem rise_mk {ns : List Str} (h : Rise ns) (a b : Int) : Rise (ns.map fun n => T3.mk a b n) := List.pairwise_map.mpr (h.imp fun g => t3_le3 g)
theorem Rds.exact (hR : Rds N es k ws r w) : ExR N es X → Told X k ws → 1 ≤ k → Rise N →
    ∃ Ts : List (T3 Int Int Str), r = (Ts.map row3T).map rowX ∧ Rise Ts ∧ (∀ t, t ∈ Ts ↔ k ≤ t.a ∧ keyIn X t) ∧ w = ws ++ Ts.map fun t => (t.c, wdOf t.b) := by
  induction hR with
  | @stop k ws h1 h2 =>
    intro hX hT hk hN
    have n1 : ∀ n, ¬ (n, ("in" : Str), some k) ∈ X := fun n m => by
      have := (hX.inAt hT hk).mpr m
      rw [h1] at this
      exact nomatch this
    have n2 : ∀ n, ¬ (n, ("out" : Str), some k) ∈ X := fun n m => by
      have := (hX.outAt hT hk).mpr m
      rw [h2] at this
      exact nomatch this
    refine ⟨[], rfl, .nil, fun t => ⟨(fun m => nomatch m), fun ⟨ht, hi⟩ => ?_⟩, (List.append_nil _).symm⟩
    have no := hX.none_on hk n1 n2 (t.a - k).toNat
    rw [show k + (((t.a - k).toNat : Nat) : Int) = t.a by omega] at no
    rcases hi with ⟨_, m⟩ | ⟨_, m⟩ <;> exact absurd m (no _ _)
  | @go k ws r w hn hR ih =>
    intro hX hT hk hN
    obtain ⟨Ts, e1, e2, e3, e4⟩ := ih hX (hX.toldOut hT hk) (by omega) hN
    have rI : Rise (gotIn N es ws) := rise_filter hN _
    have rO : Rise (gotOut N es (wsIn N es ws)) := rise_filter hN _
    refine ⟨(gotIn N es ws).map (fun n => T3.mk k 0 n) ++ ((gotOut N es (wsIn N es ws)).map (fun n => T3.mk k 1 n) ++ Ts), ?_, ?_, fun t => ?_, ?_⟩
    · rw [List.map_append, List.map_append, List.map_append, List.map_append, ← e1, List.map_map, List.map_map, List.map_map, List.map_map]
      rfl
    · refine List.pairwise_append.mpr ⟨rise_mk rI k 0, List.pairwise_append.mpr ⟨rise_mk rO k 1, e2, ?_⟩, ?_⟩
      · intro a ma b mb
        obtain ⟨n, _, rfl⟩ := List.mem_map.mp ma
        have := ((e3 b).mp mb).1
        exact t3_le (by show k < b.a; omega)
      · intro a ma b mb
        obtain ⟨n, _, rfl⟩ := List.mem_map.mp ma
        rcases List.mem_append.mp mb with mb | mb
        · obtain ⟨m, _, rfl⟩ := List.mem_map.mp mb
          exact t3_le2 rfl (by show (0 : Int) < 1; decide)
        · have := ((e3 b).mp mb).1
          exact t3_le (by show k < b.a; omega)
    · rw [List.mem_append, List.mem_append, e3, List.mem_map, List.mem_map]
      constructor
      · rintro (⟨n, mn, rfl⟩ | ⟨n, mn, rfl⟩ | ⟨h1, h2⟩)
        · exact ⟨Int.le_refl _, .inl ⟨rfl, (hX.inAt hT hk).mp mn⟩⟩
        · exact ⟨Int.le_refl _, .inr ⟨rfl, (hX.outAt hT hk).mp mn⟩⟩
        · exact ⟨by omega, h2⟩
      · rintro ⟨h1, h2⟩
        rcases Int.lt_or_eq_of_le h1 with h1 | h1
        · exact .inr (.inr ⟨by omega, h2⟩)
        · obtain ⟨a, b, c⟩ := t
          have h1 : k = a := h1
          subst h1
          rcases h2 with ⟨e, m⟩ | ⟨e, m⟩
          · have e : b = 0 := e
            subst e
            exact .inl ⟨c, (hX.inAt hT hk).mpr m, rfl⟩
          · have e : b = 1 := e
            subst e
            exact .inr (.inl ⟨c, (hX.outAt hT hk).mpr m, rfl⟩)
    · rw [e4, List.map_append, List.map_append, List.map_map, List.map_map]
      show wsIn N es ws ++ markW "out" (gotOut N es (wsIn N es ws)) ++ _ = _
      rw [List.append_assoc]
      show ws ++ markW "in" (gotIn N es ws) ++ _ = _
      rw [List.append_assoc]
      rfl
end
theorem RowE.es {es es2 : List (Str × Str)} {X : List Row3} {z : Row3} (he : ∀ x, (x, z.1) ∈ es2 ↔ (x, z.1) ∈ es) (h : RowE es X z) : RowE es2 X z := by
  rcases h with ⟨j, e, g1, g2, g3⟩ | ⟨j, e, g1, ⟨x, mx, g2⟩, g3⟩ | ⟨e, ⟨x, mx, g2⟩, g3⟩
  · refine .inl ⟨j, e, g1, fun x m => g2 x ((he x).mp m), ?_⟩
    rcases g3 with g3 | ⟨x, mx, g3⟩
    · exact .inl g3
    · exact .inr ⟨x, (he x).mpr mx, g3⟩
  · exact .inr (.inl ⟨j, e, g1, ⟨x, (he x).mpr mx, g2⟩, fun x i m => g3 x i ((he x).mp m)⟩)
  · exact .inr (.inr ⟨e, ⟨x, (he x).mpr mx, g2⟩, fun x i m => g3 x i ((he x).mp m)⟩)
theorem ExR.es {N : List Str} {es es2 : List (Str × Str)} {X : List Row3} (h : ExR N es X) (he : ∀ e, e ∈ es2 ↔ e ∈ es) : ExR N es2 X := ⟨h.names, h.nd, fun z m => (h.ok z m).es fun x => he (x, z.1)⟩
structure OpenN where
  n : Str
  deriving DecidableEq
instance : Datum OpenN where
  toD a := .tuple [.str a.n, .str "open", .none]
  plain a := by simp only [PyData.plain, PyData.plainAll, Bool.and_self]
  eqv a b := by
    have e : ∀ x y : Str, PyData.eqv (.str x) (.str y) = decide (x = y) := fun x y => Datum.eqv (α := Str) x y
    simp only [PyData.eqv, PyData.eqvAll] at e ⊢
    rw [e a.n b.n, e "open" "open", decide_eq_true rfl, Bool.true_and, Bool.and_true, Bool.and_true]
    cases a
    cases b
    exact decide_eq_decide.mpr ⟨fun e => congrArg OpenN.mk e, fun e => by injection e⟩
  depth := 1
  depth_le a := by simp only [PyData.depth, PyData.depthAll]; omega
instance : DatumOrd OpenN where
  lt a b := DatumOrd.lt a.n b.n
  alike a b := by
    show PySem.W.alike (.tuple [_, _, _]) (.tuple [_, _, _]) = true
    simp only [PySem.W.alike, alikeAll, Bool.and_self]
  notNone a := fun e => by cases e
  lt_eq a b := by
    by_cases h : a.n = b.n
    · cases a
      cases b
      cases h
      rw [dataLt_self]
      exact ((dataLt_self _).symm.trans (DatumOrd.lt_eq (α := Str) _ _))
    · refine (dataLt_tuple _ _).trans ?_
      show PyProof.Rows.lexLt itemOrd (keyToksAll (Datum.toD a.n :: [.str "open", .none])) (keyToksAll (Datum.toD b.n :: [.str "open", .none])) = _
      rw [dataLt_all_no (DatumOrd.alike a.n b.n) ((Datum.eqv (α := Str) a.n b.n).trans (decide_eq_false h))]
      exact DatumOrd.lt_eq (α := Str) a.n b.n
theorem rd_sum {K : PySem.W.Frag} {H : Hp} {Q : VK} {L : List Cell} {a : Addr} {zs : List Int} (hA : At H L) (m : (a, HO.lst (zs.map V.int)) ∈ L) (k : Q (.int zs.sum) H) : rSum K [.ref a] H Q := ⟨a, zs, rfl, SqL.of (hA.rd m), k⟩
theorem ExR.perm {N N2 : List Str} {es : List (Str × Str)} {X : List Row3} (h : ExR N es X) (p : N.Perm N2) : ExR N2 es X := ⟨h.names.trans p, p.nodup_iff.mp h.nd, h.ok⟩
end Sw

namespace Sw
open PySem L2 PySem.W PyProof.Rows
def ExT (cls : Value) (d : Option Addr) (a : Addr) : HO := .ext fun h => ∃ (oe : Obj) (vs : Array Value), h.get? a = some oe ∧ Zc cls d oe ∧ oe.data = .fields vs
section
variable {X : Cx} {pins : List (Addr × Obj)} {σ : L2.St} {H : Hp} {s : Shared} {a : Addr} {cls : Value} {d : Option Addr}
end
def wAsT (K : PySem.W.Frag) (c : Value) (i : Nat) (ts : TS) (D : Ends) : WX := fun cls d σ H =>
  PySem.W.exmOne K cls c = some true ∧ ∀ a, H a = none → ts { nx := fun σ' H' => D.nx (σ'.set i none) H', rt := D.rt, bk := fun σ' H' => D.bk (σ'.set i none) H', ct := fun σ' H' => D.ct (σ'.set i none) H' } (σ.set i (some (.ref a))) (upd H a (ExT cls d a))
def tTryA (K : PySem.W.Frag) (c : Addr) (i : Nat) (tb : WX → TS) (ts : TS) : TS := fun D σ H => tb (wAsT K (.ref c) i ts D) D σ H
section
variable {X : Cx} {x n : Str} {c : Addr} {i : Nat} {body suite : List Stmt} {b₀ : Stmt} {np pos pos' : Pos} {tb : WX → TS} {ts : TS}
end
structure XcW (K : PySem.W.Frag) (C : Addr) : Prop where
  cl : (PySem.W.clsIn K C).isSome = true
  ga : PySem.W.findIn K (.ref C) "__getattribute__" = some (some (.builtin "BaseException.__getattribute__"))
  gg : PySem.W.findIn K (.ref C) "__getattr__" = some none
  sb : PySem.W.subIn K (.ref C) (.type "BaseException") = some true
  ha : PySem.W.findIn K (.ref C) "__class__" = some (some (.builtin "object.__class__"))
  hn : PySem.W.specialIn K (.builtin "object.__class__") "__get__" = some (some (.builtin "getset_descriptor.__get__"))
  htk : PySem.W.takesIn K (.builtin "object.__class__") = some true
  hm : PySem.W.mroIn K C (.type "object") = some true
  hd : PySem.W.hasDictIn K C = true
def ExA (H : Hp) (a C : Addr) : Prop := H a = some (ExT (.ref C) none a) ∨ ∃ (dd : Addr) (fs : List (Str × V)), H a = some (ExT (.ref C) (some dd) a) ∧ H dd = some (.xd fs)
section
variable {X : Cx} {pins : List (Addr × Obj)} {σ : L2.St} {H : Hp} {s : Shared} {a C : Addr}
end
def rIsiX (K : PySem.W.Frag) : List V → Hp → VK → Prop := fun xs H Q => rIsi K xs H Q ∨ ∃ (a C : Addr) (c : V) (u : Value) (b : Bool), xs = [.ref a, c] ∧ ClsV c u ∧ ExA H a C ∧ XcW K C ∧ PySem.W.kitOne K (.ref C) u = some b ∧ Q (.bl b) H
def rIsiXT (K : PySem.W.Frag) : List V → Hp → VK → Prop := fun xs H Q => rIsiT K xs H Q ∨ ∃ (a C tp : Addr) (cs : List V) (us : List Value) (b : Bool), xs = [.ref a, .ref tp] ∧ H tp = some (.tup cs) ∧ Paired ClsV cs us ∧ ExA H a C ∧ XcW K C ∧ PySem.W.kitAny K (.ref C) us = some b ∧ Q (.bl b) H
def tXfT (K : PySem.W.Frag) (f : Str) (te : TE) : TE := fun σ H Q => te σ H fun x H1 => ∃ (a C dd : Addr) (fs : List (Str × V)) (v : V), x = .ref a ∧ H1 a = some (ExT (.ref C) (some dd) a) ∧ H1 dd = some (.xd fs) ∧ XcW K C ∧ PySem.W.findIn K (.ref C) f = some none ∧ fs.lookup f = some v ∧ Q v H1
section
variable {K : PySem.W.Frag} {σ : L2.St} {H : Hp} {Q : VK} {D : Ends} {L : List Cell} {a C c dd : Addr} {tb : WX → TS} {ts : TS} {i : Nat} {d : Option Addr} {te : TE} {f : Str} {v : V} {fs : List (Str × V)} {b : Bool}
theorem rd_tryA (k : tb (wAsT K (.ref c) i ts D) D σ H) : tTryA K c i tb ts D σ H := k
theorem rd_onlyA (hA : At H L) (h : PySem.W.exmOne K (.ref C) (.ref c) = some true) (k : ∀ a H', At H' ((a, ExT (.ref C) d a) :: L) → ts { nx := fun σ' H' => D.nx (σ'.set i none) H', rt := D.rt, bk := fun σ' H' => D.bk (σ'.set i none) H', ct := fun σ' H' => D.ct (σ'.set i none) H' } (σ.set i (some (.ref a))) H') :
    WE (wAsT K (.ref c) i ts D) σ (.ref C) d H := ⟨h, fun a na => k a _ (hA.new na)⟩
theorem rd_isiX0 {x : V} {T : String} {t : Value} (h : TyX K H x t) (e : PySem.W.kitOne K t (.type T) = some b) (k : Q (.bl b) H) : rIsiX K [x, .ty T] H Q := .inl ⟨x, .ty T, t, .type T, b, rfl, .ty T, h, e, k⟩
theorem rd_isiX {D : Addr} (hA : At H L) (m : (a, ExT (.ref C) none a) ∈ L) (T : XcW K C) (e : PySem.W.kitOne K (.ref C) (.ref D) = some b) (k : Q (.bl b) H) : rIsiX K [.ref a, .ref D] H Q := .inr ⟨a, C, .ref D, .ref D, b, rfl, .own D, .inl (hA.rd m), T, e, k⟩
theorem rd_isiXt {n : String} (hA : At H L) (m : (a, ExT (.ref C) none a) ∈ L) (T : XcW K C) (e : PySem.W.kitOne K (.ref C) (.type n) = some b) (k : Q (.bl b) H) : rIsiX K [.ref a, .ty n] H Q := .inr ⟨a, C, .ty n, .type n, b, rfl, .ty n, .inl (hA.rd m), T, e, k⟩
theorem rd_isiXd {D : Addr} (hA : At H L) (m : (a, ExT (.ref C) (some dd) a) ∈ L) (m2 : (dd, HO.xd fs) ∈ L) (T : XcW K C) (e : PySem.W.kitOne K (.ref C) (.ref D) = some b) (k : Q (.bl b) H) : rIsiX K [.ref a, .ref D] H Q := .inr ⟨a, C, .ref D, .ref D, b, rfl, .own D, .inr ⟨dd, fs, hA.rd m, hA.rd m2⟩, T, e, k⟩
theorem rd_isiXdt {n : String} (hA : At H L) (m : (a, ExT (.ref C) (some dd) a) ∈ L) (m2 : (dd, HO.xd fs) ∈ L) (T : XcW K C) (e : PySem.W.kitOne K (.ref C) (.type n) = some b) (k : Q (.bl b) H) : rIsiX K [.ref a, .ty n] H Q := .inr ⟨a, C, .ty n, .type n, b, rfl, .ty n, .inr ⟨dd, fs, hA.rd m, hA.rd m2⟩, T, e, k⟩
inductive KN (K : PySem.W.Frag) (C : Addr) : List V → Prop where
  | nil : KN K C []
  | cons {d : Addr} {r : List V} (h : PySem.W.kitOne K (.ref C) (.ref d) = some false) (k : KN K C r) : KN K C (.ref d :: r)
theorem KN.any {K : PySem.W.Frag} {C : Addr} {cs : List V} (h : KN K C cs) : ∃ us, Paired ClsV cs us ∧ PySem.W.kitAny K (.ref C) us = some false := by
  induction h with
  | nil => exact ⟨[], .nil, rfl⟩
  | @cons d r h _ ih =>
    obtain ⟨us, p, e⟩ := ih
    exact ⟨.ref d :: us, .cons (.own d) p, kitAny_cons h (fun _ => e) fun z => nomatch z⟩
theorem rd_isiXT {tp : Addr} {cs : List V} (hA : At H L) (mt : (tp, HO.tup cs) ∈ L) (m : (a, ExT (.ref C) none a) ∈ L) (T : XcW K C) (e : KN K C cs) (k : Q (.bl false) H) : rIsiXT K [.ref a, .ref tp] H Q := by
  obtain ⟨us, p, g⟩ := e.any
  exact .inr ⟨a, C, tp, cs, us, false, rfl, hA.rd mt, p, .inl (hA.rd m), T, g, k⟩
theorem rd_isiXTd {tp : Addr} {cs : List V} (hA : At H L) (mt : (tp, HO.tup cs) ∈ L) (m : (a, ExT (.ref C) (some dd) a) ∈ L) (m2 : (dd, HO.xd fs) ∈ L) (T : XcW K C) (e : KN K C cs) (k : Q (.bl false) H) : rIsiXT K [.ref a, .ref tp] H Q := by
  obtain ⟨us, p, g⟩ := e.any
  exact .inr ⟨a, C, tp, cs, us, false, rfl, hA.rd mt, p, .inr ⟨dd, fs, hA.rd m, hA.rd m2⟩, T, g, k⟩
def XfK (K : PySem.W.Frag) (f : Str) (x : V) (H : Hp) (Q : VK) : Prop := ∃ (a C dd : Addr) (fs : List (Str × V)) (v : V), x = .ref a ∧ H a = some (ExT (.ref C) (some dd) a) ∧ H dd = some (.xd fs) ∧ XcW K C ∧ PySem.W.findIn K (.ref C) f = some none ∧ fs.lookup f = some v ∧ Q v H
theorem rd_xfT (k : te σ H fun x H1 => XfK K f x H1 Q) : tXfT K f te σ H Q := k
theorem rd_xfTk (hA : At H L) (m : (a, ExT (.ref C) (some dd) a) ∈ L) (m2 : (dd, HO.xd fs) ∈ L) (T : XcW K C) (hn : PySem.W.findIn K (.ref C) f = some none) (e : fs.lookup f = some v) (k : Q v H) : XfK K f (.ref a) H Q := ⟨a, C, dd, fs, v, rfl, hA.rd m, hA.rd m2, T, hn, e, k⟩
end
section
variable {P : Program} {w : World} {K : PySem.W.Frag} {mg : Str → Option Value} {base : Heap}
structure FnA (K : PySem.W.Frag) (mg : Str → Option Value) (y x : Str) (st : Stmt) : Prop where
  ex : ∃ f fd, mg y = some (.ref f) ∧ FunD K x x (defArgs st) (defBody st) (defScope st) [] [] f fd
theorem FnA.cal {y x : Str} {st : Stmt} {N ps : List Str} {k : Nat} {sp : Sp} (F : FnA K mg y x st) (S : FnScope N ps (defScope st))
    (hb : ∀ (kV doc pm : Value) (an : Option Addr) (cdv ct : Value) (us : List Value), us.length = ps.length → bindArgs (PySem.W.fnOf x x (defArgs st) (defBody st) (defScope st) .none kV doc pm an cdv ct) ⟨us, []⟩ = pure (ps.zip us))
    (len : ∀ vs H Q E, sp vs H Q E → vs.length = ps.length)
    (hbody : ∀ (f : Addr) (cdv : Value) (A : Around) (outer : List Env) (s : Shared) (H : Hp) (vs : List V) (Q : VK) (E : XK), Room k (A.deeper (PyProof.Rows.envOfC x (defScope st) s.heap.objs.size f cdv)) → sp vs H Q E →
      ∃ t, PSs (cxOf CX0 P w K mg base N x (defScope st) f cdv A outer s H E).nox (defBody st) t ∧ t { nx := fun _ H' => Q .non H', rt := Q } (start N vs) H) : Cal P w K mg base y (k + 1) ps sp := by
  obtain ⟨f, fd, hm, hF⟩ := F.ex
  refine ⟨f, fd, hm, hF.kp, hF.bindsN hb, hF.ok S len fun cdv A outer s H vs Q E hr hs => ?_⟩
  obtain ⟨t, h, q⟩ := hbody f cdv A outer s H vs Q E hr hs
  exact ⟨t, h.nox, q⟩
theorem FnA.calX {y x : Str} {st : Stmt} {N ps : List Str} {k : Nat} {sp : Sp} (F : FnA K mg y x st) (S : FnScope N ps (defScope st))
    (hb : ∀ (kV doc pm : Value) (an : Option Addr) (cdv ct : Value) (us : List Value), us.length = ps.length → bindArgs (PySem.W.fnOf x x (defArgs st) (defBody st) (defScope st) .none kV doc pm an cdv ct) ⟨us, []⟩ = pure (ps.zip us))
    (len : ∀ vs H Q E, sp vs H Q E → vs.length = ps.length)
    (hbody : ∀ (f : Addr) (cdv : Value) (A : Around) (outer : List Env) (s : Shared) (H : Hp) (vs : List V) (Q : VK) (E : XK), Room k (A.deeper (PyProof.Rows.envOfC x (defScope st) s.heap.objs.size f cdv)) → sp vs H Q E →
      ∃ t, PSs (cxOf (L2.CX P w) P w K mg base N x (defScope st) f cdv A outer s H E) (defBody st) t ∧ t { nx := fun _ H' => Q .non H', rt := Q } (start N vs) H) : CalX P w K mg base y (k + 1) ps sp := by
  obtain ⟨f, fd, hm, hF⟩ := F.ex
  exact ⟨f, fd, hm, hF.kp, hF.bindsN hb, hF.ok S len fun cdv A outer s H vs Q E hr hs => hbody f cdv A outer s H vs Q E hr hs⟩
end
def tCallLS (i : Nat) (f : Addr) (sp : Sp) (E : L2.St → XK) (t : TA) : TE := fun σ H Q => σ[i]? = some (some (.ref f)) ∧ t σ H fun vs H1 => sp vs H1 Q (E σ)
section
variable {X : Cx} {CX : CXT} {k i : Nat} {f : Addr} {fd : FuncData} {ps : List Str} {sp : Sp} {E : L2.St → XK} {x : Str} {p pos : Pos} {e : Expr} {es : List Expr} {t : TA}
end
theorem rd_callLS {σ : L2.St} {H : Hp} {Q : VK} {i : Nat} {f : Addr} {sp : Sp} {E : L2.St → XK} {tl : TA} (h : σ[i]? = some (some (.ref f))) (k : tl σ H fun vs H1 => sp vs H1 Q (E σ)) : tCallLS i f sp E tl σ H Q := ⟨h, k⟩
theorem rd_brNY {b : Bool} {A B : Prop} (h : b = true) (k : B) : Br (!b) A B := by subst h; exact rd_brNT k
theorem rd_brNN {b : Bool} {A B : Prop} (h : b = false) (k : A) : Br (!b) A B := by subst h; exact rd_brNF k
theorem no_of {p q : Prop} (h : p) (n : ¬ p) : q := absurd h n
theorem nn_of {p : Prop} (h : p) : ¬ ¬ p := fun n => n h
section
variable {K : PySem.W.Frag} {H : Hp} {Q : VK} {L : List Cell} {a : Addr} {x y z u : V}
theorem rd_slA3 (hA : At H L) (m : (a, HO.tup [x, y, z]) ∈ L) (k : Q (.ref a) H) : SlK (rSlA K) (.ref a) none (some 3) H Q :=
  ⟨a, _, rfl, SqT.of (hA.rd m), fun _ => k, fun h => absurd (show HT.sIx 3 0 none = 0 ∧ HT.sIx 3 3 (some 3) = 3 from by decide) h⟩
theorem rd_slA4 (hA : At H L) (m : (a, HO.tup [x, y, z, u]) ∈ L) (k : ∀ p H', At H' ((p, .tup [x, y, z]) :: L) → Q (.ref p) H') : SlK (rSlA K) (.ref a) none (some 3) H Q :=
  ⟨a, _, rfl, SqT.of (hA.rd m), fun h => absurd h (show ¬ (HT.sIx 4 0 none = 0 ∧ HT.sIx 4 4 (some 3) = 4) from by decide), fun _ p hp => k p _ (hA.new hp)⟩
end
end Sw

namespace Sw
open PySem L2 PySem.W PyProof.Rows
theorem any_has {N : List Str} {ms : List Nat} (nd : N.Nodup) {z : Str} (hz : z ∈ N) : (ms.any fun u => decide (maskL N [z] - (maskL N [z] &&& u) = 0)) = true ↔ ∃ m ∈ ms, z ∈ setOf N m := by
  rw [List.any_eq_true]
  have key : ∀ u : Nat, maskL N [z] - (maskL N [z] &&& u) = 0 ↔ z ∈ setOf N u := fun u => by
    rw [mem_setOf, maskL_one]
    constructor
    · intro h
      refine ⟨N.idxOf z, idx_at hz, ?_⟩
      have hle := Nat.and_le_left (n := 1 <<< N.idxOf z) (m := u)
      have e : 1 <<< N.idxOf z &&& u = 1 <<< N.idxOf z := by omega
      have hb : (1 <<< N.idxOf z &&& u).testBit (N.idxOf z) = true := by
        rw [e, Nat.shiftLeft_eq, Nat.one_mul, Nat.testBit_two_pow_self]
      rw [Nat.testBit_and, Bool.and_eq_true] at hb
      exact hb.2
    · rintro ⟨a, ha, hb⟩
      have ea := idx_of nd ha
      have e : 1 <<< N.idxOf z &&& u = 1 <<< N.idxOf z := by
        refine Nat.eq_of_testBit_eq fun i => ?_
        rw [Nat.testBit_and, Nat.shiftLeft_eq, Nat.one_mul]
        by_cases h : N.idxOf z = i
        · rw [← h, Nat.testBit_two_pow_self, ea, hb]
          rfl
        · rw [Nat.testBit_two_pow_of_ne h, Bool.false_and]
      rw [e]
      exact Nat.sub_self _
  constructor
  · rintro ⟨m, hm, h⟩
    exact ⟨m, hm, (key m).mp (of_decide_eq_true h)⟩
  · rintro ⟨m, hm, h⟩
    exact ⟨m, hm, decide_eq_true ((key m).mpr h)⟩
theorem rd_ninLn {K : PySem.W.Frag} {H : Hp} {Q : VK} {L : List Cell} {a : Addr} {x : Nat} {zs : List Nat} (hA : At H L) (m : (a, HO.lst (zs.map nv)) ∈ L) (k : Q (.bl (!decide (x ∈ zs))) H) : rIn K true (.int (x : Int)) (.ref a) H Q :=
  ⟨a, zs.map nv, rfl, .inl (SqL.of (hA.rd m)), rfl, by rw [List.all_map]; exact List.all_eq_true.mpr fun _ _ => rfl, by show Q (.bl (!inV (.int (x : Int)) (zs.map nv))) H; rw [inV_nats]; exact k⟩
end Sw

namespace Sw
open PySem L2 PySem.W PyProof.Rows
def eqsV (k : Str) (v : Value) : Bool := match v with
  | .str x _ => x.cps.toList == k.cps.toList
  | _ => false
theorem eqsV_gives {k : Str} {t : Tok} : ∀ {us : List Value} {ns : List Str}, StrsAre us ns → ∀ y ∈ us, MeetsSeq.EqGives y (.str k t) (eqsV k y)
  | _, _, .nil => fun y hy => by cases hy
  | _, _, .cons n t' h => fun y hy => by
    rcases List.mem_cons.mp hy with e | e
    · rw [e]
      exact PySem.SeqRoads2.EqGives.str n k t' t
    · exact eqsV_gives h y e
theorem str_cps {x y : Str} (h : x.cps.toList = y.cps.toList) : x = y := by
  obtain ⟨⟨a⟩⟩ := x
  obtain ⟨⟨b⟩⟩ := y
  have h : a = b := h
  rw [h]
theorem erase_at {α : Type} [BEq α] [LawfulBEq α] : ∀ {l : List α} {j : Nat} {k : α}, l[j]? = some k → (∀ m : Nat, m < j → l[m]? ≠ some k) → l.eraseIdx j = l.erase k
  | [], _, _, h, _ => by simp at h
  | a :: r, 0, k, h, _ => by
    have h : a = k := by simpa using h
    subst h
    rw [List.erase_cons_head]
    rfl
  | a :: r, j + 1, k, h, hn => by
    have ha : a ≠ k := fun e => hn 0 (Nat.succ_pos j) (by rw [e]; rfl)
    have ih := erase_at (l := r) (j := j) (k := k) (by simpa using h) fun m hm => by
      have := hn (m + 1) (by omega)
      simpa using this
    rw [List.eraseIdx_cons_succ, ih, List.erase_cons_tail (by simpa using ha)]
def rRemS : V → List V → Hp → VK → Prop := fun x xs H Q => ∃ (l : Addr) (ns : List Str) (k : Str) (j : Nat), x = .ref l ∧ xs = [.str k] ∧ H l = some (.lst (ns.map V.str)) ∧ ns[j]? = some k ∧ (∀ m : Nat, m < j → ns[m]? ≠ some k) ∧ Q .non (upd H l (.lst ((ns.eraseIdx j).map V.str)))
theorem mt_removeS {X : Cx} : MtM X "list.remove" rRemS := by
  intro pins s σ H x xs v us Q I rx rxs h
  obtain ⟨l, ns, k, j, rfl, rfl, hH, hj, hno, q⟩ := h
  cases rx
  obtain ⟨u, rfl, ru⟩ := rxs.one
  obtain ⟨t, rfl⟩ := ru
  obtain ⟨z, its, n, r, hl, e⟩ := I.lstM hH
  have hi := Vals.strs r
  rw [List.length_map] at hl z
  have hjn : j < ns.length := (List.getElem?_eq_some_iff.mp hj).1
  have hjl : j < its.toArray.size := by rw [List.size_toArray]; omega
  refine call_meets PySem.F.slot_list_remove ⟨_, e, rfl⟩ PySem.F.entry_list_remove (PySem.F.args_list_remove_2 _ _)
    (MeetsSeq.list_remove l its.toArray n (.str k t) (eqsV k) (fun y hy => eqsV_gives hi y (by simpa using hy)) j hjl ?_ ?_ (by rw [List.size_toArray]; omega)) ⟨e, ?_⟩
  · obtain ⟨tj, hjt⟩ := hi.get j k hj
    obtain ⟨h1, h2⟩ := List.getElem?_eq_some_iff.mp hjt
    have e1 : its.toArray[j] = .str k tj := by simpa using h2
    rw [e1]
    exact beq_self_eq_true _
  · intro m hm hmj
    have hmn : m < ns.length := by omega
    obtain ⟨tm, hmt⟩ := hi.get m _ (List.getElem?_eq_getElem hmn)
    obtain ⟨h1, h2⟩ := List.getElem?_eq_some_iff.mp hmt
    have e1 : its.toArray[m] = .str ns[m] tm := by simpa using h2
    rw [e1]
    refine beq_eq_false_iff_ne.mpr fun e2 => hno m hmj ?_
    rw [List.getElem?_eq_getElem hmn, str_cps e2]
  · have rr := r.eraseIdx j
    rw [erase_map] at rr
    refine ⟨.non, _, I.lset (its' := its.eraseIdx j) (t' := s.toks) hH e ?_ rr ?_, rfl, q⟩
    · show its.toArray.eraseIdxIfInBounds j = (its.eraseIdx j).toArray
      rw [List.eraseIdxIfInBounds_toArray]
    · have z2 := len_erase ns j
      rw [List.length_map]
      omega
theorem rd_removeS {H : Hp} {Q : VK} {F : List Cell} {a : Addr} {zs : List Str} {z : Str} (hA : At H ((a, HO.lst (zs.map V.str)) :: F)) (h : z ∈ zs) (k : ∀ H', At H' ((a, .lst ((zs.erase z).map V.str)) :: F) → Q .non H') : rRemS (.ref a) [.str z] H Q := by
  have hi : zs.idxOf z < zs.length := List.idxOf_lt_length_iff.mpr h
  have e1 : zs[zs.idxOf z]? = some z := by rw [List.getElem?_eq_getElem hi]; exact congrArg some (List.getElem_idxOf _)
  have e2 : ∀ m : Nat, m < zs.idxOf z → zs[m]? ≠ some z := fun m hm e => by
    obtain ⟨hl, e⟩ := List.getElem?_eq_some_iff.mp e
    have := List.not_of_lt_findIdx (p := fun x => x == z) (xs := zs) (i := m) (by simpa [List.idxOf] using hm)
    rw [e] at this
    simp at this
  refine ⟨a, zs, z, zs.idxOf z, rfl, rfl, hA.rd (.head _), e1, e2, k _ ?_⟩
  rw [erase_at e1 e2]
  exact hA.upd rfl
inductive NoL : PyData → Prop where
  | non : NoL .none
  | bl (b : Bool) : NoL (.bool b)
  | int (i : Int) : NoL (.int i)
  | str (x : Str) : NoL (.str x)
  | tup {ds : List PyData} (h : ∀ d ∈ ds, NoL d) : NoL (.tuple ds)
mutual
/-- C: the cells that are v's own; B: what stays as it is -/
inductive Own (B : List Cell) : List Cell → V → PyData → Prop where
  | pure {v : V} {d : PyData} (h : Rp B v d) (n : NoL d) : Own B [] v d
  | tup {C : List Cell} {a : Addr} {xs : List V} {ds : List PyData} (h : OwnAll B C xs ds) : Own B ((a, .tup xs) :: C) (.ref a) (.tuple ds)
  | lst {C : List Cell} {a : Addr} {xs : List V} {ds : List PyData} (h : OwnAll B C xs ds) : Own B ((a, .lst xs) :: C) (.ref a) (.list ds)
inductive OwnAll (B : List Cell) : List Cell → List V → List PyData → Prop where
  | nil : OwnAll B [] [] []
  | cons {C D : List Cell} {v : V} {vs : List V} {d : PyData} {ds : List PyData} (h : Own B C v d) (t : OwnAll B D vs ds) : OwnAll B (C ++ D) (v :: vs) (d :: ds)
end
section
variable {B C D L : List Cell}
mutual
theorem Own.rp : ∀ {d : PyData} {C : List Cell} {v : V}, Own B C v d → (∀ c ∈ B, c ∈ L) → (∀ c ∈ C, c ∈ L) → Rp L v d
  | .none, _, _, h, hB, hC => by cases h with | pure h _ => exact Rp.mono hB h
  | .bool _, _, _, h, hB, hC => by cases h with | pure h _ => exact Rp.mono hB h
  | .int _, _, _, h, hB, hC => by cases h with | pure h _ => exact Rp.mono hB h
  | .str _, _, _, h, hB, hC => by cases h with | pure h _ => exact Rp.mono hB h
  | .list ds, _, _, h, hB, hC => by
    cases h with
    | pure h _ => exact Rp.mono hB h
    | lst h => exact .lst (hC _ (.head _)) (OwnAll.rp h hB fun c m => hC c (.tail _ m))
  | .tuple ds, _, _, h, hB, hC => by
    cases h with
    | pure h _ => exact Rp.mono hB h
    | tup h => exact .tup (hC _ (.head _)) (OwnAll.rp h hB fun c m => hC c (.tail _ m))
  | .dict _, _, _, h, hB, hC => by cases h with | pure h _ => exact Rp.mono hB h
theorem OwnAll.rp : ∀ {ds : List PyData} {C : List Cell} {vs : List V}, OwnAll B C vs ds → (∀ c ∈ B, c ∈ L) → (∀ c ∈ C, c ∈ L) → RpAll L vs ds
  | [], _, _, h, hB, hC => by cases h; exact .nil
  | d :: ds, _, _, h, hB, hC => by
    cases h with
    | cons h t => exact .cons (Own.rp h hB fun c m => hC c (List.mem_append_left _ m)) (OwnAll.rp t hB fun c m => hC c (List.mem_append_right _ m))
end
theorem OwnAll.app {ds es : List PyData} : ∀ {C D : List Cell} {vs ws : List V}, OwnAll B C vs ds → OwnAll B D ws es → OwnAll B (C ++ D) (vs ++ ws) (ds ++ es) := by
  induction ds with
  | nil =>
    intro C D vs ws h g
    cases h
    exact g
  | cons d r ih =>
    intro C D vs ws h g
    cases h with
    | cons h t =>
      rw [List.append_assoc]
      exact .cons h (ih t g)
theorem OwnAll.one {v : V} {d : PyData} (h : Own B C v d) : OwnAll B C [v] [d] := by
  have := OwnAll.cons h (OwnAll.nil (B := B))
  rw [List.append_nil] at this
  exact this
theorem own_str (x : Str) : Own B [] (.str x) (.str x) := .pure (.str x) (.str x)
theorem OwnAll.strs : ∀ l : List Str, OwnAll B [] (l.map V.str) (l.map Datum.toD)
  | [] => .nil
  | x :: r => OwnAll.cons (C := []) (D := []) (own_str x) (OwnAll.strs r)
theorem own_strs (a : Addr) (l : List Str) : Own B [(a, .lst (l.map V.str))] (.ref a) (Datum.toD l) := Own.lst (C := []) (OwnAll.strs l)
theorem OwnAll.len : ∀ {ds : List PyData} {C : List Cell} {vs : List V}, OwnAll B C vs ds → vs.length = ds.length
  | [], _, _, h => by cases h; rfl
  | d :: ds, _, _, h => by
    cases h with
    | cons h t => rw [List.length_cons, List.length_cons, OwnAll.len t]
end
inductive Why where
  | never (d : PyData)
  | struck (l : List Str)
  | bare (b : Str)
def whyD : Why → PyData
  | .never d => .tuple [.str "never", d]
  | .struck l => .tuple [.str "struck", Datum.toD l]
  | .bare b => .tuple [.str "bare", .str b]
def dropD (z : Str × Why) : PyData := .tuple [.str z.1, whyD z.2]
section
variable (f : Str → List Str)
def toldL (x : Str) : Option Why := match grow f 32 [x] with
  | .told l => some (.struck l)
  | .no _ => none
def strD (z : Str) : Option Why := (f z).findSome? (toldL f)
def firstD (z : Str) : Option Why := match grow f 32 [z] with
  | .no d => some (.never d)
  | .told _ => strD f z
def some0 (N : List Str) : List Str := N.filter fun z => (firstD f z).isNone
def drops0 (N : List Str) : List (Str × Why) := N.filterMap fun z => (firstD f z).map fun w => (z, w)
def unA (cur : List Str) (z : Str) : Option Str := (f z).find? fun x => !((f x).any fun y => decide (y ∈ cur))
def passB : List Str → List Str → List Str × List (Str × Why)
  | cur, [] => (cur, [])
  | cur, z :: r => match unA f cur z with
    | none => passB cur r
    | some b => ((passB (cur.erase z) r).1, (z, .bare b) :: (passB (cur.erase z) r).2)
def bareL : Nat → List Str → List Str × List (Str × Why)
  | 0, left => (left, [])
  | n + 1, left => if (passB f left left).1.length = left.length then passB f left left else ((bareL n (passB f left left).1).1, (passB f left left).2 ++ (bareL n (passB f left left).1).2)
end
section
variable {f : Str → List Str} {cur xs N : List Str}
theorem unA_none {z : Str} : unA f cur z = none ↔ ∀ x ∈ f z, ∃ y ∈ f x, y ∈ cur := by
  unfold unA
  rw [List.find?_eq_none]
  refine forall_congr' fun x => forall_congr' fun _ => ?_
  rw [Bool.not_eq_true, Bool.not_eq_false', List.any_eq_true]
  exact ⟨fun ⟨y, m, h⟩ => ⟨y, m, of_decide_eq_true h⟩, fun ⟨y, m, h⟩ => ⟨y, m, decide_eq_true h⟩⟩
theorem passB_none {z : Str} {r : List Str} (h : unA f cur z = none) : passB f cur (z :: r) = passB f cur r := by rw [passB, h]
theorem passB_some {z b : Str} {r : List Str} (h : unA f cur z = some b) : passB f cur (z :: r) = ((passB f (cur.erase z) r).1, (z, .bare b) :: (passB f (cur.erase z) r).2) := by rw [passB, h]
theorem passB_sub : ∀ (xs cur : List Str), (passB f cur xs).1.Sublist cur
  | [], cur => .refl _
  | z :: r, cur => by
    cases h : unA f cur z with
    | none => rw [passB_none h]; exact passB_sub r cur
    | some b => rw [passB_some h]; exact (passB_sub r _).trans List.erase_sublist
theorem passB_keep {P : Str → Prop} (hd : ∀ z, P z → ∀ x ∈ f z, ∃ y ∈ f x, P y) : ∀ (xs cur : List Str), (∀ z, P z → z ∈ cur) → ∀ z, P z → z ∈ (passB f cur xs).1
  | [], cur, h => h
  | z :: r, cur, h => by
    cases e : unA f cur z with
    | none => rw [passB_none e]; exact passB_keep hd r cur h
    | some b =>
      rw [passB_some e]
      refine passB_keep hd r _ fun y hy => ?_
      have hz : y ≠ z := fun q => by
        subst q
        have : unA f cur y = none := unA_none.mpr fun x hx => by
          obtain ⟨w, hw, pw⟩ := hd y hy x hx
          exact ⟨w, hw, h w pw⟩
        rw [this] at e
        cases e
      exact (List.mem_erase_of_ne hz).mpr (h y hy)
theorem passB_fix : ∀ (xs cur : List Str), cur.Nodup → xs.Nodup → (∀ z ∈ xs, z ∈ cur) → (passB f cur xs).1.length = cur.length → (passB f cur xs).1 = cur ∧ ∀ z ∈ xs, unA f cur z = none
  | [], cur, _, _, _, _ => ⟨rfl, fun _ m => nomatch m⟩
  | z :: r, cur, nd, nx, hs, hl => by
    obtain ⟨n1, n2⟩ := List.nodup_cons.mp nx
    cases e : unA f cur z with
    | none =>
      rw [passB_none e] at hl ⊢
      obtain ⟨h1, h2⟩ := passB_fix r cur nd n2 (fun y m => hs y (.tail _ m)) hl
      refine ⟨h1, fun y m => ?_⟩
      rcases List.mem_cons.mp m with rfl | m
      · exact e
      · exact h2 y m
    | some b =>
      rw [passB_some e] at hl
      have h1 := (passB_sub (f := f) r (cur.erase z)).length_le
      have h2 := List.length_erase_of_mem (hs z (.head _))
      have h3 : 0 < cur.length := List.length_pos_of_mem (hs z (.head _))
      have hl : (passB f (cur.erase z) r).1.length = cur.length := hl
      omega
theorem bareL_ok {P : Str → Prop} (hd : ∀ z, P z → ∀ x ∈ f z, ∃ y ∈ f x, P y) : ∀ (n : Nat) (cur : List Str), cur.length < n → cur.Nodup → (∀ z, P z → z ∈ cur) →
    (bareL f n cur).1.Sublist cur ∧ (∀ z ∈ (bareL f n cur).1, unA f (bareL f n cur).1 z = none) ∧ ∀ z, P z → z ∈ (bareL f n cur).1
  | 0, cur, h, _, _ => absurd h (Nat.not_lt_zero _)
  | n + 1, cur, h, nd, hP => by
    rw [bareL]
    by_cases hl : (passB f cur cur).1.length = cur.length
    · rw [if_pos hl]
      obtain ⟨h1, h2⟩ := passB_fix cur cur nd nd (fun _ m => m) hl
      refine ⟨passB_sub cur cur, fun z m => ?_, passB_keep hd cur cur hP⟩
      rw [h1] at m ⊢
      exact h2 z m
    · rw [if_neg hl]
      have hle := (passB_sub (f := f) cur cur).length_le
      obtain ⟨g1, g2, g3⟩ := bareL_ok hd n (passB f cur cur).1 (by omega) (nd.sublist (passB_sub cur cur)) (passB_keep hd cur cur hP)
      exact ⟨g1.trans (passB_sub cur cur), g2, g3⟩
end
def grantP (f : Str → List Str) (N : List Str) : List Str × List (Str × Why) := bareL f ((some0 f N).length + 1) (some0 f N)
def strikersIn (f : Str → List Str) (N left : List Str) : List Str := N.filter fun x => left.any fun z => decide (x ∈ f z)
def noD : Grown → PyData
  | .no d => d
  | .told l => Datum.toD l
def treesD (f : Str → List Str) (N left : List Str) : List PyData := (strikersIn f N left).map fun z => .tuple [.str z, noD (grow f 32 [z])]
section
variable {N : List Str} {es : List (Str × Str)} {ks us : List Nat}
def inSome (N : List Str) (es : List (Str × Str)) (z : Str) : Prop := ∃ ys, SetI N ys ∧ HoldP es ys ∧ z ∈ ys
theorem told_inSome (hV : VwOk N es ks us) (nd : N.Nodup) (hr : Rise N) (hS : SOk N es) (hl : N.length ≤ 30) {z : Str} (hz : z ∈ N) : (∃ l, grow (skF es) 32 [z] = .told l) ↔ inSome N es z := by
  have hs : ∀ y ∈ [z], y ∈ N := fun y m => by rw [List.mem_singleton.mp m]; exact hz
  have ny : ([z] : List Str).Nodup := List.nodup_cons.mpr ⟨(fun m => nomatch m), .nil⟩
  have hf : outN N [z] < 32 := by
    have := outN_le N [z]
    omega
  rw [← grow_any hV nd hS ny hs hf, any_has nd hz]
  constructor
  · rintro ⟨m, hm, hz⟩
    have hi := SetI.of nd hr m
    exact ⟨_, hi, (in_stand hV nd hr hS hi).mp (mem_listS.mpr ⟨m, hm, rfl⟩), hz⟩
  · rintro ⟨ys, hi, hh, hz⟩
    obtain ⟨m, hm, e⟩ := mem_listS.mp ((in_stand hV nd hr hS hi).mpr hh)
    exact ⟨m, hm, by rw [e]; exact hz⟩
theorem firstD_none {z : Str} : firstD (skF es) z = none ↔ (∃ l, grow (skF es) 32 [z] = .told l) ∧ ∀ x, (x, z) ∈ es → ¬ ∃ l, grow (skF es) 32 [x] = .told l := by
  have hst : strD (skF es) z = none ↔ ∀ x, (x, z) ∈ es → ¬ ∃ l, grow (skF es) 32 [x] = .told l := by
    unfold strD
    rw [List.findSome?_eq_none_iff]
    constructor
    · rintro h x mx ⟨l, e⟩
      have := h x (mem_skF.mpr mx)
      unfold toldL at this
      rw [e] at this
      cases this
    · intro h x mx
      unfold toldL
      cases e : grow (skF es) 32 [x] with
      | told l => exact absurd ⟨l, e⟩ (h x (mem_skF.mp mx))
      | no d => rfl
  unfold firstD
  cases e : grow (skF es) 32 [z] with
  | told l => exact hst.trans ⟨fun h => ⟨⟨l, rfl⟩, h⟩, fun h => h.2⟩
  | no d => exact ⟨(fun h => nomatch h), fun ⟨⟨l, h⟩, _⟩ => nomatch h⟩
theorem mem_some0 {z : Str} : z ∈ some0 (skF es) N ↔ z ∈ N ∧ firstD (skF es) z = none := by
  unfold some0
  rw [List.mem_filter, Option.isNone_iff_eq_none]
theorem grant_main (hV : VwOk N es ks us) (nd : N.Nodup) (hr : Rise N) (hS : SOk N es) (hl : N.length ≤ 30) :
    (grantP (skF es) N).1.Sublist N ∧ HoldP es (grantP (skF es) N).1 ∧ (∀ x z, z ∈ (grantP (skF es) N).1 → (x, z) ∈ es → ¬ inSome N es x) ∧
    ∀ ys, SetI N ys → HoldP es ys → (∀ x z, z ∈ ys → (x, z) ∈ es → ¬ inSome N es x) → ∀ z ∈ ys, z ∈ (grantP (skF es) N).1 := by
  have nd0 : (some0 (skF es) N).Nodup := nd.filter _
  have key : ∀ z, z ∈ some0 (skF es) N ↔ z ∈ N ∧ inSome N es z ∧ ∀ x, (x, z) ∈ es → ¬ inSome N es x := fun z => by
    rw [mem_some0, firstD_none]
    constructor
    · rintro ⟨m, h1, h2⟩
      exact ⟨m, (told_inSome hV nd hr hS hl m).mp h1, fun x mx h => h2 x mx ((told_inSome hV nd hr hS hl (hS.mem _ mx).1).mpr h)⟩
    · rintro ⟨m, h1, h2⟩
      exact ⟨m, (told_inSome hV nd hr hS hl m).mpr h1, fun x mx h => h2 x mx ((told_inSome hV nd hr hS hl (hS.mem _ mx).1).mp h)⟩
  have base := bareL_ok (f := skF es) (P := fun _ => False) (fun _ h => h.elim) _ _ (Nat.lt_succ_self (some0 (skF es) N).length) nd0 (fun _ h => h.elim)
  obtain ⟨b1, b2, _⟩ := base
  have hsub : ∀ z ∈ (grantP (skF es) N).1, z ∈ some0 (skF es) N := fun z m => b1.subset m
  refine ⟨b1.trans List.filter_sublist, ⟨fun x y hx hy he => ?_, fun x y hy he => ?_⟩, fun x z hz he => ((key z).mp (hsub z hz)).2.2 x he, fun ys hi hh hn z hz => ?_⟩
  · exact ((key y).mp (hsub y hy)).2.2 x he ((key x).mp (hsub x hx)).2.1
  · obtain ⟨n, hn, hc⟩ := unA_none.mp (b2 y hy) x (mem_skF.mpr he)
    exact ⟨n, hc, mem_skF.mp hn⟩
  · refine (bareL_ok (f := skF es) (P := fun y => y ∈ ys) (fun y hy x hx => ?_) _ _ (Nat.lt_succ_self (some0 (skF es) N).length) nd0 fun y hy => ?_).2.2 z hz
    · obtain ⟨n, hn, he⟩ := hh.2 x y hy (mem_skF.mp hx)
      exact ⟨n, mem_skF.mpr he, hn⟩
    · exact (key y).mpr ⟨hi.sub y hy, ⟨ys, hi, hh, hy⟩, fun x he => hn x y hy he⟩
end
def hitAllM (us : List Nat) (n : Nat) (ms : List Nat) : Nat := ms.foldl (fun h m => h ||| hitN us m n) 0
def foundM (hit : Nat) (ms : List Nat) : Nat := ms.foldl (fun r m => if m &&& hit = 0 then r ||| m else r) 0
theorem foldl_or (g : Nat → Nat) (a : Nat) : ∀ (ms : List Nat) (h : Nat), (ms.foldl (fun h m => h ||| g m) h).testBit a = true ↔ h.testBit a = true ∨ ∃ m ∈ ms, (g m).testBit a = true
  | [], h => ⟨.inl, fun q => q.elim id fun ⟨_, m, _⟩ => nomatch m⟩
  | m :: r, h => by
    rw [List.foldl_cons, foldl_or g a r, Nat.testBit_or, Bool.or_eq_true]
    constructor
    · rintro ((q | q) | ⟨y, my, q⟩)
      · exact .inl q
      · exact .inr ⟨m, .head _, q⟩
      · exact .inr ⟨y, .tail _ my, q⟩
    · rintro (q | ⟨y, my, q⟩)
      · exact .inl (.inl q)
      · rcases List.mem_cons.mp my with rfl | my
        · exact .inl (.inr q)
        · exact .inr ⟨y, my, q⟩
theorem foundM_bit {hit a : Nat} {ms : List Nat} : (foundM hit ms).testBit a = true ↔ ∃ m ∈ ms, m &&& hit = 0 ∧ m.testBit a = true := by
  unfold foundM
  have e : (fun (r m : Nat) => if m &&& hit = 0 then r ||| m else r) = fun r m => r ||| (if m &&& hit = 0 then m else 0) := by
    funext r m
    split
    · rfl
    · rw [Nat.or_zero]
  rw [e, foldl_or (fun m => if m &&& hit = 0 then m else 0), Nat.zero_testBit]
  constructor
  · rintro (h | ⟨m, mm, h⟩)
    · cases h
    · split at h
      · exact ⟨m, mm, by assumption, h⟩
      · rw [Nat.zero_testBit] at h
        cases h
  · rintro ⟨m, mm, h0, h⟩
    exact .inr ⟨m, mm, by rw [if_pos h0]; exact h⟩
theorem grant_set {N : List Str} {es : List (Str × Str)} {ks us : List Nat} (hV : VwOk N es ks us) (nd : N.Nodup) (hr : Rise N) (hS : SOk N es) (hl : N.length ≤ 30) :
    setOf N (foundM (hitAllM us N.length (standM ks us N.length)) (standM ks us N.length)) = (grantP (skF es) N).1 := by
  obtain ⟨g1, g2, g3, g4⟩ := grant_main hV nd hr hS hl
  have hgi : SetI N (grantP (skF es) N).1 := ⟨List.Pairwise.sublist g1 hr, nd.sublist g1, fun y m => g1.subset m⟩
  have hit : ∀ {b : Nat} {y : Str}, N[b]? = some y → ((hitAllM us N.length (standM ks us N.length)).testBit b = true ↔ ∃ x, inSome N es x ∧ (x, y) ∈ es) := fun {b y} hb => by
    unfold hitAllM
    rw [foldl_or (fun m => hitN us m N.length), Nat.zero_testBit]
    constructor
    · rintro (h | ⟨m, hm, h⟩)
      · cases h
      · obtain ⟨x, hx, he⟩ := (hit_iff hV nd hb).mp h
        have hi := SetI.of nd hr m
        exact ⟨x, ⟨_, hi, (in_stand hV nd hr hS hi).mp (mem_listS.mpr ⟨m, hm, rfl⟩), hx⟩, he⟩
    · rintro ⟨x, ⟨ys, hi, hh, hx⟩, he⟩
      obtain ⟨m, hm, e⟩ := mem_listS.mp ((in_stand hV nd hr hS hi).mpr hh)
      exact .inr ⟨m, hm, (hit_iff hV nd hb).mpr ⟨x, by rw [e]; exact hx, he⟩⟩
  refine SetI.ext (SetI.of nd hr _) hgi fun z => ?_
  rw [mem_setOf]
  constructor
  · rintro ⟨a, ha, hb⟩
    obtain ⟨m, hm, h0, hbm⟩ := foundM_bit.mp hb
    have hi := SetI.of nd hr m
    refine g4 _ hi ((in_stand hV nd hr hS hi).mp (mem_listS.mpr ⟨m, hm, rfl⟩)) (fun x y hy he hx => ?_) z (mem_setOf.mpr ⟨a, ha, hbm⟩)
    obtain ⟨b, hyb, hmb⟩ := mem_setOf.mp hy
    exact and_zero.mp h0 b hmb ((hit hyb).mpr ⟨x, hx, he⟩)
  · intro hz
    obtain ⟨m, hm, e⟩ := mem_listS.mp ((in_stand hV nd hr hS hgi).mpr g2)
    have hz2 := hz
    rw [← e] at hz2
    obtain ⟨a, ha, hb⟩ := mem_setOf.mp hz2
    refine ⟨a, ha, foundM_bit.mpr ⟨m, hm, and_zero.mpr fun b hmb hhb => ?_, hb⟩⟩
    have hlt := (standM_mem hV.ul hm).1
    have hbl : b < N.length := by
      rcases Nat.lt_or_ge b N.length with h | h
      · exact h
      · rw [Nat.testBit_lt_two_pow (Nat.lt_of_lt_of_le hlt (Nat.pow_le_pow_right (by decide) h))] at hmb
        cases hmb
    have hyb := List.getElem?_eq_getElem hbl
    obtain ⟨x, hx, he⟩ := (hit hyb).mp hhb
    exact g3 x _ (by rw [← e]; exact mem_setOf.mpr ⟨b, hyb, hmb⟩) he hx
def GrIn (W : List Cell) (v : V) : Grown → Prop
  | .told l => ∃ p, v = .ref p ∧ (p, HO.lst (l.map V.str)) ∈ W
  | .no d => Rp W v d
theorem GrOk.inn {W L : List Cell} {v : V} {g : Grown} (h : GrOk W v g) (s : ∀ c ∈ W, c ∈ L) : GrIn L v g := by
  cases g with
  | told l =>
    obtain ⟨p, rfl, rfl⟩ := h
    exact ⟨p, rfl, s _ (.head _)⟩
  | no d => exact Rp.mono s h
theorem GrIn.mono {W L : List Cell} {v : V} {g : Grown} (h : GrIn W v g) (s : ∀ c ∈ W, c ∈ L) : GrIn L v g := by
  cases g with
  | told l =>
    obtain ⟨p, rfl, m⟩ := h
    exact ⟨p, rfl, s _ m⟩
  | no d => exact Rp.mono s h
theorem noL_mem {α : Type} {ds : List PyData} {more : List α} (e : ds.length = more.length) {P : PyData → Prop} (h : ∀ q ∈ more.zip ds, P q.2) : ∀ d ∈ ds, P d := fun d m => by
  obtain ⟨i, hi⟩ := List.getElem?_of_mem m
  have hl : i < more.length := by rw [← e]; exact (List.getElem?_eq_some_iff.mp hi).1
  exact h (more[i], d) (List.mem_of_getElem? (List.getElem?_zip_eq_some.mpr ⟨List.getElem?_eq_getElem hl, hi⟩))
theorem tr_noL {f : Str → List Str} {N : List Str} {S : List (List Str)} {ws : List Str} : ∀ {n : Nat} {held : List Str} {d : PyData}, TrOk f N S ws n held d → NoL d
  | 0, _, _, h => h.elim
  | n + 1, held, d, h => by
    have str3 : ∀ {a b c : PyData}, NoL a → NoL b → NoL c → NoL (.tuple [a, b, c]) := fun ha hb hc => .tup fun d m => by
      rcases List.mem_cons.mp m with rfl | m
      · exact ha
      rcases List.mem_cons.mp m with rfl | m
      · exact hb
      · cases List.mem_singleton.mp m
        exact hc
    rcases h with ⟨p, rfl, _⟩ | ⟨p, ds, rfl, _, _, _, _, e1, e2⟩ | ⟨i, ds, rfl, _, _, _, e1, e2⟩ | ⟨x, ds, rfl, _, _, _, _, e1, e2⟩
    · exact str3 (.str _) (.str _) (.str _)
    · refine .tup fun d m => ?_
      rcases List.mem_cons.mp m with rfl | m
      · exact .str _
      rcases List.mem_cons.mp m with rfl | m
      · exact .str _
      rcases List.mem_cons.mp m with rfl | m
      · exact .str _
      · cases List.mem_singleton.mp m
        exact .tup (noL_mem e1 fun q mq => tr_noL (e2 q mq))
    · exact str3 (.str _) (.int _) (.tup (noL_mem e1 fun q mq => tr_noL (e2 q mq)))
    · exact str3 (.str _) (.str _) (.tup (noL_mem e1 fun q mq => tr_noL (e2 q mq)))
theorem grow_noL {N : List Str} {es : List (Str × Str)} (hS : SOk N es) (hl : N.length ≤ 30) {z : Str} (hz : z ∈ N) {d : PyData} (h : grow (skF es) 32 [z] = .no d) : NoL d := by
  have hs : ∀ y ∈ [z], y ∈ N := fun y m => by rw [List.mem_singleton.mp m]; exact hz
  have hf : outN N [z] < 32 := by
    have := outN_le N [z]
    omega
  exact tr_noL (grow_tr (S := []) (ws := ["clash", "answer"]) (fun z m x mx => skF_in hS z m x mx) (by decide +kernel) (by decide +kernel) hf hs h)
def optS : Option Str → V
  | none => .non
  | some x => .str x
def whyOwn (B C : List Cell) (v : V) : Option Why → Prop
  | none => v = .non ∧ C = []
  | some w => Own B C v (whyD w)
theorem findSome_at {α β : Type} {g : α → Option β} : ∀ {l : List α} {j : Nat} {x : α}, (∀ y ∈ l.take j, g y = none) → l[j]? = some x → (g x).isSome = true → l.findSome? g = g x
  | [], _, _, _, h, _ => by simp at h
  | a :: r, 0, x, _, h, hs => by
    have h : a = x := by simpa using h
    subst h
    rw [List.findSome?_cons]
    cases e : g a with
    | none => rw [e] at hs; cases hs
    | some b => rfl
  | a :: r, j + 1, x, hn, h, hs => by
    rw [List.findSome?_cons, hn a (.head _)]
    exact findSome_at (fun y m => hn y (.tail _ m)) (by simpa using h) hs
theorem findSome_no {α β : Type} {g : α → Option β} {l : List α} (h : ∀ y ∈ l.take l.length, g y = none) : l.findSome? g = none := by
  rw [List.take_length] at h
  exact List.findSome?_eq_none_iff.mpr h
theorem find_at {α : Type} {g : α → Bool} : ∀ {l : List α} {j : Nat} {x : α}, (∀ y ∈ l.take j, g y = false) → l[j]? = some x → g x = true → l.find? g = some x
  | [], _, _, _, h, _ => by simp at h
  | a :: r, 0, x, _, h, hs => by
    have h : a = x := by simpa using h
    subst h
    rw [List.find?_cons_of_pos hs]
  | a :: r, j + 1, x, hn, h, hs => by
    rw [List.find?_cons_of_neg (by rw [hn a (.head _)]; exact Bool.false_ne_true)]
    exact find_at (fun y m => hn y (.tail _ m)) (by simpa using h) hs
theorem find_no {α : Type} {g : α → Bool} {l : List α} (h : ∀ y ∈ l.take l.length, g y = false) : l.find? g = none := by
  rw [List.take_length] at h
  exact List.find?_eq_none.mpr fun y m => by rw [h y m]; exact Bool.false_ne_true
theorem take_all {α : Type} {P : α → Prop} {l : List α} {j : Nat} {x : α} (h : ∀ y ∈ l.take j, P y) (e : l[j]? = some x) (hx : P x) : ∀ y ∈ l.take (j + 1), P y := fun y m => by
  rw [List.take_succ, e] at m
  rcases List.mem_append.mp m with m | m
  · exact h y m
  · cases List.mem_singleton.mp m
    exact hx
theorem zr_snoc (Z : List (Str × Addr)) (z : Str) (a : Addr) : zr (Z ++ [(z, a)]) = zr Z ++ [(z, .ref a)] := List.map_append
section
variable {B B' : List Cell} (hs : ∀ c ∈ B, c ∈ B')
include hs
mutual
theorem Own.mono : ∀ {d : PyData} {C : List Cell} {v : V}, Own B C v d → Own B' C v d
  | .none, _, _, h => by cases h with | pure h n => exact .pure (Rp.mono hs h) n
  | .bool _, _, _, h => by cases h with | pure h n => exact .pure (Rp.mono hs h) n
  | .int _, _, _, h => by cases h with | pure h n => exact .pure (Rp.mono hs h) n
  | .str _, _, _, h => by cases h with | pure h n => exact .pure (Rp.mono hs h) n
  | .list ds, _, _, h => by
    cases h with
    | pure h n => exact .pure (Rp.mono hs h) n
    | lst h => exact .lst (OwnAll.mono h)
  | .tuple ds, _, _, h => by
    cases h with
    | pure h n => exact .pure (Rp.mono hs h) n
    | tup h => exact .tup (OwnAll.mono h)
  | .dict _, _, _, h => by cases h with | pure h n => exact .pure (Rp.mono hs h) n
theorem OwnAll.mono : ∀ {ds : List PyData} {C : List Cell} {vs : List V}, OwnAll B C vs ds → OwnAll B' C vs ds
  | [], _, _, h => by cases h; exact .nil
  | d :: ds, _, _, h => by
    cases h with
    | cons h t => exact .cons (Own.mono h) (OwnAll.mono t)
end
end
theorem own_tups {B : List Cell} {ψ : Str → List V} {δ : Str → PyData} : ∀ zs : List (Addr × Str), (∀ x ∈ zs.map Prod.snd, ∃ v, ψ x = [.str x, v] ∧ Rp B v (δ x) ∧ NoL (δ x)) → OwnAll B (tcs ψ zs) (zs.map fun z => V.ref z.1) ((zs.map Prod.snd).map fun x => .tuple [.str x, δ x])
  | [], _ => .nil
  | z :: r, h => by
    obtain ⟨v, e, h1, h2⟩ := h z.2 (.head _)
    have hh : Own B [(z.1, HO.tup (ψ z.2))] (.ref z.1) (.tuple [.str z.2, δ z.2]) := by
      rw [e]
      exact Own.tup (C := []) (OwnAll.cons (C := []) (D := []) (own_str z.2) (OwnAll.cons (C := []) (D := []) (.pure h1 h2) .nil))
    exact OwnAll.cons (C := [(z.1, HO.tup (ψ z.2))]) hh (own_tups r fun x m => h x (.tail _ m))
theorem grant_trees {N : List Str} {es : List (Str × Str)} {ks us : List Nat} (hV : VwOk N es ks us) (nd : N.Nodup) (hr : Rise N) (hS : SOk N es) (hl : N.length ≤ 30) {x : Str} (h : x ∈ strikersIn (skF es) N (grantP (skF es) N).1) :
    x ∈ N ∧ ∃ d, grow (skF es) 32 [x] = .no d ∧ NoL d := by
  obtain ⟨g1, g2, g3, g4⟩ := grant_main hV nd hr hS hl
  unfold strikersIn at h
  obtain ⟨hx, hz⟩ := List.mem_filter.mp h
  obtain ⟨z, hz, he⟩ := List.any_eq_true.mp hz
  have he := mem_skF.mp (of_decide_eq_true he)
  have hn := g3 x z hz he
  refine ⟨hx, ?_⟩
  cases e : grow (skF es) 32 [x] with
  | told l => exact absurd ((told_inSome hV nd hr hS hl hx).mp ⟨l, e⟩) hn
  | no d => exact ⟨d, rfl, grow_noL hS hl hx e⟩
theorem passB_len {f : Str → List Str} : ∀ xs cur : List Str, (passB f cur xs).2.length ≤ xs.length
  | [], cur => Nat.le_refl _
  | z :: r, cur => by
    cases h : unA f cur z with
    | none =>
      rw [passB_none h]
      exact Nat.le_succ_of_le (passB_len r cur)
    | some b =>
      rw [passB_some h]
      exact Nat.succ_le_succ (passB_len r _)
theorem bareL_len {f : Str → List Str} : ∀ (n : Nat) (cur : List Str), (bareL f n cur).2.length ≤ n * cur.length
  | 0, cur => Nat.zero_le _
  | n + 1, cur => by
    rw [bareL, Nat.succ_mul]
    split
    · exact Nat.le_trans (passB_len _ _) (Nat.le_add_left _ _)
    · rw [List.length_append]
      have h1 := passB_len (f := f) cur cur
      have h2 := bareL_len (f := f) n (passB f cur cur).1
      have h3 := Nat.mul_le_mul_left n (passB_sub (f := f) cur cur).length_le
      omega
theorem bareL_len30 {f : Str → List Str} {cur : List Str} (h : cur.length ≤ 30) : (bareL f (cur.length + 1) cur).2.length ≤ 930 :=
  Nat.le_trans (bareL_len _ _) (Nat.le_trans (Nat.mul_le_mul (Nat.succ_le_succ h) h) (by decide))
section
variable {σ : L2.St} {H : Hp} {Q : VK} {L : List Cell} {g : TG} {tt : TT} {te : TE} {vs : List Nat}
end
end Sw

namespace Sw
open PySem L2 PySem.W PyProof.Rows
def EachR (G : List (List Str)) (T : PyData) (z : Str) (X : List Cell) (xs : List V) : Prop :=
  (∃ a o B, xs = [.str "not", .ref a] ∧ X = (a, .lst (o.map V.str)) :: B ∧ G.find? (fun o => !decide (z ∈ o)) = some o) ∨
    ∃ rr zs v W, xs = [.str "each", .ref rr, v] ∧ X = (rr, .lst (clr zs)) :: (cl zs ++ W) ∧ zs.map Prod.snd = G ∧ Rp W v T ∧ ∀ o ∈ G, z ∈ o
section
variable {K : PySem.W.Frag} {H : Hp} {Q : VK} {F : List Cell} {a : Addr}
end
section
variable {σ : L2.St} {H : Hp} {D : Ends} {tl : TA} {u v w : V}
def Par3 (i j l : Nat) (vs : List V) (σ : L2.St) (H : Hp) (R : L2.St → Hp → Prop) : Prop := ∃ u v w, vs = [u, v, w] ∧ R (((σ.set i (some u)).set j (some v)).set l (some w)) H
theorem rd_par3 {i j l : Nat} (k : tl σ H fun vs H1 => Par3 i j l vs σ H1 D.nx) : tPar3 i j l tl D σ H := k
theorem rd_par3k {i j l : Nat} {R : L2.St → Hp → Prop} (k : R (((σ.set i (some u)).set j (some v)).set l (some w)) H) : Par3 i j l [u, v, w] σ H R := ⟨_, _, _, rfl, k⟩
end
def eachD (S : List (List Str)) (T : PyData) : PyData := .tuple [.str "each", .list (S.map Datum.toD), T]
def notD (o : List Str) : PyData := .tuple [.str "not", Datum.toD o]
theorem own_notD {B : List Cell} (r a : Addr) (o : List Str) : Own B [(r, .tup [.str "not", .ref a]), (a, .lst (o.map V.str))] (.ref r) (notD o) :=
  Own.tup (C := [(a, .lst (o.map V.str))]) (OwnAll.cons (C := []) (own_str "not") (OwnAll.one (own_strs a o)))
def eachDat (S : List (List Str)) (T : PyData) (z : Str) : PyData := match S.find? (fun o => !decide (z ∈ o)) with
  | some o => notD o
  | none => eachD S T
theorem each_none {S : List (List Str)} {z : Str} (h : ∀ o ∈ S, z ∈ o) : S.find? (fun o => !decide (z ∈ o)) = none :=
  List.find?_eq_none.mpr fun o m => by rw [decide_eq_true (h o m)]; exact Bool.false_ne_true
section
variable {S : List (List Str)} {T : PyData} {z : Str} {X L : List Cell} {xs : List V} {r : Addr}
theorem EachR.rp (h : EachR S T z X xs) : Rp ((r, .tup xs) :: (X ++ L)) (.ref r) (eachDat S T z) := by
  rcases h with ⟨a, o, B, rfl, rfl, hfo⟩ | ⟨rr, zz, v, W, rfl, rfl, ez, hR, hall⟩
  · unfold eachDat
    rw [hfo]
    refine Own.rp (B := []) (own_notD r a o) (fun _ m => nomatch m) (fun c m => ?_)
    rcases List.mem_cons.mp m with rfl | m
    · exact .head _
    · cases List.mem_singleton.mp m
      exact .tail _ (.head _)
  · unfold eachDat
    rw [each_none hall]
    subst ez
    exact .tup (.head _) (.cons (.str _) (.cons (is_list (.tail _ (.head _)) (iss_cl fun c m => .tail _ (List.mem_append_left _ (.tail _ (List.mem_append_left _ m))))) (.cons (Rp.mono (fun c m => .tail _ (List.mem_append_left _ (.tail _ (List.mem_append_right _ m)))) hR) .nil)))
end
end Sw

namespace Sw
open PySem L2 PySem.W PyProof.Rows
section
variable {N : List Str} {es : List (Str × Str)} {ks us : List Nat}
def grantM (ks us : List Nat) (n : Nat) : Nat := foundM (hitAllM us n (standM ks us n)) (standM ks us n)
theorem grant_in_great (hV : VwOk N es ks us) (nd : N.Nodup) (hS : SOk N es) {o : Nat} (ho : o ∈ greatM ks us N.length) : SubM (grantM ks us N.length) o := by
  intro a ha
  obtain ⟨m, hm, h0, hb⟩ := foundM_bit.mp ha
  have ho2 := (great_stand hV nd hS).mpr ho
  obtain ⟨ho3, ho4⟩ := greatOf_mem.mp ho2
  obtain ⟨m1, m2, m3⟩ := (mem_standM hV.ul).mp hm
  obtain ⟨o1, o2, o3⟩ := (mem_standM hV.ul).mp ho3
  have qm := (quiet_same hV m).mpr m2
  have qo := (quiet_same hV o).mpr o2
  -- no name of m is struck by o
  have key : ∀ x y, x ∈ setOf N o → y ∈ setOf N m → ¬ (x, y) ∈ es := fun x y hx hy he => by
    obtain ⟨b, hyb, hmb⟩ := mem_setOf.mp hy
    refine and_zero.mp h0 b hmb ?_
    unfold hitAllM
    rw [foldl_or (fun m => hitN us m N.length)]
    exact .inr ⟨o, ho3, (hit_iff hV nd hyb).mpr ⟨x, hx, he⟩⟩
  have hu : m ||| o ∈ standM ks us N.length := by
    refine (mem_standM hV.ul).mpr ⟨Nat.or_lt_two_pow m1 o1, (quiet_same hV _).mp fun x y hx hy he => ?_, sub_and.mpr fun j hj => ?_⟩
    · rcases mem_setOf_or.mp hx with hx | hx <;> rcases mem_setOf_or.mp hy with hy | hy
      · exact qm x y hx hy he
      · obtain ⟨j, hj, hb⟩ := mem_setOf.mp hy
        obtain ⟨n, hn, hne⟩ := (kept_iff hV nd hS hj).mp (sub_and.mp o3 j hb) x he
        exact key n x hn hx hne
      · exact key x y hx hy he
      · exact qo x y hx hy he
    · rw [Nat.testBit_or, Bool.or_eq_true] at hj
      rcases hj with hj | hj
      · exact kM_mono (a := m) (b := m ||| o) (fun i hi => by rw [Nat.testBit_or, hi]; rfl) j (sub_and.mp m3 j hj)
      · exact kM_mono (a := o) (b := m ||| o) (fun i hi => by rw [Nat.testBit_or, hi, Bool.or_true]) j (sub_and.mp o3 j hj)
  have e : o = m ||| o := ho4 _ hu (SubM.land fun i hi => by rw [Nat.testBit_or, hi, Bool.or_true])
  rw [e, Nat.testBit_or, hb]
  rfl
theorem least_in_grant (hV : VwOk N es ks us) (nd : N.Nodup) (hS : SOk N es) {m : Nat} (hlt : m < 2 ^ N.length) (hk : m = kM ks us N.length m) (hc : ∀ c, c = kM ks us N.length c → SubM m c) : SubM m (grantM ks us N.length) := by
  have hw : ∀ s ∈ standM ks us N.length, ∃ w, w ∈ standM ks us N.length ∧ SubM s w ∧ SubM m w := fun s hs => by
    obtain ⟨w, mw, hw⟩ := stand_great hV nd hS hs
    have h9 := (greatOf_mem.mp mw).1
    exact ⟨w, (List.mem_filter.mp h9).1, hw, hc w (of_decide_eq_true (List.mem_filter.mp h9).2)⟩
  have h00 : hitN us 0 N.length &&& 0 = 0 := Nat.and_zero _
  have h0 : (0 : Nat) ∈ standM ks us N.length := (mem_standM hV.ul).mpr ⟨Nat.two_pow_pos _, h00, Nat.zero_sub _⟩
  obtain ⟨w, mw, _, hmw⟩ := hw 0 h0
  have qw := (quiet_same hV w).mpr ((mem_standM hV.ul).mp mw).2.1
  have up : ∀ {w : Nat}, SubM m w → ∀ x, x ∈ setOf N m → x ∈ setOf N w := fun h x hx => by
    obtain ⟨i, hi, hb⟩ := mem_setOf.mp hx
    exact mem_setOf.mpr ⟨i, hi, h i hb⟩
  have hms : m ∈ standM ks us N.length := (mem_standM hV.ul).mpr ⟨hlt, (quiet_same hV m).mp fun x y hx hy he => qw x y (up hmw x hx) (up hmw y hy) he, sub_and.mpr (by
    intro j hj
    have h9 : (kM ks us N.length m).testBit j = true := by rw [← hk]; exact hj
    exact h9)⟩
  intro a ha
  refine foundM_bit.mpr ⟨m, hms, and_zero.mpr fun b hmb hhb => ?_, ha⟩
  unfold hitAllM at hhb
  rw [foldl_or (fun m => hitN us m N.length), Nat.zero_testBit] at hhb
  obtain ⟨s, hs, hsb⟩ := hhb.resolve_left (by decide)
  have hbl : b < N.length := by
    rcases Nat.lt_or_ge b N.length with h | h
    · exact h
    · rw [Nat.testBit_lt_two_pow (Nat.lt_of_lt_of_le hlt (Nat.pow_le_pow_right (by decide) h))] at hmb
      cases hmb
  have hyb := List.getElem?_eq_getElem hbl
  obtain ⟨x, hx, he⟩ := (hit_iff hV nd hyb).mp hsb
  obtain ⟨w2, mw2, hsw, hmw2⟩ := hw s hs
  have qw2 := (quiet_same hV w2).mpr ((mem_standM hV.ul).mp mw2).2.1
  refine qw2 x _ ?_ (up hmw2 _ (mem_setOf.mpr ⟨b, hyb, hmb⟩)) he
  obtain ⟨i, hi, hbx⟩ := mem_setOf.mp hx
  exact mem_setOf.mpr ⟨i, hi, hsw i hbx⟩
theorem some_bits (hV : VwOk N es ks us) (nd : N.Nodup) (hr : Rise N) (hS : SOk N es) (hl : N.length ≤ 30) {z : Str} {j : Nat} (hj : N[j]? = some z) : ((standM ks us N.length).any fun u => decide (((u >>> j &&& 1 : Nat) : Int) = 1)) = true ↔ ∃ l, grow (skF es) 32 [z] = .told l := by
  rw [told_inSome hV nd hr hS hl (List.mem_of_getElem? hj), List.any_eq_true]
  constructor
  · rintro ⟨m, hm, h⟩
    exact ⟨setOf N m, SetI.of nd hr m, (in_stand hV nd hr hS (SetI.of nd hr m)).mp (mem_listS.mpr ⟨m, hm, rfl⟩), mem_setOf.mpr ⟨j, hj, bit_is.mp (of_decide_eq_true h)⟩⟩
  · rintro ⟨ys, hi, hh, hz⟩
    obtain ⟨m, hm, rfl⟩ := mem_listS.mp ((in_stand hV nd hr hS hi).mpr hh)
    obtain ⟨a, ha, hb⟩ := mem_setOf.mp hz
    have := at_inj nd ha hj
    subst this
    exact ⟨m, hm, decide_eq_true (bit_is.mpr hb)⟩
theorem each_bits (nd : N.Nodup) {z : Str} {j : Nat} (hj : N[j]? = some z) {ms : List Nat} : (ms.all fun u => decide (((u >>> j &&& 1 : Nat) : Int) = 1)) = true ↔ ∀ o ∈ srt (ms.map (setOf N)), z ∈ o := by
  rw [List.all_eq_true]
  constructor
  · intro h o ho
    obtain ⟨m, hm, rfl⟩ := List.mem_map.mp (srt_mem.mp ho)
    exact mem_setOf.mpr ⟨j, hj, bit_is.mp (of_decide_eq_true (h m hm))⟩
  · intro h m hm
    obtain ⟨a, ha, hb⟩ := mem_setOf.mp (h _ (srt_mem.mpr (List.mem_map.mpr ⟨m, hm, rfl⟩)))
    have := at_inj nd ha hj
    subst this
    exact decide_eq_true (bit_is.mpr hb)
end
theorem VwOk.perm {N : List Str} {es es' : List (Str × Str)} {ks us : List Nat} (h : VwOk N es ks us) (p : es'.Perm es) : VwOk N es' ks us :=
  ⟨h.kl, h.ul, fun b m hb a => (h.kb b m hb a).trans ⟨fun ⟨x, y, h1, h2, h3⟩ => ⟨x, y, h1, h2, p.mem_iff.mpr h3⟩, fun ⟨x, y, h1, h2, h3⟩ => ⟨x, y, h1, h2, p.mem_iff.mp h3⟩⟩, fun b m hb a => (h.ub b m hb a).trans ⟨fun ⟨x, y, h1, h2, h3⟩ => ⟨x, y, h1, h2, p.mem_iff.mpr h3⟩, fun ⟨x, y, h1, h2, h3⟩ => ⟨x, y, h1, h2, p.mem_iff.mp h3⟩⟩⟩
structure GoodW (ns : List Str) (es : List (Str × Str)) : Prop where
  nd : ns.Nodup
  ok : SOk ns es
  nb : ∀ y ∈ ns, nameB y = true
  hl : ns.length ≤ 10
  he : es.length ≤ 3000
structure WorldG (K : PySem.W.Frag) (L : List Cell) (w : Addr) (ns : List Str) (es : List (Str × Str)) (ks us : List Nat) (q e x p pn pk pu ra rb : Addr) (vs : List V) : Prop where
  cw : (w, HO.dK (dk [("names", .ref q), ("pairs", .ref e), ("web", .ref x), ("view", .ref p), ("all", .ref ra), ("best", .ref rb), ("due", .int ((grantM ks us (srt ns).length : Nat) : Int))])) ∈ L
  cq : (q, HO.lst (ns.map V.str)) ∈ L
  ce : (e, HO.lst vs) ∈ L
  is : Iss L vs es
  web : WebIn K L x ns es
  vw : Vw L p pn pk pu (srt ns) ks us
  ok : VwOk (srt ns) es ks us
  ca : (ra, HO.lst ((standM ks us (srt ns).length).map nv)) ∈ L
  cb : (rb, HO.lst ((greatM ks us (srt ns).length).map nv)) ∈ L
  good : GoodW ns es
theorem WorldG.mono {K : PySem.W.Frag} {L L' : List Cell} {w : Addr} {ns : List Str} {es : List (Str × Str)} {ks us : List Nat} {q e x p pn pk pu ra rb : Addr} {vs : List V} (h : WorldG K L w ns es ks us q e x p pn pk pu ra rb vs) (s : ∀ c ∈ L, c ∈ L') : WorldG K L' w ns es ks us q e x p pn pk pu ra rb vs :=
  ⟨s _ h.cw, s _ h.cq, s _ h.ce, iss_mono s h.is, h.web.mono s, ⟨s _ h.vw.1, s _ h.vw.2.1, s _ h.vw.2.2.1, s _ h.vw.2.2.2⟩, h.ok, s _ h.ca, s _ h.cb, h.good⟩
def WorldE (K : PySem.W.Frag) (L : List Cell) (w : Addr) : Prop := ∃ ns es ks us q e x p pn pk pu ra rb vs, WorldG K L w ns es ks us q e x p pn pk pu ra rb vs
theorem WorldE.mono {K : PySem.W.Frag} {L L' : List Cell} {w : Addr} (h : WorldE K L w) (s : ∀ c ∈ L, c ∈ L') : WorldE K L' w := by
  obtain ⟨ns, es, ks, us, q, e, x, p, pn, pk, pu, ra, rb, vs, h⟩ := h
  exact ⟨ns, es, ks, us, q, e, x, p, pn, pk, pu, ra, rb, vs, h.mono s⟩
end Sw


namespace Sw
open PySem PySem.Spec PyProof.Rows L2 He
def stepB : List Nat → Nat → List Nat → Nat × List Nat
  | [], m, acc => (m, acc)
  | a :: r, m, acc => match Nat.beq (Nat.land (Nat.shiftRight m a) 1) 1 with
    | true => stepB r m acc
    | false => stepB r (Nat.lor m (Nat.shiftLeft 1 a)) (a :: acc)
def outB (g : Addr → Option Obj) (as : List Addr) : List Addr := as.flatMap fun a => match g a with
  | some o => refsD o
  | none => []
def goB (g : Addr → Option Obj) : Nat → Nat → List Addr → List Addr → List Addr
  | 0, _, _, all => all
  | n + 1, m, fr, all => match stepB (outB g fr) m [] with
    | (m', new) => goB g n m' new (new ++ all)
def asB (g : Addr → Option Obj) (n : Nat) : List Addr := goB g n (Nat.shiftLeft 1 mainGlobals) [mainGlobals] [mainGlobals]
def obsZ (n : Nat) (fa : List Fa) (fn : List DefD) (g : Addr → Option Obj) : AlD := obsD fa fn (frG g (asB g n))
def hookZ (n : Nat) (fa : List Fa) (fn : List DefD) : PySem.W.Hook where
  α := AlD
  obs := fun s => obsZ n fa fn s.heap.get?
  val := fun _ => valD fn
  says := fun _ h => ∃ K : PySem.W.Frag, K.In h ∧ SaysD fa fn K
  of := fun _ _ e => ⟨_, frG_in, e⟩
  keeps := fun _ _ _ ⟨K, hK, c⟩ k => ⟨K, PySem.W.Frag.In.keeps hK k, c⟩
theorem obsZ_eq {n : Nat} {fa : List Fa} {fn : List DefD} {g : Addr → Option Obj} {s : Shared} (h : ∀ a, g a = s.heap.get? a) : obsZ n fa fn g = (hookZ n fa fn).obs s := by
  have e : g = s.heap.get? := funext h
  rw [e] <;> rfl
end Sw

namespace Sw
open PySem L2 PySem.W
def top (i : Nat) : Stmt := PySem.Challenge.pw_strikeweave_k46_granted_by_turns.main.body.getD i (.Pass ⟨0, 0, 0, 0⟩)
end Sw

set_option maxHeartbeats 0
namespace Hd
open PySem PySem.Spec PyProof.Rows L2
def fn : List He.DefD := (⟨("Sieve", some "__init__"), "__init__", "Sieve.__init__", defArgs (inClass (Sw.top 9) 0), defBody (inClass (Sw.top 9) 0), defScope (inClass (Sw.top 9) 0), [], []⟩ : He.DefD) ::
  (⟨("Sieve", some "mask_for"), "mask_for", "Sieve.mask_for", defArgs (inClass (Sw.top 9) 1), defBody (inClass (Sw.top 9) 1), defScope (inClass (Sw.top 9) 1), [], []⟩ : He.DefD) ::
  (⟨("Sieve", some "names_for"), "names_for", "Sieve.names_for", defArgs (inClass (Sw.top 9) 2), defBody (inClass (Sw.top 9) 2), defScope (inClass (Sw.top 9) 2), [], []⟩ : He.DefD) ::
  (⟨("Sieve", some "hit_by_all"), "hit_by_all", "Sieve.hit_by_all", defArgs (inClass (Sw.top 9) 3), defBody (inClass (Sw.top 9) 3), defScope (inClass (Sw.top 9) 3), [], []⟩ : He.DefD) ::
  (⟨("Sieve", some "kept_mask"), "kept_mask", "Sieve.kept_mask", defArgs (inClass (Sw.top 9) 4), defBody (inClass (Sw.top 9) 4), defScope (inClass (Sw.top 9) 4), [], []⟩ : He.DefD) ::
  (⟨("Sieve", some "quiet_masks"), "quiet_masks", "Sieve.quiet_masks", defArgs (inClass (Sw.top 9) 5), defBody (inClass (Sw.top 9) 5), defScope (inClass (Sw.top 9) 5), [], []⟩ : He.DefD) ::
  (⟨("Sieve", some "standing_masks"), "standing_masks", "Sieve.standing_masks", defArgs (inClass (Sw.top 9) 6), defBody (inClass (Sw.top 9) 6), defScope (inClass (Sw.top 9) 6), [], []⟩ : He.DefD) ::
  (⟨("Sieve", some "whole_masks"), "whole_masks", "Sieve.whole_masks", defArgs (inClass (Sw.top 9) 7), defBody (inClass (Sw.top 9) 7), defScope (inClass (Sw.top 9) 7), [], []⟩ : He.DefD) ::
  (⟨("Sieve", some "greatest_masks"), "greatest_masks", "Sieve.greatest_masks", defArgs (inClass (Sw.top 9) 8), defBody (inClass (Sw.top 9) 8), defScope (inClass (Sw.top 9) 8), [], []⟩ : He.DefD) ::
  (⟨("Sieve", some "outright_masks"), "outright_masks", "Sieve.outright_masks", defArgs (inClass (Sw.top 9) 9), defBody (inClass (Sw.top 9) 9), defScope (inClass (Sw.top 9) 9), [], []⟩ : He.DefD) ::
  (⟨("Sieve", some "rising_sets"), "rising_sets", "Sieve.rising_sets", defArgs (inClass (Sw.top 9) 10), defBody (inClass (Sw.top 9) 10), defScope (inClass (Sw.top 9) 10), [], []⟩ : He.DefD) ::
  (⟨("many_bits", none), "many_bits", "many_bits", defArgs (Sw.top 10), defBody (Sw.top 10), defScope (Sw.top 10), [], []⟩ : He.DefD) ::
  (⟨("greatest_sets", none), "greatest_sets", "greatest_sets", defArgs (Sw.top 11), defBody (Sw.top 11), defScope (Sw.top 11), [], []⟩ : He.DefD) ::
  (⟨("strikers_by", none), "strikers_by", "strikers_by", defArgs (Sw.top 13), defBody (Sw.top 13), defScope (Sw.top 13), [], []⟩ : He.DefD) ::
  (⟨("clash_in", none), "clash_in", "clash_in", defArgs (Sw.top 14), defBody (Sw.top 14), defScope (Sw.top 14), [], []⟩ : He.DefD) ::
  (⟨("unanswered_trees", none), "unanswered", "unanswered", defArgs (Sw.top 15), defBody (Sw.top 15), defScope (Sw.top 15), [], []⟩ : He.DefD) ::
  (⟨("grown_from", none), "grown_from", "grown_from", defArgs (Sw.top 17), defBody (Sw.top 17), defScope (Sw.top 17), [], []⟩ : He.DefD) ::
  (⟨("standing_with", none), "standing_with", "standing_with", defArgs (Sw.top 18), defBody (Sw.top 18), defScope (Sw.top 18), [], []⟩ : He.DefD) ::
  (⟨("first_with", none), "first_with", "first_with", defArgs (Sw.top 19), defBody (Sw.top 19), defScope (Sw.top 19), [], []⟩ : He.DefD) ::
  (⟨("greatest_tree", none), "greatest_tree", "greatest_tree", defArgs (Sw.top 20), defBody (Sw.top 20), defScope (Sw.top 20), [], []⟩ : He.DefD) ::
  (⟨("greatest_with", none), "greatest_with", "greatest_with", defArgs (Sw.top 21), defBody (Sw.top 21), defScope (Sw.top 21), [], []⟩ : He.DefD) ::
  (⟨("look_name", none), "look_name", "look_name", defArgs (Sw.top 23), defBody (Sw.top 23), defScope (Sw.top 23), [], []⟩ : He.DefD) ::
  (⟨("in_some", none), "in_some", "in_some", defArgs (Sw.top 24), defBody (Sw.top 24), defScope (Sw.top 24), [], []⟩ : He.DefD) ::
  (⟨("in_each", none), "in_each", "in_each", defArgs (Sw.top 25), defBody (Sw.top 25), defScope (Sw.top 25), [], []⟩ : He.DefD) ::
  (⟨("answers_by_name", none), "answers_by_name", "answers_by_name", defArgs (Sw.top 26), defBody (Sw.top 26), defScope (Sw.top 26), [], []⟩ : He.DefD) ::
  (⟨("first_drop", none), "first_drop", "first_drop", defArgs (Sw.top 27), defBody (Sw.top 27), defScope (Sw.top 27), [], []⟩ : He.DefD) ::
  (⟨("unanswered_grants", none), "unanswered", "unanswered", defArgs (Sw.top 28), defBody (Sw.top 28), defScope (Sw.top 28), [], []⟩ : He.DefD) ::
  (⟨("bare_drops", none), "bare_drops", "bare_drops", defArgs (Sw.top 30), defBody (Sw.top 30), defScope (Sw.top 30), [], []⟩ : He.DefD) ::
  (⟨("strikers_of", none), "strikers_of", "strikers_of", defArgs (Sw.top 31), defBody (Sw.top 31), defScope (Sw.top 31), [], []⟩ : He.DefD) ::
  (⟨("granted", none), "granted", "granted", defArgs (Sw.top 32), defBody (Sw.top 32), defScope (Sw.top 32), [], []⟩ : He.DefD) ::
  (⟨("is_name", none), "is_name", "is_name", defArgs (Sw.top 36), defBody (Sw.top 36), defScope (Sw.top 36), [], []⟩ : He.DefD) ::
  (⟨("is_pair_of", none), "is_pair_of", "is_pair_of", defArgs (Sw.top 37), defBody (Sw.top 37), defScope (Sw.top 37), [], []⟩ : He.DefD) ::
  (⟨("Web", some "__init__"), "__init__", "Web.__init__", defArgs (inClass (Sw.top 38) 0), defBody (inClass (Sw.top 38) 0), defScope (inClass (Sw.top 38) 0), [], []⟩ : He.DefD) ::
  (⟨("Web", some "all_names"), "all_names", "Web.all_names", defArgs (inClass (Sw.top 38) 1), defBody (inClass (Sw.top 38) 1), defScope (inClass (Sw.top 38) 1), [], []⟩ : He.DefD) ::
  (⟨("Web", some "all_strikes"), "all_strikes", "Web.all_strikes", defArgs (inClass (Sw.top 38) 2), defBody (inClass (Sw.top 38) 2), defScope (inClass (Sw.top 38) 2), [], []⟩ : He.DefD) ::
  (⟨("Web", some "look_name"), "look_name", "Web.look_name", defArgs (inClass (Sw.top 38) 3), defBody (inClass (Sw.top 38) 3), defScope (inClass (Sw.top 38) 3), [], []⟩ : He.DefD) ::
  (⟨("Web", some "strikers"), "strikers", "Web.strikers", defArgs (inClass (Sw.top 38) 4), defBody (inClass (Sw.top 38) 4), defScope (inClass (Sw.top 38) 4), [], []⟩ : He.DefD) ::
  (⟨("Web", some "struck"), "struck", "Web.struck", defArgs (inClass (Sw.top 38) 5), defBody (inClass (Sw.top 38) 5), defScope (inClass (Sw.top 38) 5), [], []⟩ : He.DefD) ::
  (⟨("_law_mix", none), "_law_mix", "_law_mix", defArgs (Sw.top 40), defBody (Sw.top 40), defScope (Sw.top 40), [], []⟩ : He.DefD) ::
  (⟨("_law_left", none), "_law_left", "_law_left", defArgs (Sw.top 41), defBody (Sw.top 41), defScope (Sw.top 41), [], []⟩ : He.DefD) ::
  (⟨("_law_pick", none), "_law_pick", "_law_pick", defArgs (Sw.top 42), defBody (Sw.top 42), defScope (Sw.top 42), [], []⟩ : He.DefD) ::
  (⟨("_law_names", none), "_law_names", "_law_names", defArgs (Sw.top 43), defBody (Sw.top 43), defScope (Sw.top 43), [], []⟩ : He.DefD) ::
  (⟨("_law_size", none), "_law_size", "_law_size", defArgs (Sw.top 44), defBody (Sw.top 44), defScope (Sw.top 44), [], []⟩ : He.DefD) ::
  (⟨("_law_strikes", none), "_law_strikes", "_law_strikes", defArgs (Sw.top 45), defBody (Sw.top 45), defScope (Sw.top 45), [], []⟩ : He.DefD) ::
  (⟨("_law_masks", none), "_law_masks", "_law_masks", defArgs (Sw.top 46), defBody (Sw.top 46), defScope (Sw.top 46), [], []⟩ : He.DefD) ::
  (⟨("_law_set_of", none), "_law_set_of", "_law_set_of", defArgs (Sw.top 47), defBody (Sw.top 47), defScope (Sw.top 47), [], []⟩ : He.DefD) ::
  (⟨("_law_hit", none), "_law_hit", "_law_hit", defArgs (Sw.top 48), defBody (Sw.top 48), defScope (Sw.top 48), [], []⟩ : He.DefD) ::
  (⟨("_law_kept", none), "_law_kept", "_law_kept", defArgs (Sw.top 49), defBody (Sw.top 49), defScope (Sw.top 49), [], []⟩ : He.DefD) ::
  (⟨("_law_is_quiet", none), "_law_is_quiet", "_law_is_quiet", defArgs (Sw.top 50), defBody (Sw.top 50), defScope (Sw.top 50), [], []⟩ : He.DefD) ::
  (⟨("_law_stands", none), "_law_stands", "_law_stands", defArgs (Sw.top 51), defBody (Sw.top 51), defScope (Sw.top 51), [], []⟩ : He.DefD) ::
  (⟨("_law_is_whole", none), "_law_is_whole", "_law_is_whole", defArgs (Sw.top 52), defBody (Sw.top 52), defScope (Sw.top 52), [], []⟩ : He.DefD) ::
  (⟨("_law_all_standing", none), "_law_all_standing", "_law_all_standing", defArgs (Sw.top 53), defBody (Sw.top 53), defScope (Sw.top 53), [], []⟩ : He.DefD) ::
  (⟨("_law_greatest", none), "_law_greatest", "_law_greatest", defArgs (Sw.top 54), defBody (Sw.top 54), defScope (Sw.top 54), [], []⟩ : He.DefD) ::
  (⟨("_law_least", none), "_law_least", "_law_least", defArgs (Sw.top 55), defBody (Sw.top 55), defScope (Sw.top 55), [], []⟩ : He.DefD) ::
  (⟨("_law_drawn", none), "_law_drawn", "_law_drawn", defArgs (Sw.top 56), defBody (Sw.top 56), defScope (Sw.top 56), [], []⟩ : He.DefD) ::
  (⟨("_law_granted", none), "_law_granted", "_law_granted", defArgs (Sw.top 57), defBody (Sw.top 57), defScope (Sw.top 57), [], []⟩ : He.DefD) ::
  (⟨("_law_world", none), "_law_world", "_law_world", defArgs (Sw.top 58), defBody (Sw.top 58), defScope (Sw.top 58), [], []⟩ : He.DefD) ::
  (⟨("_law_asked", none), "_law_asked", "_law_asked", defArgs (Sw.top 59), defBody (Sw.top 59), defScope (Sw.top 59), [], []⟩ : He.DefD) ::
  (⟨("law", none), "law", "law", defArgs (Sw.top 60), defBody (Sw.top 60), defScope (Sw.top 60), [], []⟩ : He.DefD) ::
  []
def fa : List He.Fa := (.glo "StrikeError" : He.Fa) :: (.exc "StrikeError" : He.Fa) :: (.glo "NoName" : He.Fa) :: (.exc "NoName" : He.Fa) :: (.glo "TooMany" : He.Fa) :: (.exc "TooMany" : He.Fa) :: (.int "MOST_TOLD" 300 : He.Fa) :: (.glo "Sieve" : He.Fa) :: (.cls "Sieve" : He.Fa) :: (.noat "Sieve" "order" : He.Fa) :: (.noat "Sieve" "hitters" : He.Fa) :: (.noat "Sieve" "hits" : He.Fa) :: (.mkr "Sieve" : He.Fa) :: (.meth "Sieve" "mask_for" : He.Fa) :: (.meth "Sieve" "names_for" : He.Fa) :: (.meth "Sieve" "hit_by_all" : He.Fa) :: (.meth "Sieve" "kept_mask" : He.Fa) :: (.meth "Sieve" "quiet_masks" : He.Fa) :: (.meth "Sieve" "standing_masks" : He.Fa) :: (.meth "Sieve" "whole_masks" : He.Fa) :: (.meth "Sieve" "greatest_masks" : He.Fa) :: (.meth "Sieve" "outright_masks" : He.Fa) :: (.meth "Sieve" "rising_sets" : He.Fa) :: (.glo "many_bits" : He.Fa) :: (.glo "greatest_sets" : He.Fa) :: (.glo "strikers_by" : He.Fa) :: (.glo "clash_in" : He.Fa) :: (.glo "unanswered_trees" : He.Fa) :: (.glo "grown_from" : He.Fa) :: (.glo "standing_with" : He.Fa) :: (.glo "first_with" : He.Fa) :: (.glo "greatest_tree" : He.Fa) :: (.glo "greatest_with" : He.Fa) :: (.glo "look_name" : He.Fa) :: (.glo "in_some" : He.Fa) :: (.glo "in_each" : He.Fa) :: (.glo "answers_by_name" : He.Fa) :: (.glo "first_drop" : He.Fa) :: (.glo "unanswered_grants" : He.Fa) :: (.glo "bare_drops" : He.Fa) :: (.glo "strikers_of" : He.Fa) :: (.glo "granted" : He.Fa) :: (.str "LETTERS" "abcdefghijklmnopqrstuvwxyz" : He.Fa) :: (.int "MOST_NAME" 8 : He.Fa) :: (.glo "is_name" : He.Fa) :: (.glo "is_pair_of" : He.Fa) :: (.glo "Web" : He.Fa) :: (.cls "Web" : He.Fa) :: (.noat "Web" "strikers_by" : He.Fa) :: (.noat "Web" "struck_by" : He.Fa) :: (.noat "Web" "own_pairs" : He.Fa) :: (.mkr "Web" : He.Fa) :: (.meth "Web" "all_names" : He.Fa) :: (.meth "Web" "all_strikes" : He.Fa) :: (.meth "Web" "look_name" : He.Fa) :: (.meth "Web" "strikers" : He.Fa) :: (.meth "Web" "struck" : He.Fa) :: (.glo "_law_mix" : He.Fa) :: (.glo "_law_left" : He.Fa) :: (.glo "_law_pick" : He.Fa) :: (.glo "_law_names" : He.Fa) :: (.glo "_law_size" : He.Fa) :: (.glo "_law_strikes" : He.Fa) :: (.glo "_law_masks" : He.Fa) :: (.glo "_law_set_of" : He.Fa) :: (.glo "_law_hit" : He.Fa) :: (.glo "_law_kept" : He.Fa) :: (.glo "_law_is_quiet" : He.Fa) :: (.glo "_law_stands" : He.Fa) :: (.glo "_law_is_whole" : He.Fa) :: (.glo "_law_all_standing" : He.Fa) :: (.glo "_law_greatest" : He.Fa) :: (.glo "_law_least" : He.Fa) :: (.glo "_law_drawn" : He.Fa) :: (.glo "_law_granted" : He.Fa) :: (.glo "_law_world" : He.Fa) :: (.glo "_law_asked" : He.Fa) :: (.glo "law" : He.Fa) :: (.free "len" : He.Fa) :: (.free "sorted" : He.Fa) :: (.free "any" : He.Fa) :: (.free "all" : He.Fa) :: (.free "list" : He.Fa) :: (.free "tuple" : He.Fa) :: (.free "dict" : He.Fa) :: (.free "range" : He.Fa) :: (.free "enumerate" : He.Fa) :: (.free "isinstance" : He.Fa) :: (.free "abs" : He.Fa) :: (.free "int" : He.Fa) :: (.free "min" : He.Fa) :: (.free "max" : He.Fa) :: (.free "str" : He.Fa) :: (.free "bool" : He.Fa) :: (.free "zip" : He.Fa) :: (.free "reversed" : He.Fa) :: (.free "set" : He.Fa) :: (.free "sum" : He.Fa) :: (.free "ValueError" : He.Fa) :: []
def names : List Str := ("_wall" : Str) :: ("StrikeError" : Str) :: ("BadName" : Str) :: ("BadStrike" : Str) :: ("NoName" : Str) :: ("TooMany" : Str) :: ("MOST_TOLD" : Str) :: ("Sieve" : Str) :: ("many_bits" : Str) :: ("greatest_sets" : Str) :: ("strikers_by" : Str) :: ("clash_in" : Str) :: ("unanswered" : Str) :: ("unanswered_trees" : Str) :: ("grown_from" : Str) :: ("standing_with" : Str) :: ("first_with" : Str) :: ("greatest_tree" : Str) :: ("greatest_with" : Str) :: ("look_name" : Str) :: ("in_some" : Str) :: ("in_each" : Str) :: ("answers_by_name" : Str) :: ("first_drop" : Str) :: ("unanswered_grants" : Str) :: ("bare_drops" : Str) :: ("strikers_of" : Str) :: ("granted" : Str) :: ("LETTERS" : Str) :: ("MOST_NAME" : Str) :: ("is_name" : Str) :: ("is_pair_of" : Str) :: ("Web" : Str) :: ("_law_mix" : Str) :: ("_law_left" : Str) :: ("_law_pick" : Str) :: ("_law_names" : Str) :: ("_law_size" : Str) :: ("_law_strikes" : Str) :: ("_law_masks" : Str) :: ("_law_set_of" : Str) :: ("_law_hit" : Str) :: ("_law_kept" : Str) :: ("_law_is_quiet" : Str) :: ("_law_stands" : Str) :: ("_law_is_whole" : Str) :: ("_law_all_standing" : Str) :: ("_law_greatest" : Str) :: ("_law_least" : Str) :: ("_law_drawn" : Str) :: ("_law_granted" : Str) :: ("_law_world" : Str) :: ("_law_asked" : Str) :: []
abbrev R : PySem.W.OpenRow := PySem.W.OpenLaw.row PySem.Challenge.rw_strikeweave_k46_granted_by_turns
abbrev hk : PySem.W.Hook := Sw.hookZ 6 fa fn
def ob (s : PySem.W.SharedT) : He.AlD := Sw.obsZ 6 fa fn (HandSHeadRun.getT s)
theorem ob_eq (s : PySem.W.SharedT) : ob s = hk.obs s.abs := Sw.obsZ_eq (HandSHeadRun.getT_eq s)
theorem run (w : World) : HandSHeadRun.RunEq R (PySem.W.view R.prog [60]) hk ob 8000 names w := by
  intro os
  kernel_rfl
end Hd
namespace Sw
open PySem L2 PySem.W
def sp_law (K : PySem.W.Frag) : Sp := fun vs H Q E => match vs with
  | [.ref s] => ∃ (ss : List Int) (L : List Cell), (At H L) ∧ (∀ H' : Hp, At H' L → SqL K H' s (ss.map V.int)) ∧ (∀ (H' : Hp), Q (.bl true) H')
  | _ => False
end Sw
namespace Hd
open PySem PySem.Spec PyProof.Rows L2
abbrev FactsT : Prop := ∀ (P : Program) (w : World) (K : PySem.W.Frag) (h : Heap) (mg : Str → Option Value) (f : Addr) (X : K.In h) (G : h.Ns mainGlobals mg) (hfa : mg ("law" : Str) = some (.ref f)) (c : He.SaysD fa fn K),
    ∃ fd : FuncData, (∀ (s : Shared) (v : Value), BindsTo s fd ⟨[v], []⟩ [("_law_script", v)]) ∧ ∀ base : Heap, K.In base → base.Ns mainGlobals mg → FnOk P w K mg base CX0 39 f fd ["_law_script"] (Sw.sp_law K)
end Hd
section
open PySem PySem.W PySem.Calls PyProof.Rows
theorem Hd.early (hgiven : Hd.FactsT) : PySem.Challenge.rw_strikeweave_k46_granted_by_turns.Holds := by
  w_on; o_law
  refine HandSHeadRun.head_any (r := OpenLaw.row PySem.Challenge.rw_strikeweave_k46_granted_by_turns) (q := view (OpenLaw.row PySem.Challenge.rw_strikeweave_k46_granted_by_turns).prog [60]) (H := Hd.hk) (ob := Hd.ob) (M := 8000) (loose := Hd.names) (d := HandSHeadRun.topDef (OpenLaw.row PySem.Challenge.rw_strikeweave_k46_granted_by_turns).prog 60) (kwd := []) Hd.ob_eq
    (by kernel_rfl) (fun s => by kernel_rfl) Hd.run (by kernel_rfl) (by kernel_rfl) (by kernel_rfl) (by rfl) (by first | assumption | decide +kernel) (by decide +kernel) ⟨rfl, rfl, rfl, rfl, rfl, by decide +kernel⟩ ?hw ?hc
  case hw => w_witness2
  case hc =>
    refine L2.walk_ofE (l := PySem.Challenge.rw_strikeweave_k46_granted_by_turns) (n := 63) (k := 39) (x := "_law_script") (CX := L2.CX0) rfl (by decide) (by kernel_rfl) ⟨rfl, by decide, by decide⟩ ?F (fun _ _ _ _ z => z)
    intro w mg fa h Y G hmg0
    obtain ⟨K, KX, c⟩ := Y
    have hmg : mg ("law" : PySem.Str) = some (.ref fa) := by
      have e : (HandSHeadRun.topDef (OpenLaw.row PySem.Challenge.rw_strikeweave_k46_granted_by_turns).prog 60).name = ("law" : PySem.Str) := by kernel_rfl
      rw [← e]
      exact hmg0
    obtain ⟨fd, hb, hF⟩ := hgiven (PySem.Challenge.rw_strikeweave_k46_granted_by_turns).prog w _ _ _ _ KX G hmg c
    exact ⟨K, fd, Sw.sp_law K, KX, hb, fun H a ns hl hO hS => by
      obtain ⟨L, h1, h2⟩ := Sw.law_in hO hS
      exact ⟨ns, L, h1, h2, fun _ => rfl⟩, hF⟩
end
set_option maxHeartbeats 4000000
/-! tactics: mem, foc, ln, cnd, rd1, rd -/
local macro_rules | `(tactic| walk_at "mem") => `(tactic| first | exact List.Mem.head _ | assumption | (refine List.Mem.tail _ ?_; walk_at "mem") | (refine List.mem_append_left _ ?_; walk_at "mem") | (refine List.mem_append_right _ ?_; walk_at "mem"))
local macro_rules | `(tactic| walk_at "foc") => `(tactic| first | assumption | exact Sw.At.f1 (by assumption) | exact Sw.At.f2 (by assumption) | exact Sw.At.f3 (by assumption) | exact Sw.At.f4 (by assumption) | exact Sw.At.f5 (by assumption) | exact Sw.At.f6 (by assumption) | exact Sw.At.f7 (by assumption) | (refine' Sw.At.ofPerm ?a ?e; (case a => assumption); (case e => walk_at "pfc")))
local macro_rules | `(tactic| walk_at "sp") => `(tactic| first | exact Sw.SubP.refl _ | exact Sw.SubP.nil _ | (refine Sw.SubP.c0 ?_; walk_at "sp") | (refine Sw.SubP.c1 ?_; walk_at "sp") | (refine Sw.SubP.c2 ?_; walk_at "sp") | (refine Sw.SubP.c3 ?_; walk_at "sp") | (refine Sw.SubP.c4 ?_; walk_at "sp") | (refine Sw.SubP.c5 ?_; walk_at "sp") | (refine Sw.SubP.c6 ?_; walk_at "sp") | (refine Sw.SubP.app ?_; walk_at "sp") | (refine Sw.SubP.app1 ?_; walk_at "sp") | (refine Sw.SubP.app2 ?_; walk_at "sp") | (refine' Sw.SubP.find ?h ?s; (case h => walk_at "pfc"); (case s => walk_at "sp")) | (refine' Sw.SubP.findS ?h ?s; (case h => walk_at "pfs"); (case s => walk_at "sp")) | (refine Sw.SubP.drop ?_; walk_at "sp") | (refine Sw.SubP.dropL ?_; walk_at "sp"))
local macro_rules | `(tactic| walk_at "pfc") => `(tactic| first | exact Sw.pf_cell | (refine' Sw.pf_cons ?h; (case h => walk_at "pfc")) | (refine' Sw.pf_app ?h; (case h => walk_at "pfc")))
local macro_rules | `(tactic| walk_at "pfs") => `(tactic| first | exact Sw.ps_seg | (refine' Sw.ps_cons ?h; (case h => walk_at "pfs")) | (refine' Sw.ps_app ?h; (case h => walk_at "pfs")))
local macro_rules | `(tactic| walk_at "sb") => `(tactic| first | assumption | (refine Sw.SubP.at (by assumption) ?_; walk_at "sp"))
local macro_rules | `(tactic| walk_at "ln") => `(tactic| first | decide | omega | (simp only [List.length_append, List.length_map, List.length_cons, List.length_nil, List.length_set, List.length_reverse, List.length_take, List.length_drop] at *; omega))
local macro_rules | `(tactic| walk_at "om") => `(tactic| first | omega | (simp only [List.length_append, List.length_map, List.length_cons, List.length_nil, List.length_set, List.length_reverse, List.length_eraseIdx, List.length_replicate, List.length_take, List.length_drop] at *; omega))
local macro_rules | `(tactic| walk_at "cnd") => `(tactic| first | assumption | omega | decide | (dsimp only; omega) | (unfold Sw.CMulA L2.CMul; omega) | (unfold L2.CDiv; omega) | (unfold L2.CPow; decide) | (unfold L2.CPow; dsimp only; omega) | rfl | (unfold Sw.CMulA L2.CMul; right; split <;> decide))
local macro_rules | `(tactic| walk_at "is") => `(tactic| first | assumption | exact Sw.is_str _ | (refine' Sw.is_nil ?m; (case m => walk_at "mem")) | exact Sw.is_int _ | exact Sw.is_bl _ | (refine' Sw.is_strs ?m; (case m => walk_at "mem")) | (refine' Sw.is_ints ?m; (case m => walk_at "mem")) | (refine' Sw.is_pair ?m ?h1 ?h2; (case m => walk_at "mem"); (case h1 => walk_at "is"); (case h2 => walk_at "is")) | (refine' Sw.is_list ?m ?h1; (case m => walk_at "mem"); (case h1 => first | assumption | exact Sw.iss_strs _ | walk_at "isc" | (refine' Sw.RpAll.mono ?s ?h; (case h => assumption); (case s => (intro _ _; walk_at "mem"))))) | (refine' Sw.iss_mono ?s ?h; (case h => assumption); (case s => (intro _ _; walk_at "mem"))) | (refine' Sw.Rp.mono ?s ?h; (case h => assumption); (case s => (intro _ _; walk_at "mem"))))
local macro_rules | `(tactic| walk_at "isc") => `(tactic| first | exact Sw.iss_n | (refine' Sw.iss_c ?a ?b; (case a => walk_at "is"); (case b => walk_at "isc")))
local macro_rules | `(tactic| walk_at "rpm") => `(tactic| first | assumption | (refine' Sw.RpAll.mono ?s ?h; (case h => assumption); (case s => (intro _ _; walk_at "mem"))))
local macro_rules | `(tactic| walk_at "sbl") => `(tactic| (intro _ _; walk_at "mem"))
local macro_rules | `(tactic| walk_at "lsd") => `(tactic| first | exact Or.inl (Sw.SqL.of (Sw.At.rd (by assumption) (by walk_at "mem"))) | exact Or.inl (L2.SqL.of (Sw.At.rd (by assumption) (by walk_at "mem"))) | exact Or.inr (Sw.TupW.sq (by assumption) _))
local macro_rules | `(tactic| walk_at "fst") => `(tactic| first | assumption | (refine' Sw.Fst.mono ?h ?s; (case h => assumption); (case s => (intro _ _; walk_at "mem"))) | (refine' Sw.Fst.take (Sw.Fst.mono ?h ?s) _; (case h => assumption); (case s => (intro _ _; walk_at "mem"))))
local macro_rules | `(tactic| walk_at "pin") => `(tactic| first | assumption | (refine' Sw.pIn.mono ?h ?s; (case h => assumption); (case s => (intro _ _; walk_at "mem"))) | (refine' Sw.sIn.mono ?h ?s; (case h => assumption); (case s => (intro _ _; walk_at "mem"))) | (refine' Sw.tIn.mono ?h ?s; (case h => assumption); (case s => (intro _ _; walk_at "mem"))) | (refine' Sw.bIn.mono ?h ?s; (case h => assumption); (case s => (intro _ _; walk_at "mem"))))
local macro_rules | `(tactic| walk_at "wei") => `(tactic| first | assumption | (refine' Sw.WeIn.mono ?h ?s; (case h => assumption); (case s => (intro _ _; walk_at "mem"))))
local macro_rules | `(tactic| walk_at "vw") => `(tactic| first | assumption | ((refine ⟨?_, ?_, ?_, ?_⟩) <;> walk_at "mem"))
local macro_rules | `(tactic| walk_at "web") => `(tactic| first | assumption | (refine' Sw.WebIn.mono ?h ?s; (case h => assumption); (case s => (intro _ _; walk_at "mem"))) | (refine' Sw.SvIn.mono ?h ?s; (case h => assumption); (case s => (intro _ _; walk_at "mem"))) | (refine' Sw.TlIn.mono ?h ?s; (case h => assumption); (case s => (intro _ _; walk_at "mem"))))
local macro_rules | `(tactic| walk_at "sub") => `(tactic| first | assumption | (refine' Sw.sub_perm ?h1 ?h2; (case h1 => assumption); (case h2 => assumption)))
local macro_rules | `(tactic| walk_at "row") => `(tactic| first | walk_at "mem" | (refine Sw.row_lst ?_; walk_at "mem") | (refine Sw.row_tup ?_; walk_at "mem"))
local macro_rules | `(tactic| walk_at "ty") => `(tactic| first | (refine' Sw.ty_rp ?hA ?m; (case m => assumption); (case hA => walk_at "sb")) | exact Sw.ty_str _ | exact Sw.ty_int _ | exact Sw.ty_bl _ | exact Sw.ty_non | (refine' Sw.ty_lst ?hA ?m; (case hA => assumption); (case m => walk_at "mem")) | (refine' Sw.ty_tup ?hA ?m; (case hA => assumption); (case m => walk_at "mem")))
local macro_rules | `(tactic| walk_at "kit") => `(tactic| first | exact Sw.kit_tl | exact Sw.kit_sl | exact Sw.kit_lt | exact Sw.kit_list _ | exact Sw.kit_tuple _ | exact Sw.kit_str _ | exact Sw.kit_bool _ | exact Sw.kit_int _ | exact Sw.kit_same _ | (decide +kernel))
local macro_rules | `(tactic| walk_at "nn") => `(tactic| first | assumption | exact Sw.nn_of (by first | assumption | fail))
local macro_rules | `(tactic| walk_at "kn") => `(tactic| first | exact Sw.KN.nil | (refine' Sw.KN.cons ?h ?k; (case h => k_dflt assumption); (case k => walk_at "kn")))
local macro_rules | `(tactic| walk_at "fl") => `(tactic| first | exact Sw.fl_hd | exact Sw.fl_nil | (refine' Sw.fl_tl ?h ?k; (case h => decide +kernel); (case k => walk_at "fl")) | assumption | rfl)
local macro_rules | `(tactic| walk_at "pf") => `(tactic| first | exact Sw.pf_nil | exact Sw.pf_hd | (refine' Sw.pf_tl ?h ?k; (case h => decide +kernel); (case k => walk_at "pf")))
local macro_rules | `(tactic| walk_at "non") => `(tactic| first | exact trivial | (show (0 : Int) ≤ _; omega))
local macro_rules | `(tactic| walk_at "alm") => `(tactic| first | assumption | exact Sw.alm_here | (refine Sw.alm_cons ?_; walk_at "alm") | (refine Sw.alm_app ?_; walk_at "alm"))
local macro_rules | `(tactic| walk_at "rd1") => `(tactic| with_reducible first
  | refine Sw.rd_seq ?_
  | refine Sw.rd_nx ?_
  | refine Sw.rd_rt ?_
  | (refine' Sw.rd_var ?h ?_; (case h => k_dflt rfl))
  | refine Sw.rd_c ?_
  | refine Sw.rd_asg ?_
  | refine Sw.rd_gName ?_
  | refine Sw.rd_gSub ?_
  | refine Sw.rd_op ?_
  | refine Sw.rd_orN ?_
  | refine Sw.rd_andN ?_
  | refine Sw.rd_andNN ?_
  | refine Sw.rd_andN1 ?_
  | (refine' Sw.rd_shl1N ?hn ?_; (case hn => k_dflt (walk_at "om")))
  | refine Sw.rd_shrN ?_
  | refine Sw.rd_I0 ?_
  | (refine' Sw.rd_I ?hc ?_; (case hc => k_dflt (walk_at "cnd")))
  | refine Sw.rd_cons ?_
  | refine Sw.rd_nil ?_
  | refine Sw.rd_call ?_
  | refine Sw.rd_CB ?_
  | refine Sw.rd_next ?_
  | refine Sw.rd_drop ?_
  | refine Sw.rd_ret ?_
  | refine Sw.rd_retN ?_
  | refine Sw.rd_test ?_
  | refine Sw.rd_B ?_
  | refine Sw.rd_blk ?_
  | refine Sw.rd_and ?_
  | refine Sw.rd_or ?_
  | refine Sw.rd_not ?_
  | refine Sw.rd_andV ?_
  | refine Sw.rd_orV ?_
  | refine Sw.rd_andK ?_
  | refine Sw.rd_orK ?_
  | refine Sw.rd_notV ?_
  | refine Sw.rd_notK ?_
  | refine Sw.rd_ifE ?_
  | refine Sw.rd_un ?_
  | refine Sw.rd_U ?_
  | refine Sw.rd_brT ?_
  | refine Sw.rd_brF ?_
  | refine Sw.rd_brNT ?_
  | refine Sw.rd_brNF ?_
  | (refine' Sw.rd_brDT ?h ?_; (case h => assumption))
  | (refine' Sw.rd_brDF ?h ?_; (case h => assumption))
  | (refine' Sw.rd_brNDT ?h ?_; (case h => assumption))
  | (refine' Sw.rd_brNDF ?h ?_; (case h => assumption))
  | (refine Sw.rd_brD ?_ ?_ <;> intro _)
  | (refine Sw.rd_brND ?_ ?_ <;> intro _)
  | walk_at "brp"
  | (refine Sw.rd_brN ?_ ?_ <;> intro _)
  | (refine Sw.rd_br ?_ ?_ <;> intro _)
  | refine Sw.rd_eqI ?_
  | refine Sw.rd_neI ?_
  | refine Sw.rd_eqS ?_
  | refine Sw.rd_neS ?_
  | refine Sw.rd_eqB ?_
  | refine Sw.rd_neB ?_
  | refine Sw.rd_lst ?_
  | refine Sw.rd_tup ?_
  | (refine' Sw.rd_newL ?hA ?hl ?_; (case hA => assumption); (case hl => k_dflt (walk_at "ln")); intro _ _ _)
  | (refine' Sw.rd_newT ?hA ?hl ?_; (case hA => assumption); (case hl => k_dflt (walk_at "ln")); intro _ _ _)
  | (refine' Sw.rd_ixL ?hA ?m ?h ?_; (case hA => assumption); (case m => k_dflt (walk_at "mem")); (case h => k_dflt rfl))
  | (refine' Sw.rd_ixLe ?hA ?m ?h0 ?h ?_; (case hA => assumption); (case m => k_dflt (walk_at "mem")); (case h => assumption); (case h0 => k_dflt (walk_at "om")))
  | (refine' Sw.rd_ixLm ?hA ?m ?h0 ?h1 ?_; (case hA => assumption); (case m => k_dflt (walk_at "mem")); (case h0 => k_dflt (walk_at "om")); (case h1 => k_dflt (walk_at "om")); intro _ _)
  | (refine' Sw.rd_ixLk ?h ?h0 ?h1 ?_; (case h => k_dflt assumption); (case h0 => k_dflt (walk_at "om")); (case h1 => k_dflt (walk_at "om")); intro _ _)
  | (refine' Sw.rd_ixT ?hA ?m ?h ?_; (case hA => assumption); (case m => k_dflt (walk_at "mem")); (case h => k_dflt rfl))
  | (refine' Sw.rd_ixTm ?hA ?m ?h0 ?h ?_; (case hA => assumption); (case m => k_dflt (walk_at "mem")); (case h0 => k_dflt (walk_at "om")); (case h => k_dflt assumption))
  | (refine' Sw.rd_setLN ?hA ?h0 ?h1 ?_; (case hA => k_dflt (walk_at "foc")); (case h0 => k_dflt (walk_at "om")); (case h1 => k_dflt (walk_at "om")); intro _ _)
  | (refine' Sw.rd_setLI ?hA ?h0 ?h1 ?_; (case hA => k_dflt (walk_at "foc")); (case h0 => k_dflt (walk_at "om")); (case h1 => k_dflt (walk_at "om")); intro _ _)
  | (refine' Sw.rd_setLS ?hA ?h0 ?h1 ?_; (case hA => k_dflt (walk_at "foc")); (case h0 => k_dflt (walk_at "om")); (case h1 => k_dflt (walk_at "om")); intro _ _)
  | (refine' Sw.rd_setL ?hA ?h ?_; (case hA => k_dflt (walk_at "foc")); (case h => k_dflt rfl); intro _ _)
  | refine Sw.rd_BM ?_
  | refine Sw.rd_BM0 ?_
  | (refine' Sw.rd_bmL ?hA ?m ?_; (case hA => assumption); (case m => k_dflt (walk_at "mem")))
  | (refine' Sw.rd_bmD ?hA ?m ?_; (case hA => assumption); (case m => k_dflt (walk_at "mem")))
  | (refine' Sw.rd_updD ?hA ?m ?hl ?_; (case hA => k_dflt (walk_at "foc")); (case m => k_dflt (walk_at "mem")); (case hl => k_dflt (walk_at "om")); intro _ _)
  | (refine' Sw.rd_ixLast ?hA ?m ?hi ?_; (case hi => k_dflt rfl); (case hA => assumption); (case m => k_dflt (walk_at "mem")))
  | (refine' Sw.rd_appendS ?hA ?hl ?_; (case hA => k_dflt (walk_at "foc")); (case hl => k_dflt (walk_at "om")); intro _ _)
  | (refine' Sw.rd_appendI ?hA ?hl ?_; (case hA => k_dflt (walk_at "foc")); (case hl => k_dflt (walk_at "om")); intro _ _)
  | (refine' Sw.rd_append ?hA ?hl ?_; (case hA => k_dflt (walk_at "foc")); (case hl => k_dflt (walk_at "ln")); intro _ _)
  | (refine' Sw.rd_removeS ?hA ?h ?_; (case hA => k_dflt (walk_at "foc")); (case h => k_dflt assumption); intro _ _)
  | (refine' Sw.rd_insert ?hA ?hl ?h0 ?h1 ?_; (case hA => k_dflt (walk_at "foc")); (case hl => k_dflt (walk_at "ln")); (case h0 => k_dflt (walk_at "om")); (case h1 => k_dflt (walk_at "om")); intro _ _)
  | (refine' Sw.rd_popAtm ?hA ?h0 ?h1 ?h2 ?_; (case hA => k_dflt (walk_at "foc")); (case h0 => k_dflt (walk_at "om")); (case h1 => k_dflt (walk_at "om")); (case h2 => k_dflt (walk_at "om")); intro _ _ _ _)
  | (refine' Sw.rd_popAt ?hA ?h0 ?h1 ?h2 ?_; (case hA => k_dflt (walk_at "foc")); (case h0 => k_dflt (walk_at "om")); (case h1 => k_dflt (walk_at "ln")); (case h2 => k_dflt (walk_at "ln")); intro _ _ _ _)
  | (refine' Sw.rd_reversem ?hA ?_; (case hA => k_dflt (walk_at "foc")); intro _ _)
  | (refine' Sw.rd_reverse ?hA ?_; (case hA => k_dflt (walk_at "foc")); intro _ _)
  | (refine' Sw.rd_lenLm ?hA ?m ?_; (case hA => assumption); (case m => k_dflt (walk_at "mem")))
  | (refine' Sw.rd_lenTm ?hA ?m ?_; (case hA => assumption); (case m => k_dflt (walk_at "mem")))
  | (refine' Sw.rd_lenL ?hA ?m ?_; (case hA => assumption); (case m => k_dflt (walk_at "mem")))
  | (refine' Sw.rd_lenT ?hA ?m ?_; (case hA => assumption); (case m => k_dflt (walk_at "mem")))
  | (refine' Sw.rd_lenK ?h ?_; (case h => k_dflt assumption))
  | refine Sw.rd_abs ?_
  | refine Sw.rd_intI ?_
  | refine Sw.rd_intB ?_
  | refine Sw.rd_min2 ?_
  | refine Sw.rd_max2 ?_
  | (refine' Sw.rd_aug ?h ?_; (case h => k_dflt rfl))
  | refine Sw.rd_ipI ?_
  | (refine' Sw.rd_listL ?hA ?m ?_; (case hA => assumption); (case m => k_dflt (walk_at "mem")); intro _ _ _)
  | (refine' Sw.rd_listT ?hA ?m ?_; (case hA => assumption); (case m => k_dflt (walk_at "mem")); intro _ _ _)
  | (refine' Sw.rd_tupleL ?hA ?m ?_; (case hA => assumption); (case m => k_dflt (walk_at "mem")); intro _ _ _)
  | (refine' Sw.rd_tupleT ?hA ?m ?_; (case hA => assumption); (case m => k_dflt (walk_at "mem")))
  | refine Sw.rd_M1 ?_
  | refine Sw.rd_M0 ?_
  | refine Sw.rd_m1k ?_
  | (refine' Sw.rd_split ?hA ?h1 ?h2 ?_; (case hA => assumption); (case h1 => k_dflt decide); (case h2 => k_dflt decide); intro _ _ _)
  | refine Sw.rd_sl ?_
  | refine Sw.rd_noPart ?_
  | refine Sw.rd_part ?_
  | refine Sw.rd_partK ?_
  | (refine' Sw.rd_slFrom ?hA ?m ?h0 ?h1 ?_; (case hA => assumption); (case m => k_dflt (walk_at "mem")); (case h0 => k_dflt (walk_at "om")); (case h1 => k_dflt (walk_at "om")); intro _ _ _)
  | (refine' Sw.rd_slToR ?hA ?m ?h0 ?h1 ?_; (case hA => assumption); (case m => k_dflt (walk_at "row")); (case h0 => k_dflt (walk_at "om")); (case h1 => k_dflt (walk_at "om")); intro _ _ _)
  | (refine' Sw.rd_slTo ?hA ?m ?h0 ?h1 ?_; (case hA => assumption); (case m => k_dflt (walk_at "mem")); (case h0 => k_dflt (walk_at "om")); (case h1 => k_dflt (walk_at "om")); intro _ _ _)
  | (refine' Sw.rd_slFromV ?hA ?m ?h0 ?h1 ?_; (case hA => assumption); (case m => k_dflt (walk_at "mem")); (case h0 => k_dflt (walk_at "om")); (case h1 => k_dflt (walk_at "om")); intro _ _ _)
  | (refine' Sw.rd_slToV ?hA ?m ?h0 ?h1 ?_; (case hA => assumption); (case m => k_dflt (walk_at "mem")); (case h0 => k_dflt (walk_at "om")); (case h1 => k_dflt (walk_at "om")); intro _ _ _)
  | (refine' Sw.rd_slToA ?hA ?m ?h0 ?_; (case hA => assumption); (case m => k_dflt (walk_at "mem")); (case h0 => k_dflt (walk_at "om")); intro _ _ _)
  | (refine' Sw.rd_slInit ?hA ?m ?_; (case hA => assumption); (case m => k_dflt (walk_at "mem")); intro _ _ _)
  | (refine' Sw.rd_slFromA ?hA ?m ?h0 ?_; (case hA => assumption); (case m => k_dflt (walk_at "mem")); (case h0 => k_dflt (walk_at "om")); intro _ _ _)
  | (refine' Sw.rd_slL ?hA ?m ?_; (case hA => assumption); (case m => k_dflt (walk_at "mem")); intro _ _ _)
  | (refine' Sw.rd_catm ?hA ?m ?m2 ?hl ?_; (case hA => assumption); (case m => k_dflt (walk_at "mem")); (case m2 => k_dflt (walk_at "mem")); (case hl => k_dflt (walk_at "om")); intro _ _ _)
  | (refine' Sw.rd_cat ?hA ?m ?m2 ?hl ?_; (case hA => assumption); (case m => k_dflt (walk_at "mem")); (case m2 => k_dflt (walk_at "mem")); (case hl => k_dflt (walk_at "ln")); intro _ _ _)
  | (refine' Sw.rd_rep0 ?hA ?m ?h1 ?_; (case hA => assumption); (case m => k_dflt (walk_at "mem")); (case h1 => k_dflt (walk_at "om")); intro _ _ _)
  | (refine' Sw.rd_rep ?hA ?m ?h0 ?h1 ?hl ?_; (case hA => assumption); (case m => k_dflt (walk_at "mem")); (case h0 => k_dflt (walk_at "om")); (case h1 => k_dflt (walk_at "om")); (case hl => k_dflt (walk_at "ln")); intro _ _ _)
  | (refine' Sw.rd_ninP ?hd ?hA ?h1 ?h2 ?_; (case hA => assumption); (case h1 => k_dflt (walk_at "is")); (case h2 => k_dflt (walk_at "is")); (case hd => k_dflt decide))
  | (refine' Sw.rd_inP ?hd ?hA ?h1 ?h2 ?_; (case hA => assumption); (case h1 => k_dflt (walk_at "is")); (case h2 => k_dflt (walk_at "is")); (case hd => k_dflt decide))
  | (refine' Sw.rd_ninPr ?hA ?h1 ?o ?hn ?m ?_; (case h1 => assumption); (case o => assumption); (case hA => assumption); (case hn => k_dflt (walk_at "om")); (case m => k_dflt (walk_at "row")))
  | (refine' Sw.rd_inPr ?hA ?h1 ?o ?hn ?m ?_; (case h1 => assumption); (case o => assumption); (case hA => assumption); (case hn => k_dflt (walk_at "om")); (case m => k_dflt (walk_at "row")))
  | (refine' Sw.rd_eqPr ?hA ?h1 ?h2 ?o1 ?o2 ?hn ?_; (case h1 => assumption); (case h2 => assumption); (case hA => walk_at "sb"); (case o1 => assumption); (case o2 => assumption); (case hn => assumption))
  | (refine' Sw.rd_eqP ?hd ?hA ?h1 ?h2 ?_; (case hA => assumption); (case h1 => k_dflt (walk_at "is")); (case h2 => k_dflt (walk_at "is")); (case hd => k_dflt decide))
  | (refine' Sw.rd_neP ?hd ?hA ?h1 ?h2 ?_; (case hA => assumption); (case h1 => k_dflt (walk_at "is")); (case h2 => k_dflt (walk_at "is")); (case hd => k_dflt decide))
  | (refine' Sw.rd_inT3 ?hA ?m ?_; (case hA => assumption); (case m => k_dflt (walk_at "mem")))
  | (refine' Sw.rd_dictW ?hA ?m ?hI ?nd ?_; (case hA => assumption); (case m => k_dflt (walk_at "mem")); (case hI => k_dflt (walk_at "is")); (case nd => assumption); intro _ _ _)
  | (refine' Sw.rd_inLn ?hA ?m ?_; (case hA => assumption); (case m => k_dflt (walk_at "mem")))
  | (refine' Sw.rd_ninLn ?hA ?m ?_; (case hA => assumption); (case m => k_dflt (walk_at "mem")))
  | (refine' Sw.rd_inLs ?hA ?m ?_; (case hA => assumption); (case m => k_dflt (walk_at "mem")))
  | (refine' Sw.rd_ninLs ?hA ?m ?_; (case hA => assumption); (case m => k_dflt (walk_at "mem")))
  | (refine' Sw.rd_srtRS ?hA ?m ?_; (case hA => assumption); (case m => k_dflt (walk_at "row")); intro _ _ _)
  | (refine' Sw.rd_srtS ?hA ?m ?_; (case hA => assumption); (case m => k_dflt (walk_at "mem")); intro _ _ _)
  | (refine' Sw.rd_srtI ?hA ?m ?_; (case hA => assumption); (case m => k_dflt (walk_at "mem")); intro _ _ _)
  | (refine' Sw.rd_srtD ?hA ?m ?hI ?hk ?hd ?_; (case hA => assumption); (case m => k_dflt (walk_at "mem")); (case hI => k_dflt (walk_at "is")); (case hk => k_dflt (first | exact Sw.srtb_pairs _ | exact Sw.srtb_lists _)); (case hd => k_dflt decide); intro _ _ _ _ _ _)
  | (refine' Sw.rd_gTup ?hA ?m ?hl ?_; (case hA => assumption); (case m => k_dflt (walk_at "mem")); (case hl => k_dflt rfl))
  | (refine' Sw.rd_gLst ?hA ?m ?hl ?_; (case hA => assumption); (case m => k_dflt (walk_at "mem")); (case hl => k_dflt rfl))
  | refine Sw.rd_gCons ?_
  | refine Sw.rd_gNil ?_
  | refine Sw.rd_par ?_
  | refine Sw.rd_par3 ?_
  | refine Sw.rd_par3k ?_
  | refine Sw.rd_par2 ?_
  | (refine' Sw.rd_sum ?hA ?m ?_; (case hA => assumption); (case m => k_dflt (walk_at "mem")))
  | (refine' Sw.rd_indexS ?hA ?m ?hz ?_; (case hA => assumption); (case m => k_dflt (walk_at "mem")); (case hz => assumption); intro _ _ _)
  | refine Sw.rd_inS ?_
  | (refine' Sw.rd_isNr ?h ?_; (case h => assumption))
  | refine Sw.rd_isN ?_
  | refine Sw.rd_notN ?_
  | refine Sw.rd_for ?_
  | refine Sw.rd_iList ?_
  | (refine' Sw.rd_ilk ?hA ?m ?_; (case hA => assumption); (case m => k_dflt (walk_at "mem")))
  | (refine' Sw.rd_ilkK ?h ?_; (case h => k_dflt assumption))
  | refine Sw.rd_iRng1 ?_
  | (refine' Sw.rd_irkN ?h ?_; (case h => k_dflt (walk_at "om")))
  | (refine' Sw.rd_irk ?h ?_; (case h => k_dflt (walk_at "om")))
  | refine Sw.rd_lc ?_
  | (refine' Sw.rd_wipe ?h ?_; (case h => k_dflt rfl))
  | refine Sw.rd_yes ?_
  | refine Sw.rd_iEnum ?_
  | (refine' Sw.rd_iek ?hA ?m ?_; (case hA => assumption); (case m => k_dflt (walk_at "mem")))
  | refine Sw.rd_iStr ?_
  | refine Sw.rd_isk ?_
  | refine Sw.rd_iTup ?_
  | (refine' Sw.rd_itk ?hA ?m ?_; (case hA => assumption); (case m => k_dflt (walk_at "mem")))
  | (refine' Sw.rd_anyF ?hA ?m ?_; (case hA => assumption); (case m => k_dflt (walk_at "mem")))
  | (refine' Sw.rd_allF ?hA ?m ?_; (case hA => assumption); (case m => k_dflt (walk_at "mem")))
  | refine Sw.rd_dget ?_
  | refine Sw.rd_dget2 ?_
  | refine Sw.rd_lstRev ?_
  | (refine' Sw.rd_revkm ?hA ?m ?_; (case hA => assumption); (case m => k_dflt (walk_at "mem")); intro _ _ _)
  | (refine' Sw.rd_revk ?hA ?m ?_; (case hA => assumption); (case m => k_dflt (walk_at "mem")); intro _ _ _)
  | refine Sw.rd_dget1 ?_
  | (refine' Sw.rd_dget1k ?hA ?m ?_; (case hA => assumption); (case m => k_dflt (walk_at "mem")))
  | (refine' Sw.rd_dget2w ?hA ?m ?_; (case hA => assumption); (case m => k_dflt (walk_at "mem")))
  | refine Sw.rd_eqW ?_
  | (refine' Sw.rd_eqW2 ?hu ?_; (case hu => k_dflt (decide)))
  | refine Sw.rd_dsetd ?_
  | (refine' Sw.rd_hasD ?hA ?m ?_; (case hA => assumption); (case m => k_dflt (walk_at "mem")))
  | refine Sw.rd_din ?_
  | refine Sw.rd_dnin ?_
  | (refine' Sw.rd_dikS ?hA ?m ?_; (case hA => assumption); (case m => k_dflt (walk_at "mem")))
  | (refine' Sw.rd_dnkS ?hA ?m ?_; (case hA => assumption); (case m => k_dflt (walk_at "mem")))
  | (refine' Sw.rd_dikD ?hA ?m ?_; (case hA => assumption); (case m => k_dflt (walk_at "mem")))
  | (refine' Sw.rd_dnkD ?hA ?m ?_; (case hA => assumption); (case m => k_dflt (walk_at "mem")))
  | (refine' Sw.rd_dgkD ?hA ?m ?e ?_; (case hA => assumption); (case m => k_dflt (walk_at "mem")); (case e => k_dflt (first | assumption | walk_at "fl")))
  | refine Sw.rd_dput ?_
  | (refine' Sw.rd_dikP ?hA ?m ?mt ?_; (case hA => assumption); (case m => k_dflt (walk_at "mem")); (case mt => k_dflt (walk_at "mem")))
  | (refine' Sw.rd_dpkS ?hA ?hl ?_; (case hA => k_dflt (walk_at "foc")); (case hl => k_dflt (walk_at "ln")); intro _ _)
  | (refine' Sw.rd_dpkW ?hA ?hn ?hl ?_; (case hA => k_dflt (walk_at "foc")); (case hn => k_dflt assumption); (case hl => k_dflt (walk_at "ln")); intro _ _)
  | (refine' Sw.rd_dpkD ?hA ?hn ?hl ?_; (case hA => k_dflt (walk_at "foc")); (case hn => k_dflt (first | assumption | walk_at "fl")); (case hl => k_dflt (walk_at "ln")); intro _ _)
  | (refine' Sw.rd_dpkP ?hA ?mt ?hn ?hl ?_; (case hA => k_dflt (walk_at "foc")); (case mt => k_dflt (walk_at "mem")); (case hn => k_dflt assumption); (case hl => k_dflt (walk_at "ln")); intro _ _)
  | (refine' Sw.rd_dnewK ?hA ?_; (case hA => assumption); intro _ _ _)
  | (refine' Sw.rd_dnewT ?hA ?_; (case hA => assumption); intro _ _ _)
  | refine Sw.rd_fld ?_
  | (refine' Sw.rd_fldk ?hA ?m ?c ?n ?e ?_; (case hA => assumption); (case m => k_dflt (walk_at "mem")); (case c => k_dflt assumption); (case n => k_dflt assumption); (case e => k_dflt (walk_at "fl")))
  | refine Sw.rd_sfld ?_
  | (refine' Sw.rd_sfldN ?hA ?c ?n ?hl ?e ?_; (case hA => k_dflt (walk_at "foc")); (case c => k_dflt assumption); (case n => k_dflt assumption); (case hl => k_dflt (first | decide | (simp only [List.length_cons, List.length_nil]; omega))); (case e => walk_at "pf"); intro _ _)
  | refine Sw.rd_meth ?_
  | (refine' Sw.rd_methk ?hA ?m ?e ?_; (case hA => assumption); (case m => k_dflt (walk_at "mem")); (case e => k_dflt (walk_at "fl")))
  | refine Sw.rd_make ?_
  | (refine' Sw.rd_makek ?hA ?_; (case hA => assumption); intro _ _ _ _)
  | refine Sw.rd_made ?_
  | (refine' Sw.rd_isiC ?hA ?m ?c ?i ?_; (case i => k_dflt assumption); (case c => k_dflt assumption); (case hA => assumption); (case m => k_dflt (walk_at "mem")))
  | (refine' Sw.rd_isi ?h ?e ?_; (case h => k_dflt (walk_at "ty")); (case e => walk_at "kit"))
  | (refine' Sw.rd_isiT ?hA ?mt ?h ?e ?f ?_; (case hA => assumption); (case mt => k_dflt (walk_at "mem")); (case h => k_dflt (walk_at "ty")); (case e => walk_at "kit"); (case f => walk_at "kit"))
  | refine Sw.rd_zip ?_
  | refine Sw.rd_zip0 ?_
  | refine Sw.rd_zipM ?_
  | refine Sw.rd_enR ?_
  | (refine' Sw.rd_enRk ?hA ?m ?_; (case hA => assumption); (case m => k_dflt (walk_at "row")))
  | (refine' Sw.rd_zipMk ?hA ?m ?m2 ?_; (case hA => assumption); (case m => k_dflt (walk_at "mem")); (case m2 => k_dflt (walk_at "mem")))
  | (refine' Sw.rd_zip0k ?hA ?m ?m2 ?_; (case hA => assumption); (case m => k_dflt (walk_at "mem")); (case m2 => k_dflt (walk_at "mem")))
  | (refine' Sw.rd_mulS ?h ?_; (case h => k_dflt (walk_at "om")))
  | (refine' Sw.rd_addS ?h ?_; (case h => k_dflt (walk_at "om")))
  | (refine' Sw.rd_lenS ?h ?_; (case h => k_dflt (walk_at "om")))
  | refine Sw.rd_chain ?_
  | refine Sw.rd_chk ?_
  | refine Sw.rd_iRow ?_
  | (refine' Sw.rd_rowk ?hA ?m ?_; (case hA => assumption); (case m => k_dflt (walk_at "mem")))
  | (refine' Sw.rd_rowkL ?hA ?m ?_; (case hA => assumption); (case m => k_dflt (walk_at "mem")))
  | (refine' Sw.rd_lenRm ?hA ?m ?_; (case hA => assumption); (case m => k_dflt (walk_at "mem")))
  | (refine' Sw.rd_zipk ?hA ?m ?m2 ?_; (case hA => assumption); (case m => k_dflt (walk_at "mem")); (case m2 => k_dflt (walk_at "mem")))
  | (refine' Sw.rd_lenR ?hA ?m ?_; (case hA => assumption); (case m => k_dflt (walk_at "mem")))
  | (refine' Sw.rd_listR ?hA ?m ?_; (case hA => assumption); (case m => k_dflt (walk_at "mem")); intro _ _ _)
  | (refine' Sw.rd_ninRs ?hA ?m ?_; (case hA => assumption); (case m => k_dflt (walk_at "mem")))
  | (refine' Sw.rd_inRs ?hA ?m ?_; (case hA => assumption); (case m => k_dflt (walk_at "mem")))
  | refine Sw.rd_iKeys ?_
  | (refine' Sw.rd_keyk ?hA ?m ?_; (case hA => assumption); (case m => k_dflt (walk_at "mem")))
  | (refine' Sw.rd_srtK ?hA ?m ?_; (case hA => assumption); (case m => k_dflt (walk_at "mem")); intro _ _ _)
  | (refine' Sw.rd_srtKs ?hA ?m ?_; (case hA => assumption); (case m => k_dflt (walk_at "mem")); intro _ _ _)
  | (refine' Sw.rd_srtT ?hA ?m ?_; (case hA => assumption); (case m => k_dflt (walk_at "mem")); intro _ _ _ _ _ _)
  | (refine' Sw.rd_listDs ?hA ?m ?_; (case hA => assumption); (case m => k_dflt (walk_at "mem")); intro _ _ _)
  | (refine' Sw.rd_clear ?hA ?_; (case hA => k_dflt (walk_at "foc")); intro _ _)
  | (refine Sw.rd_whD ?_ ?_ <;> intro _)
  | (refine Sw.rd_whB ?_ ?_ <;> intro _)
  | (refine' Sw.rd_listDk ?hA ?m ?_; (case hA => assumption); (case m => k_dflt (walk_at "mem")); intro _ _ _)
  | refine Sw.rd_lstRg ?_
  | refine Sw.rd_rg1 ?_
  | refine Sw.rd_rg1k ?_
  | (refine' Sw.rd_lrg ?hA ?h0 ?h1 ?_; (case hA => assumption); (case h0 => k_dflt (walk_at "om")); (case h1 => k_dflt (walk_at "om")); intro _ _ _)
  | refine Sw.rd_ckw ?_
  | (refine' Sw.rd_srtB ?hA ?m ?_; (case hA => assumption); (case m => k_dflt (walk_at "mem")); intro _ _ _ _ _ _)
  | refine Sw.rd_rz ?_
  | refine Sw.rd_try ?_
  | refine Sw.rd_callS ?_
  | (refine' Sw.rd_callLS ?h ?_; (case h => k_dflt rfl))
  | refine Sw.rd_tryA ?_
  | (refine' Sw.rd_onlyA ?hA ?h ?_; (case hA => assumption); (case h => k_dflt assumption); intro _ _ _)
  | (refine' Sw.rd_isiX0 ?h ?e ?_; (case h => k_dflt (walk_at "ty")); (case e => walk_at "kit"))
  | (refine' Sw.rd_isiX ?hA ?m ?T ?e ?_; (case hA => assumption); (case m => k_dflt (walk_at "mem")); (case T => k_dflt assumption); (case e => k_dflt assumption))
  | (refine' Sw.rd_isiXt ?hA ?m ?T ?e ?_; (case hA => assumption); (case m => k_dflt (walk_at "mem")); (case T => k_dflt assumption); (case e => k_dflt assumption))
  | (refine' Sw.rd_isiXd ?hA ?m ?m2 ?T ?e ?_; (case hA => assumption); (case m => k_dflt (walk_at "mem")); (case m2 => k_dflt (walk_at "mem")); (case T => k_dflt assumption); (case e => k_dflt assumption))
  | (refine' Sw.rd_isiXdt ?hA ?m ?m2 ?T ?e ?_; (case hA => assumption); (case m => k_dflt (walk_at "mem")); (case m2 => k_dflt (walk_at "mem")); (case T => k_dflt assumption); (case e => k_dflt assumption))
  | (refine' Sw.rd_isiXT ?hA ?mt ?m ?T ?e ?_; (case hA => assumption); (case mt => k_dflt (walk_at "mem")); (case m => k_dflt (walk_at "mem")); (case T => k_dflt assumption); (case e => walk_at "kn"))
  | (refine' Sw.rd_isiXTd ?hA ?mt ?m ?m2 ?T ?e ?_; (case hA => assumption); (case mt => k_dflt (walk_at "mem")); (case m => k_dflt (walk_at "mem")); (case m2 => k_dflt (walk_at "mem")); (case T => k_dflt assumption); (case e => walk_at "kn"))
  | refine Sw.rd_xfT ?_
  | (refine' Sw.rd_xfTk ?hA ?m ?m2 ?T ?hn ?e ?_; (case hA => assumption); (case m => k_dflt (walk_at "mem")); (case m2 => k_dflt (walk_at "mem")); (case T => k_dflt assumption); (case hn => k_dflt assumption); (case e => k_dflt rfl))
  | refine Sw.rd_methE ?_
  | (refine' Sw.rd_only ?h ?_; (case h => k_dflt assumption))
  | refine Sw.rd_exE ?_
  | refine Sw.rd_break ?_
  | refine Sw.rd_cont ?_
  | refine Sw.rd_bk ?_
  | refine Sw.rd_ct ?_
  | (refine' Sw.rd_disp ?hA ?_; (case hA => assumption); intro _ _ _)
  | refine Sw.rd_prs ?_
  | refine Sw.rd_prs0 ?_
  | (refine' Sw.rd_disp1 ?hA ?_; (case hA => k_dflt (walk_at "foc")); intro _ _)
  | (refine' Sw.rd_disp2 ?hA ?nd ?_; (case hA => k_dflt (walk_at "foc")); (case nd => k_dflt (decide +kernel)); intro _ _)
  | (refine' Sw.rd_disp3 ?hA ?nd ?_; (case hA => k_dflt (walk_at "foc")); (case nd => k_dflt (decide +kernel)); intro _ _)
  | (refine' Sw.rd_disp4 ?hA ?nd ?_; (case hA => k_dflt (walk_at "foc")); (case nd => k_dflt (decide +kernel)); intro _ _)
  | (refine' Sw.rd_dictD ?hA ?m ?_; (case hA => assumption); (case m => k_dflt (walk_at "mem")); intro _ _ _)
  | (refine' Sw.rd_slA3 ?hA ?m ?_; (case hA => assumption); (case m => k_dflt (walk_at "mem")))
  | (refine' Sw.rd_slA4 ?hA ?m ?_; (case hA => assumption); (case m => k_dflt (walk_at "mem")); intro _ _ _)
  | (refine' Sw.rd_sl3 ?hA ?m ?_; (case hA => assumption); (case m => k_dflt (walk_at "mem")); intro _ _ _)
  | (refine' Sw.rd_sl4 ?hA ?m ?_; (case hA => assumption); (case m => k_dflt (walk_at "mem")); intro _ _ _)
  | (refine' Sw.rd_ninPn ?hA ?m ?_; (case hA => assumption); (case m => k_dflt (walk_at "mem")))
  | (refine' Sw.rd_ninTs ?hA ?m ?_; (case hA => assumption); (case m => k_dflt (walk_at "mem")))
  | (refine' Sw.rd_inT2 ?hA ?m ?_; (case hA => assumption); (case m => k_dflt (walk_at "mem")))
  | refine Sw.rd_revL ?_
  | (refine' Sw.rd_revLkm ?hA ?m ?_; (case hA => assumption); (case m => k_dflt (walk_at "mem")); intro _ _ _)
  | (refine' Sw.rd_revLk ?hA ?m ?_; (case hA => assumption); (case m => k_dflt (walk_at "mem")); intro _ _ _)
  | refine Sw.rd_isB ?_
  | refine Sw.rd_notB ?_
  | refine Sw.rd_iRng2 ?_
  | (refine' Sw.rd_ir2k ?h ?_; (case h => k_dflt (walk_at "om")))
  | (refine' Sw.rd_extendm ?hA ?m ?hl ?_; (case hA => k_dflt (walk_at "foc")); (case m => k_dflt (walk_at "mem")); (case hl => k_dflt (walk_at "om")); intro _ _)
  | (refine' Sw.rd_extend ?hA ?m ?hl ?_; (case hA => k_dflt (walk_at "foc")); (case m => k_dflt (walk_at "mem")); (case hl => k_dflt (walk_at "ln")); intro _ _)
  | (refine' Sw.rd_ixEnd ?hA ?m ?h ?_; (case hA => assumption); (case m => k_dflt (walk_at "mem")); (case h => k_dflt (walk_at "om")); intro _ _)
  | refine Sw.rd_lstZip ?_
  | (refine' Sw.rd_lstZipS ?hA ?m ?m2 ?_; (case hA => assumption); (case m => k_dflt (walk_at "mem")); (case m2 => k_dflt (walk_at "mem")); intro _ _ _ _ _ _)
  | refine Sw.rd_slSt ?_
  | (refine' Sw.rd_slSt2 ?hA ?m ?h1 ?h2 ?_; (case hA => assumption); (case m => k_dflt (walk_at "mem")); (case h1 => k_dflt (walk_at "non")); (case h2 => k_dflt (walk_at "non")); intro _ _ _)
  | refine Sw.rd_srtSet ?_
  | (refine' Sw.rd_srtSetk ?hA ?m ?hl ?_; (case hA => assumption); (case m => k_dflt (walk_at "mem")); (case hl => k_dflt (walk_at "om")); intro _ _ _)
  | refine Sw.rd_lenSet ?_
  | (refine' Sw.rd_lenSetk ?hA ?m ?hl ?_; (case hA => assumption); (case m => k_dflt (walk_at "row")); (case hl => k_dflt (walk_at "om")))
  | refine Sw.rd_tupRev ?_
  | (refine' Sw.rd_trevk ?hA ?m ?_; (case hA => assumption); (case m => k_dflt (walk_at "mem")); intro _ _ _)
  | walk_at "rdc")
local macro_rules | `(tactic| walk_at "rd") => `(tactic| repeat' (first | walk_at "rd1" | refine Sw.rd_ifS ?_))
local macro_rules | `(tactic| walk_at "rdn") => `(tactic| repeat' (first | walk_at "rd1" | fail))
local macro_rules | `(tactic| walk_at "okd") => `(tactic| first | assumption | exact Sw.okD_int _ _ | exact Sw.okD_str _ _ | exact Sw.okD_bl _ _ | (refine' Sw.okD_two ?h ?k; (case h => walk_at "okd"); (case k => walk_at "okd")) | (refine' Sw.okD_map ?h ?k; (case h => walk_at "om"); (case k => (intro _; walk_at "okd"))) | (refine' Sw.okD_pair ?h ?k; (case h => walk_at "okd"); (case k => walk_at "okd")) | (refine' And.intro ?h (by decide); (case h => walk_at "okd")) | (refine' And.intro ?h (by omega); (case h => walk_at "okd")))
local macro_rules | `(tactic| walk_at "rdp") => `(tactic| repeat' ((fail_if_success (with_reducible refine Sw.rd_par ?_)); (first | walk_at "rd1" | refine Sw.rd_ifS ?_)))

namespace Sw
open PySem L2 PySem.W
structure Tx (K : PySem.W.Frag) (mg : Str → Option Value) : Prop where
  f_many_bits : Fn K mg "many_bits" (top 10)
  f_greatest_sets : Fn K mg "greatest_sets" (top 11)
  f_strikers_by : Fn K mg "strikers_by" (top 13)
  f_clash_in : Fn K mg "clash_in" (top 14)
  f_unanswered_trees : FnA K mg "unanswered_trees" "unanswered" (top 15)
  f_grown_from : Fn K mg "grown_from" (top 17)
  f_standing_with : Fn K mg "standing_with" (top 18)
  f_first_with : Fn K mg "first_with" (top 19)
  f_greatest_tree : Fn K mg "greatest_tree" (top 20)
  f_greatest_with : Fn K mg "greatest_with" (top 21)
  f_look_name : Fn K mg "look_name" (top 23)
  f_in_some : Fn K mg "in_some" (top 24)
  f_in_each : Fn K mg "in_each" (top 25)
  f_answers_by_name : Fn K mg "answers_by_name" (top 26)
  f_first_drop : Fn K mg "first_drop" (top 27)
  f_unanswered_grants : FnA K mg "unanswered_grants" "unanswered" (top 28)
  f_bare_drops : Fn K mg "bare_drops" (top 30)
  f_strikers_of : Fn K mg "strikers_of" (top 31)
  f_granted : Fn K mg "granted" (top 32)
  f_is_name : Fn K mg "is_name" (top 36)
  f_is_pair_of : Fn K mg "is_pair_of" (top 37)
  f__law_mix : Fn K mg "_law_mix" (top 40)
  f__law_left : Fn K mg "_law_left" (top 41)
  f__law_pick : Fn K mg "_law_pick" (top 42)
  f__law_names : Fn K mg "_law_names" (top 43)
  f__law_size : Fn K mg "_law_size" (top 44)
  f__law_strikes : Fn K mg "_law_strikes" (top 45)
  f__law_masks : Fn K mg "_law_masks" (top 46)
  f__law_set_of : Fn K mg "_law_set_of" (top 47)
  f__law_hit : Fn K mg "_law_hit" (top 48)
  f__law_kept : Fn K mg "_law_kept" (top 49)
  f__law_is_quiet : Fn K mg "_law_is_quiet" (top 50)
  f__law_stands : Fn K mg "_law_stands" (top 51)
  f__law_is_whole : Fn K mg "_law_is_whole" (top 52)
  f__law_all_standing : Fn K mg "_law_all_standing" (top 53)
  f__law_greatest : Fn K mg "_law_greatest" (top 54)
  f__law_least : Fn K mg "_law_least" (top 55)
  f__law_drawn : Fn K mg "_law_drawn" (top 56)
  f__law_granted : Fn K mg "_law_granted" (top 57)
  f__law_world : Fn K mg "_law_world" (top 58)
  f__law_asked : Fn K mg "_law_asked" (top 59)
  f_law : Fn K mg "law" (top 60)
  g_MOST_TOLD : ∃ t, mg "MOST_TOLD" = some (.int 300 t)
  g_LETTERS : ∃ t, mg "LETTERS" = some (.str "abcdefghijklmnopqrstuvwxyz" t)
  g_MOST_NAME : ∃ t, mg "MOST_NAME" = some (.int 8 t)
  z_len : mg "len" = none
  z_sorted : mg "sorted" = none
  z_any : mg "any" = none
  z_all : mg "all" = none
  z_list : mg "list" = none
  z_tuple : mg "tuple" = none
  z_dict : mg "dict" = none
  z_range : mg "range" = none
  z_enumerate : mg "enumerate" = none
  z_isinstance : mg "isinstance" = none
  z_abs : mg "abs" = none
  z_int : mg "int" = none
  z_min : mg "min" = none
  z_max : mg "max" = none
  z_str : mg "str" = none
  z_bool : mg "bool" = none
  z_zip : mg "zip" = none
  z_reversed : mg "reversed" = none
  z_set : mg "set" = none
  z_sum : mg "sum" = none
  z_ValueError : mg "ValueError" = none
  g_Sieve : mg "Sieve" = some (.ref (He.ga K "Sieve"))
  cl_Sieve : Cls K (He.ga K "Sieve")
  na_Sieve_order : NoAttr K (He.ga K "Sieve") "order"
  na_Sieve_hitters : NoAttr K (He.ga K "Sieve") "hitters"
  na_Sieve_hits : NoAttr K (He.ga K "Sieve") "hits"
  mk_Sieve : Mk K (He.ga K "Sieve") (He.ma K (He.ga K "Sieve") "__init__")
  fd_Sieve___init__ : ∃ fd, FunD K "__init__" "Sieve.__init__" (defArgs (inClass (top 9) 0)) (defBody (inClass (top 9) 0)) (defScope (inClass (top 9) 0)) [] [] (He.ma K (He.ga K "Sieve") "__init__") fd
  me_Sieve_mask_for : Meth K (He.ga K "Sieve") "mask_for" (He.ma K (He.ga K "Sieve") "mask_for")
  fd_Sieve_mask_for : ∃ fd, FunD K "mask_for" "Sieve.mask_for" (defArgs (inClass (top 9) 1)) (defBody (inClass (top 9) 1)) (defScope (inClass (top 9) 1)) [] [] (He.ma K (He.ga K "Sieve") "mask_for") fd
  me_Sieve_names_for : Meth K (He.ga K "Sieve") "names_for" (He.ma K (He.ga K "Sieve") "names_for")
  fd_Sieve_names_for : ∃ fd, FunD K "names_for" "Sieve.names_for" (defArgs (inClass (top 9) 2)) (defBody (inClass (top 9) 2)) (defScope (inClass (top 9) 2)) [] [] (He.ma K (He.ga K "Sieve") "names_for") fd
  me_Sieve_hit_by_all : Meth K (He.ga K "Sieve") "hit_by_all" (He.ma K (He.ga K "Sieve") "hit_by_all")
  fd_Sieve_hit_by_all : ∃ fd, FunD K "hit_by_all" "Sieve.hit_by_all" (defArgs (inClass (top 9) 3)) (defBody (inClass (top 9) 3)) (defScope (inClass (top 9) 3)) [] [] (He.ma K (He.ga K "Sieve") "hit_by_all") fd
  me_Sieve_kept_mask : Meth K (He.ga K "Sieve") "kept_mask" (He.ma K (He.ga K "Sieve") "kept_mask")
  fd_Sieve_kept_mask : ∃ fd, FunD K "kept_mask" "Sieve.kept_mask" (defArgs (inClass (top 9) 4)) (defBody (inClass (top 9) 4)) (defScope (inClass (top 9) 4)) [] [] (He.ma K (He.ga K "Sieve") "kept_mask") fd
  me_Sieve_quiet_masks : Meth K (He.ga K "Sieve") "quiet_masks" (He.ma K (He.ga K "Sieve") "quiet_masks")
  fd_Sieve_quiet_masks : ∃ fd, FunD K "quiet_masks" "Sieve.quiet_masks" (defArgs (inClass (top 9) 5)) (defBody (inClass (top 9) 5)) (defScope (inClass (top 9) 5)) [] [] (He.ma K (He.ga K "Sieve") "quiet_masks") fd
  me_Sieve_standing_masks : Meth K (He.ga K "Sieve") "standing_masks" (He.ma K (He.ga K "Sieve") "standing_masks")
  fd_Sieve_standing_masks : ∃ fd, FunD K "standing_masks" "Sieve.standing_masks" (defArgs (inClass (top 9) 6)) (defBody (inClass (top 9) 6)) (defScope (inClass (top 9) 6)) [] [] (He.ma K (He.ga K "Sieve") "standing_masks") fd
  me_Sieve_whole_masks : Meth K (He.ga K "Sieve") "whole_masks" (He.ma K (He.ga K "Sieve") "whole_masks")
  fd_Sieve_whole_masks : ∃ fd, FunD K "whole_masks" "Sieve.whole_masks" (defArgs (inClass (top 9) 7)) (defBody (inClass (top 9) 7)) (defScope (inClass (top 9) 7)) [] [] (He.ma K (He.ga K "Sieve") "whole_masks") fd
  me_Sieve_greatest_masks : Meth K (He.ga K "Sieve") "greatest_masks" (He.ma K (He.ga K "Sieve") "greatest_masks")
  fd_Sieve_greatest_masks : ∃ fd, FunD K "greatest_masks" "Sieve.greatest_masks" (defArgs (inClass (top 9) 8)) (defBody (inClass (top 9) 8)) (defScope (inClass (top 9) 8)) [] [] (He.ma K (He.ga K "Sieve") "greatest_masks") fd
  me_Sieve_outright_masks : Meth K (He.ga K "Sieve") "outright_masks" (He.ma K (He.ga K "Sieve") "outright_masks")
  fd_Sieve_outright_masks : ∃ fd, FunD K "outright_masks" "Sieve.outright_masks" (defArgs (inClass (top 9) 9)) (defBody (inClass (top 9) 9)) (defScope (inClass (top 9) 9)) [] [] (He.ma K (He.ga K "Sieve") "outright_masks") fd
  me_Sieve_rising_sets : Meth K (He.ga K "Sieve") "rising_sets" (He.ma K (He.ga K "Sieve") "rising_sets")
  fd_Sieve_rising_sets : ∃ fd, FunD K "rising_sets" "Sieve.rising_sets" (defArgs (inClass (top 9) 10)) (defBody (inClass (top 9) 10)) (defScope (inClass (top 9) 10)) [] [] (He.ma K (He.ga K "Sieve") "rising_sets") fd
  g_Web : mg "Web" = some (.ref (He.ga K "Web"))
  cl_Web : Cls K (He.ga K "Web")
  na_Web_strikers_by : NoAttr K (He.ga K "Web") "strikers_by"
  na_Web_struck_by : NoAttr K (He.ga K "Web") "struck_by"
  na_Web_own_pairs : NoAttr K (He.ga K "Web") "own_pairs"
  mk_Web : Mk K (He.ga K "Web") (He.ma K (He.ga K "Web") "__init__")
  fd_Web___init__ : ∃ fd, FunD K "__init__" "Web.__init__" (defArgs (inClass (top 38) 0)) (defBody (inClass (top 38) 0)) (defScope (inClass (top 38) 0)) [] [] (He.ma K (He.ga K "Web") "__init__") fd
  me_Web_all_names : Meth K (He.ga K "Web") "all_names" (He.ma K (He.ga K "Web") "all_names")
  fd_Web_all_names : ∃ fd, FunD K "all_names" "Web.all_names" (defArgs (inClass (top 38) 1)) (defBody (inClass (top 38) 1)) (defScope (inClass (top 38) 1)) [] [] (He.ma K (He.ga K "Web") "all_names") fd
  me_Web_all_strikes : Meth K (He.ga K "Web") "all_strikes" (He.ma K (He.ga K "Web") "all_strikes")
  fd_Web_all_strikes : ∃ fd, FunD K "all_strikes" "Web.all_strikes" (defArgs (inClass (top 38) 2)) (defBody (inClass (top 38) 2)) (defScope (inClass (top 38) 2)) [] [] (He.ma K (He.ga K "Web") "all_strikes") fd
  me_Web_look_name : Meth K (He.ga K "Web") "look_name" (He.ma K (He.ga K "Web") "look_name")
  fd_Web_look_name : ∃ fd, FunD K "look_name" "Web.look_name" (defArgs (inClass (top 38) 3)) (defBody (inClass (top 38) 3)) (defScope (inClass (top 38) 3)) [] [] (He.ma K (He.ga K "Web") "look_name") fd
  me_Web_strikers : Meth K (He.ga K "Web") "strikers" (He.ma K (He.ga K "Web") "strikers")
  fd_Web_strikers : ∃ fd, FunD K "strikers" "Web.strikers" (defArgs (inClass (top 38) 4)) (defBody (inClass (top 38) 4)) (defScope (inClass (top 38) 4)) [] [] (He.ma K (He.ga K "Web") "strikers") fd
  me_Web_struck : Meth K (He.ga K "Web") "struck" (He.ma K (He.ga K "Web") "struck")
  fd_Web_struck : ∃ fd, FunD K "struck" "Web.struck" (defArgs (inClass (top 38) 5)) (defBody (inClass (top 38) 5)) (defScope (inClass (top 38) 5)) [] [] (He.ma K (He.ga K "Web") "struck") fd
  g_StrikeError : mg "StrikeError" = some (.ref (He.ga K "StrikeError"))
  ex_StrikeError : ExW K (He.ga K "StrikeError")
  g_NoName : mg "NoName" = some (.ref (He.ga K "NoName"))
  ex_NoName : ExW K (He.ga K "NoName")
  g_TooMany : mg "TooMany" = some (.ref (He.ga K "TooMany"))
  ex_TooMany : ExW K (He.ga K "TooMany")
end Sw

namespace Sw
open PySem L2 PySem.W
def sp__law_left (K : PySem.W.Frag) : Sp := fun vs H Q E => match vs with
  | [.ref a, .int n] => ∃ (ns : List Int) (L : List Cell), (SqL K H a (ns.map V.int)) ∧ (At H L) ∧ (0 ≤ n ∧ n < 100) ∧ (∀ (p : Addr) (x y : Int) (H' : Hp), (At H' ((p, .lst [.int x, .int y, .int 0]) :: L)) → Q (.ref p) H')
  | _ => False
end Sw
local macro_rules | `(tactic| walk_at "rdc") => `(tactic| ((with_reducible show Sw.sp__law_left _ _ _ _ _); k_dflt (refine' ⟨_, _, ?h0, ?h1, ?h2, ?_⟩); (case h0 => k_dflt assumption); (case h1 => assumption); (case h2 => k_dflt (walk_at "om")); intro _ _ _ _ _))
local macro_rules | `(tactic| walk_at "call") => `(tactic| ((with_reducible show Sw.sp__law_left _ _ _ _ _); k_dflt (refine' ⟨_, _, ?h0, ?h1, ?h2, ?_⟩); (try (case h0 => k_dflt assumption)); (try (case h1 => assumption)); (try (case h2 => k_dflt (walk_at "om")))))
namespace Sw
open PySem L2 PySem.W
section
variable {P : Program} {w : World} {K : PySem.W.Frag} {mg : Str → Option Value} {base : Heap}
theorem sc__law_left : FnScope ["_law_script", "_law_k", "_law_cell"] ["_law_script", "_law_k"] (defScope (top 41)) := ⟨rfl, rfl, rfl, by decide +kernel, rfl, by decide +kernel, by decide +kernel⟩
theorem ok__law_left (T : Tx K mg) : Cal P w K mg base "_law_left" 1 ["_law_script", "_law_k"] (sp__law_left K) := by
  refine T.f__law_left.cal (N := ["_law_script", "_law_k", "_law_cell"]) sc__law_left (fun _ _ _ _ _ _ us hl => match us, hl with | [_, _], _ => rfl) (fun vs H Q E h => by
    unfold sp__law_left at h
    split at h
    all_goals first | rfl | exact h.elim) ?_
  intro f cdv A outer s H vs Q E hr h
  have hu := hu_of hr
  unfold sp__law_left at h
  split at h
  rotate_left
  · exact h.elim
  rename_i a n
  obtain ⟨ns, L, h0, h1, h2, k⟩ := h
  refine ⟨_, pss_cons (ps_set (i := 2) sc__law_left.nd rfl (by first | exact Or.inl rfl | exact Or.inr rfl) (pe_ifExp (pt_cmpR op_lt (pv 1) (pe_callB Sw.call_lenQ (by rfl) T.z_len (by decide +kernel) (pa_cons (pv 0) pa_nil)) (nomark _)) (pe_ix ix_list (pv 0) (pv 1) (fun _ _ => rfl)) (pe_int)))
 (pss_one (ps_ret (pe_lst (pa_cons (pe_op Sw.op_mulA (pe_callB Sw.call_abs (by rfl) T.z_abs (by decide +kernel) (pa_cons (pv 2) pa_nil)) (pe_callTy Sw.call_int (by rfl) T.z_int (by decide +kernel) (pa_cons (pe_cmpR op_ge (pe_callB Sw.call_abs (by rfl) T.z_abs (by decide +kernel) (pa_cons (pv 2) pa_nil)) (pe_op op_pow (pe_int) (pe_int)) (nomark _)) pa_nil))) (pa_cons (pe_op op_add (pv 2) (pe_op Sw.op_mulA (pe_int) (pv 1))) (pa_cons (pe_int) pa_nil)))))), ?_⟩
  try clear hu hr
  walk_at "rd"
  all_goals exact k _ _ _ _ (by assumption)
end
end Sw

namespace Sw
open PySem L2 PySem.W
def sp__law_mix : Sp := fun vs H Q E => match vs with
  | [.int c, .int n] => (-(2 ^ 60) < n ∧ n < 2 ^ 60) ∧ (∀ (r : Int), (0 ≤ r) → (r < 1999999973) → Q (.int r) H)
  | _ => False
end Sw
local macro_rules | `(tactic| walk_at "rdc") => `(tactic| ((with_reducible show Sw.sp__law_mix _ _ _ _); k_dflt (refine' ⟨?h0, ?_⟩); (case h0 => k_dflt (walk_at "om")); intro _ _ _))
local macro_rules | `(tactic| walk_at "call") => `(tactic| ((with_reducible show Sw.sp__law_mix _ _ _ _); k_dflt (refine' ⟨?h0, ?_⟩); (try (case h0 => k_dflt (walk_at "om")))))
namespace Sw
open PySem L2 PySem.W
section
variable {P : Program} {w : World} {K : PySem.W.Frag} {mg : Str → Option Value} {base : Heap}
theorem sc__law_mix : FnScope ["_law_cell", "_law_k", "_law_m"] ["_law_cell", "_law_k"] (defScope (top 40)) := ⟨rfl, rfl, rfl, by decide +kernel, rfl, by decide +kernel, by decide +kernel⟩
theorem ok__law_mix (T : Tx K mg) : Cal P w K mg base "_law_mix" 1 ["_law_cell", "_law_k"] (sp__law_mix) := by
  refine T.f__law_mix.cal (N := ["_law_cell", "_law_k", "_law_m"]) sc__law_mix (fun _ _ _ _ _ _ us hl => match us, hl with | [_, _], _ => rfl) (fun vs H Q E h => by
    unfold sp__law_mix at h
    split at h
    all_goals first | rfl | exact h.elim) ?_
  intro f cdv A outer s H vs Q E hr h
  have hu := hu_of hr
  unfold sp__law_mix at h
  split at h
  rotate_left
  · exact h.elim
  rename_i c n
  obtain ⟨h0, k⟩ := h
  refine ⟨_, pss_cons (ps_set (i := 2) sc__law_mix.nd rfl (by first | exact Or.inl rfl | exact Or.inr rfl) (pe_op op_mod (pe_op Sw.op_mulA (pe_op op_add (pe_op op_add (pe_op op_mod (pv 0) (pe_int)) (pe_op Sw.op_mulA (pe_op Sw.op_mulA (pv 1) (pv 1)) (pe_int))) (pe_int)) (pe_int)) (pe_int)))
 (pss_one (ps_ret (pe_op op_mod (pe_op Sw.op_mulA (pv 2) (pv 2)) (pe_int)))), ?_⟩
  try clear hu hr
  walk_at "rd"
  exact k _ (by omega) (by omega)
end
end Sw

namespace Sw
open PySem L2 PySem.W
def sp__law_pick : Sp := fun vs H Q E => match vs with
  | [.ref l, .int n] => ∃ (a b c : Int) (F : List Cell), (At H ((l, .lst [.int a, .int b, .int c]) :: F)) ∧ ((0 < n ∧ n < 2 ^ 29) ∧ (0 ≤ c ∧ c < 2 ^ 50)) ∧ (∀ (r a' : Int) (H' : Hp), (0 ≤ r) → (r < n) → (At H' ((l, .lst [.int a', .int b, .int (c + 1)]) :: F)) → Q (.int r) H')
  | _ => False
end Sw
local macro_rules | `(tactic| walk_at "rdc") => `(tactic| ((with_reducible show Sw.sp__law_pick _ _ _ _); k_dflt (refine' ⟨_, _, _, _, ?h0, ?h1, ?_⟩); (case h0 => k_dflt (walk_at "foc")); (case h1 => k_dflt (walk_at "om")); intro _ _ _ _ _ _))
local macro_rules | `(tactic| walk_at "call") => `(tactic| ((with_reducible show Sw.sp__law_pick _ _ _ _); k_dflt (refine' ⟨_, _, _, _, ?h0, ?h1, ?_⟩); (try (case h0 => k_dflt (walk_at "foc"))); (try (case h1 => k_dflt (walk_at "om")))))
namespace Sw
open PySem L2 PySem.W
section
variable {P : Program} {w : World} {K : PySem.W.Frag} {mg : Str → Option Value} {base : Heap}
theorem sc__law_pick : FnScope ["_law_left_here", "_law_many", "_law_digit"] ["_law_left_here", "_law_many"] (defScope (top 42)) := ⟨rfl, rfl, rfl, by decide +kernel, rfl, by decide +kernel, by decide +kernel⟩
theorem ok__law_pick (T : Tx K mg) : Cal P w K mg base "_law_pick" 2 ["_law_left_here", "_law_many"] (sp__law_pick) := by
  obtain ⟨f_c_law_mix, d_c_law_mix, m_c_law_mix, k_c_law_mix, b_c_law_mix, G_c_law_mix⟩ := (ok__law_mix (P := P) (w := w) (base := base) T).ex
  refine T.f__law_pick.cal (N := ["_law_left_here", "_law_many", "_law_digit"]) sc__law_pick (fun _ _ _ _ _ _ us hl => match us, hl with | [_, _], _ => rfl) (fun vs H Q E h => by
    unfold sp__law_pick at h
    split at h
    all_goals first | rfl | exact h.elim) ?_
  intro f cdv A outer s H vs Q E hr h
  have hu := hu_of hr
  unfold sp__law_pick at h
  split at h
  rotate_left
  · exact h.elim
  rename_i l n
  obtain ⟨a, b, c, F, h0, h1, k⟩ := h
  refine ⟨_, pss_cons (ps_asg (pe_op op_add (pe_ix ix_list (pv 0) (pe_int) (fun _ _ => rfl)) (pe_int)) (pg_sub (pv 0) (pe_int) set_list))
 (pss_cons (ps_if (pt_cmpR op_gt (pe_ix ix_list (pv 0) (pe_int) (fun _ _ => rfl)) (pe_int) (nomark _)) (pss_cons (ps_set (i := 2) sc__law_pick.nd rfl (by first | exact Or.inl rfl | exact Or.inr rfl) (pe_op op_mod (pe_ix ix_list (pv 0) (pe_int) (fun _ _ => rfl)) (pv 1)))
 (pss_cons (ps_asg (pe_op Sw.op_div (pe_ix ix_list (pv 0) (pe_int) (fun _ _ => rfl)) (pv 1)) (pg_sub (pv 0) (pe_int) set_list))
 (pss_one (ps_ret (pv 2))))) (pss_nil))
 (pss_one (ps_ret (pe_op op_mod (pe_op Sw.op_div (pe_call G_c_law_mix (hr.mono (by decide)) (by rfl) m_c_law_mix k_c_law_mix b_c_law_mix .nil pass0 (pa_cons (pe_call G_c_law_mix (hr.mono (by decide)) (by rfl) m_c_law_mix k_c_law_mix b_c_law_mix .nil pass0 (pa_cons (pe_ix ix_list (pv 0) (pe_int) (fun _ _ => rfl)) (pa_cons (pe_ix ix_list (pv 0) (pe_int) (fun _ _ => rfl)) pa_nil))) (pa_cons (pe_op op_add (pe_ix ix_list (pv 0) (pe_int) (fun _ _ => rfl)) (pe_int)) pa_nil))) (pe_int)) (pv 1))))), ?_⟩
  try clear G_c_law_mix b_c_law_mix k_c_law_mix m_c_law_mix
  try clear d_c_law_mix f_c_law_mix
  try clear hu hr
  walk_at "rd"
  all_goals exact k _ _ _ (Int.emod_nonneg _ (by omega)) (Int.emod_lt_of_pos _ (by omega)) (by assumption)
end
end Sw

namespace Sw
open PySem L2 PySem.W
def sp__law_names : Sp := fun vs H Q E => match vs with
  | [.ref l, .int n] => ∃ (a b c : Int) (F : List Cell), (At H ((l, .lst [.int a, .int b, .int c]) :: F)) ∧ ((0 ≤ n ∧ n ≤ 20) ∧ (0 ≤ c ∧ c < 2 ^ 49)) ∧ (∀ (p : Addr) (ns : List Str) (a' c' : Int) (H' : Hp), (At H' ((l, .lst [.int a', .int b, .int c']) :: (p, .lst (ns.map V.str)) :: F)) → (0 ≤ c' ∧ c' ≤ c + 20) → (ns.length = n.toNat) → (ns.Nodup) → (∀ x ∈ ns, x ∈ base20) → Q (.ref p) H')
  | _ => False
end Sw
local macro_rules | `(tactic| walk_at "rdc") => `(tactic| ((with_reducible show Sw.sp__law_names _ _ _ _); k_dflt (refine' ⟨_, _, _, _, ?h0, ?h1, ?_⟩); (case h0 => k_dflt (walk_at "foc")); (case h1 => k_dflt (walk_at "om")); intro _ _ _ _ _ _ _ _ _ _))
local macro_rules | `(tactic| walk_at "call") => `(tactic| ((with_reducible show Sw.sp__law_names _ _ _ _); k_dflt (refine' ⟨_, _, _, _, ?h0, ?h1, ?_⟩); (try (case h0 => k_dflt (walk_at "foc"))); (try (case h1 => k_dflt (walk_at "om")))))
namespace Sw
open PySem L2 PySem.W
section
variable {P : Program} {w : World} {K : PySem.W.Frag} {mg : Str → Option Value} {base : Heap}
theorem sc__law_names : FnScope ["_law_left_here", "_law_many", "_law_some", "_law_names_here", "_law_k"] ["_law_left_here", "_law_many"] (defScope (top 43)) := ⟨rfl, rfl, rfl, by decide +kernel, rfl, by decide +kernel, by decide +kernel⟩
theorem ok__law_names (T : Tx K mg) : Cal P w K mg base "_law_names" 3 ["_law_left_here", "_law_many"] (sp__law_names) := by
  obtain ⟨f_c_law_pick, d_c_law_pick, m_c_law_pick, k_c_law_pick, b_c_law_pick, G_c_law_pick⟩ := (ok__law_pick (P := P) (w := w) (base := base) T).ex
  have cl_Sieve := T.cl_Sieve
  have na_Sieve_order := T.na_Sieve_order
  have na_Sieve_hitters := T.na_Sieve_hitters
  have na_Sieve_hits := T.na_Sieve_hits
  have cl_Web := T.cl_Web
  have na_Web_strikers_by := T.na_Web_strikers_by
  have na_Web_struck_by := T.na_Web_struck_by
  have na_Web_own_pairs := T.na_Web_own_pairs
  refine T.f__law_names.cal (N := ["_law_left_here", "_law_many", "_law_some", "_law_names_here", "_law_k"]) sc__law_names (fun _ _ _ _ _ _ us hl => match us, hl with | [_, _], _ => rfl) (fun vs H Q E h => by
    unfold sp__law_names at h
    split at h
    all_goals first | rfl | exact h.elim) ?_
  intro f cdv A outer s H vs Q E hr h
  have hu := hu_of hr
  unfold sp__law_names at h
  split at h
  rotate_left
  · exact h.elim
  rename_i l n
  obtain ⟨a, b, c, F, h0, h1, k⟩ := h
  refine ⟨_, pss_cons (ps_set (i := 2) sc__law_names.nd rfl (by first | exact Or.inl rfl | exact Or.inr rfl) (Sw.pe_splitW (pe_str) (pe_str)))
 (pss_cons (ps_set (i := 3) sc__law_names.nd rfl (by first | exact Or.inl rfl | exact Or.inr rfl) (pe_lst (pa_nil)))
 (pss_cons (ps_for PassesOwn.never rfl (pi_range1 (by rfl) T.z_range (pa_cons (pv 1) pa_nil)) (pg_name (i := 4) sc__law_names.nd rfl (by first | exact Or.inl rfl | exact Or.inr rfl)) (pss_one (ps_expr (pe_bm PySem.F.plainAttrs_list PySem.F.slot_list_append PySem.F.type_list_append mt_append (pv 3) (pa_cons (pe_bm PySem.F.plainAttrs_list PySem.F.slot_list_pop PySem.F.type_list_pop mt_popAt (pv 2) (pa_cons (pe_call G_c_law_pick (hr.mono (by decide)) (by rfl) m_c_law_pick k_c_law_pick b_c_law_pick .nil pass0 (pa_cons (pv 0) (pa_cons (pe_callB Sw.call_lenQ (by rfl) T.z_len (by decide +kernel) (pa_cons (pv 2) pa_nil)) pa_nil))) pa_nil)) pa_nil)))))
 (pss_one (ps_ret (pv 3))))), ?_⟩
  try clear G_c_law_pick b_c_law_pick k_c_law_pick m_c_law_pick
  try clear d_c_law_pick f_c_law_pick
  try clear hu hr
  walk_at "rd"
  rename_i p2 H2 A2 p3 H3 A3
  rw [base20_split] at A3
  refine Sw.loop_range (fun i σ H' => ∃ a' c' rest ns v, σ = [some (.ref l), some (.int n), some (.ref p2), some (.ref p3), v] ∧ At H' ((l, .lst [.int a', .int b, .int c']) :: (p2, .lst (rest.map V.str)) :: (p3, .lst (ns.map V.str)) :: F) ∧
    (ns.length = i ∧ c' = c + (i : Int)) ∧ (rest ++ ns).Perm base20) ⟨a, c, base20, [], none, rfl, by walk_at "sb", ⟨rfl, by omega⟩, by rw [List.append_nil]⟩ ?_ ?_
  · rintro i σ H1 hi ⟨a1, c1, rest, ns, v, rfl, A1, ⟨e1, e2⟩, pm⟩
    have hl := pm.length_eq
    rw [List.length_append, e1] at hl
    have h20 : base20.length = 20 := rfl
    walk_at "rd"
    exact ⟨_, _, _, _, _, rfl, by walk_at "sb", ⟨by rw [List.length_append, e1]; rfl, by omega⟩, names_step pm (by assumption)⟩
  · rintro σ H1 ⟨a1, c1, rest, ns, v, rfl, A1, ⟨e1, e2⟩, pm⟩
    walk_at "rd"
    have nd : (rest ++ ns).Nodup := pm.nodup_iff.mpr (by decide +kernel)
    exact k _ ns _ _ _ (by walk_at "sb") (by omega) e1 (List.nodup_append.mp nd).2.1 (fun x m => pm.mem_iff.mp (List.mem_append_right _ m))
end
end Sw

namespace Sw
open PySem L2 PySem.W
def sp__law_size : Sp := fun vs H Q E => match vs with
  | [.ref l, .int n] => ∃ (a b c : Int) (F : List Cell), (At H ((l, .lst [.int a, .int b, .int c]) :: F)) ∧ (0 ≤ c ∧ c < 2 ^ 49) ∧ (∀ (r a' c' : Int) (H' : Hp), (At H' ((l, .lst [.int a', .int b, .int c']) :: F)) → (0 ≤ c' ∧ c' ≤ c + 3) → (0 ≤ r ∧ r ≤ 10) → Q (.int r) H')
  | _ => False
end Sw
local macro_rules | `(tactic| walk_at "rdc") => `(tactic| ((with_reducible show Sw.sp__law_size _ _ _ _); k_dflt (refine' ⟨_, _, _, _, ?h0, ?h1, ?_⟩); (case h0 => k_dflt (walk_at "foc")); (case h1 => k_dflt (walk_at "om")); intro _ _ _ _ _ _ _))
local macro_rules | `(tactic| walk_at "call") => `(tactic| ((with_reducible show Sw.sp__law_size _ _ _ _); k_dflt (refine' ⟨_, _, _, _, ?h0, ?h1, ?_⟩); (try (case h0 => k_dflt (walk_at "foc"))); (try (case h1 => k_dflt (walk_at "om")))))
namespace Sw
open PySem L2 PySem.W
section
variable {P : Program} {w : World} {K : PySem.W.Frag} {mg : Str → Option Value} {base : Heap}
local macro_rules | `(tactic| walk_at "brp") => `(tactic| first | (refine' Sw.rd_brNY ?h ?_; (case h => assumption)) | (refine' Sw.rd_brNN ?h ?_; (case h => assumption)) | (refine' Sw.rd_brY ?h ?_; (case h => assumption)) | (refine' Sw.rd_brNo ?h ?_; (case h => assumption)))
theorem sc__law_size : FnScope ["_law_left_here", "_law_k", "_law_way", "_law_great", "_law_few"] ["_law_left_here", "_law_k"] (defScope (top 44)) := ⟨rfl, rfl, rfl, by decide +kernel, rfl, by decide +kernel, by decide +kernel⟩
theorem ok__law_size (T : Tx K mg) : Cal P w K mg base "_law_size" 3 ["_law_left_here", "_law_k"] (sp__law_size) := by
  obtain ⟨f_c_law_pick, d_c_law_pick, m_c_law_pick, k_c_law_pick, b_c_law_pick, G_c_law_pick⟩ := (ok__law_pick (P := P) (w := w) (base := base) T).ex
  refine T.f__law_size.cal (N := ["_law_left_here", "_law_k", "_law_way", "_law_great", "_law_few"]) sc__law_size (fun _ _ _ _ _ _ us hl => match us, hl with | [_, _], _ => rfl) (fun vs H Q E h => by
    unfold sp__law_size at h
    split at h
    all_goals first | rfl | exact h.elim) ?_
  intro f cdv A outer s H vs Q E hr h
  have hu := hu_of hr
  unfold sp__law_size at h
  split at h
  rotate_left
  · exact h.elim
  rename_i l n
  obtain ⟨a, b, c, F, h0, h1, k⟩ := h
  refine ⟨_, pss_cons (ps_par3 (i := 2) (j := 3) (l := 4) rfl sc__law_size.nd rfl rfl rfl (by decide) (by decide) (by decide) rfl rfl rfl (pa_cons (pe_call G_c_law_pick (hr.mono (by decide)) (by rfl) m_c_law_pick k_c_law_pick b_c_law_pick .nil pass0 (pa_cons (pv 0) (pa_cons (pe_int) pa_nil))) (pa_cons (pe_call G_c_law_pick (hr.mono (by decide)) (by rfl) m_c_law_pick k_c_law_pick b_c_law_pick .nil pass0 (pa_cons (pv 0) (pa_cons (pe_int) pa_nil))) (pa_cons (pe_call G_c_law_pick (hr.mono (by decide)) (by rfl) m_c_law_pick k_c_law_pick b_c_law_pick .nil pass0 (pa_cons (pv 0) (pa_cons (pe_int) pa_nil))) pa_nil))) (by rfl))
 (pss_one (ps_ret (pe_ix ix_list (pe_lst (pa_cons (pe_ix ix_list (pe_lst (pa_cons (pe_op op_add (pe_int) (pv 3)) (pa_cons (pe_op op_add (pe_int) (pv 3)) pa_nil))) (pe_callTy Sw.call_int (by rfl) T.z_int (by decide +kernel) (pa_cons (pe_cmpR op_gt (pv 1) (pe_int) (nomark _)) pa_nil)) (fun _ _ => rfl)) (pa_cons (pv 4) (pa_cons (pe_int) (pa_cons (pe_int) (pa_cons (pe_int) (pa_cons (pe_int) (pa_cons (pe_int) (pa_cons (pe_int) pa_nil))))))))) (pv 2) (fun _ _ => rfl)))), ?_⟩
  try clear G_c_law_pick b_c_law_pick k_c_law_pick m_c_law_pick
  try clear d_c_law_pick f_c_law_pick
  try clear hu hr
  walk_at "rd"
  rename_i r1 a1 _ _ _ _ r2 a2 _ _ _ _ r3 a3 H3 _ _ A3 p H4 A4
  have hx : 0 ≤ (if decide (0 < n) = true then (1 : Int) else 0) ∧ (if decide (0 < n) = true then (1 : Int) else 0) < 2 := by split <;> decide
  refine Sw.rd_ixLz (zs := [8 + r2, 5 + r2]) A4 (.head _) hx.1 hx.2 fun g hg => ?_
  have hg2 : 0 ≤ g ∧ g ≤ 10 := by
    simp only [List.mem_cons, List.not_mem_nil, or_false] at hg
    omega
  clear hg
  walk_at "rd"
  rename_i p5 H5 A5
  refine Sw.rd_ixLz (zs := [g, r3, 4, 5, 6, 7, 5, 6]) A5 (.head _) (by omega) (by show r1 < 8; omega) fun z hz => ?_
  walk_at "rd"
  simp only [List.mem_cons, List.not_mem_nil, or_false] at hz
  exact k z _ _ _ (by walk_at "sb") (by omega) (by omega)
end
end Sw

namespace Sw
open PySem L2 PySem.W
def sp__law_strikes : Sp := fun vs H Q E => match vs with
  | [.ref l, .ref q] => ∃ (a b c : Int) (ns : List Str) (F : List Cell), (At H ((l, .lst [.int a, .int b, .int c]) :: F)) ∧ ((q, HO.lst (ns.map V.str)) ∈ F) ∧ ((0 ≤ c ∧ c < 2 ^ 48) ∧ ns.length ≤ 30) ∧ (∀ (p : Addr) (vs : List V) (es : List (Str × Str)) (W : List Cell) (a' c' : Int) (H' : Hp), (At H' ((l, .lst [.int a', .int b, .int c']) :: (p, .lst vs) :: (W ++ F))) → (Iss W vs es) → (SOk ns es) → (0 ≤ c' ∧ c' ≤ c + 3100) → (es.length ≤ 3000) → Q (.ref p) H')
  | _ => False
end Sw
local macro_rules | `(tactic| walk_at "rdc") => `(tactic| ((with_reducible show Sw.sp__law_strikes _ _ _ _); k_dflt (refine' ⟨_, _, _, _, _, ?h0, ?h1, ?h2, ?_⟩); (case h0 => k_dflt (walk_at "foc")); (case h1 => k_dflt (walk_at "mem")); (case h2 => k_dflt (walk_at "om")); intro _ _ _ _ _ _ _ _ _ _ _ _))
local macro_rules | `(tactic| walk_at "call") => `(tactic| ((with_reducible show Sw.sp__law_strikes _ _ _ _); k_dflt (refine' ⟨_, _, _, _, _, ?h0, ?h1, ?h2, ?_⟩); (try (case h0 => k_dflt (walk_at "foc"))); (try (case h1 => k_dflt (walk_at "mem"))); (try (case h2 => k_dflt (walk_at "om")))))
namespace Sw
open PySem L2 PySem.W
section
variable {P : Program} {w : World} {K : PySem.W.Frag} {mg : Str → Option Value} {base : Heap}
theorem sc__law_strikes : FnScope ["_law_left_here", "_law_names_here", "_law_found", "_law_often", "_law_one", "_law_other"] ["_law_left_here", "_law_names_here"] (defScope (top 45)) := ⟨rfl, rfl, rfl, by decide +kernel, rfl, by decide +kernel, by decide +kernel⟩
theorem ok__law_strikes (T : Tx K mg) : Cal P w K mg base "_law_strikes" 3 ["_law_left_here", "_law_names_here"] (sp__law_strikes) := by
  obtain ⟨f_c_law_pick, d_c_law_pick, m_c_law_pick, k_c_law_pick, b_c_law_pick, G_c_law_pick⟩ := (ok__law_pick (P := P) (w := w) (base := base) T).ex
  have cl_Sieve := T.cl_Sieve
  have na_Sieve_order := T.na_Sieve_order
  have na_Sieve_hitters := T.na_Sieve_hitters
  have na_Sieve_hits := T.na_Sieve_hits
  have cl_Web := T.cl_Web
  have na_Web_strikers_by := T.na_Web_strikers_by
  have na_Web_struck_by := T.na_Web_struck_by
  have na_Web_own_pairs := T.na_Web_own_pairs
  refine T.f__law_strikes.cal (N := ["_law_left_here", "_law_names_here", "_law_found", "_law_often", "_law_one", "_law_other"]) sc__law_strikes (fun _ _ _ _ _ _ us hl => match us, hl with | [_, _], _ => rfl) (fun vs H Q E h => by
    unfold sp__law_strikes at h
    split at h
    all_goals first | rfl | exact h.elim) ?_
  intro f cdv A outer s H vs Q E hr h
  have hu := hu_of hr
  unfold sp__law_strikes at h
  split at h
  rotate_left
  · exact h.elim
  rename_i l q
  obtain ⟨a, b, c, ns, F, h0, h1, h2, k⟩ := h
  refine ⟨_, pss_cons (ps_set (i := 2) sc__law_strikes.nd rfl (by first | exact Or.inl rfl | exact Or.inr rfl) (pe_lst (pa_nil)))
 (pss_cons (ps_set (i := 3) sc__law_strikes.nd rfl (by first | exact Or.inl rfl | exact Or.inr rfl) (pe_ix ix_list (pe_lst (pa_cons (pe_int) (pa_cons (pe_int) (pa_cons (pe_int) (pa_cons (pe_int) pa_nil))))) (pe_call G_c_law_pick (hr.mono (by decide)) (by rfl) m_c_law_pick k_c_law_pick b_c_law_pick .nil pass0 (pa_cons (pv 0) (pa_cons (pe_int) pa_nil))) (fun _ _ => rfl)))
 (pss_cons (ps_for PassesOwn.never rfl (pi_list (pv 1)) (pg_name (i := 4) sc__law_strikes.nd rfl (by first | exact Or.inl rfl | exact Or.inr rfl)) (pss_cons (ps_for PassesOwn.never rfl (pi_list (pv 1)) (pg_name (i := 5) sc__law_strikes.nd rfl (by first | exact Or.inl rfl | exact Or.inr rfl)) (pss_one (ps_if (PW.pt (pw_and (pt_cmpR op_ne (pv 4) (pv 5) (nomark _)) (pw_and (pt_cmpR op_eq (pe_call G_c_law_pick (hr.mono (by decide)) (by rfl) m_c_law_pick k_c_law_pick b_c_law_pick .nil pass0 (pa_cons (pv 0) (pa_cons (pv 3) pa_nil))) (pe_int) (nomark _)) (pw_and1 (pt_cmpR (Sw.op_ninD hr.units) (pe_tup (pa_cons (pv 4) (pa_cons (pv 5) pa_nil))) (pv 2) (by rfl)))))) (pss_cons (ps_expr (pe_bm PySem.F.plainAttrs_list PySem.F.slot_list_insert PySem.F.type_list_insert Sw.mt_insert (pv 2) (pa_cons (pe_call G_c_law_pick (hr.mono (by decide)) (by rfl) m_c_law_pick k_c_law_pick b_c_law_pick .nil pass0 (pa_cons (pv 0) (pa_cons (pe_op op_add (pe_callB Sw.call_lenQ (by rfl) T.z_len (by decide +kernel) (pa_cons (pv 2) pa_nil)) (pe_int)) pa_nil))) (pa_cons (pe_tup (pa_cons (pv 4) (pa_cons (pv 5) pa_nil))) pa_nil))))
 (pss_one (ps_if (PW.pt (pw_and (pt_cmpR op_eq (pe_call G_c_law_pick (hr.mono (by decide)) (by rfl) m_c_law_pick k_c_law_pick b_c_law_pick .nil pass0 (pa_cons (pv 0) (pa_cons (pe_int) pa_nil))) (pe_int) (nomark _)) (pw_and1 (pt_cmpR (Sw.op_ninD hr.units) (pe_tup (pa_cons (pv 5) (pa_cons (pv 4) pa_nil))) (pv 2) (by rfl))))) (pss_one (ps_expr (pe_bm PySem.F.plainAttrs_list PySem.F.slot_list_append PySem.F.type_list_append mt_append (pv 2) (pa_cons (pe_tup (pa_cons (pv 5) (pa_cons (pv 4) pa_nil))) pa_nil)))) (pss_nil)))) (pss_nil))))
 (pss_one (ps_if (PW.pt (pw_and (pt_cmpR op_eq (pe_call G_c_law_pick (hr.mono (by decide)) (by rfl) m_c_law_pick k_c_law_pick b_c_law_pick .nil pass0 (pa_cons (pv 0) (pa_cons (pe_int) pa_nil))) (pe_int) (nomark _)) (pw_and1 (pt_cmpR (Sw.op_ninD hr.units) (pe_tup (pa_cons (pv 4) (pa_cons (pv 4) pa_nil))) (pv 2) (by rfl))))) (pss_one (ps_expr (pe_bm PySem.F.plainAttrs_list PySem.F.slot_list_append PySem.F.type_list_append mt_append (pv 2) (pa_cons (pe_tup (pa_cons (pv 4) (pa_cons (pv 4) pa_nil))) pa_nil)))) (pss_nil)))))
 (pss_one (ps_ret (pv 2))))), ?_⟩
  try clear G_c_law_pick b_c_law_pick k_c_law_pick m_c_law_pick
  try clear d_c_law_pick f_c_law_pick
  try clear hu hr
  walk_at "rd"
  rename_i pf _ _ po _ _ r _ _ _ _ A3
  refine Sw.rd_ixLz (zs := [4, 6, 9, 3]) A3 (.tail _ (.head _)) (by omega) (by show r < 4; omega) fun z hz => ?_
  simp only [List.mem_cons, List.not_mem_nil, or_false] at hz
  walk_at "rd"
  refine Sw.loop_map (fun i σ H' => ∃ a' c' vs es W v4 v5, σ = [some (.ref l), some (.ref q), some (.ref pf), some (.int z), v4, v5] ∧ At H' ((l, .lst [.int a', .int b, .int c']) :: (pf, .lst vs) :: (W ++ F)) ∧ Iss W vs es ∧ SOk ns es ∧
    (0 ≤ c' ∧ c' ≤ c + 1 + 100 * (i : Int) ∧ es.length ≤ 100 * i)) ⟨_, _, [], [], [], _, _, rfl, by walk_at "sb", .nil, SOk.nil ns, by omega, by omega, by decide⟩
    (fun i σ H' ⟨_, _, _, _, _, _, _, _, A, _⟩ => SqL.of (A.rd (by walk_at "mem"))) ?_ ?_
  · rintro i x σ H1 hx ⟨a1, c1, vs, es, W, v4, v5, rfl, A1, I1, S1, hc⟩
    have hxm : x ∈ ns := List.mem_of_getElem? hx
    have hi : i < ns.length := (List.getElem?_eq_some_iff.mp hx).1
    walk_at "rd"
    refine Sw.loop_map (fun j σ H' => ∃ a' c' vs es W v5, σ = [some (.ref l), some (.ref q), some (.ref pf), some (.int z), some (.str x), v5] ∧ At H' ((l, .lst [.int a', .int b, .int c']) :: (pf, .lst vs) :: (W ++ F)) ∧ Iss W vs es ∧ SOk ns es ∧
      (0 ≤ c' ∧ c' ≤ c + 1 + 100 * (i : Int) + 3 * (j : Int) ∧ es.length ≤ 100 * i + 2 * j)) ⟨_, _, vs, es, W, _, rfl, by walk_at "sb", I1, S1, by omega, by omega, by omega⟩
      (fun i σ H' ⟨_, _, _, _, _, _, _, A, _⟩ => SqL.of (A.rd (by walk_at "mem"))) ?_ ?_
    · rintro j y σ H2 hy ⟨a2, c2, vs, es, W, v5, rfl, A2, I2, S2, hc2⟩
      have hym : y ∈ ns := List.mem_of_getElem? hy
      have hj : j < ns.length := (List.getElem?_eq_some_iff.mp hy).1
      have hl := I2.len
      walk_at "rd"
      · rename_i hn r1 _ _ _ _ _ t1 _ _ _ _ r2 _ _ _ _ _ _ t2 _ A9
        have I3 := iss_ins (x := x) (y := y) (t := t1) r1.toNat I2
        refine Sw.rd_ninP (by decide) A9 (by walk_at "is") (is_list (by walk_at "mem") (RpAll.mono (fun u m => ?_) I3)) ?_
        · cases m with
          | head => walk_at "mem"
          | tail _ m => walk_at "mem"
        walk_at "rd"
        · exact ⟨_, _, _, _, (_, _) :: (_, _) :: W, _, rfl, by walk_at "sb", iss_app I3, (S2.ins _ hxm hym hn).app hym hxm (by assumption), by omega, by omega, by rw [List.length_append, (ins_perm _ _ _).length_eq]; show es.length + 1 + 1 ≤ _; omega⟩
        · exact ⟨_, _, _, _, (_, _) :: W, _, rfl, by walk_at "sb", I3, S2.ins _ hxm hym hn, by omega, by omega, by rw [(ins_perm _ _ _).length_eq]; show es.length + 1 ≤ _; omega⟩
      · rename_i hn r1 _ _ _ _ _ t1 _ _ _ _ r2 _ _ _ _ _ _
        exact ⟨_, _, _, _, (_, _) :: W, _, rfl, by walk_at "sb", iss_ins r1.toNat I2, S2.ins _ hxm hym hn, by omega, by omega, by rw [(ins_perm _ _ _).length_eq]; show es.length + 1 ≤ _; omega⟩
      · exact ⟨_, _, _, _, _, _, rfl, by walk_at "sb", I2, S2, by omega, by omega, by omega⟩
      · exact ⟨_, _, _, _, _, _, rfl, by walk_at "sb", I2, S2, by omega, by omega, by omega⟩
      · exact ⟨_, _, _, _, _, _, rfl, by walk_at "sb", I2, S2, by omega, by omega, by omega⟩
    · rintro σ H2 ⟨a2, c2, vs, es, W, v5, rfl, A2, I2, S2, hc2⟩
      have hl := I2.len
      walk_at "rd"
      · exact ⟨_, _, _, _, (_, _) :: W, _, _, rfl, by walk_at "sb", iss_app I2, S2.app hxm hxm (by assumption), by omega, by omega, by rw [List.length_append, List.length_singleton]; omega⟩
      · exact ⟨_, _, _, _, _, _, _, rfl, by walk_at "sb", I2, S2, by omega, by omega, by omega⟩
      · exact ⟨_, _, _, _, _, _, _, rfl, by walk_at "sb", I2, S2, by omega, by omega, by omega⟩
  · rintro σ H1 ⟨a1, c1, vs, es, W, v4, v5, rfl, A1, I1, S1, hc⟩
    walk_at "rd"
    exact k _ _ _ _ _ _ _ A1 I1 S1 (by omega) (by omega)
end
end Sw

namespace Sw
open PySem L2 PySem.W
def sp__law_drawn (K : PySem.W.Frag) : Sp := fun vs H Q E => match vs with
  | [.ref s, .int n] => ∃ (ss : List Int) (L : List Cell), (SqL K H s (ss.map V.int)) ∧ (At H L) ∧ (0 ≤ n ∧ n < 100) ∧ (∀ (t l q e : Addr) (x y c : Int) (ns : List Str) (vs : List V) (es : List (Str × Str)) (W : List Cell) (H' : Hp), (At H' ((t, .tup [.ref l, .ref q, .ref e]) :: (l, .lst [.int x, .int y, .int c]) :: (q, .lst (ns.map V.str)) :: (e, .lst vs) :: (W ++ L))) → (Iss W vs es) → (SOk ns es) → (ns.Nodup) → (∀ z ∈ ns, nameB z = true) → (ns.length ≤ 10 ∧ es.length ≤ 3000) → (0 ≤ c ∧ c < 20000) → Q (.ref t) H')
  | _ => False
end Sw
local macro_rules | `(tactic| walk_at "rdc") => `(tactic| ((with_reducible show Sw.sp__law_drawn _ _ _ _ _); k_dflt (refine' ⟨_, _, ?h0, ?h1, ?h2, ?_⟩); (case h0 => k_dflt assumption); (case h1 => assumption); (case h2 => k_dflt (walk_at "om")); intro _ _ _ _ _ _ _ _ _ _ _ _ _ _ _ _ _ _ _))
local macro_rules | `(tactic| walk_at "call") => `(tactic| ((with_reducible show Sw.sp__law_drawn _ _ _ _ _); k_dflt (refine' ⟨_, _, ?h0, ?h1, ?h2, ?_⟩); (try (case h0 => k_dflt assumption)); (try (case h1 => assumption)); (try (case h2 => k_dflt (walk_at "om")))))
namespace Sw
open PySem L2 PySem.W
section
variable {P : Program} {w : World} {K : PySem.W.Frag} {mg : Str → Option Value} {base : Heap}
local macro_rules | `(tactic| walk_at "brp") => `(tactic| first | (refine' Sw.rd_brNY ?h ?_; (case h => assumption)) | (refine' Sw.rd_brNN ?h ?_; (case h => assumption)) | (refine' Sw.rd_brY ?h ?_; (case h => assumption)) | (refine' Sw.rd_brNo ?h ?_; (case h => assumption)))
theorem sc__law_drawn : FnScope ["_law_script", "_law_k", "_law_left_here", "_law_names_here"] ["_law_script", "_law_k"] (defScope (top 56)) := ⟨rfl, rfl, rfl, by decide +kernel, rfl, by decide +kernel, by decide +kernel⟩
theorem ok__law_drawn (T : Tx K mg) : Cal P w K mg base "_law_drawn" 4 ["_law_script", "_law_k"] (sp__law_drawn K) := by
  obtain ⟨f_c_law_left, d_c_law_left, m_c_law_left, k_c_law_left, b_c_law_left, G_c_law_left⟩ := (ok__law_left (P := P) (w := w) (base := base) T).ex
  obtain ⟨f_c_law_names, d_c_law_names, m_c_law_names, k_c_law_names, b_c_law_names, G_c_law_names⟩ := (ok__law_names (P := P) (w := w) (base := base) T).ex
  obtain ⟨f_c_law_size, d_c_law_size, m_c_law_size, k_c_law_size, b_c_law_size, G_c_law_size⟩ := (ok__law_size (P := P) (w := w) (base := base) T).ex
  obtain ⟨f_c_law_strikes, d_c_law_strikes, m_c_law_strikes, k_c_law_strikes, b_c_law_strikes, G_c_law_strikes⟩ := (ok__law_strikes (P := P) (w := w) (base := base) T).ex
  refine T.f__law_drawn.cal (N := ["_law_script", "_law_k", "_law_left_here", "_law_names_here"]) sc__law_drawn (fun _ _ _ _ _ _ us hl => match us, hl with | [_, _], _ => rfl) (fun vs H Q E h => by
    unfold sp__law_drawn at h
    split at h
    all_goals first | rfl | exact h.elim) ?_
  intro f cdv A outer s H vs Q E hr h
  have hu := hu_of hr
  unfold sp__law_drawn at h
  split at h
  rotate_left
  · exact h.elim
  rename_i s n
  obtain ⟨ss, L, h0, h1, h2, k⟩ := h
  refine ⟨_, pss_cons (ps_set (i := 2) sc__law_drawn.nd rfl (by first | exact Or.inl rfl | exact Or.inr rfl) (pe_call G_c_law_left (hr.mono (by decide)) (by rfl) m_c_law_left k_c_law_left b_c_law_left .nil pass0 (pa_cons (pv 0) (pa_cons (pv 1) pa_nil))))
 (pss_cons (ps_set (i := 3) sc__law_drawn.nd rfl (by first | exact Or.inl rfl | exact Or.inr rfl) (pe_call G_c_law_names (hr.mono (by decide)) (by rfl) m_c_law_names k_c_law_names b_c_law_names .nil pass0 (pa_cons (pv 2) (pa_cons (pe_call G_c_law_size (hr.mono (by decide)) (by rfl) m_c_law_size k_c_law_size b_c_law_size .nil pass0 (pa_cons (pv 2) (pa_cons (pv 1) pa_nil))) pa_nil))))
 (pss_one (ps_ret (pe_tup (pa_cons (pv 2) (pa_cons (pv 3) (pa_cons (pe_call G_c_law_strikes (hr.mono (by decide)) (by rfl) m_c_law_strikes k_c_law_strikes b_c_law_strikes .nil pass0 (pa_cons (pv 2) (pa_cons (pv 3) pa_nil))) pa_nil))))))), ?_⟩
  try clear G_c_law_left b_c_law_left k_c_law_left m_c_law_left
  try clear d_c_law_left f_c_law_left
  try clear G_c_law_names b_c_law_names k_c_law_names m_c_law_names
  try clear d_c_law_names f_c_law_names
  try clear G_c_law_size b_c_law_size k_c_law_size m_c_law_size
  try clear d_c_law_size f_c_law_size
  try clear G_c_law_strikes b_c_law_strikes k_c_law_strikes m_c_law_strikes
  try clear d_c_law_strikes f_c_law_strikes
  try clear hu hr
  walk_at "rd"
  rename_i q ns a1 c1 _ _ hc1 hnl nd nb e vs es W a2 c2 _ _ I S hc2 hl pT HT AT
  exact k pT _ q e _ _ _ ns vs es W _ (by walk_at "sb") I S nd (fun z m => base20_ok z (nb z m)) (by omega) (by omega)
end
end Sw

namespace Sw
open PySem L2 PySem.W
def sp__law_masks : Sp := fun vs H Q E => match vs with
  | [.ref q, .ref s] => ∃ (ns : List Str) (vs : List V) (es : List (Str × Str)) (L : List Cell), (At H L) ∧ ((q, HO.lst (ns.map V.str)) ∈ L) ∧ ((s, HO.lst vs) ∈ L) ∧ (Iss L vs es) ∧ (ns.Nodup) ∧ (SOk ns es) ∧ (ns.length ≤ 30) ∧ (∀ (p pn pk pu : Addr) (ks us : List Nat) (H' : Hp), (At H' ((p, .lst [.ref pn, .ref pk, .ref pu]) :: (pn, .lst ((srt ns).map V.str)) :: (pk, .lst (ks.map nv)) :: (pu, .lst (us.map nv)) :: L)) → (VwOk (srt ns) es ks us) → Q (.ref p) H')
  | _ => False
end Sw
local macro_rules | `(tactic| walk_at "rdc") => `(tactic| ((with_reducible show Sw.sp__law_masks _ _ _ _); k_dflt (refine' ⟨_, _, _, _, ?h0, ?h1, ?h2, ?h3, ?h4, ?h5, ?h6, ?_⟩); (case h0 => assumption); (case h1 => k_dflt (walk_at "mem")); (case h2 => k_dflt (walk_at "mem")); (case h3 => k_dflt (walk_at "is")); (case h4 => k_dflt (assumption)); (case h5 => k_dflt (assumption)); (case h6 => k_dflt (walk_at "om")); intro _ _ _ _ _ _ _ _ _))
local macro_rules | `(tactic| walk_at "call") => `(tactic| ((with_reducible show Sw.sp__law_masks _ _ _ _); k_dflt (refine' ⟨_, _, _, _, ?h0, ?h1, ?h2, ?h3, ?h4, ?h5, ?h6, ?_⟩); (try (case h0 => assumption)); (try (case h1 => k_dflt (walk_at "mem"))); (try (case h2 => k_dflt (walk_at "mem"))); (try (case h3 => k_dflt (walk_at "is"))); (try (case h4 => k_dflt (assumption))); (try (case h5 => k_dflt (assumption))); (try (case h6 => k_dflt (walk_at "om")))))
namespace Sw
open PySem L2 PySem.W
section
variable {P : Program} {w : World} {K : PySem.W.Frag} {mg : Str → Option Value} {base : Heap}
theorem sc__law_masks : FnScope ["_law_names_here", "_law_strikes_here", "_law_strikers", "_law_struck", "_law_one", "_law_other", "_law_a", "_law_b"] ["_law_names_here", "_law_strikes_here"] (defScope (top 46)) := ⟨rfl, rfl, rfl, by decide +kernel, rfl, by decide +kernel, by decide +kernel⟩
theorem ok__law_masks (T : Tx K mg) : Cal P w K mg base "_law_masks" 1 ["_law_names_here", "_law_strikes_here"] (sp__law_masks) := by
  have cl_Sieve := T.cl_Sieve
  have na_Sieve_order := T.na_Sieve_order
  have na_Sieve_hitters := T.na_Sieve_hitters
  have na_Sieve_hits := T.na_Sieve_hits
  have cl_Web := T.cl_Web
  have na_Web_strikers_by := T.na_Web_strikers_by
  have na_Web_struck_by := T.na_Web_struck_by
  have na_Web_own_pairs := T.na_Web_own_pairs
  refine T.f__law_masks.cal (N := ["_law_names_here", "_law_strikes_here", "_law_strikers", "_law_struck", "_law_one", "_law_other", "_law_a", "_law_b"]) sc__law_masks (fun _ _ _ _ _ _ us hl => match us, hl with | [_, _], _ => rfl) (fun vs H Q E h => by
    unfold sp__law_masks at h
    split at h
    all_goals first | rfl | exact h.elim) ?_
  intro f cdv A outer s H vs Q E hr h
  have hu := hu_of hr
  unfold sp__law_masks at h
  split at h
  rotate_left
  · exact h.elim
  rename_i q s
  obtain ⟨ns, vs, es, L, h0, h1, h2, h3, h4, h5, h6, k⟩ := h
  refine ⟨_, pss_cons (ps_set (i := 0) sc__law_masks.nd rfl (by first | exact Or.inl rfl | exact Or.inr rfl) (pe_callB (Sw.call_srt hr.units) (by rfl) T.z_sorted (by decide +kernel) (pa_cons (pv 0) pa_nil)))
 (pss_cons (ps_par (i := 2) (j := 3) rfl sc__law_masks.nd rfl rfl (by decide) rfl rfl (pa_cons (pe_op op_rep (pe_lst (pa_cons (pe_int) pa_nil)) (pe_callB Sw.call_lenQ (by rfl) T.z_len (by decide +kernel) (pa_cons (pv 0) pa_nil))) (pa_cons (pe_op op_rep (pe_lst (pa_cons (pe_int) pa_nil)) (pe_callB Sw.call_lenQ (by rfl) T.z_len (by decide +kernel) (pa_cons (pv 0) pa_nil))) pa_nil)) (by rfl))
 (pss_cons (ps_for PassesOwn.never rfl (pi_list (pv 1)) (pg_tup rfl (pgs_cons (pg_name (i := 4) sc__law_masks.nd rfl (by first | exact Or.inl rfl | exact Or.inr rfl)) (pgs_cons (pg_name (i := 5) sc__law_masks.nd rfl (by first | exact Or.inl rfl | exact Or.inr rfl)) pgs_nil))) (pss_cons (ps_par (i := 6) (j := 7) rfl sc__law_masks.nd rfl rfl (by decide) rfl rfl (pa_cons (pe_bm PySem.F.plainAttrs_list PySem.F.slot_list_index PySem.F.type_list_index mt_index (pv 0) (pa_cons (pv 4) pa_nil)) (pa_cons (pe_bm PySem.F.plainAttrs_list PySem.F.slot_list_index PySem.F.type_list_index mt_index (pv 0) (pa_cons (pv 5) pa_nil)) pa_nil)) (by rfl))
 (pss_cons (ps_asg (pe_op op_or (pe_ix ix_list (pv 2) (pv 7) (fun _ _ => rfl)) (pe_op Sw.op_shlA (pe_int) (pv 6))) (pg_sub (pv 2) (pv 7) set_list))
 (pss_one (ps_asg (pe_op op_or (pe_ix ix_list (pv 3) (pv 6) (fun _ _ => rfl)) (pe_op Sw.op_shlA (pe_int) (pv 7))) (pg_sub (pv 3) (pv 6) set_list))))))
 (pss_one (ps_ret (pe_lst (pa_cons (pv 0) (pa_cons (pv 2) (pa_cons (pv 3) pa_nil)))))))), ?_⟩
  try clear hu hr
  have hsl := srt_len ns
  walk_at "rd"
  rename_i pn _ _ _ _ _ pk _ _ _ _ _ pu _ A1
  refine Sw.loop_iss (zs := es) (W := L) h3 (fun i σ H' => ∃ ks us v4 v5 v6 v7, σ = [some (.ref pn), some (.ref s), some (.ref pk), some (.ref pu), v4, v5, v6, v7] ∧ At H' ((pk, .lst (ks.map nv)) :: (pu, .lst (us.map nv)) :: (pn, .lst ((srt ns).map V.str)) :: L) ∧ VwOk (srt ns) (es.take i) ks us)
    ⟨_, _, _, _, _, _, rfl, by walk_at "sb", VwOk.zero _⟩ (fun i σ H' ⟨_, _, _, _, _, _, _, A, _⟩ => SqL.of (A.rd (by walk_at "mem"))) ?_ ?_
  · rintro i v ⟨x, y⟩ σ H1 hi hv ⟨ks, us, v4, v5, v6, v7, rfl, A2, V2⟩
    have hxy := h5.mem _ (List.mem_of_getElem? hi)
    have hx : x ∈ srt ns := srt_mem.mpr hxy.1
    have hy : y ∈ srt ns := srt_mem.mpr hxy.2
    obtain ⟨pt, rfl, mt⟩ := is_pairS hv
    have hkl := V2.kl
    have hul := V2.ul
    walk_at "rd"
    rename_i a ha _ b hb _ ka hk _ _ ua hu _ _
    refine ⟨_, _, _, _, _, _, rfl, by walk_at "sb", ?_⟩
    rw [List.take_succ, hi]
    exact V2.step (srt_nodup.mpr h4) ha hb hk hu
  · rintro σ H1 ⟨ks, us, v4, v5, v6, v7, rfl, A2, V2⟩
    rw [List.take_length] at V2
    walk_at "rd"
    exact k _ _ _ _ _ _ _ (by walk_at "sb") V2
end
end Sw

namespace Sw
open PySem L2 PySem.W
def sp_is_name : Sp := fun vs H Q E => match vs with
  | [.str z] => ∃ (L : List Cell), (At H L) ∧ (z.length ≤ 90000) ∧ (∀ (H' : Hp), (At H' L) → Q (.bl (nameB z)) H')
  | _ => False
end Sw
local macro_rules | `(tactic| walk_at "rdc") => `(tactic| ((with_reducible show Sw.sp_is_name _ _ _ _); k_dflt (refine' ⟨_, ?h0, ?h1, ?_⟩); (case h0 => assumption); (case h1 => k_dflt (walk_at "om")); intro _ _))
local macro_rules | `(tactic| walk_at "call") => `(tactic| ((with_reducible show Sw.sp_is_name _ _ _ _); k_dflt (refine' ⟨_, ?h0, ?h1, ?_⟩); (try (case h0 => assumption)); (try (case h1 => k_dflt (walk_at "om")))))
namespace Sw
open PySem L2 PySem.W
section
variable {P : Program} {w : World} {K : PySem.W.Frag} {mg : Str → Option Value} {base : Heap}
theorem sc_is_name : FnScope ["thing", "letter"] ["thing"] (defScope (top 36)) := ⟨rfl, rfl, rfl, by decide +kernel, rfl, by decide +kernel, by decide +kernel⟩
theorem ok_is_name (T : Tx K mg) : Cal P w K mg base "is_name" 1 ["thing"] (sp_is_name) := by
  refine T.f_is_name.cal (N := ["thing", "letter"]) sc_is_name (fun _ _ _ _ _ _ us hl => match us, hl with | [_], _ => rfl) (fun vs H Q E h => by
    unfold sp_is_name at h
    split at h
    all_goals first | rfl | exact h.elim) ?_
  intro f cdv A outer s H vs Q E hr h
  have hu := hu_of hr
  unfold sp_is_name at h
  split at h
  rotate_left
  · exact h.elim
  rename_i z
  obtain ⟨L, h0, h1, k⟩ := h
  refine' ⟨_, pss_cons (ps_if (PW.pt (pw_or (pt_not (pt_val (pe_callB Sw.call_isi (by rfl) T.z_isinstance (by decide +kernel) (pa_cons (pv 0) (pa_cons (pe_bltn (by rfl) T.z_str (by decide +kernel) (v := .ty "str") rfl) pa_nil))))) (pw_or1 (pt_not (pt_chain op_le op_le (pe_int) (pe_callB Sw.call_lenS (by rfl) T.z_len (by decide +kernel) (pa_cons (pv 0) pa_nil)) (pe_glob (v := .int 8) rfl T.g_MOST_NAME.choose_spec ⟨_, rfl⟩)))))) (pss_one (ps_ret (pe_bl))) (pss_nil))
 (pss_one (ps_ret (pe_callB (cr_all rfl) (by rfl) T.z_all (by decide +kernel) (pa_cons (pe_lc (own := [("letter", 1)]) (g := gName 1) (tt := tYes) rfl sc_is_name.nd (pi_str (pv 0)) (blkOk_by (N := ["thing", "letter"]) (sc := defScope (top 36)) (by decide +kernel)) ?c1g ?c1t ?c1e) pa_nil)))), ?_⟩
  (case c1g => exact fun _ _ _ _ _ => pg_name (i := 1) sc_is_name.nd rfl (Or.inl rfl)); (case c1t => (intro _ _ _ _ _; refine' Sw.pts_te (pts_nil) ?c1tq; (case c1tq => (first | ((dsimp only [L2.Cx.blk]) <;> exact rfl) | exact rfl)))); (case c1e => (intro _ _ _ _ _; refine' Sw.pe_te (pe_cmpR Sw.op_inS (pv 1) (pe_glob (v := .str "abcdefghijklmnopqrstuvwxyz") rfl T.g_LETTERS.choose_spec ⟨_, rfl⟩) (by rfl)) ?c1eq; (case c1eq => (first | ((dsimp only [L2.Cx.blk]) <;> exact rfl) | exact rfl))))
  try clear hu hr
  walk_at "rd"
  · rename_i h2 h3
    have e : nameB z = false := by unfold nameB; rw [decide_eq_false (by omega), Bool.false_and]
    rw [← e]
    exact k _ h0
  · rename_i h2 h3
    refine Sw.lc_str h0 (by show z.length < 100000; omega) (fun _ => true) (fun c => V.bl (decide (c ∈ letters.cps.toList))) (fun u H1 D acc Yk Nk hu A1 hY hN => ?_) fun D H1 A1 => ?_
    · walk_at "rd"
      exact hY _ _ rfl rfl (by assumption)
    · rw [all_true_filter] at A1
      walk_at "rd"
      have e : nameB z = z.cps.toList.all fun c => decide (c ∈ letters.cps.toList) := by unfold nameB; rw [decide_eq_true (by omega), Bool.true_and]
      rw [← e]
      exact k _ (by walk_at "sb")
  · rename_i h2
    have e : nameB z = false := by unfold nameB; rw [decide_eq_false (by omega), Bool.false_and]
    rw [← e]
    exact k _ h0
end
end Sw

namespace Sw
open PySem L2 PySem.W
def sp_is_pair_of : Sp := fun vs H Q E => match vs with
  | [.ref t, .ref d] => ∃ (x y : Str) (ps : List (Str × V)) (L : List Cell), (At H L) ∧ ((t, HO.tup [.str x, .str y]) ∈ L) ∧ ((d, HO.dK (dk ps)) ∈ L) ∧ (x.length ≤ 90000 ∧ y.length ≤ 90000) ∧ (∀ (H' : Hp), (At H' L) → Q (.bl ((nameB x && decide (x ∈ ps.map Prod.fst)) && (nameB y && decide (y ∈ ps.map Prod.fst)))) H')
  | _ => False
end Sw
local macro_rules | `(tactic| walk_at "rdc") => `(tactic| ((with_reducible show Sw.sp_is_pair_of _ _ _ _); k_dflt (refine' ⟨_, _, _, _, ?h0, ?h1, ?h2, ?h3, ?_⟩); (case h0 => assumption); (case h1 => k_dflt (walk_at "mem")); (case h2 => k_dflt (walk_at "mem")); (case h3 => k_dflt (walk_at "om")); intro _ _))
local macro_rules | `(tactic| walk_at "call") => `(tactic| ((with_reducible show Sw.sp_is_pair_of _ _ _ _); k_dflt (refine' ⟨_, _, _, _, ?h0, ?h1, ?h2, ?h3, ?_⟩); (try (case h0 => assumption)); (try (case h1 => k_dflt (walk_at "mem"))); (try (case h2 => k_dflt (walk_at "mem"))); (try (case h3 => k_dflt (walk_at "om")))))
namespace Sw
open PySem L2 PySem.W
section
variable {P : Program} {w : World} {K : PySem.W.Frag} {mg : Str → Option Value} {base : Heap}
theorem sc_is_pair_of : FnScope ["thing", "known", "name"] ["thing", "known"] (defScope (top 37)) := ⟨rfl, rfl, rfl, by decide +kernel, rfl, by decide +kernel, by decide +kernel⟩
theorem ok_is_pair_of (T : Tx K mg) : Cal P w K mg base "is_pair_of" 2 ["thing", "known"] (sp_is_pair_of) := by
  obtain ⟨f_cis_name, d_cis_name, m_cis_name, k_cis_name, b_cis_name, G_cis_name⟩ := (ok_is_name (P := P) (w := w) (base := base) T).ex
  refine T.f_is_pair_of.cal (N := ["thing", "known", "name"]) sc_is_pair_of (fun _ _ _ _ _ _ us hl => match us, hl with | [_, _], _ => rfl) (fun vs H Q E h => by
    unfold sp_is_pair_of at h
    split at h
    all_goals first | rfl | exact h.elim) ?_
  intro f cdv A outer s H vs Q E hr h
  have hu := hu_of hr
  unfold sp_is_pair_of at h
  split at h
  rotate_left
  · exact h.elim
  rename_i t d
  obtain ⟨x, y, ps, L, h0, h1, h2, h3, k⟩ := h
  refine' ⟨_, pss_cons (ps_if (PW.pt (pw_or (pt_not (pt_val (pe_callB Sw.call_isi (by rfl) T.z_isinstance (by decide +kernel) (pa_cons (pv 0) (pa_cons (pe_bltn (by rfl) T.z_tuple (by decide +kernel) (v := .ty "tuple") rfl) pa_nil))))) (pw_or1 (pt_cmpR op_ne (pe_callB Sw.call_lenQ (by rfl) T.z_len (by decide +kernel) (pa_cons (pv 0) pa_nil)) (pe_int) (nomark _))))) (pss_one (ps_ret (pe_bl))) (pss_nil))
 (pss_one (ps_ret (pe_callB (cr_all rfl) (by rfl) T.z_all (by decide +kernel) (pa_cons (pe_lc (own := [("name", 2)]) (g := gName 2) (tt := tYes) rfl sc_is_pair_of.nd (pi_tup (pv 0)) (blkOk_by (N := ["thing", "known", "name"]) (sc := defScope (top 37)) (by decide +kernel)) ?c1g ?c1t ?c1e) pa_nil)))), ?_⟩
  (case c1g => exact fun _ _ _ _ _ => pg_name (i := 2) sc_is_pair_of.nd rfl (Or.inl rfl)); (case c1t => (intro _ _ _ _ _; refine' Sw.pts_te (pts_nil) ?c1tq; (case c1tq => (first | ((dsimp only [L2.Cx.blk]) <;> exact rfl) | exact rfl)))); (case c1e => (intro _ _ _ _ _; refine' Sw.pe_te (pe_and (pe_call G_cis_name (hr.mono (by decide)) (by rfl) m_cis_name k_cis_name b_cis_name .nil pass0 (pa_cons (pv 2) pa_nil)) (pe_one (pe_cmp (pc_din hu (pv 2) (pv 1)) rfl))) ?c1eq; (case c1eq => (first | ((dsimp only [L2.Cx.blk]) <;> exact rfl) | exact rfl))))
  try clear G_cis_name b_cis_name k_cis_name m_cis_name
  try clear d_cis_name f_cis_name
  try clear hu hr
  walk_at "rd"
  · exact absurd rfl (by assumption)
  refine Sw.lc_tup (us := [x, y]) (F := V.str) h0 h1 (by show 2 < 100000; decide) (fun _ => true) (fun u => V.bl (nameB u && decide (u ∈ ps.map Prod.fst))) (fun u H1 D acc Yk Nk hu A1 hY hN => ?_) fun D H1 A1 => ?_
  · have hul : u.length ≤ 90000 := by
      rcases List.mem_cons.mp hu with rfl | hu
      · exact h3.1
      · rcases List.mem_cons.mp hu with rfl | hu
        · exact h3.2
        · cases hu
    walk_at "rd"
    · rename_i hn
      exact hY _ _ rfl (by rw [hn, Bool.true_and]) (by assumption)
    · rename_i hn
      exact hY _ _ rfl (by rw [hn, Bool.false_and]) (by assumption)
  · rw [all_true_filter] at A1
    walk_at "rd"
    have e : ∀ f : Str → Bool, [x, y].all f = (f x && f y) := fun f => by rw [List.all_cons, List.all_cons, List.all_nil, Bool.and_true]
    rw [e]
    exact k _ (by walk_at "sb")
end
end Sw

namespace Sw
open PySem L2 PySem.W
def sp_Web___init__ (K : PySem.W.Frag) : Sp := fun vs H Q E => match vs with
  | [.ref p, .ref q, .ref s] => ∃ (dx : Addr) (ns : List Str) (vs : List V) (es : List (Str × Str)) (F : List Cell), (At H ((p, .ins (He.ga K "Web") dx []) :: F)) ∧ ((q, HO.lst (ns.map V.str)) ∈ F) ∧ ((s, HO.lst vs) ∈ F) ∧ (Iss F vs es) ∧ (ns.Nodup) ∧ (SOk ns es) ∧ (∀ x ∈ ns, nameB x = true) ∧ (ns.length ≤ 30 ∧ es.length ≤ 3100) ∧ (∀ (W : List Cell) (H' : Hp), (At H' (W ++ F)) → (WebIn K W p ns es) → Q (.non) H')
  | _ => False
end Sw
local macro_rules | `(tactic| walk_at "rdc") => `(tactic| ((with_reducible show Sw.sp_Web___init__ _ _ _ _ _); k_dflt (refine' ⟨_, _, _, _, _, ?h0, ?h1, ?h2, ?h3, ?h4, ?h5, ?h6, ?h7, ?_⟩); (case h0 => k_dflt (walk_at "foc")); (case h1 => k_dflt (walk_at "mem")); (case h2 => k_dflt (walk_at "mem")); (case h3 => k_dflt (walk_at "is")); (case h4 => k_dflt (assumption)); (case h5 => k_dflt (assumption)); (case h6 => k_dflt (assumption)); (case h7 => k_dflt (walk_at "om")); intro _ _ _ _))
local macro_rules | `(tactic| walk_at "call") => `(tactic| ((with_reducible show Sw.sp_Web___init__ _ _ _ _ _); k_dflt (refine' ⟨_, _, _, _, _, ?h0, ?h1, ?h2, ?h3, ?h4, ?h5, ?h6, ?h7, ?_⟩); (try (case h0 => k_dflt (walk_at "foc"))); (try (case h1 => k_dflt (walk_at "mem"))); (try (case h2 => k_dflt (walk_at "mem"))); (try (case h3 => k_dflt (walk_at "is"))); (try (case h4 => k_dflt (assumption))); (try (case h5 => k_dflt (assumption))); (try (case h6 => k_dflt (assumption))); (try (case h7 => k_dflt (walk_at "om")))))
namespace Sw
open PySem L2 PySem.W
section
variable {P : Program} {w : World} {K : PySem.W.Frag} {mg : Str → Option Value} {base : Heap}
theorem sc_Web___init__ : FnScope ["self", "names", "strikes", "place", "name", "pair"] ["self", "names", "strikes"] (defScope (inClass (top 38) 0)) := ⟨rfl, rfl, rfl, by decide +kernel, rfl, by decide +kernel, by decide +kernel⟩
theorem ok_Web___init__ (T : Tx K mg) : MCal P w K mg base (He.ma K (He.ga K "Web") "__init__") 3 ["self", "names", "strikes"] (sp_Web___init__ K) := by
  obtain ⟨f_cis_name, d_cis_name, m_cis_name, k_cis_name, b_cis_name, G_cis_name⟩ := (ok_is_name (P := P) (w := w) (base := base) T).ex
  obtain ⟨f_cis_pair_of, d_cis_pair_of, m_cis_pair_of, k_cis_pair_of, b_cis_pair_of, G_cis_pair_of⟩ := (ok_is_pair_of (P := P) (w := w) (base := base) T).ex
  have cl_Sieve := T.cl_Sieve
  have na_Sieve_order := T.na_Sieve_order
  have na_Sieve_hitters := T.na_Sieve_hitters
  have na_Sieve_hits := T.na_Sieve_hits
  have cl_Web := T.cl_Web
  have na_Web_strikers_by := T.na_Web_strikers_by
  have na_Web_struck_by := T.na_Web_struck_by
  have na_Web_own_pairs := T.na_Web_own_pairs
  refine mcal T.fd_Web___init__ (N := ["self", "names", "strikes", "place", "name", "pair"]) sc_Web___init__ (fun _ _ _ _ _ _ us hl => match us, hl with | [_, _, _], _ => rfl) (fun vs H Q E h => by
    unfold sp_Web___init__ at h
    split at h
    all_goals first | rfl | exact h.elim) ?_
  intro cdv A outer s H vs Q E hr h
  have hu := hu_of hr
  unfold sp_Web___init__ at h
  split at h
  rotate_left
  · exact h.elim
  rename_i p q s
  obtain ⟨dx, ns, vs, es, F, h0, h1, h2, h3, h4, h5, h6, h7, k⟩ := h
  refine' ⟨_, pss_cons (ps_fld (pv 0) (pe_dnewK) rfl)
 (pss_cons (ps_for PassesOwn.never rfl (pi_enum (by rfl) T.z_enumerate (pa_cons (pv 1) pa_nil)) (pg_tup rfl (pgs_cons (pg_name (i := 3) sc_Web___init__.nd rfl (by first | exact Or.inl rfl | exact Or.inr rfl)) (pgs_cons (pg_name (i := 4) sc_Web___init__.nd rfl (by first | exact Or.inl rfl | exact Or.inr rfl)) pgs_nil))) (pss_cons (ps_if (PW.pt (pw_or (pt_not (pt_val (pe_call G_cis_name (hr.mono (by decide)) (by rfl) m_cis_name k_cis_name b_cis_name .nil pass0 (pa_cons (pv 4) pa_nil)))) (pw_or1 (pt_cmp (pc_din hu (pv 4) (pe_fld (pv 0) rfl)))))) (pss_one (ps_never)) (pss_nil))
 (pss_one (ps_dput hu (pe_fld (pv 0) rfl) (pv 4) (pe_lst (pa_nil)) rfl))))
 (pss_cons (ps_fld (pv 0) (pe_callTy (Sw.call_dictP rfl) (by rfl) T.z_dict (by decide +kernel) (pa_cons (pe_lock (pe_lc (own := [("name", 4)]) (g := gName 4) (tt := tYes) rfl sc_Web___init__.nd (pi_keys (pe_fld (pv 0) rfl)) (blkOk_by (N := ["self", "names", "strikes", "place", "name", "pair"]) (sc := defScope (inClass (top 38) 0)) (by decide +kernel)) ?c1g ?c1t ?c1e)) pa_nil)) rfl)
 (pss_cons (ps_fld (pv 0) (pe_dnewT) rfl)
 (pss_one (ps_for PassesOwn.never rfl (pi_enum (by rfl) T.z_enumerate (pa_cons (pv 2) pa_nil)) (pg_tup rfl (pgs_cons (pg_name (i := 3) sc_Web___init__.nd rfl (by first | exact Or.inl rfl | exact Or.inr rfl)) (pgs_cons (pg_name (i := 5) sc_Web___init__.nd rfl (by first | exact Or.inl rfl | exact Or.inr rfl)) pgs_nil))) (pss_cons (ps_if (PW.pt (pw_or (pt_not (pt_val (pe_call G_cis_pair_of (hr.mono (by decide)) (by rfl) m_cis_pair_of k_cis_pair_of b_cis_pair_of .nil pass0 (pa_cons (pv 5) (pa_cons (pe_fld (pv 0) rfl) pa_nil))))) (pw_or1 (pt_cmp (pc_din hu (pv 5) (pe_fld (pv 0) rfl)))))) (pss_one (ps_never)) (pss_nil))
 (pss_cons (ps_dput hu (pe_fld (pv 0) rfl) (pv 5) (pe_bl) rfl)
 (pss_cons (ps_expr (pe_bm PySem.F.plainAttrs_list PySem.F.slot_list_append PySem.F.type_list_append mt_append (pe_dget hu (pe_fld (pv 0) rfl) (pe_ix ix_tup (pv 5) (pe_int) (fun _ _ => rfl)) (fun _ _ => rfl)) (pa_cons (pe_ix ix_tup (pv 5) (pe_int) (fun _ _ => rfl)) pa_nil)))
 (pss_one (ps_expr (pe_bm PySem.F.plainAttrs_list PySem.F.slot_list_append PySem.F.type_list_append mt_append (pe_dget hu (pe_fld (pv 0) rfl) (pe_ix ix_tup (pv 5) (pe_int) (fun _ _ => rfl)) (fun _ _ => rfl)) (pa_cons (pe_ix ix_tup (pv 5) (pe_int) (fun _ _ => rfl)) pa_nil)))))))))))), ?_⟩
  (case c1g => exact fun _ _ _ _ _ => pg_name (i := 4) sc_Web___init__.nd rfl (Or.inl rfl)); (case c1t => (intro _ _ _ _ _; refine' Sw.pts_te (pts_nil) ?c1tq; (case c1tq => (first | ((dsimp only [L2.Cx.blk]) <;> exact rfl) | exact rfl)))); (case c1e => (intro _ _ _ _ _; refine' Sw.pe_te (pe_tup (pa_cons (pv 4) (pa_cons (pe_lst (pa_nil)) pa_nil))) ?c1eq; (case c1eq => (first | ((dsimp only [L2.Cx.blk]) <;> exact rfl) | exact rfl))))
  try clear G_cis_name b_cis_name k_cis_name m_cis_name
  try clear d_cis_name f_cis_name
  try clear G_cis_pair_of b_cis_pair_of k_cis_pair_of m_cis_pair_of
  try clear d_cis_pair_of f_cis_pair_of
  try clear hu hr
  have hnl : ∀ x ∈ ns, x.length ≤ 90000 := fun x m => by
    have h8 := h6 x m
    unfold nameB at h8
    have h9 := of_decide_eq_true (Bool.and_eq_true _ _ ▸ h8).1
    omega
  walk_at "rd"
  rename_i d1 _ _ _ A0
  refine Sw.loop_enum (f := V.str) (zs := ns) (fun i σ H' => ∃ Z v3 v4, σ = [some (.ref p), some (.ref q), some (.ref s), v3, v4, none] ∧ At H' ((d1, .dK (dk (zr Z))) :: (p, .ins (He.ga K "Web") dx [("strikers_by", .ref d1)]) :: (zl (fun _ => []) Z ++ F)) ∧ Z.map Prod.fst = ns.take i)
    ⟨[], none, none, rfl, by walk_at "sb", rfl⟩ (fun i σ H' _ ⟨_, _, _, _, A, _⟩ => ⟨_, A, by walk_at "mem"⟩) ?_ ?_
  · rintro i x T σ H1 hx ⟨Z, v3, v4, rfl, A1, eZ⟩ H2 hH
    have A2 := hH _ A1
    have hxm : x ∈ ns := List.mem_of_getElem? hx
    have hn := h6 x hxm
    have hxl := hnl x hxm
    have hnz : ¬ x ∈ Z.map Prod.fst := by
      rw [eZ]
      exact not_in_take h4 hx
    have hz0 := zr_none hnz
    have hzl : (zr Z).length < 100000 := by
      rw [List.length_map, ← List.length_map (f := Prod.fst), eZ, List.length_take]
      omega
    clear A1
    walk_at "rd"
    · rename_i hb
      rw [hn] at hb
      cases hb
    · rename_i hb
      rw [zr_keys] at hb
      exact absurd hb hnz
    · rename_i a1 _ _ _ A3
      have ez : zr (Z ++ [(x, a1)]) = zr Z ++ [(x, V.ref a1)] := List.map_append
      have el : zl (fun _ => []) (Z ++ [(x, a1)]) = zl (fun _ => []) Z ++ [(a1, HO.lst [])] := List.map_append
      refine ⟨Z ++ [(x, a1)], _, _, rfl, ?_, by rw [List.map_append, eZ, List.take_succ, hx]; rfl⟩
      rw [ez, el, List.append_assoc, List.singleton_append]
      walk_at "sb"
  · rintro σ H1 ⟨Z1, v3, v4, rfl, A1, eZ1⟩
    rw [List.take_length] at eZ1
    have nd1 : (Z1.map Prod.fst).Nodup := by rw [eZ1]; exact h4
    have l1 : Z1.length = ns.length := by rw [← List.length_map (f := Prod.fst), eZ1]
    walk_at "rd"
    refine Sw.rd_lockV A1 trivial rfl fun od H2 A2 => ?_
    walk_at "rd"
    refine Sw.lc_inv (w := walk_dk) A2 (fun D i H' => ∃ Y : List (Addr × Str × Addr), At H' ((D, .lst (Y.map fun y => V.ref y.1)) :: (Y.map (fun y => (y.1, HO.tup [V.str y.2.1, .ref y.2.2])) ++ (Y.map (fun y => (y.2.2, HO.lst [])) ++ (d1, .frz od (.dK (dk (zr Z1)))) :: (p, .ins (He.ga K "Web") dx [("strikers_by", .ref d1)]) :: (zl (fun _ => []) Z1 ++ F)))) ∧ Y.map (fun y => y.2.1) = ns.take i)
      (fun D H' hA => ⟨[], hA, rfl⟩) (fun D i H' _ ⟨Y, A, _⟩ => A.rd (by walk_at "mem")) (fun D i x H3 H4 hi hp hy => ?_) (fun D H' hp => ?_)
    · obtain ⟨Y, A3, eY⟩ := hp
      obtain ⟨rfl, ⟨z, w'⟩, hz, rfl⟩ := hy
      have hzn : ns[i]? = some z := by
        have := congrArg (Option.map Prod.fst) hz
        rw [← List.getElem?_map, zr_keys, eZ1] at this
        exact this
      have lY : Y.length ≤ 30 := by
        have := congrArg List.length eY
        rw [List.length_map, List.length_take] at this
        omega
      walk_at "rd"
      rename_i a1 _ _ t1 H5 A5
      refine Sw.rd_lcPut (xs := Y.map fun y => V.ref y.1) (F := (t1, .tup [.str z, .ref a1]) :: (a1, .lst []) :: (Y.map (fun y => (y.1, HO.tup [V.str y.2.1, .ref y.2.2])) ++ (Y.map (fun y => (y.2.2, HO.lst [])) ++ (d1, .frz od (.dK (dk (zr Z1)))) :: (p, .ins (He.ga K "Web") dx [("strikers_by", .ref d1)]) :: (zl (fun _ => []) Z1 ++ F)))) (by walk_at "sb") (by rw [List.length_map]; omega) fun H6 A6 => ?_
      refine ⟨Y ++ [(t1, z, a1)], ?_, by rw [List.map_append, eY, List.take_succ, hzn]; rfl⟩
      rw [List.map_append, List.map_append, List.map_append, List.append_assoc, List.append_assoc]
      show At H6 ((D, _) :: (_ ++ ((t1, _) :: (_ ++ ((a1, _) :: _)))))
      walk_at "sb"
    · obtain ⟨Y, A3, eY⟩ := hp
      have ezl : (zr Z1).length = ns.length := by rw [List.length_map, l1]
      rw [ezl, List.take_length] at eY
      refine Sw.rd_unlk (F := (D, .lst (Y.map fun y => V.ref y.1)) :: (Y.map (fun y => (y.1, HO.tup [V.str y.2.1, .ref y.2.2])) ++ (Y.map (fun y => (y.2.2, HO.lst [])) ++ (p, .ins (He.ga K "Web") dx [("strikers_by", .ref d1)]) :: (zl (fun _ => []) Z1 ++ F)))) (by walk_at "sb") fun H4 A4 => ?_
      walk_at "rd"
      refine Sw.rd_dictP (zs := Y.map fun y => (y.1, y.2.1, V.ref y.2.2)) A4 (by rw [List.map_map]; walk_at "mem") (fun z hz => ?_) (by rw [List.map_map]; show (Y.map fun y => y.2.1).Nodup; rw [eY]; exact h4) fun d2 H5 A5 => ?_
      · obtain ⟨y, hy, rfl⟩ := List.mem_map.mp hz
        have : (y.1, HO.tup [V.str y.2.1, .ref y.2.2]) ∈ Y.map (fun y => (y.1, HO.tup [V.str y.2.1, .ref y.2.2])) := List.mem_map.mpr ⟨y, hy, rfl⟩
        walk_at "mem"
      have eD : (Y.map fun y => (y.1, y.2.1, V.ref y.2.2)).map Prod.snd = zr (Y.map Prod.snd) := by unfold zr; rw [List.map_map, List.map_map]; rfl
      have eL : Y.map (fun y => (y.2.2, HO.lst [])) = zl (fun _ => []) (Y.map Prod.snd) := by unfold zl; rw [List.map_map]; rfl
      have eZ2 : (Y.map Prod.snd).map Prod.fst = ns := by rw [List.map_map]; exact eY
      rw [eD, eL] at A5
      clear A4 A3
      generalize Y.map Prod.snd = Z2 at A5 eZ2 eD eL
      have nd2 : (Z2.map Prod.fst).Nodup := by rw [eZ2]; exact h4
      have A6 : At H5 ((p, .ins (He.ga K "Web") dx [("strikers_by", .ref d1)]) :: (d2, .dK (dk (zr Z2))) :: (d1, .dK (dk (zr Z1))) :: (zl (fun _ => []) Z2 ++ (zl (fun _ => []) Z1 ++ F))) := by walk_at "sb"
      clear A5
      walk_at "rd"
      rename_i d3 _ _ _ A8
      refine Sw.loop_enumI (zs := es) (us := vs) (W := F) h3 (fun i σ H' => ∃ v3 v4 v5, σ = [some (.ref p), some (.ref q), some (.ref s), v3, v4, v5] ∧ At H' ((d3, .dT (dp (es.take i))) :: (p, .ins (He.ga K "Web") dx [("strikers_by", .ref d1), ("struck_by", .ref d2), ("own_pairs", .ref d3)]) :: (d1, .dK (dk (zr Z1))) :: (d2, .dK (dk (zr Z2))) :: (zl (strikersOf (es.take i)) Z1 ++ (zl (struckOf (es.take i)) Z2 ++ F))))
        ⟨_, _, _, rfl, by walk_at "sb"⟩ (fun i σ H' _ ⟨_, _, _, _, A⟩ => ⟨_, A, by walk_at "mem"⟩) ?_ ?_
      · rintro i ⟨x, y⟩ v T σ H1 hi hv ⟨v3, v4, v5, rfl, B1⟩ H2 hH
        have B2 := hH _ B1
        clear B1 hH
        obtain ⟨t, rfl, mt⟩ := is_pairS hv
        have hmem := h5.mem _ (List.mem_of_getElem? hi)
        have hnx : ¬ (x, y) ∈ es.take i := not_in_take h5.nd hi
        have hlx := hnl x hmem.1
        have hly := hnl y hmem.2
        obtain ⟨ax, hax⟩ := zr_has (Z := Z2) (n := x) (by rw [eZ2]; exact hmem.1)
        obtain ⟨ay, hay⟩ := zr_has (Z := Z1) (n := y) (by rw [eZ1]; exact hmem.2)
        have ex := zr_at nd2 hax
        have ey := zr_at nd1 hay
        have my := zl_mem (f := strikersOf (es.take i)) hay
        have mx := zl_mem (f := struckOf (es.take i)) hax
        have hl1 := strikersOf_len (es.take i) y
        have hl2 := struckOf_len (es.take i) x
        rw [List.length_take] at hl1 hl2
        have hi' : i < es.length := (List.getElem?_eq_some_iff.mp hi).1
        walk_at "rd"
        · rename_i hb
          rw [zr_keys, eZ1, h6 x hmem.1, h6 y hmem.2, decide_eq_true hmem.1, decide_eq_true hmem.2] at hb
          cases hb
        · rename_i B3
          have et : es.take (i + 1) = es.take i ++ [(x, y)] := by rw [List.take_succ, hi]; rfl
          obtain ⟨R, C1, C2⟩ := At.zl (f := strikersOf (es.take i)) (Z := Z1) (F := (d3, .dT (dp (es.take i ++ [(x, y)]))) :: (p, .ins (He.ga K "Web") dx [("strikers_by", .ref d1), ("struck_by", .ref d2), ("own_pairs", .ref d3)]) :: (d1, .dK (dk (zr Z1))) :: (d2, .dK (dk (zr Z2))) :: (zl (struckOf (es.take i)) Z2 ++ F)) (by walk_at "sb") nd1 hay (strikersOf (es.take i ++ [(x, y)])) (fun k hk => strikersOf_ne _ hk)
          refine Sw.rd_appendS C1 (by omega) fun H5 B5 => ?_
          have B6 := C2 H5 (by rw [strikersOf_app]; exact B5)
          clear C1 C2 B5 B3 my
          walk_at "rd"
          obtain ⟨R, C1, C2⟩ := At.zl (f := struckOf (es.take i)) (Z := Z2) (F := (d3, .dT (dp (es.take i ++ [(x, y)]))) :: (p, .ins (He.ga K "Web") dx [("strikers_by", .ref d1), ("struck_by", .ref d2), ("own_pairs", .ref d3)]) :: (d1, .dK (dk (zr Z1))) :: (d2, .dK (dk (zr Z2))) :: (zl (strikersOf (es.take i ++ [(x, y)])) Z1 ++ F)) (by walk_at "sb") nd2 hax (struckOf (es.take i ++ [(x, y)])) (fun k hk => struckOf_ne _ hk)
          refine Sw.rd_appendS C1 (by omega) fun H7 B7 => ?_
          have B8 := C2 H7 (by rw [struckOf_app]; exact B7)
          clear C1 C2 B7 B6 mx
          walk_at "rd"
          refine ⟨_, _, _, rfl, ?_⟩
          rw [et]
          walk_at "sb"
      · rintro σ H1 ⟨v3, v4, v5, rfl, B1⟩
        rw [List.take_length] at B1
        walk_at "rd"
        exact k (webC K p ⟨dx, d1, d2, d3, Z1, Z2⟩ es) _ (by
          show At H1 (((p, _) :: (d1, _) :: (d2, _) :: (d3, _) :: (zl (strikersOf es) Z1 ++ zl (struckOf es) Z2)) ++ F)
          simp only [List.cons_append, List.append_assoc]
          walk_at "sb") ⟨⟨dx, d1, d2, d3, Z1, Z2⟩, fun _ m => m, eZ1, eZ2⟩
end
end Sw

namespace Sw
open PySem L2 PySem.W
def sp__law_hit : Sp := fun vs H Q E => match vs with
  | [.ref p, .int z] => ∃ (m : Nat) (pn pk pu : Addr) (N : List Str) (ks us : List Nat) (L : List Cell), (z = (m : Int)) ∧ (At H L) ∧ (Vw L p pn pk pu N ks us) ∧ (N.length ≤ 30 ∧ us.length = N.length) ∧ (∀ (H' : Hp), (At H' L) → Q (.int ((hitN us m N.length : Nat) : Int)) H')
  | _ => False
end Sw
local macro_rules | `(tactic| walk_at "rdc") => `(tactic| ((with_reducible show Sw.sp__law_hit _ _ _ _); k_dflt (refine' ⟨_, _, _, _, _, _, _, _, ?h0, ?h1, ?h2, ?h3, ?_⟩); (case h0 => k_dflt rfl); (case h1 => assumption); (case h2 => k_dflt (walk_at "vw")); (case h3 => k_dflt (walk_at "om")); intro _ _))
local macro_rules | `(tactic| walk_at "call") => `(tactic| ((with_reducible show Sw.sp__law_hit _ _ _ _); k_dflt (refine' ⟨_, _, _, _, _, _, _, _, ?h0, ?h1, ?h2, ?h3, ?_⟩); (try (case h0 => k_dflt rfl)); (try (case h1 => assumption)); (try (case h2 => k_dflt (walk_at "vw"))); (try (case h3 => k_dflt (walk_at "om")))))
namespace Sw
open PySem L2 PySem.W
section
variable {P : Program} {w : World} {K : PySem.W.Frag} {mg : Str → Option Value} {base : Heap}
theorem sc__law_hit : FnScope ["_law_view", "_law_mask", "_law_hit_here", "_law_k"] ["_law_view", "_law_mask"] (defScope (top 48)) := ⟨rfl, rfl, rfl, by decide +kernel, rfl, by decide +kernel, by decide +kernel⟩
theorem ok__law_hit (T : Tx K mg) : Cal P w K mg base "_law_hit" 1 ["_law_view", "_law_mask"] (sp__law_hit) := by
  refine T.f__law_hit.cal (N := ["_law_view", "_law_mask", "_law_hit_here", "_law_k"]) sc__law_hit (fun _ _ _ _ _ _ us hl => match us, hl with | [_, _], _ => rfl) (fun vs H Q E h => by
    unfold sp__law_hit at h
    split at h
    all_goals first | rfl | exact h.elim) ?_
  intro f cdv A outer s H vs Q E hr h
  have hu := hu_of hr
  unfold sp__law_hit at h
  split at h
  rotate_left
  · exact h.elim
  rename_i p z
  obtain ⟨m, pn, pk, pu, N, ks, us, L, h0, h1, h2, h3, k⟩ := h
  refine ⟨_, pss_cons (ps_set (i := 2) sc__law_hit.nd rfl (by first | exact Or.inl rfl | exact Or.inr rfl) (pe_int))
 (pss_cons (ps_for PassesOwn.never rfl (pi_range1 (by rfl) T.z_range (pa_cons (pe_callB Sw.call_lenQ (by rfl) T.z_len (by decide +kernel) (pa_cons (pe_ix ix_list (pv 0) (pe_int) (fun _ _ => rfl)) pa_nil)) pa_nil)) (pg_name (i := 3) sc__law_hit.nd rfl (by first | exact Or.inl rfl | exact Or.inr rfl)) (pss_one (ps_if (pt_cmpR op_eq (pe_op op_and (pe_op op_shr (pv 1) (pv 3)) (pe_int)) (pe_int) (nomark _)) (pss_one (ps_set (i := 2) sc__law_hit.nd rfl (by first | exact Or.inl rfl | exact Or.inr rfl) (pe_op op_or (pv 2) (pe_ix ix_list (pe_ix ix_list (pv 0) (pe_int) (fun _ _ => rfl)) (pv 3) (fun _ _ => rfl))))) (pss_nil))))
 (pss_one (ps_ret (pv 2)))), ?_⟩
  try clear hu hr
  subst h0
  obtain ⟨m1, m2, m3, m4⟩ := h2
  walk_at "rd"
  refine Sw.loop_range (fun i σ H' => ∃ v, σ = [some (.ref p), some (.int (m : Int)), some (.int ((hitN us m i : Nat) : Int)), v] ∧ At H' L) ⟨_, rfl, h1⟩ ?_ ?_
  · rintro i σ H1 hi ⟨v, rfl, A1⟩
    walk_at "rd"
    · rename_i hb u hu
      exact ⟨_, by rw [hitN_yes (bit_is.mp hb) hu]; rfl, A1⟩
    · rename_i hb
      exact ⟨_, by rw [hitN_no (bit_isF hb)]; rfl, A1⟩
  · rintro σ H1 ⟨v, rfl, A1⟩
    walk_at "rd"
    exact k _ A1
end
end Sw

namespace Sw
open PySem L2 PySem.W
def sp__law_is_quiet : Sp := fun vs H Q E => match vs with
  | [.ref p, .int z] => ∃ (m : Nat) (pn pk pu : Addr) (N : List Str) (ks us : List Nat) (L : List Cell), (z = (m : Int)) ∧ (At H L) ∧ (Vw L p pn pk pu N ks us) ∧ (N.length ≤ 30 ∧ us.length = N.length) ∧ (∀ (b : Bool) (H' : Hp), (At H' L) → (b = decide (hitN us m N.length &&& m = 0)) → Q (.bl b) H')
  | _ => False
end Sw
local macro_rules | `(tactic| walk_at "rdc") => `(tactic| ((with_reducible show Sw.sp__law_is_quiet _ _ _ _); k_dflt (refine' ⟨_, _, _, _, _, _, _, _, ?h0, ?h1, ?h2, ?h3, ?_⟩); (case h0 => k_dflt rfl); (case h1 => assumption); (case h2 => k_dflt (walk_at "vw")); (case h3 => k_dflt (walk_at "om")); intro _ _ _ _))
local macro_rules | `(tactic| walk_at "call") => `(tactic| ((with_reducible show Sw.sp__law_is_quiet _ _ _ _); k_dflt (refine' ⟨_, _, _, _, _, _, _, _, ?h0, ?h1, ?h2, ?h3, ?_⟩); (try (case h0 => k_dflt rfl)); (try (case h1 => assumption)); (try (case h2 => k_dflt (walk_at "vw"))); (try (case h3 => k_dflt (walk_at "om")))))
namespace Sw
open PySem L2 PySem.W
section
variable {P : Program} {w : World} {K : PySem.W.Frag} {mg : Str → Option Value} {base : Heap}
theorem sc__law_is_quiet : FnScope ["_law_view", "_law_mask"] ["_law_view", "_law_mask"] (defScope (top 50)) := ⟨rfl, rfl, rfl, by decide +kernel, rfl, by decide +kernel, by decide +kernel⟩
theorem ok__law_is_quiet (T : Tx K mg) : Cal P w K mg base "_law_is_quiet" 2 ["_law_view", "_law_mask"] (sp__law_is_quiet) := by
  obtain ⟨f_c_law_hit, d_c_law_hit, m_c_law_hit, k_c_law_hit, b_c_law_hit, G_c_law_hit⟩ := (ok__law_hit (P := P) (w := w) (base := base) T).ex
  refine T.f__law_is_quiet.cal (N := ["_law_view", "_law_mask"]) sc__law_is_quiet (fun _ _ _ _ _ _ us hl => match us, hl with | [_, _], _ => rfl) (fun vs H Q E h => by
    unfold sp__law_is_quiet at h
    split at h
    all_goals first | rfl | exact h.elim) ?_
  intro f cdv A outer s H vs Q E hr h
  have hu := hu_of hr
  unfold sp__law_is_quiet at h
  split at h
  rotate_left
  · exact h.elim
  rename_i p z
  obtain ⟨m, pn, pk, pu, N, ks, us, L, h0, h1, h2, h3, k⟩ := h
  refine ⟨_, pss_one (ps_ret (pe_cmpR op_eq (pe_op op_and (pe_call G_c_law_hit (hr.mono (by decide)) (by rfl) m_c_law_hit k_c_law_hit b_c_law_hit .nil pass0 (pa_cons (pv 0) (pa_cons (pv 1) pa_nil))) (pv 1)) (pe_int) (nomark _))), ?_⟩
  try clear G_c_law_hit b_c_law_hit k_c_law_hit m_c_law_hit
  try clear d_c_law_hit f_c_law_hit
  try clear hu hr
  subst h0
  obtain ⟨m1, m2, m3, m4⟩ := h2
  walk_at "rd"
  exact k _ _ (by assumption) (decide_eq_decide.mpr (by omega))
end
end Sw

namespace Sw
open PySem L2 PySem.W
def sp__law_kept : Sp := fun vs H Q E => match vs with
  | [.ref p, .int z] => ∃ (m : Nat) (pn pk pu : Addr) (N : List Str) (ks us : List Nat) (L : List Cell), (z = (m : Int)) ∧ (At H L) ∧ (Vw L p pn pk pu N ks us) ∧ (N.length ≤ 30 ∧ us.length = N.length ∧ ks.length = N.length) ∧ (∀ (H' : Hp), (At H' L) → Q (.int ((keptN ks (hitN us m N.length) N.length : Nat) : Int)) H')
  | _ => False
end Sw
local macro_rules | `(tactic| walk_at "rdc") => `(tactic| ((with_reducible show Sw.sp__law_kept _ _ _ _); k_dflt (refine' ⟨_, _, _, _, _, _, _, _, ?h0, ?h1, ?h2, ?h3, ?_⟩); (case h0 => k_dflt rfl); (case h1 => assumption); (case h2 => k_dflt (walk_at "vw")); (case h3 => k_dflt (walk_at "om")); intro _ _))
local macro_rules | `(tactic| walk_at "call") => `(tactic| ((with_reducible show Sw.sp__law_kept _ _ _ _); k_dflt (refine' ⟨_, _, _, _, _, _, _, _, ?h0, ?h1, ?h2, ?h3, ?_⟩); (try (case h0 => k_dflt rfl)); (try (case h1 => assumption)); (try (case h2 => k_dflt (walk_at "vw"))); (try (case h3 => k_dflt (walk_at "om")))))
namespace Sw
open PySem L2 PySem.W
section
variable {P : Program} {w : World} {K : PySem.W.Frag} {mg : Str → Option Value} {base : Heap}
theorem sc__law_kept : FnScope ["_law_view", "_law_mask", "_law_hit_here", "_law_kept_here", "_law_k"] ["_law_view", "_law_mask"] (defScope (top 49)) := ⟨rfl, rfl, rfl, by decide +kernel, rfl, by decide +kernel, by decide +kernel⟩
theorem ok__law_kept (T : Tx K mg) : Cal P w K mg base "_law_kept" 2 ["_law_view", "_law_mask"] (sp__law_kept) := by
  obtain ⟨f_c_law_hit, d_c_law_hit, m_c_law_hit, k_c_law_hit, b_c_law_hit, G_c_law_hit⟩ := (ok__law_hit (P := P) (w := w) (base := base) T).ex
  refine T.f__law_kept.cal (N := ["_law_view", "_law_mask", "_law_hit_here", "_law_kept_here", "_law_k"]) sc__law_kept (fun _ _ _ _ _ _ us hl => match us, hl with | [_, _], _ => rfl) (fun vs H Q E h => by
    unfold sp__law_kept at h
    split at h
    all_goals first | rfl | exact h.elim) ?_
  intro f cdv A outer s H vs Q E hr h
  have hu := hu_of hr
  unfold sp__law_kept at h
  split at h
  rotate_left
  · exact h.elim
  rename_i p z
  obtain ⟨m, pn, pk, pu, N, ks, us, L, h0, h1, h2, h3, k⟩ := h
  refine ⟨_, pss_cons (ps_set (i := 2) sc__law_kept.nd rfl (by first | exact Or.inl rfl | exact Or.inr rfl) (pe_call G_c_law_hit (hr.mono (by decide)) (by rfl) m_c_law_hit k_c_law_hit b_c_law_hit .nil pass0 (pa_cons (pv 0) (pa_cons (pv 1) pa_nil))))
 (pss_cons (ps_set (i := 3) sc__law_kept.nd rfl (by first | exact Or.inl rfl | exact Or.inr rfl) (pe_int))
 (pss_cons (ps_for PassesOwn.never rfl (pi_range1 (by rfl) T.z_range (pa_cons (pe_callB Sw.call_lenQ (by rfl) T.z_len (by decide +kernel) (pa_cons (pe_ix ix_list (pv 0) (pe_int) (fun _ _ => rfl)) pa_nil)) pa_nil)) (pg_name (i := 4) sc__law_kept.nd rfl (by first | exact Or.inl rfl | exact Or.inr rfl)) (pss_one (ps_if (pt_cmpR op_eq (pe_op op_and (pe_ix ix_list (pe_ix ix_list (pv 0) (pe_int) (fun _ _ => rfl)) (pv 4) (fun _ _ => rfl)) (pe_un un_inv (pv 2))) (pe_int) (nomark _)) (pss_one (ps_set (i := 3) sc__law_kept.nd rfl (by first | exact Or.inl rfl | exact Or.inr rfl) (pe_op op_or (pv 3) (pe_op Sw.op_shlA (pe_int) (pv 4))))) (pss_nil))))
 (pss_one (ps_ret (pv 3))))), ?_⟩
  try clear G_c_law_hit b_c_law_hit k_c_law_hit m_c_law_hit
  try clear d_c_law_hit f_c_law_hit
  try clear hu hr
  subst h0
  obtain ⟨m1, m2, m3, m4⟩ := h2
  walk_at "rd"
  rename_i H2 A2
  refine Sw.loop_range (fun i σ H' => ∃ v, σ = [some (.ref p), some (.int (m : Int)), some (.int ((hitN us m N.length : Nat) : Int)), some (.int ((keptN ks (hitN us m N.length) i : Nat) : Int)), v] ∧ At H' L) ⟨_, rfl, A2⟩ ?_ ?_
  · rintro i σ H1 hi ⟨v, rfl, A1⟩
    walk_at "rd"
    · rename_i u hu hb
      have hu' : ks[i]? = some u := hu
      have eg : ks.getD i 0 = u := by rw [List.getD_eq_getElem?_getD, hu']; rfl
      exact ⟨_, by rw [keptN, eg, if_pos (by omega)]; rfl, A1⟩
    · rename_i u hu hb
      have hu' : ks[i]? = some u := hu
      have eg : ks.getD i 0 = u := by rw [List.getD_eq_getElem?_getD, hu']; rfl
      exact ⟨_, by rw [keptN, eg, if_neg (by omega)]; rfl, A1⟩
  · rintro σ H1 ⟨v, rfl, A1⟩
    walk_at "rd"
    exact k _ A1
end
end Sw

namespace Sw
open PySem L2 PySem.W
def sp__law_stands : Sp := fun vs H Q E => match vs with
  | [.ref p, .int z] => ∃ (m : Nat) (pn pk pu : Addr) (N : List Str) (ks us : List Nat) (L : List Cell), (z = (m : Int)) ∧ (At H L) ∧ (Vw L p pn pk pu N ks us) ∧ (N.length ≤ 30 ∧ us.length = N.length ∧ ks.length = N.length) ∧ (∀ (b : Bool) (H' : Hp), (At H' L) → (b = true ↔ hitN us m N.length &&& m = 0 ∧ m - (m &&& keptN ks (hitN us m N.length) N.length) = 0) → Q (.bl b) H')
  | _ => False
end Sw
local macro_rules | `(tactic| walk_at "rdc") => `(tactic| ((with_reducible show Sw.sp__law_stands _ _ _ _); k_dflt (refine' ⟨_, _, _, _, _, _, _, _, ?h0, ?h1, ?h2, ?h3, ?_⟩); (case h0 => k_dflt rfl); (case h1 => assumption); (case h2 => k_dflt (walk_at "vw")); (case h3 => k_dflt (walk_at "om")); intro _ _ _ _))
local macro_rules | `(tactic| walk_at "call") => `(tactic| ((with_reducible show Sw.sp__law_stands _ _ _ _); k_dflt (refine' ⟨_, _, _, _, _, _, _, _, ?h0, ?h1, ?h2, ?h3, ?_⟩); (try (case h0 => k_dflt rfl)); (try (case h1 => assumption)); (try (case h2 => k_dflt (walk_at "vw"))); (try (case h3 => k_dflt (walk_at "om")))))
namespace Sw
open PySem L2 PySem.W
section
variable {P : Program} {w : World} {K : PySem.W.Frag} {mg : Str → Option Value} {base : Heap}
theorem sc__law_stands : FnScope ["_law_view", "_law_mask"] ["_law_view", "_law_mask"] (defScope (top 51)) := ⟨rfl, rfl, rfl, by decide +kernel, rfl, by decide +kernel, by decide +kernel⟩
theorem ok__law_stands (T : Tx K mg) : Cal P w K mg base "_law_stands" 3 ["_law_view", "_law_mask"] (sp__law_stands) := by
  obtain ⟨f_c_law_is_quiet, d_c_law_is_quiet, m_c_law_is_quiet, k_c_law_is_quiet, b_c_law_is_quiet, G_c_law_is_quiet⟩ := (ok__law_is_quiet (P := P) (w := w) (base := base) T).ex
  obtain ⟨f_c_law_kept, d_c_law_kept, m_c_law_kept, k_c_law_kept, b_c_law_kept, G_c_law_kept⟩ := (ok__law_kept (P := P) (w := w) (base := base) T).ex
  refine T.f__law_stands.cal (N := ["_law_view", "_law_mask"]) sc__law_stands (fun _ _ _ _ _ _ us hl => match us, hl with | [_, _], _ => rfl) (fun vs H Q E h => by
    unfold sp__law_stands at h
    split at h
    all_goals first | rfl | exact h.elim) ?_
  intro f cdv A outer s H vs Q E hr h
  have hu := hu_of hr
  unfold sp__law_stands at h
  split at h
  rotate_left
  · exact h.elim
  rename_i p z
  obtain ⟨m, pn, pk, pu, N, ks, us, L, h0, h1, h2, h3, k⟩ := h
  refine ⟨_, pss_one (ps_ret (pe_and (pe_call G_c_law_is_quiet (hr.mono (by decide)) (by rfl) m_c_law_is_quiet k_c_law_is_quiet b_c_law_is_quiet .nil pass0 (pa_cons (pv 0) (pa_cons (pv 1) pa_nil))) (pe_one (pe_cmpR op_eq (pe_op op_and (pv 1) (pe_un un_inv (pe_call G_c_law_kept (hr.mono (by decide)) (by rfl) m_c_law_kept k_c_law_kept b_c_law_kept .nil pass0 (pa_cons (pv 0) (pa_cons (pv 1) pa_nil))))) (pe_int) (nomark _))))), ?_⟩
  try clear G_c_law_is_quiet b_c_law_is_quiet k_c_law_is_quiet m_c_law_is_quiet
  try clear d_c_law_is_quiet f_c_law_is_quiet
  try clear G_c_law_kept b_c_law_kept k_c_law_kept m_c_law_kept
  try clear d_c_law_kept f_c_law_kept
  try clear hu hr
  subst h0
  have ez : ∀ n : Nat, n = 0 ↔ ((n : Nat) : Int) = 0 := fun n => by omega
  walk_at "rd"
  · rename_i b1 _ _ hb1 hq _ A2
    have h1 : hitN us m N.length &&& m = 0 := of_decide_eq_true (hb1.symm.trans hq)
    exact k _ _ A2 (by rw [decide_eq_true_eq, ← ez]; exact ⟨fun h => ⟨h1, h⟩, And.right⟩)
  · rename_i b1 _ A1 hb1 hq
    exact k _ _ A1 ⟨fun h => (nomatch h), fun h => by rw [hb1, decide_eq_true h.1] at hq; cases hq⟩
end
end Sw

namespace Sw
open PySem L2 PySem.W
def sp__law_all_standing : Sp := fun vs H Q E => match vs with
  | [.ref p] => ∃ (pn pk pu : Addr) (N : List Str) (ks us : List Nat) (L : List Cell), (At H L) ∧ (Vw L p pn pk pu N ks us) ∧ (N.length ≤ 12 ∧ us.length = N.length ∧ ks.length = N.length) ∧ (∀ (r : Addr) (H' : Hp), (At H' ((r, .lst ((standM ks us N.length).map nv)) :: L)) → Q (.ref r) H')
  | _ => False
end Sw
local macro_rules | `(tactic| walk_at "rdc") => `(tactic| ((with_reducible show Sw.sp__law_all_standing _ _ _ _); k_dflt (refine' ⟨_, _, _, _, _, _, _, ?h0, ?h1, ?h2, ?_⟩); (case h0 => assumption); (case h1 => k_dflt (walk_at "vw")); (case h2 => k_dflt (walk_at "om")); intro _ _ _))
local macro_rules | `(tactic| walk_at "call") => `(tactic| ((with_reducible show Sw.sp__law_all_standing _ _ _ _); k_dflt (refine' ⟨_, _, _, _, _, _, _, ?h0, ?h1, ?h2, ?_⟩); (try (case h0 => assumption)); (try (case h1 => k_dflt (walk_at "vw"))); (try (case h2 => k_dflt (walk_at "om")))))
namespace Sw
open PySem L2 PySem.W
section
variable {P : Program} {w : World} {K : PySem.W.Frag} {mg : Str → Option Value} {base : Heap}
theorem sc__law_all_standing : FnScope ["_law_view", "_law_found", "_law_k", "_law_mask"] ["_law_view"] (defScope (top 53)) := ⟨rfl, rfl, rfl, by decide +kernel, rfl, by decide +kernel, by decide +kernel⟩
theorem ok__law_all_standing (T : Tx K mg) : Cal P w K mg base "_law_all_standing" 4 ["_law_view"] (sp__law_all_standing) := by
  obtain ⟨f_c_law_is_quiet, d_c_law_is_quiet, m_c_law_is_quiet, k_c_law_is_quiet, b_c_law_is_quiet, G_c_law_is_quiet⟩ := (ok__law_is_quiet (P := P) (w := w) (base := base) T).ex
  obtain ⟨f_c_law_stands, d_c_law_stands, m_c_law_stands, k_c_law_stands, b_c_law_stands, G_c_law_stands⟩ := (ok__law_stands (P := P) (w := w) (base := base) T).ex
  have cl_Sieve := T.cl_Sieve
  have na_Sieve_order := T.na_Sieve_order
  have na_Sieve_hitters := T.na_Sieve_hitters
  have na_Sieve_hits := T.na_Sieve_hits
  have cl_Web := T.cl_Web
  have na_Web_strikers_by := T.na_Web_strikers_by
  have na_Web_struck_by := T.na_Web_struck_by
  have na_Web_own_pairs := T.na_Web_own_pairs
  refine T.f__law_all_standing.cal (N := ["_law_view", "_law_found", "_law_k", "_law_mask"]) sc__law_all_standing (fun _ _ _ _ _ _ us hl => match us, hl with | [_], _ => rfl) (fun vs H Q E h => by
    unfold sp__law_all_standing at h
    split at h
    all_goals first | rfl | exact h.elim) ?_
  intro f cdv A outer s H vs Q E hr h
  have hu := hu_of hr
  unfold sp__law_all_standing at h
  split at h
  rotate_left
  · exact h.elim
  rename_i p
  obtain ⟨pn, pk, pu, N, ks, us, L, h0, h1, h2, k⟩ := h
  refine' ⟨_, pss_cons (ps_set (i := 1) sc__law_all_standing.nd rfl (by first | exact Or.inl rfl | exact Or.inr rfl) (pe_lst (pa_cons (pe_int) pa_nil)))
 (pss_cons (ps_for PassesOwn.never rfl (pi_range1 (by rfl) T.z_range (pa_cons (pe_callB Sw.call_lenQ (by rfl) T.z_len (by decide +kernel) (pa_cons (pe_ix ix_list (pv 0) (pe_int) (fun _ _ => rfl)) pa_nil)) pa_nil)) (pg_name (i := 2) sc__law_all_standing.nd rfl (by first | exact Or.inl rfl | exact Or.inr rfl)) (pss_one (ps_for PassesOwn.never rfl (pi_list (pe_callTy Sw.call_list (by rfl) T.z_list (by decide +kernel) (pa_cons (pv 1) pa_nil))) (pg_name (i := 3) sc__law_all_standing.nd rfl (by first | exact Or.inl rfl | exact Or.inr rfl)) (pss_one (ps_if (pt_val (pe_call G_c_law_is_quiet (hr.mono (by decide)) (by rfl) m_c_law_is_quiet k_c_law_is_quiet b_c_law_is_quiet .nil pass0 (pa_cons (pv 0) (pa_cons (pe_op op_or (pv 3) (pe_op Sw.op_shlA (pe_int) (pv 2))) pa_nil)))) (pss_one (ps_expr (pe_bm PySem.F.plainAttrs_list PySem.F.slot_list_append PySem.F.type_list_append mt_append (pv 1) (pa_cons (pe_op op_or (pv 3) (pe_op Sw.op_shlA (pe_int) (pv 2))) pa_nil)))) (pss_nil))))))
 (pss_one (ps_ret (pe_lc (own := [("_law_mask", 3)]) (g := gName 3) rfl sc__law_all_standing.nd (pi_list (pv 1)) (blkOk_by (N := ["_law_view", "_law_found", "_law_k", "_law_mask"]) (sc := defScope (top 53)) (by decide +kernel)) ?c1g ?c1t ?c1e)))), ?_⟩
  (case c1g => exact fun _ _ _ _ _ => pg_name (i := 3) sc__law_all_standing.nd rfl (Or.inl rfl)); (case c1t => (intro _ _ _ _ _; refine' Sw.pts_te (pts_one (pt_val (pe_call G_c_law_stands (hr.mono (by decide)) (by rfl) m_c_law_stands k_c_law_stands b_c_law_stands .nil pass0 (pa_cons (pv 0) (pa_cons (pv 3) pa_nil))))) ?c1tq; (case c1tq => (first | ((dsimp only [L2.Cx.blk]) <;> exact rfl) | exact rfl)))); (case c1e => (intro _ _ _ _ _; refine' Sw.pe_te (pv 3) ?c1eq; (case c1eq => (first | ((dsimp only [L2.Cx.blk]) <;> exact rfl) | exact rfl))))
  try clear G_c_law_is_quiet b_c_law_is_quiet k_c_law_is_quiet m_c_law_is_quiet
  try clear d_c_law_is_quiet f_c_law_is_quiet
  try clear G_c_law_stands b_c_law_stands k_c_law_stands m_c_law_stands
  try clear d_c_law_stands f_c_law_stands
  try clear hu hr
  have h1' := h1
  obtain ⟨m1, m2, m3, m4⟩ := h1'
  have h4k : ∀ i, i ≤ N.length → (lawQ us N.length i).length ≤ 4096 := fun i hi => by
    have h9 := lawQ_len h2.2.1 i hi
    have h7 : 2 ^ i ≤ 2 ^ 12 := Nat.pow_le_pow_right (by decide) (by omega)
    have h6 : 2 ^ 12 = 4096 := rfl
    omega
  walk_at "rd"
  rename_i r H1 A1
  refine Sw.loop_range (fun i σ H' => ∃ v2 v3, σ = [some (.ref p), some (.ref r), v2, v3] ∧ At H' ((r, .lst ((lawQ us N.length i).map nv)) :: L)) ⟨_, _, rfl, A1⟩ ?_ ?_
  · rintro i σ H2 hi ⟨v2, v3, rfl, A2⟩
    have hl1 := h4k i (by omega)
    walk_at "rd"
    rename_i q H3 A3
    refine Sw.loop_map (f := nv) (zs := lawQ us N.length i) (fun j σ H' => ∃ v3, σ = [some (.ref p), some (.ref r), some (.int (i : Int)), v3] ∧ At H' ((r, .lst ((lawQ us N.length i ++ (((lawQ us N.length i).take j).map fun m => m ||| 1 <<< i).filter fun m => decide (hitN us m N.length &&& m = 0)).map nv)) :: (q, .lst ((lawQ us N.length i).map nv)) :: L))
      ⟨_, rfl, (by rw [List.take_zero, List.map_nil, List.filter_nil, List.append_nil]; walk_at "sb")⟩ (fun j σ H' ⟨_, _, A⟩ => SqL.of (A.rd (by walk_at "mem"))) ?_ ?_
    · rintro j m σ H4 hm ⟨v3, rfl, A4⟩
      have hj : j < (lawQ us N.length i).length := (List.getElem?_eq_some_iff.mp hm).1
      have et : (lawQ us N.length i).take (j + 1) = (lawQ us N.length i).take j ++ [m] := by rw [List.take_succ, hm]; rfl
      have hfl : ((((lawQ us N.length i).take j).map fun m => m ||| 1 <<< i).filter fun m => decide (hitN us m N.length &&& m = 0)).length ≤ 4096 := Nat.le_trans (List.length_filter_le _ _) (by rw [List.length_map, List.length_take]; omega)
      generalize hX : ((((lawQ us N.length i).take j).map fun m => m ||| 1 <<< i).filter fun m => decide (hitN us m N.length &&& m = 0)) = X at A4 hfl
      have hXs : ((((lawQ us N.length i).take (j + 1)).map fun m => m ||| 1 <<< i).filter fun m => decide (hitN us m N.length &&& m = 0)) = X ++ (if hitN us (m ||| 1 <<< i) N.length &&& (m ||| 1 <<< i) = 0 then [m ||| 1 <<< i] else []) := by
        rw [et, List.map_append, List.filter_append, hX, List.map_cons, List.map_nil, List.filter_cons, List.filter_nil]
        simp only [decide_eq_true_eq]
      walk_at "rd"
      · rename_i b _ _ hb hb1 H6 A6
        have hq : hitN us (m ||| 1 <<< i) N.length &&& (m ||| 1 <<< i) = 0 := of_decide_eq_true (hb.symm.trans hb1)
        refine ⟨_, rfl, ?_⟩
        rw [hXs, if_pos hq, ← List.append_assoc, List.map_append (l₁ := lawQ us N.length i ++ X)]
        exact A6
      · rename_i b _ A6 hb hb1
        have hq : ¬ hitN us (m ||| 1 <<< i) N.length &&& (m ||| 1 <<< i) = 0 := of_decide_eq_false (hb.symm.trans hb1)
        refine ⟨_, rfl, ?_⟩
        rw [hXs, if_neg hq, List.append_nil]
        exact A6
    · rintro σ H4 ⟨v3, rfl, A4⟩
      rw [List.take_length] at A4
      exact ⟨_, _, rfl, by rw [lawQ]; walk_at "sb"⟩
  · rintro σ H2 ⟨v2, v3, rfl, A2⟩
    have hl1 := h4k N.length (Nat.le_refl _)
    walk_at "rd"
    refine Sw.lc_list (us := lawQ us N.length N.length) (F := nv) A2 (.head _) (by omega) (fun m => decide (hitN us m N.length &&& m = 0 ∧ m - (m &&& keptN ks (hitN us m N.length) N.length) = 0)) nv (fun m H2 D acc Yk Nk hm A2 hY hN => ?_) fun D H2 A2 => ?_
    · have hv : Vw ((D, .lst acc) :: (r, .lst ((lawQ us N.length N.length).map nv)) :: L) p pn pk pu N ks us := ⟨.tail _ (.tail _ h1.1), .tail _ (.tail _ h1.2.1), .tail _ (.tail _ h1.2.2.1), .tail _ (.tail _ h1.2.2.2)⟩
      walk_at "rd"
      · rename_i hb hb1
        exact hY _ _ (decide_eq_true (hb.mp hb1)) rfl (by walk_at "sb")
      · rename_i hb hb1
        exact hN _ (decide_eq_false fun h => (by rw [hb.mpr h] at hb1; cases hb1)) (by walk_at "sb")
    rw [standM_law h2.2.1] at A2
    walk_at "rd"
    exact k D _ (by walk_at "sb")
end
end Sw

namespace Sw
open PySem L2 PySem.W
def sp__law_greatest : Sp := fun vs H Q E => match vs with
  | [.ref p] => ∃ (ms : List Nat) (L : List Cell), (At H L) ∧ ((p, HO.lst (ms.map nv)) ∈ L) ∧ (ms.length ≤ 4096) ∧ (∀ (r : Addr) (H' : Hp), (At H' ((r, .lst ((greatOf ms).map nv)) :: L)) → Q (.ref r) H')
  | _ => False
end Sw
local macro_rules | `(tactic| walk_at "rdc") => `(tactic| ((with_reducible show Sw.sp__law_greatest _ _ _ _); k_dflt (refine' ⟨_, _, ?h0, ?h1, ?h2, ?_⟩); (case h0 => assumption); (case h1 => k_dflt (walk_at "mem")); (case h2 => k_dflt (walk_at "om")); intro _ _ _))
local macro_rules | `(tactic| walk_at "call") => `(tactic| ((with_reducible show Sw.sp__law_greatest _ _ _ _); k_dflt (refine' ⟨_, _, ?h0, ?h1, ?h2, ?_⟩); (try (case h0 => assumption)); (try (case h1 => k_dflt (walk_at "mem"))); (try (case h2 => k_dflt (walk_at "om")))))
namespace Sw
open PySem L2 PySem.W
section
variable {P : Program} {w : World} {K : PySem.W.Frag} {mg : Str → Option Value} {base : Heap}
theorem sc__law_greatest : FnScope ["_law_masks_here", "_law_one", "_law_other"] ["_law_masks_here"] (defScope (top 54)) := ⟨rfl, rfl, rfl, by decide +kernel, rfl, by decide +kernel, by decide +kernel⟩
theorem ok__law_greatest (T : Tx K mg) : Cal P w K mg base "_law_greatest" 1 ["_law_masks_here"] (sp__law_greatest) := by
  refine T.f__law_greatest.cal (N := ["_law_masks_here", "_law_one", "_law_other"]) sc__law_greatest (fun _ _ _ _ _ _ us hl => match us, hl with | [_], _ => rfl) (fun vs H Q E h => by
    unfold sp__law_greatest at h
    split at h
    all_goals first | rfl | exact h.elim) ?_
  intro f cdv A outer s H vs Q E hr h
  have hu := hu_of hr
  unfold sp__law_greatest at h
  split at h
  rotate_left
  · exact h.elim
  rename_i p
  obtain ⟨ms, L, h0, h1, h2, k⟩ := h
  refine' ⟨_, pss_one (ps_ret (pe_lc (own := [("_law_one", 1)]) (g := gName 1) rfl sc__law_greatest.nd (pi_list (pv 0)) (blkOk_by (N := ["_law_masks_here", "_law_one", "_law_other"]) (sc := defScope (top 54)) (by decide +kernel)) ?c2g ?c2t ?c2e)), ?_⟩
  (case c2g => exact fun _ _ _ _ _ => pg_name (i := 1) sc__law_greatest.nd rfl (by first | exact Or.inl rfl | exact Or.inr rfl)); (case c2t => (intro _ _ _ _ _; refine' Sw.pts_te (pts_one (pt_not (pt_val (pe_callB (cr_any rfl) (by rfl) T.z_any (by decide +kernel) (pa_cons (pe_lc (own := [("_law_other", 2)]) (g := gName 2) (tt := tYes) rfl sc__law_greatest.nd (pi_list (pv 0)) (blkOk_by (by kernel_rfl)) ?c1g ?c1t ?c1e) pa_nil))))) ?c2tq; (case c1g => exact fun _ _ _ _ _ => pg_name (i := 2) sc__law_greatest.nd rfl (Or.inl rfl)); (case c1t => (intro _ _ _ _ _; refine' Sw.pts_te (pts_nil) ?c1tq; (case c1tq => (first | ((dsimp only [L2.Cx.blk]) <;> exact rfl) | exact rfl)))); (case c1e => (intro _ _ _ _ _; refine' Sw.pe_te (pe_and (pe_cmpR op_ne (pv 1) (pv 2) (nomark _)) (pe_one (pe_cmpR op_eq (pe_op op_and (pv 1) (pe_un un_inv (pv 2))) (pe_int) (nomark _)))) ?c1eq; (case c1eq => (first | ((dsimp only [L2.Cx.blk]) <;> exact rfl) | exact rfl)))); (case c2tq => (first | ((dsimp only [L2.Cx.blk]) <;> exact rfl) | exact rfl)))); (case c2e => (intro _ _ _ _ _; refine' Sw.pe_te (pv 1) ?c2eq; (case c2eq => (first | ((dsimp only [L2.Cx.blk]) <;> exact rfl) | exact rfl))))
  try clear hu hr
  walk_at "rd"
  refine Sw.lc_list (us := ms) (F := nv) h0 h1 (by omega) (fun m => !ms.any fun o => decide (¬ m = o) && decide (m - (m &&& o) = 0)) nv (fun m H2 D acc Yk Nk hm A2 hY hN => ?_) fun D H2 A2 => ?_
  · walk_at "rd"
    refine Sw.lc_list (us := ms) (F := nv) A2 (.tail _ h1) (by omega) (fun _ => true) (fun o => V.bl (decide (¬ m = o) && decide (m - (m &&& o) = 0))) (fun o H3 D3 ac3 Yk3 Nk3 ho A3 hY3 hN3 => ?_) fun D3 H3 A3 => ?_
    · walk_at "rd"
      · rename_i hne
        have e : decide (((m - (m &&& o) : Nat) : Int) = 0) = (decide (¬ m = o) && decide (m - (m &&& o) = 0)) := by
          rw [decide_eq_true (show ¬ m = o from fun q => hne (by rw [q])), Bool.true_and]
          exact decide_eq_decide.mpr (by omega)
        exact hY3 _ _ rfl (congrArg V.bl e) (by walk_at "sb")
      · rename_i he
        have e : false = (decide (¬ m = o) && decide (m - (m &&& o) = 0)) := by
          rw [decide_eq_false (show ¬ ¬ m = o from fun q => q (by omega)), Bool.false_and]
        exact hY3 _ _ rfl (congrArg V.bl e) (by walk_at "sb")
    rw [all_true_filter] at A3
    walk_at "rd"
    · rename_i hb
      exact hY _ _ (by rw [hb]; rfl) rfl (by walk_at "sb")
    · rename_i hb
      exact hN _ (by rw [hb]; rfl) (by walk_at "sb")
  walk_at "rd"
  exact k D _ (by walk_at "sb")
end
end Sw

namespace Sw
open PySem L2 PySem.W
def sp__law_is_whole : Sp := fun vs H Q E => match vs with
  | [.ref p, .int z] => ∃ (m : Nat) (pn pk pu : Addr) (N : List Str) (ks us : List Nat) (L : List Cell), (z = (m : Int)) ∧ (At H L) ∧ (Vw L p pn pk pu N ks us) ∧ (N.length ≤ 30 ∧ us.length = N.length ∧ ks.length = N.length) ∧ (∀ (b : Bool) (H' : Hp), (At H' L) → (b = true ↔ hitN us m N.length &&& m = 0 ∧ m = keptN ks (hitN us m N.length) N.length) → Q (.bl b) H')
  | _ => False
end Sw
local macro_rules | `(tactic| walk_at "rdc") => `(tactic| ((with_reducible show Sw.sp__law_is_whole _ _ _ _); k_dflt (refine' ⟨_, _, _, _, _, _, _, _, ?h0, ?h1, ?h2, ?h3, ?_⟩); (case h0 => k_dflt rfl); (case h1 => assumption); (case h2 => k_dflt (walk_at "vw")); (case h3 => k_dflt (walk_at "om")); intro _ _ _ _))
local macro_rules | `(tactic| walk_at "call") => `(tactic| ((with_reducible show Sw.sp__law_is_whole _ _ _ _); k_dflt (refine' ⟨_, _, _, _, _, _, _, _, ?h0, ?h1, ?h2, ?h3, ?_⟩); (try (case h0 => k_dflt rfl)); (try (case h1 => assumption)); (try (case h2 => k_dflt (walk_at "vw"))); (try (case h3 => k_dflt (walk_at "om")))))
namespace Sw
open PySem L2 PySem.W
section
variable {P : Program} {w : World} {K : PySem.W.Frag} {mg : Str → Option Value} {base : Heap}
theorem sc__law_is_whole : FnScope ["_law_view", "_law_mask"] ["_law_view", "_law_mask"] (defScope (top 52)) := ⟨rfl, rfl, rfl, by decide +kernel, rfl, by decide +kernel, by decide +kernel⟩
theorem ok__law_is_whole (T : Tx K mg) : Cal P w K mg base "_law_is_whole" 3 ["_law_view", "_law_mask"] (sp__law_is_whole) := by
  obtain ⟨f_c_law_is_quiet, d_c_law_is_quiet, m_c_law_is_quiet, k_c_law_is_quiet, b_c_law_is_quiet, G_c_law_is_quiet⟩ := (ok__law_is_quiet (P := P) (w := w) (base := base) T).ex
  obtain ⟨f_c_law_kept, d_c_law_kept, m_c_law_kept, k_c_law_kept, b_c_law_kept, G_c_law_kept⟩ := (ok__law_kept (P := P) (w := w) (base := base) T).ex
  refine T.f__law_is_whole.cal (N := ["_law_view", "_law_mask"]) sc__law_is_whole (fun _ _ _ _ _ _ us hl => match us, hl with | [_, _], _ => rfl) (fun vs H Q E h => by
    unfold sp__law_is_whole at h
    split at h
    all_goals first | rfl | exact h.elim) ?_
  intro f cdv A outer s H vs Q E hr h
  have hu := hu_of hr
  unfold sp__law_is_whole at h
  split at h
  rotate_left
  · exact h.elim
  rename_i p z
  obtain ⟨m, pn, pk, pu, N, ks, us, L, h0, h1, h2, h3, k⟩ := h
  refine ⟨_, pss_one (ps_ret (pe_and (pe_call G_c_law_is_quiet (hr.mono (by decide)) (by rfl) m_c_law_is_quiet k_c_law_is_quiet b_c_law_is_quiet .nil pass0 (pa_cons (pv 0) (pa_cons (pv 1) pa_nil))) (pe_one (pe_cmpR op_eq (pv 1) (pe_call G_c_law_kept (hr.mono (by decide)) (by rfl) m_c_law_kept k_c_law_kept b_c_law_kept .nil pass0 (pa_cons (pv 0) (pa_cons (pv 1) pa_nil))) (nomark _))))), ?_⟩
  try clear G_c_law_is_quiet b_c_law_is_quiet k_c_law_is_quiet m_c_law_is_quiet
  try clear d_c_law_is_quiet f_c_law_is_quiet
  try clear G_c_law_kept b_c_law_kept k_c_law_kept m_c_law_kept
  try clear d_c_law_kept f_c_law_kept
  try clear hu hr
  subst h0
  walk_at "rd"
  · rename_i b1 _ _ hb1 hq _ A2
    have h1 : hitN us m N.length &&& m = 0 := of_decide_eq_true (hb1.symm.trans hq)
    exact k _ _ A2 (by rw [decide_eq_true_eq]; exact ⟨fun h => ⟨h1, by omega⟩, fun h => congrArg _ h.2⟩)
  · rename_i b1 _ A1 hb1 hq
    exact k _ _ A1 ⟨fun h => (nomatch h), fun h => by rw [hb1, decide_eq_true h.1] at hq; cases hq⟩
end
end Sw

namespace Sw
open PySem L2 PySem.W
def sp__law_granted (K : PySem.W.Frag) : Sp := fun vs H Q E => match vs with
  | [.ref p, .ref r] => ∃ (ms : List Nat) (pn pk pu : Addr) (N : List Str) (ks us : List Nat) (L : List Cell), (At H L) ∧ (Vw L p pn pk pu N ks us) ∧ ((r, HO.lst (ms.map nv)) ∈ L) ∧ (N.length ≤ 30 ∧ us.length = N.length ∧ ms.length ≤ 5000) ∧ (∀ (H' : Hp), (At H' L) → Q (.int ((foundM (hitAllM us N.length ms) ms : Nat) : Int)) H')
  | _ => False
end Sw
local macro_rules | `(tactic| walk_at "rdc") => `(tactic| ((with_reducible show Sw.sp__law_granted _ _ _ _ _); k_dflt (refine' ⟨_, _, _, _, _, _, _, _, ?h0, ?h1, ?h2, ?h3, ?_⟩); (case h0 => assumption); (case h1 => k_dflt (walk_at "vw")); (case h2 => k_dflt (walk_at "mem")); (case h3 => k_dflt (walk_at "om")); intro _ _))
local macro_rules | `(tactic| walk_at "call") => `(tactic| ((with_reducible show Sw.sp__law_granted _ _ _ _ _); k_dflt (refine' ⟨_, _, _, _, _, _, _, _, ?h0, ?h1, ?h2, ?h3, ?_⟩); (try (case h0 => assumption)); (try (case h1 => k_dflt (walk_at "vw"))); (try (case h2 => k_dflt (walk_at "mem"))); (try (case h3 => k_dflt (walk_at "om")))))
namespace Sw
open PySem L2 PySem.W
section
variable {P : Program} {w : World} {K : PySem.W.Frag} {mg : Str → Option Value} {base : Heap}
local macro_rules | `(tactic| walk_at "brp") => `(tactic| first | (refine' Sw.rd_brNY ?h ?_; (case h => assumption)) | (refine' Sw.rd_brNN ?h ?_; (case h => assumption)) | (refine' Sw.rd_brY ?h ?_; (case h => assumption)) | (refine' Sw.rd_brNo ?h ?_; (case h => assumption)))
theorem sc__law_granted : FnScope ["_law_view", "_law_masks_here", "_law_mask", "_law_hit_here", "_law_found"] ["_law_view", "_law_masks_here"] (defScope (top 57)) := ⟨rfl, rfl, rfl, by decide +kernel, rfl, by decide +kernel, by decide +kernel⟩
theorem ok__law_granted (T : Tx K mg) : Cal P w K mg base "_law_granted" 2 ["_law_view", "_law_masks_here"] (sp__law_granted K) := by
  obtain ⟨f_c_law_hit, d_c_law_hit, m_c_law_hit, k_c_law_hit, b_c_law_hit, G_c_law_hit⟩ := (ok__law_hit (P := P) (w := w) (base := base) T).ex
  refine T.f__law_granted.cal (N := ["_law_view", "_law_masks_here", "_law_mask", "_law_hit_here", "_law_found"]) sc__law_granted (fun _ _ _ _ _ _ us hl => match us, hl with | [_, _], _ => rfl) (fun vs H Q E h => by
    unfold sp__law_granted at h
    split at h
    all_goals first | rfl | exact h.elim) ?_
  intro f cdv A outer s H vs Q E hr h
  have hu := hu_of hr
  unfold sp__law_granted at h
  split at h
  rotate_left
  · exact h.elim
  rename_i p r
  obtain ⟨ms, pn, pk, pu, N, ks, us, L, h0, h1, h2, h3, k⟩ := h
  refine ⟨_, pss_cons (ps_asg (pe_tup (pa_cons (pe_int) (pa_cons (pe_int) pa_nil))) (pg_tup rfl (pgs_cons (pg_name (i := 3) sc__law_granted.nd rfl (by first | exact Or.inl rfl | exact Or.inr rfl)) (pgs_cons (pg_name (i := 4) sc__law_granted.nd rfl (by first | exact Or.inl rfl | exact Or.inr rfl)) pgs_nil))))
 (pss_cons (ps_for PassesOwn.never rfl (pi_list (pv 1)) (pg_name (i := 2) sc__law_granted.nd rfl (by first | exact Or.inl rfl | exact Or.inr rfl)) (pss_one (ps_set (i := 3) sc__law_granted.nd rfl (by first | exact Or.inl rfl | exact Or.inr rfl) (pe_op op_or (pv 3) (pe_call G_c_law_hit (hr.mono (by decide)) (by rfl) m_c_law_hit k_c_law_hit b_c_law_hit .nil pass0 (pa_cons (pv 0) (pa_cons (pv 2) pa_nil)))))))
 (pss_cons (ps_for PassesOwn.never rfl (pi_list (pv 1)) (pg_name (i := 2) sc__law_granted.nd rfl (by first | exact Or.inl rfl | exact Or.inr rfl)) (pss_one (ps_if (pt_cmpR op_eq (pe_op op_and (pv 2) (pv 3)) (pe_int) (nomark _)) (pss_one (ps_set (i := 4) sc__law_granted.nd rfl (by first | exact Or.inl rfl | exact Or.inr rfl) (pe_op op_or (pv 4) (pv 2)))) (pss_nil))))
 (pss_one (ps_ret (pv 4))))), ?_⟩
  try clear G_c_law_hit b_c_law_hit k_c_law_hit m_c_law_hit
  try clear d_c_law_hit f_c_law_hit
  try clear hu hr
  obtain ⟨m1, m2, m3, m4⟩ := h1
  walk_at "rd"
  refine Sw.loop_map (f := nv) (zs := ms) (fun i σ H' => ∃ v, σ = [some (.ref p), some (.ref r), v, some (.int ((hitAllM us N.length (ms.take i) : Nat) : Int)), some (.int 0)] ∧ At H' L) ⟨_, rfl, by walk_at "sb"⟩ (fun _ σ H' ⟨_, _, A⟩ => SqL.of (A.rd (by walk_at "mem"))) ?_ ?_
  · rintro i m σ H1 hm ⟨v, rfl, A1⟩
    have e9 : hitAllM us N.length (ms.take (i + 1)) = hitAllM us N.length (ms.take i) ||| hitN us m N.length := by
      unfold hitAllM
      rw [List.take_succ, hm, List.foldl_append]
      rfl
    walk_at "rd"
    exact ⟨_, by rw [e9]; rfl, by assumption⟩
  · rintro σ H1 ⟨v, rfl, A1⟩
    rw [List.take_length]
    generalize hitAllM us N.length ms = hh at k ⊢
    walk_at "rd"
    refine Sw.loop_map (f := nv) (zs := ms) (fun i σ H' => ∃ v, σ = [some (.ref p), some (.ref r), v, some (.int ((hh : Nat) : Int)), some (.int ((foundM hh (ms.take i) : Nat) : Int))] ∧ At H' L) ⟨_, rfl, A1⟩ (fun _ σ H' ⟨_, _, A⟩ => SqL.of (A.rd (by walk_at "mem"))) ?_ ?_
    · rintro i m σ H2 hm ⟨v, rfl, A2⟩
      have e9 : foundM hh (ms.take (i + 1)) = if m &&& hh = 0 then foundM hh (ms.take i) ||| m else foundM hh (ms.take i) := by
        unfold foundM
        rw [List.take_succ, hm, List.foldl_append]
        rfl
      walk_at "rd"
      · rename_i hx
        have hx : m &&& hh = 0 := by omega
        exact ⟨_, by rw [e9, if_pos hx]; rfl, A2⟩
      · rename_i hx
        have hx : ¬ m &&& hh = 0 := by omega
        exact ⟨_, by rw [e9, if_neg hx]; rfl, A2⟩
    · rintro σ H2 ⟨v, rfl, A2⟩
      rw [List.take_length]
      walk_at "rd"
      exact k _ A2
end
end Sw

namespace Sw
open PySem L2 PySem.W
def sp__law_world (K : PySem.W.Frag) : Sp := fun vs H Q E => match vs with
  | [.ref q, .ref e] => ∃ (ns : List Str) (vs : List V) (es : List (Str × Str)) (L0 L : List Cell), (At H L) ∧ (∀ c ∈ L0, c ∈ L) ∧ ((q, HO.lst (ns.map V.str)) ∈ L0) ∧ ((e, HO.lst vs) ∈ L0) ∧ (Iss L0 vs es) ∧ (GoodW ns es) ∧ (∀ (w : Addr) (W : List Cell) (H' : Hp), (At H' (W ++ L)) → (WorldE K (W ++ L0) w) → Q (.ref w) H')
  | _ => False
end Sw
local macro_rules | `(tactic| walk_at "rdc") => `(tactic| ((with_reducible show Sw.sp__law_world _ _ _ _ _); k_dflt (refine' ⟨_, _, _, _, _, ?h0, ?h1, ?h2, ?h3, ?h4, ?h5, ?_⟩); (case h0 => assumption); (case h1 => k_dflt (assumption)); (case h2 => k_dflt (assumption)); (case h3 => k_dflt (assumption)); (case h4 => k_dflt (assumption)); (case h5 => k_dflt (assumption)); intro _ _ _ _ _))
local macro_rules | `(tactic| walk_at "call") => `(tactic| ((with_reducible show Sw.sp__law_world _ _ _ _ _); k_dflt (refine' ⟨_, _, _, _, _, ?h0, ?h1, ?h2, ?h3, ?h4, ?h5, ?_⟩); (try (case h0 => assumption)); (try (case h1 => k_dflt (assumption))); (try (case h2 => k_dflt (assumption))); (try (case h3 => k_dflt (assumption))); (try (case h4 => k_dflt (assumption))); (try (case h5 => k_dflt (assumption)))))
namespace Sw
open PySem L2 PySem.W
section
variable {P : Program} {w : World} {K : PySem.W.Frag} {mg : Str → Option Value} {base : Heap}
local macro_rules | `(tactic| walk_at "brp") => `(tactic| first | (refine' Sw.rd_brNY ?h ?_; (case h => assumption)) | (refine' Sw.rd_brNN ?h ?_; (case h => assumption)) | (refine' Sw.rd_brY ?h ?_; (case h => assumption)) | (refine' Sw.rd_brNo ?h ?_; (case h => assumption)))
theorem sc__law_world : FnScope ["_law_names_here", "_law_strikes_here", "_law_view", "_law_world_here", "_law_mask"] ["_law_names_here", "_law_strikes_here"] (defScope (top 58)) := ⟨rfl, rfl, rfl, by decide +kernel, rfl, by decide +kernel, by decide +kernel⟩
theorem ok__law_world (T : Tx K mg) : Cal P w K mg base "_law_world" 5 ["_law_names_here", "_law_strikes_here"] (sp__law_world K) := by
  obtain ⟨f_c_law_masks, d_c_law_masks, m_c_law_masks, k_c_law_masks, b_c_law_masks, G_c_law_masks⟩ := (ok__law_masks (P := P) (w := w) (base := base) T).ex
  obtain ⟨d_cWeb, b_cWeb, G_cWeb⟩ := (ok_Web___init__ (P := P) (w := w) (base := base) T).ex
  have M_cWeb := T.mk_Web
  have m_cWeb := T.g_Web
  obtain ⟨f_c_law_all_standing, d_c_law_all_standing, m_c_law_all_standing, k_c_law_all_standing, b_c_law_all_standing, G_c_law_all_standing⟩ := (ok__law_all_standing (P := P) (w := w) (base := base) T).ex
  obtain ⟨f_c_law_greatest, d_c_law_greatest, m_c_law_greatest, k_c_law_greatest, b_c_law_greatest, G_c_law_greatest⟩ := (ok__law_greatest (P := P) (w := w) (base := base) T).ex
  obtain ⟨f_c_law_is_whole, d_c_law_is_whole, m_c_law_is_whole, k_c_law_is_whole, b_c_law_is_whole, G_c_law_is_whole⟩ := (ok__law_is_whole (P := P) (w := w) (base := base) T).ex
  obtain ⟨f_c_law_granted, d_c_law_granted, m_c_law_granted, k_c_law_granted, b_c_law_granted, G_c_law_granted⟩ := (ok__law_granted (P := P) (w := w) (base := base) T).ex
  refine T.f__law_world.cal (N := ["_law_names_here", "_law_strikes_here", "_law_view", "_law_world_here", "_law_mask"]) sc__law_world (fun _ _ _ _ _ _ us hl => match us, hl with | [_, _], _ => rfl) (fun vs H Q E h => by
    unfold sp__law_world at h
    split at h
    all_goals first | rfl | exact h.elim) ?_
  intro f cdv A outer s H vs Q E hr h
  have hu := hu_of hr
  unfold sp__law_world at h
  split at h
  rotate_left
  · exact h.elim
  rename_i q e
  obtain ⟨ns, vs, es, L0, L, h0, h1, h2, h3, h4, h5, k⟩ := h
  refine' ⟨_, pss_cons (ps_set (i := 2) sc__law_world.nd rfl (by first | exact Or.inl rfl | exact Or.inr rfl) (pe_call G_c_law_masks (hr.mono (by decide)) (by rfl) m_c_law_masks k_c_law_masks b_c_law_masks .nil pass0 (pa_cons (pv 0) (pa_cons (pv 1) pa_nil))))
 (pss_cons (ps_set (i := 3) sc__law_world.nd rfl (by first | exact Or.inl rfl | exact Or.inr rfl) (pe_disp (pps_cons (pe_str) (pv 0) (pps_cons (pe_str) (pv 1) (pps_cons (pe_str) (pe_make M_cWeb G_cWeb (hr.mono (by decide)) (by rfl) m_cWeb b_cWeb .nil pass0 (pa_cons (pv 0) (pa_cons (pv 1) pa_nil))) (pps_cons (pe_str) (pv 2) pps_nil)))) (by rfl) (by rfl) (fun z => by cases z) (by decide)))
 (pss_cons (ps_dput hu (pv 3) (pe_str) (pe_call G_c_law_all_standing (hr.mono (by decide)) (by rfl) m_c_law_all_standing k_c_law_all_standing b_c_law_all_standing .nil pass0 (pa_cons (pv 2) pa_nil)) rfl)
 (pss_cons (ps_dput hu (pv 3) (pe_str) (pe_call G_c_law_greatest (hr.mono (by decide)) (by rfl) m_c_law_greatest k_c_law_greatest b_c_law_greatest .nil pass0 (pa_cons (pe_lc (own := [("_law_mask", 4)]) (g := gName 4) rfl sc__law_world.nd (pi_list (pe_dget hu (pv 3) (pe_str) (fun _ _ => rfl))) (blkOk_by (N := ["_law_names_here", "_law_strikes_here", "_law_view", "_law_world_here", "_law_mask"]) (sc := defScope (top 58)) (by decide +kernel)) ?c1g ?c1t ?c1e) pa_nil)) rfl)
 (pss_cons (ps_dput hu (pv 3) (pe_str) (pe_call G_c_law_granted (hr.mono (by decide)) (by rfl) m_c_law_granted k_c_law_granted b_c_law_granted .nil pass0 (pa_cons (pv 2) (pa_cons (pe_dget hu (pv 3) (pe_str) (fun _ _ => rfl)) pa_nil))) rfl)
 (pss_one (ps_ret (pv 3))))))), ?_⟩
  (case c1g => exact fun _ _ _ _ _ => pg_name (i := 4) sc__law_world.nd rfl (Or.inl rfl)); (case c1t => (intro _ _ _ _ _; refine' Sw.pts_te (pts_one (pt_val (pe_call G_c_law_is_whole (hr.mono (by decide)) (by rfl) m_c_law_is_whole k_c_law_is_whole b_c_law_is_whole .nil pass0 (pa_cons (pv 2) (pa_cons (pv 4) pa_nil))))) ?c1tq; (case c1tq => (first | ((dsimp only [L2.Cx.blk]) <;> exact rfl) | exact rfl)))); (case c1e => (intro _ _ _ _ _; refine' Sw.pe_te (pv 4) ?c1eq; (case c1eq => (first | ((dsimp only [L2.Cx.blk]) <;> exact rfl) | exact rfl))))
  try clear G_c_law_masks b_c_law_masks k_c_law_masks m_c_law_masks
  try clear d_c_law_masks f_c_law_masks
  try clear G_cWeb b_cWeb
  try clear d_cWeb
  try clear M_cWeb m_cWeb
  try clear G_c_law_all_standing b_c_law_all_standing k_c_law_all_standing m_c_law_all_standing
  try clear d_c_law_all_standing f_c_law_all_standing
  try clear G_c_law_greatest b_c_law_greatest k_c_law_greatest m_c_law_greatest
  try clear d_c_law_greatest f_c_law_greatest
  try clear G_c_law_is_whole b_c_law_is_whole k_c_law_is_whole m_c_law_is_whole
  try clear d_c_law_is_whole f_c_law_is_whole
  try clear G_c_law_granted b_c_law_granted k_c_law_granted m_c_law_granted
  try clear d_c_law_granted f_c_law_granted
  try clear hu hr
  have hnd := h5.nd
  have hok := h5.ok
  have hnb := h5.nb
  have hhl := h5.hl
  have hhe := h5.he
  have hvl := h4.len
  have hsl := srt_len ns
  have mq := h1 _ h2
  have me := h1 _ h3
  have hI := iss_mono h1 h4
  walk_at "rdn"
  rename_i p pn pk pu ks us _ _ hV w _ _ x dx _ _ Wb _ _ hWb H5 A5
  have hkl := hV.kl
  have hul := hV.ul
  have hml := standM_len (ks := ks) (n := (srt ns).length) hul (by omega)
  obtain ⟨X, A6, web9, hvw⟩ : ∃ X, At H5 ((w, .dK (dk [("names", .ref q), ("pairs", .ref e), ("web", .ref x), ("view", .ref p)])) :: (X ++ L)) ∧ WebIn K X x ns es ∧ Vw X p pn pk pu (srt ns) ks us :=
    ⟨Wb ++ [(dx, .own x), (p, .lst [.ref pn, .ref pk, .ref pu]), (pn, .lst ((srt ns).map V.str)), (pk, .lst (ks.map nv)), (pu, .lst (us.map nv))], by rw [List.append_assoc]; exact A5, hWb.mono fun c m => List.mem_append_left _ m, by refine ⟨?_, ?_, ?_, ?_⟩ <;> exact List.mem_append_right _ (by walk_at "mem")⟩
  have hvX : ∀ {Y : List Cell}, (∀ c ∈ X ++ L, c ∈ Y) → Vw Y p pn pk pu (srt ns) ks us := fun h => ⟨h _ (List.mem_append_left _ hvw.1), h _ (List.mem_append_left _ hvw.2.1), h _ (List.mem_append_left _ hvw.2.2.1), h _ (List.mem_append_left _ hvw.2.2.2)⟩
  have hw9 := hvw
  obtain ⟨w1, w2, w3, w4⟩ := hw9
  clear A5 hWb
  walk_at "rdn"
  rename_i ra _ A7 H7 A8
  refine Sw.lc_list (us := standM ks us (srt ns).length) (F := nv) A8 (by walk_at "mem") (by omega) (fun m => decide (m = keptN ks (hitN us m (srt ns).length) (srt ns).length)) nv (fun m H9 D acc Yk Nk hm A9 hY hN => ?_) fun D H9 A9 => ?_
  · have hmm := (standM_mem hul hm).2
    clear A6 A7 A8
    walk_at "rd"
    · rename_i b _ A10 hb hbt
      exact hY _ _ (decide_eq_true (hb.mp hbt).2) rfl (by walk_at "sb")
    · rename_i b _ A10 hb hbt
      exact hN _ (decide_eq_false fun h => by rw [hb.mpr ⟨hmm, h⟩] at hbt; cases hbt) (by walk_at "sb")
  have A10 : At H9 ((D, .lst ((wholeM ks us (srt ns).length).map nv)) :: (w, .dK (dk [("names", .ref q), ("pairs", .ref e), ("web", .ref x), ("view", .ref p), ("all", .ref ra)])) :: (ra, .lst ((standM ks us (srt ns).length).map nv)) :: (X ++ L)) := A9
  have hwl : (wholeM ks us (srt ns).length).length ≤ 4096 := Nat.le_trans (List.length_filter_le _ _) hml
  clear A6 A7 A8 A9
  walk_at "rdn"
  rename_i rb _ _ _ _ _ _ H10 A11
  have A12 : At H10 ((w, .dK (dk [("names", .ref q), ("pairs", .ref e), ("web", .ref x), ("view", .ref p), ("all", .ref ra), ("best", .ref rb), ("due", .int ((grantM ks us (srt ns).length : Nat) : Int))])) :: (rb, .lst ((greatM ks us (srt ns).length).map nv)) :: (D, .lst ((wholeM ks us (srt ns).length).map nv)) :: (ra, .lst ((standM ks us (srt ns).length).map nv)) :: (X ++ L)) := A11
  have up : ∀ {y : Cell}, y ∈ X → y ∈ ((w, HO.dK (dk [("names", .ref q), ("pairs", .ref e), ("web", .ref x), ("view", .ref p), ("all", .ref ra), ("best", .ref rb), ("due", .int ((grantM ks us (srt ns).length : Nat) : Int))])) :: (rb, .lst ((greatM ks us (srt ns).length).map nv)) :: (D, .lst ((wholeM ks us (srt ns).length).map nv)) :: (ra, .lst ((standM ks us (srt ns).length).map nv)) :: X) ++ L0 := fun m => List.mem_append_left _ (.tail _ (.tail _ (.tail _ (.tail _ m))))
  exact k w _ H10 A12 ⟨ns, es, ks, us, q, e, x, p, pn, pk, pu, ra, rb, vs, ⟨.head _, List.mem_append_right _ h2, List.mem_append_right _ h3, iss_mono (fun c m => List.mem_append_right _ m) h4, web9.mono fun c m => up m, ⟨up w1, up w2, up w3, up w4⟩, hV, .tail _ (.tail _ (.tail _ (.head _))), .tail _ (.head _), h5⟩⟩
end
end Sw

namespace Sw
open PySem L2 PySem.W
def sp__law_least : Sp := fun vs H Q E => match vs with
  | [.ref p] => ∃ (pn pk pu : Addr) (N : List Str) (ks us : List Nat) (L : List Cell), (At H L) ∧ (Vw L p pn pk pu N ks us) ∧ (N.length ≤ 30 ∧ us.length = N.length ∧ ks.length = N.length) ∧ (∀ (m : Nat) (H' : Hp), (At H' L) → (m < 2 ^ N.length) → (m = kM ks us N.length m) → (∀ c, c = kM ks us N.length c → SubM m c) → Q (.int (m : Int)) H')
  | _ => False
end Sw
local macro_rules | `(tactic| walk_at "rdc") => `(tactic| ((with_reducible show Sw.sp__law_least _ _ _ _); k_dflt (refine' ⟨_, _, _, _, _, _, _, ?h0, ?h1, ?h2, ?_⟩); (case h0 => assumption); (case h1 => k_dflt (walk_at "vw")); (case h2 => k_dflt (walk_at "om")); intro _ _ _ _ _ _))
local macro_rules | `(tactic| walk_at "call") => `(tactic| ((with_reducible show Sw.sp__law_least _ _ _ _); k_dflt (refine' ⟨_, _, _, _, _, _, _, ?h0, ?h1, ?h2, ?_⟩); (try (case h0 => assumption)); (try (case h1 => k_dflt (walk_at "vw"))); (try (case h2 => k_dflt (walk_at "om")))))
namespace Sw
open PySem L2 PySem.W
section
variable {P : Program} {w : World} {K : PySem.W.Frag} {mg : Str → Option Value} {base : Heap}
theorem sc__law_least : FnScope ["_law_view", "_law_mask", "_law_more"] ["_law_view"] (defScope (top 55)) := ⟨rfl, rfl, rfl, by decide +kernel, rfl, by decide +kernel, by decide +kernel⟩
theorem ok__law_least (T : Tx K mg) : Cal P w K mg base "_law_least" 3 ["_law_view"] (sp__law_least) := by
  obtain ⟨f_c_law_kept, d_c_law_kept, m_c_law_kept, k_c_law_kept, b_c_law_kept, G_c_law_kept⟩ := (ok__law_kept (P := P) (w := w) (base := base) T).ex
  refine T.f__law_least.cal (N := ["_law_view", "_law_mask", "_law_more"]) sc__law_least (fun _ _ _ _ _ _ us hl => match us, hl with | [_], _ => rfl) (fun vs H Q E h => by
    unfold sp__law_least at h
    split at h
    all_goals first | rfl | exact h.elim) ?_
  intro f cdv A outer s H vs Q E hr h
  have hu := hu_of hr
  unfold sp__law_least at h
  split at h
  rotate_left
  · exact h.elim
  rename_i p
  obtain ⟨pn, pk, pu, N, ks, us, L, h0, h1, h2, k⟩ := h
  refine ⟨_, pss_cons (ps_set (i := 1) sc__law_least.nd rfl (by first | exact Or.inl rfl | exact Or.inr rfl) (pe_int))
 (pss_cons (ps_set (i := 2) sc__law_least.nd rfl (by first | exact Or.inl rfl | exact Or.inr rfl) (pe_call G_c_law_kept (hr.mono (by decide)) (by rfl) m_c_law_kept k_c_law_kept b_c_law_kept .nil pass0 (pa_cons (pv 0) (pa_cons (pe_int) pa_nil))))
 (pss_cons (ps_while PassesOwn.never (pt_cmpR op_ne (pv 2) (pv 1) (nomark _)) (pss_cons (ps_set (i := 1) sc__law_least.nd rfl (by first | exact Or.inl rfl | exact Or.inr rfl) (pv 2))
 (pss_one (ps_set (i := 2) sc__law_least.nd rfl (by first | exact Or.inl rfl | exact Or.inr rfl) (pe_call G_c_law_kept (hr.mono (by decide)) (by rfl) m_c_law_kept k_c_law_kept b_c_law_kept .nil pass0 (pa_cons (pv 0) (pa_cons (pv 1) pa_nil)))))))
 (pss_one (ps_ret (pv 1))))), ?_⟩
  try clear G_c_law_kept b_c_law_kept k_c_law_kept m_c_law_kept
  try clear d_c_law_kept f_c_law_kept
  try clear hu hr
  walk_at "rd"
  refine Sw.rd_while (fun M σ H' => ∃ (m : Nat), σ = [some (.ref p), some (.int (m : Int)), some (.int ((kM ks us N.length m : Nat) : Int))] ∧ At H' L ∧ SubM m (kM ks us N.length m) ∧ m < 2 ^ N.length ∧ (∀ c, c = kM ks us N.length c → SubM m c) ∧ M = 2 ^ N.length - m) (2 ^ N.length)
    ⟨0, rfl, by walk_at "sb", SubM.zero _, Nat.two_pow_pos _, fun c _ => SubM.zero c, rfl⟩ ?_
  rintro M σ H2 ⟨m, rfl, A2, hs, hlt, hc, rfl⟩
  have hkl : kM ks us N.length m < 2 ^ N.length := keptN_lt ks _ N.length (Nat.le_refl _)
  walk_at "rd"
  · rename_i hne H3 A3
    have hle := hs.le
    have hne' : kM ks us N.length m ≠ m := by
      have h9 : ¬ ((kM ks us N.length m : Nat) : Int) = (m : Int) := by simpa using hne
      omega
    refine ⟨2 ^ N.length - kM ks us N.length m, by omega, _, rfl, A3, kM_mono hs, hkl, fun c e => ?_, rfl⟩
    have h9 := kM_mono (ks := ks) (us := us) (n := N.length) (hc c e)
    rw [← e] at h9
    exact h9
  · rename_i heq
    refine k m _ A2 hlt ?_ hc
    have h9 : ((kM ks us N.length m : Nat) : Int) = (m : Int) := by simpa using heq
    omega
end
end Sw

namespace Sw
open PySem L2 PySem.W
def sp_Web_all_names (K : PySem.W.Frag) : Sp := fun vs H Q E => match vs with
  | [.ref p] => ∃ (N : List Str) (es : List (Str × Str)) (L : List Cell), (At H L) ∧ (WebIn K L p N es) ∧ (∀ (q : Addr) (H' : Hp), (At H' ((q, .lst ((srt N).map V.str)) :: L)) → Q (.ref q) H')
  | _ => False
end Sw
local macro_rules | `(tactic| walk_at "rdc") => `(tactic| ((with_reducible show Sw.sp_Web_all_names _ _ _ _ _); k_dflt (refine' ⟨_, _, _, ?h0, ?h1, ?_⟩); (case h0 => assumption); (case h1 => k_dflt (walk_at "web")); intro _ _ _))
local macro_rules | `(tactic| walk_at "call") => `(tactic| ((with_reducible show Sw.sp_Web_all_names _ _ _ _ _); k_dflt (refine' ⟨_, _, _, ?h0, ?h1, ?_⟩); (try (case h0 => assumption)); (try (case h1 => k_dflt (walk_at "web")))))
namespace Sw
open PySem L2 PySem.W
section
variable {P : Program} {w : World} {K : PySem.W.Frag} {mg : Str → Option Value} {base : Heap}
theorem sc_Web_all_names : FnScope ["self"] ["self"] (defScope (inClass (top 38) 1)) := ⟨rfl, rfl, rfl, by decide +kernel, rfl, by decide +kernel, by decide +kernel⟩
theorem ok_Web_all_names (T : Tx K mg) : MCal P w K mg base (He.ma K (He.ga K "Web") "all_names") 1 ["self"] (sp_Web_all_names K) := by
  have cl_Sieve := T.cl_Sieve
  have na_Sieve_order := T.na_Sieve_order
  have na_Sieve_hitters := T.na_Sieve_hitters
  have na_Sieve_hits := T.na_Sieve_hits
  have cl_Web := T.cl_Web
  have na_Web_strikers_by := T.na_Web_strikers_by
  have na_Web_struck_by := T.na_Web_struck_by
  have na_Web_own_pairs := T.na_Web_own_pairs
  refine mcal T.fd_Web_all_names (N := ["self"]) sc_Web_all_names (fun _ _ _ _ _ _ us hl => match us, hl with | [_], _ => rfl) (fun vs H Q E h => by
    unfold sp_Web_all_names at h
    split at h
    all_goals first | rfl | exact h.elim) ?_
  intro cdv A outer s H vs Q E hr h
  have hu := hu_of hr
  unfold sp_Web_all_names at h
  split at h
  rotate_left
  · exact h.elim
  rename_i p
  obtain ⟨N, es, L, h0, h1, k⟩ := h
  refine ⟨_, pss_one (ps_ret (pe_callB (Sw.call_srtK rfl hr.units) (by rfl) T.z_sorted (by decide +kernel) (pa_cons (pe_fld (pv 0) rfl) pa_nil))), ?_⟩
  try clear hu hr
  obtain ⟨w, hw, e1, e2⟩ := h1.ex
  have m0 := hw _ (.head _)
  have m1 := hw _ (.tail _ (.head _))
  walk_at "rd"
  rename_i q H2 A2
  rw [zr_keys, e1] at A2
  exact k _ _ A2
end
end Sw

namespace Sw
open PySem L2 PySem.W
def sp_clash_in : Sp := fun vs H Q E => match vs with
  | [.ref d, .ref q] => ∃ (f : Str → List Str) (Z : List (Str × Addr)) (N held : List Str) (L : List Cell), (At H L) ∧ ((d, HO.dK (dk (zr Z))) ∈ L) ∧ (∀ c ∈ zl f Z, c ∈ L) ∧ (Z.map Prod.fst = N) ∧ (N.Nodup) ∧ ((q, HO.lst (held.map V.str)) ∈ L) ∧ (∀ z ∈ held, z ∈ N) ∧ (∀ (t : Addr) (H' : Hp), (At H' (clashC t (clashF f held) ++ L)) → Q (opV t (clashF f held)) H')
  | _ => False
end Sw
local macro_rules | `(tactic| walk_at "rdc") => `(tactic| ((with_reducible show Sw.sp_clash_in _ _ _ _); k_dflt (refine' ⟨_, _, _, _, _, ?h0, ?h1, ?h2, ?h3, ?h4, ?h5, ?h6, ?_⟩); (case h0 => assumption); (case h1 => k_dflt (walk_at "mem")); (case h2 => k_dflt (walk_at "alm")); (case h3 => k_dflt (assumption)); (case h4 => k_dflt (assumption)); (case h5 => k_dflt (walk_at "mem")); (case h6 => k_dflt (assumption)); intro _ _ _))
local macro_rules | `(tactic| walk_at "call") => `(tactic| ((with_reducible show Sw.sp_clash_in _ _ _ _); k_dflt (refine' ⟨_, _, _, _, _, ?h0, ?h1, ?h2, ?h3, ?h4, ?h5, ?h6, ?_⟩); (try (case h0 => assumption)); (try (case h1 => k_dflt (walk_at "mem"))); (try (case h2 => k_dflt (walk_at "alm"))); (try (case h3 => k_dflt (assumption))); (try (case h4 => k_dflt (assumption))); (try (case h5 => k_dflt (walk_at "mem"))); (try (case h6 => k_dflt (assumption)))))
namespace Sw
open PySem L2 PySem.W
section
variable {P : Program} {w : World} {K : PySem.W.Frag} {mg : Str → Option Value} {base : Heap}
theorem sc_clash_in : FnScope ["strikers", "held", "other", "one"] ["strikers", "held"] (defScope (top 14)) := ⟨rfl, rfl, rfl, by decide +kernel, rfl, by decide +kernel, by decide +kernel⟩
theorem ok_clash_in (T : Tx K mg) : Cal P w K mg base "clash_in" 1 ["strikers", "held"] (sp_clash_in) := by
  refine T.f_clash_in.cal (N := ["strikers", "held", "other", "one"]) sc_clash_in (fun _ _ _ _ _ _ us hl => match us, hl with | [_, _], _ => rfl) (fun vs H Q E h => by
    unfold sp_clash_in at h
    split at h
    all_goals first | rfl | exact h.elim) ?_
  intro f cdv A outer s H vs Q E hr h
  have hu := hu_of hr
  unfold sp_clash_in at h
  split at h
  rotate_left
  · exact h.elim
  rename_i d q
  obtain ⟨f, Z, N, held, L, h0, h1, h2, h3, h4, h5, h6, k⟩ := h
  refine ⟨_, pss_cons (ps_for PassesOwn.never rfl (pi_list (pe_callB (Sw.call_srt hr.units) (by rfl) T.z_sorted (by decide +kernel) (pa_cons (pv 1) pa_nil))) (pg_name (i := 2) sc_clash_in.nd rfl (by first | exact Or.inl rfl | exact Or.inr rfl)) (pss_one (ps_for PassesOwn.never rfl (pi_list (pe_dget hu (pv 0) (pv 2) (fun _ _ => rfl))) (pg_name (i := 3) sc_clash_in.nd rfl (by first | exact Or.inl rfl | exact Or.inr rfl)) (pss_one (ps_if (pt_cmpR op_in_seq (pv 3) (pv 1) (by rfl)) (pss_one (ps_ret (pe_tup (pa_cons (pe_str) (pa_cons (pv 3) (pa_cons (pv 2) pa_nil)))))) (pss_nil))))))
 (pss_one (ps_ret (pe_non))), ?_⟩
  try clear hu hr
  walk_at "rd"
  rename_i b H1 A1
  refine Sw.loop_map (f := V.str) (zs := srt held) (fun i σ H' => ∃ v2 v3, σ = [some (.ref d), some (.ref q), v2, v3] ∧ At H' ((b, .lst ((srt held).map V.str)) :: L) ∧ ((srt held).take i).findSome? (fun y => ((f y).find? fun x => decide (x ∈ held)).map fun x => (x, y)) = none)
    ⟨_, _, rfl, A1, rfl⟩ (fun i σ H' ⟨_, _, _, A, _⟩ => SqL.of (A.rd (.head _))) ?_ ?_
  · rintro i y σ H2 hy ⟨v2, v3, rfl, A2, hn⟩
    have hyN : y ∈ N := h6 _ (srt_mem.mp (List.mem_of_getElem? hy))
    obtain ⟨az, hza⟩ := zr_has (Z := Z) (n := y) (by rw [h3]; exact hyN)
    have hlk := zr_at (by rw [h3]; exact h4) hza
    have hcell := h2 _ (zl_mem (f := f) hza)
    walk_at "rd"
    refine Sw.loop_map (f := V.str) (zs := f y) (fun j σ H' => ∃ v3, σ = [some (.ref d), some (.ref q), some (.str y), v3] ∧ At H' ((b, .lst ((srt held).map V.str)) :: L) ∧ ∀ x ∈ (f y).take j, decide (x ∈ held) = false)
      ⟨_, rfl, by walk_at "sb", fun _ m => nomatch m⟩ (fun i σ H' ⟨_, _, A, _⟩ => SqL.of (A.rd (by walk_at "mem"))) ?_ ?_
    · rintro j x σ H3 hx ⟨v3, rfl, A3, hp⟩
      walk_at "rd"
      · rename_i hin t H4 A4
        have e : clashF f held = some (x, y) := by
          unfold clashF
          refine findSome_take hy hn ?_
          rw [find_take hx hp (decide_eq_true hin)]
          rfl
        rw [e] at k
        exact k _ _ (by show At _ ((_, _) :: L); walk_at "sb")
      · rename_i hin
        exact ⟨_, rfl, by walk_at "sb", take_snoc hx hp (decide_eq_false hin)⟩
    · rintro σ H3 ⟨v3, rfl, A3, hp⟩
      rw [List.take_length] at hp
      exact ⟨_, _, rfl, by walk_at "sb", findSome_snoc hy hn (by show Option.map _ _ = none; rw [find_none hp]; rfl)⟩
  · rintro σ H2 ⟨v2, v3, rfl, A2, hn⟩
    rw [List.take_length] at hn
    have e : clashF f held = none := hn
    rw [e] at k
    walk_at "rd"
    exact k 0 _ (by show At _ L; walk_at "sb")
end
end Sw

namespace Sw
open PySem L2 PySem.W
def sp_unanswered_trees : Sp := fun vs H Q E => match vs with
  | [.ref d, .ref q] => ∃ (f : Str → List Str) (Z : List (Str × Addr)) (N held : List Str) (L : List Cell), (At H L) ∧ ((d, HO.dK (dk (zr Z))) ∈ L) ∧ (∀ c ∈ zl f Z, c ∈ L) ∧ (Z.map Prod.fst = N) ∧ (N.Nodup) ∧ ((q, HO.lst (held.map V.str)) ∈ L) ∧ (∀ z ∈ held, z ∈ N) ∧ (∀ z ∈ N, ∀ x ∈ f z, x ∈ N) ∧ (∀ z ∈ N, (f z).length ≤ 9000) ∧ (∀ (t : Addr) (H' : Hp), (At H' (twoC t (unansF f held) ++ L)) → Q (opV t (unansF f held)) H')
  | _ => False
end Sw
local macro_rules | `(tactic| walk_at "rdc") => `(tactic| ((with_reducible show Sw.sp_unanswered_trees _ _ _ _); k_dflt (refine' ⟨_, _, _, _, _, ?h0, ?h1, ?h2, ?h3, ?h4, ?h5, ?h6, ?h7, ?h8, ?_⟩); (case h0 => assumption); (case h1 => k_dflt (walk_at "mem")); (case h2 => k_dflt (walk_at "alm")); (case h3 => k_dflt (assumption)); (case h4 => k_dflt (assumption)); (case h5 => k_dflt (walk_at "mem")); (case h6 => k_dflt (assumption)); (case h7 => k_dflt (assumption)); (case h8 => k_dflt (assumption)); intro _ _ _))
local macro_rules | `(tactic| walk_at "call") => `(tactic| ((with_reducible show Sw.sp_unanswered_trees _ _ _ _); k_dflt (refine' ⟨_, _, _, _, _, ?h0, ?h1, ?h2, ?h3, ?h4, ?h5, ?h6, ?h7, ?h8, ?_⟩); (try (case h0 => assumption)); (try (case h1 => k_dflt (walk_at "mem"))); (try (case h2 => k_dflt (walk_at "alm"))); (try (case h3 => k_dflt (assumption))); (try (case h4 => k_dflt (assumption))); (try (case h5 => k_dflt (walk_at "mem"))); (try (case h6 => k_dflt (assumption))); (try (case h7 => k_dflt (assumption))); (try (case h8 => k_dflt (assumption)))))
namespace Sw
open PySem L2 PySem.W
section
variable {P : Program} {w : World} {K : PySem.W.Frag} {mg : Str → Option Value} {base : Heap}
theorem sc_unanswered_trees : FnScope ["strikers", "held", "one", "other", "name"] ["strikers", "held"] (defScope (top 15)) := ⟨rfl, rfl, rfl, by decide +kernel, rfl, by decide +kernel, by decide +kernel⟩
theorem ok_unanswered_trees (T : Tx K mg) : Cal P w K mg base "unanswered_trees" 1 ["strikers", "held"] (sp_unanswered_trees) := by
  refine T.f_unanswered_trees.cal (N := ["strikers", "held", "one", "other", "name"]) sc_unanswered_trees (fun _ _ _ _ _ _ us hl => match us, hl with | [_, _], _ => rfl) (fun vs H Q E h => by
    unfold sp_unanswered_trees at h
    split at h
    all_goals first | rfl | exact h.elim) ?_
  intro f cdv A outer s H vs Q E hr h
  have hu := hu_of hr
  unfold sp_unanswered_trees at h
  split at h
  rotate_left
  · exact h.elim
  rename_i d q
  obtain ⟨f, Z, N, held, L, h0, h1, h2, h3, h4, h5, h6, h7, h8, k⟩ := h
  refine' ⟨_, pss_cons (ps_for PassesOwn.never rfl (pi_list (pe_callB (Sw.call_srt hr.units) (by rfl) T.z_sorted (by decide +kernel) (pa_cons (pv 1) pa_nil))) (pg_name (i := 2) sc_unanswered_trees.nd rfl (by first | exact Or.inl rfl | exact Or.inr rfl)) (pss_one (ps_for PassesOwn.never rfl (pi_list (pe_dget hu (pv 0) (pv 2) (fun _ _ => rfl))) (pg_name (i := 3) sc_unanswered_trees.nd rfl (by first | exact Or.inl rfl | exact Or.inr rfl)) (pss_one (ps_if (pt_not (pt_val (pe_callB (cr_any rfl) (by rfl) T.z_any (by decide +kernel) (pa_cons (pe_lc (own := [("name", 4)]) (g := gName 4) (tt := tYes) rfl sc_unanswered_trees.nd (pi_list (pe_dget hu (pv 0) (pv 3) (fun _ _ => rfl))) (blkOk_by (N := ["strikers", "held", "one", "other", "name"]) (sc := defScope (top 15)) (by decide +kernel)) ?c1g ?c1t ?c1e) pa_nil)))) (pss_one (ps_ret (pe_tup (pa_cons (pv 2) (pa_cons (pv 3) pa_nil))))) (pss_nil))))))
 (pss_one (ps_ret (pe_non))), ?_⟩
  (case c1g => exact fun _ _ _ _ _ => pg_name (i := 4) sc_unanswered_trees.nd rfl (Or.inl rfl)); (case c1t => (intro _ _ _ _ _; refine' Sw.pts_te (pts_nil) ?c1tq; (case c1tq => (first | ((dsimp only [L2.Cx.blk]) <;> exact rfl) | exact rfl)))); (case c1e => (intro _ _ _ _ _; refine' Sw.pe_te (pe_cmpR op_in_seq (pv 4) (pv 1) (by rfl)) ?c1eq; (case c1eq => (first | ((dsimp only [L2.Cx.blk]) <;> exact rfl) | exact rfl))))
  try clear hu hr
  walk_at "rd"
  rename_i b H1 A1
  refine Sw.loop_map (f := V.str) (zs := srt held) (fun i σ H' => ∃ v2 v3 v4, σ = [some (.ref d), some (.ref q), v2, v3, v4] ∧ At H' ((b, .lst ((srt held).map V.str)) :: L) ∧ ((srt held).take i).findSome? (fun x => ((f x).find? fun y => !((f y).any fun z => decide (z ∈ held))).map fun y => (x, y)) = none)
    ⟨_, _, _, rfl, A1, rfl⟩ (fun i σ H' ⟨_, _, _, _, A, _⟩ => SqL.of (A.rd (.head _))) ?_ ?_
  · rintro i y σ H2 hy ⟨v2, v3, v4, rfl, A2, hn⟩
    have hyN : y ∈ N := h6 _ (srt_mem.mp (List.mem_of_getElem? hy))
    obtain ⟨az, hza⟩ := zr_has (Z := Z) (n := y) (by rw [h3]; exact hyN)
    have hlk := zr_at (by rw [h3]; exact h4) hza
    have hcell := h2 _ (zl_mem (f := f) hza)
    walk_at "rd"
    refine Sw.loop_map (f := V.str) (zs := f y) (fun j σ H' => ∃ v3 v4, σ = [some (.ref d), some (.ref q), some (.str y), v3, v4] ∧ At H' ((b, .lst ((srt held).map V.str)) :: L) ∧ ∀ x ∈ (f y).take j, (!((f x).any fun z => decide (z ∈ held))) = false)
      ⟨_, _, rfl, by walk_at "sb", fun _ m => nomatch m⟩ (fun i σ H' ⟨_, _, _, A, _⟩ => SqL.of (A.rd (by walk_at "mem"))) ?_ ?_
    · rintro j x σ H3 hx ⟨v3, v4, rfl, A3, hp⟩
      have hxN : x ∈ N := h7 y hyN x (List.mem_of_getElem? hx)
      obtain ⟨ax, hxa⟩ := zr_has (Z := Z) (n := x) (by rw [h3]; exact hxN)
      have hlk2 := zr_at (by rw [h3]; exact h4) hxa
      have hcell2 := h2 _ (zl_mem (f := f) hxa)
      have hfl := h8 x hxN
      clear hlk
      walk_at "rd"
      refine Sw.lc_list (us := f x) (F := V.str) A3 (by walk_at "mem") (by omega) (fun _ => true) (fun u => V.bl (decide (u ∈ held))) (fun u H4 D acc Yk Nk hu A4 hY hN => ?_) fun D H4 A4 => ?_
      · walk_at "rd"
        exact hY _ _ rfl rfl (by walk_at "sb")
      · rw [all_true_filter] at A4
        walk_at "rd"
        · rename_i hin t H5 A5
          have e : unansF f held = some (y, x) := by
            unfold unansF
            refine findSome_take hy hn ?_
            rw [find_take hx hp (by rw [hin]; rfl)]
            rfl
          rw [e] at k
          exact k _ _ (by show At _ ((_, _) :: L); walk_at "sb")
        · rename_i hin
          exact ⟨_, _, rfl, by walk_at "sb", take_snoc hx hp (by simpa using hin)⟩
    · rintro σ H3 ⟨v3, v4, rfl, A3, hp⟩
      rw [List.take_length] at hp
      exact ⟨_, _, _, rfl, by walk_at "sb", findSome_snoc hy hn (by show Option.map _ _ = none; rw [find_none hp]; rfl)⟩
  · rintro σ H2 ⟨v2, v3, v4, rfl, A2, hn⟩
    rw [List.take_length] at hn
    have e : unansF f held = none := hn
    rw [e] at k
    walk_at "rd"
    exact k 0 _ (by show At _ L; walk_at "sb")
end
end Sw

namespace Sw
open PySem L2 PySem.W
def sp_grown_from (n : Nat) : Sp := fun vs H Q E => match vs with
  | [.ref d, .ref q] => ∃ (f : Str → List Str) (Z : List (Str × Addr)) (N held : List Str) (L : List Cell), (At H L) ∧ ((d, HO.dK (dk (zr Z))) ∈ L) ∧ (∀ c ∈ zl f Z, c ∈ L) ∧ (Z.map Prod.fst = N) ∧ (N.Nodup) ∧ ((q, HO.lst (held.map V.str)) ∈ L) ∧ (∀ z ∈ held, z ∈ N) ∧ (∀ z ∈ N, ∀ x ∈ f z, x ∈ N) ∧ (∀ z ∈ N, (f z).length ≤ 9000) ∧ (outN N held < n ∧ held.length + n ≤ 90000) ∧ (∀ (t : Addr) (W : List Cell) (v : V) (H' : Hp), (At H' ((t, .tup [.str (grow f n held).word, v]) :: (W ++ L))) → (GrOk W v (grow f n held)) → Q (.ref t) H')
  | _ => False
end Sw
local macro_rules | `(tactic| walk_at "rdc") => `(tactic| ((with_reducible show Sw.sp_grown_from _ _ _ _ _); k_dflt (refine' ⟨_, _, _, _, _, ?h0, ?h1, ?h2, ?h3, ?h4, ?h5, ?h6, ?h7, ?h8, ?h9, ?_⟩); (case h0 => assumption); (case h1 => k_dflt (walk_at "mem")); (case h2 => k_dflt (walk_at "alm")); (case h3 => k_dflt (assumption)); (case h4 => k_dflt (assumption)); (case h5 => k_dflt (walk_at "mem")); (case h6 => k_dflt (assumption)); (case h7 => k_dflt (assumption)); (case h8 => k_dflt (assumption)); (case h9 => k_dflt (walk_at "om")); intro _ _ _ _ _ _))
local macro_rules | `(tactic| walk_at "call") => `(tactic| ((with_reducible show Sw.sp_grown_from _ _ _ _ _); k_dflt (refine' ⟨_, _, _, _, _, ?h0, ?h1, ?h2, ?h3, ?h4, ?h5, ?h6, ?h7, ?h8, ?h9, ?_⟩); (try (case h0 => assumption)); (try (case h1 => k_dflt (walk_at "mem"))); (try (case h2 => k_dflt (walk_at "alm"))); (try (case h3 => k_dflt (assumption))); (try (case h4 => k_dflt (assumption))); (try (case h5 => k_dflt (walk_at "mem"))); (try (case h6 => k_dflt (assumption))); (try (case h7 => k_dflt (assumption))); (try (case h8 => k_dflt (assumption))); (try (case h9 => k_dflt (walk_at "om")))))
namespace Sw
open PySem L2 PySem.W
section
variable {P : Program} {w : World} {K : PySem.W.Frag} {mg : Str → Option Value} {base : Heap}
theorem sc_grown_from : FnScope ["strikers", "held", "clash", "spot", "twigs", "name", "word", "found"] ["strikers", "held"] (defScope (top 17)) := ⟨rfl, rfl, rfl, by decide +kernel, rfl, by decide +kernel, by decide +kernel⟩
theorem okr_grown_from (T : Tx K mg) : ∀ n : Nat, Cal P w K mg base "grown_from" (2 + n) ["strikers", "held"] (sp_grown_from n) := by
  intro n
  induction n with
  | zero =>
  refine T.f_grown_from.cal (k := 1) (N := ["strikers", "held", "clash", "spot", "twigs", "name", "word", "found"]) sc_grown_from (fun _ _ _ _ _ _ us hl => match us, hl with | [_, _], _ => rfl) (fun vs H Q E h => by
    unfold sp_grown_from at h
    split at h
    all_goals first | rfl | exact h.elim) ?_
  intro f cdv A outer s H vs Q E hr h
  unfold sp_grown_from at h
  split at h
  rotate_left
  · exact h.elim
  rename_i d q
  obtain ⟨f, Z, N, held, L, h0, h1, h2, h3, h4, h5, h6, h7, h8, h9, k⟩ := h
  exact absurd h9.1 (Nat.not_lt_zero _)
  | succ n ih =>
  obtain ⟨f_cgrown_from, d_cgrown_from, m_cgrown_from, k_cgrown_from, b_cgrown_from, G_cgrown_from⟩ := ih.ex
  obtain ⟨f_cclash_in, d_cclash_in, m_cclash_in, k_cclash_in, b_cclash_in, G_cclash_in⟩ := (ok_clash_in (P := P) (w := w) (base := base) T).ex
  obtain ⟨f_cunanswered_trees, d_cunanswered_trees, m_cunanswered_trees, k_cunanswered_trees, b_cunanswered_trees, G_cunanswered_trees⟩ := (ok_unanswered_trees (P := P) (w := w) (base := base) T).ex
  have cl_Sieve := T.cl_Sieve
  have na_Sieve_order := T.na_Sieve_order
  have na_Sieve_hitters := T.na_Sieve_hitters
  have na_Sieve_hits := T.na_Sieve_hits
  have cl_Web := T.cl_Web
  have na_Web_strikers_by := T.na_Web_strikers_by
  have na_Web_struck_by := T.na_Web_struck_by
  have na_Web_own_pairs := T.na_Web_own_pairs
  refine T.f_grown_from.cal (k := 2 + n) (N := ["strikers", "held", "clash", "spot", "twigs", "name", "word", "found"]) sc_grown_from (fun _ _ _ _ _ _ us hl => match us, hl with | [_, _], _ => rfl) (fun vs H Q E h => by
    unfold sp_grown_from at h
    split at h
    all_goals first | rfl | exact h.elim) ?_
  intro f cdv A outer s H vs Q E hr h
  have hu := hu_of hr
  unfold sp_grown_from at h
  split at h
  rotate_left
  · exact h.elim
  rename_i d q
  obtain ⟨f, Z, N, held, L, h0, h1, h2, h3, h4, h5, h6, h7, h8, h9, k⟩ := h
  refine ⟨_, pss_cons (ps_set (i := 2) sc_grown_from.nd rfl (by first | exact Or.inl rfl | exact Or.inr rfl) (pe_call G_cclash_in (hr.mono (by omega)) (by rfl) m_cclash_in k_cclash_in b_cclash_in .nil pass0 (pa_cons (pv 0) (pa_cons (pv 1) pa_nil))))
 (pss_cons (ps_if (pt_cmpR Sw.op_notN (pv 2) (pe_non) (nomark _)) (pss_one (ps_ret (pe_tup (pa_cons (pe_str) (pa_cons (pv 2) pa_nil))))) (pss_nil))
 (pss_cons (ps_set (i := 3) sc_grown_from.nd rfl (by first | exact Or.inl rfl | exact Or.inr rfl) (pe_call G_cunanswered_trees (hr.mono (by omega)) (by rfl) m_cunanswered_trees k_cunanswered_trees b_cunanswered_trees .nil pass0 (pa_cons (pv 0) (pa_cons (pv 1) pa_nil))))
 (pss_cons (ps_if (pt_cmpR Sw.op_isN (pv 3) (pe_non) (nomark _)) (pss_one (ps_ret (pe_tup (pa_cons (pe_str) (pa_cons (pe_callB (Sw.call_srt hr.units) (by rfl) T.z_sorted (by decide +kernel) (pa_cons (pv 1) pa_nil)) pa_nil))))) (pss_nil))
 (pss_cons (ps_set (i := 4) sc_grown_from.nd rfl (by first | exact Or.inl rfl | exact Or.inr rfl) (pe_lst (pa_nil)))
 (pss_cons (ps_for PassesOwn.never rfl (pi_list (pe_dget hu (pv 0) (pe_ix ix_tup (pv 3) (pe_int) (fun _ _ => rfl)) (fun _ _ => rfl))) (pg_name (i := 5) sc_grown_from.nd rfl (by first | exact Or.inl rfl | exact Or.inr rfl)) (pss_cons (ps_asg (pe_call G_cgrown_from (hr.mono (by omega)) (by rfl) m_cgrown_from k_cgrown_from b_cgrown_from .nil pass0 (pa_cons (pv 0) (pa_cons (pe_op op_cat (pv 1) (pe_lst (pa_cons (pv 5) pa_nil))) pa_nil))) (pg_tup rfl (pgs_cons (pg_name (i := 6) sc_grown_from.nd rfl (by first | exact Or.inl rfl | exact Or.inr rfl)) (pgs_cons (pg_name (i := 7) sc_grown_from.nd rfl (by first | exact Or.inl rfl | exact Or.inr rfl)) pgs_nil))))
 (pss_cons (ps_if (pt_cmpR op_eq (pv 6) (pe_str) (nomark _)) (pss_one (ps_ret (pe_tup (pa_cons (pv 6) (pa_cons (pv 7) pa_nil))))) (pss_nil))
 (pss_one (ps_expr (pe_bm PySem.F.plainAttrs_list PySem.F.slot_list_append PySem.F.type_list_append mt_append (pv 4) (pa_cons (pv 7) pa_nil)))))))
 (pss_one (ps_ret (pe_tup (pa_cons (pe_str) (pa_cons (pe_tup (pa_cons (pe_str) (pa_cons (pe_ix ix_tup (pv 3) (pe_int) (fun _ _ => rfl)) (pa_cons (pe_ix ix_tup (pv 3) (pe_int) (fun _ _ => rfl)) (pa_cons (pe_callTy Sw.call_tuple (by rfl) T.z_tuple (by decide +kernel) (pa_cons (pv 4) pa_nil)) pa_nil))))) pa_nil)))))))))), ?_⟩
  try clear G_cclash_in b_cclash_in k_cclash_in m_cclash_in
  try clear d_cclash_in f_cclash_in
  try clear G_cunanswered_trees b_cunanswered_trees k_cunanswered_trees m_cunanswered_trees
  try clear d_cunanswered_trees f_cunanswered_trees
  try clear G_cgrown_from b_cgrown_from k_cgrown_from m_cgrown_from
  try clear d_cgrown_from f_cgrown_from
  try clear hu hr
  walk_at "rd"
  · rename_i t _ A1 hne p _ A2
    cases hc : clashF f held with
    | none =>
      rw [hc] at hne
      exact absurd rfl hne
    | some pp =>
      rw [hc] at A2
      rw [grow_clash hc] at k
      exact k p (clashC t (some pp)) (.ref t) _ A2 (.tup (.head _) (.cons (.str _) (.cons (.str _) (.cons (.str _) .nil))))
  · rename_i t1 _ A1 hn1 t _ A2 hn2 l _ A3 p _ A4
    cases hc : clashF f held with
    | some pp =>
      rw [hc] at hn1
      exact nomatch hn1
    | none =>
      cases hu : unansF f held with
      | some pp =>
        rw [hu] at hn2
        exact nomatch hn2
      | none =>
        rw [hc, hu] at A4
        rw [grow_tells hc hu] at k
        exact k p [(l, .lst ((srt held).map V.str))] (.ref l) _ A4 ⟨l, rfl, rfl⟩
  · rename_i t1 _ A1 hn1 t _ A2 hn2 tw H5 A3
    cases hc : clashF f held with
    | some pp =>
      rw [hc] at hn1
      exact nomatch hn1
    | none =>
      cases hu : unansF f held with
      | none =>
        rw [hu] at hn2
        exact absurd rfl hn2
      | some pp =>
        obtain ⟨u1, u2, u3⟩ := unans_some hu
        have hpN : pp.2 ∈ N := h7 _ (h6 _ u1) _ u2
        rw [grow_tries hc hu] at k
        have A5 : At H5 ((tw, HO.lst []) :: (t, .tup [.str pp.1, .str pp.2]) :: L) := by rw [hc, hu] at A3; exact A3
        clear A1 A2 A3 hn1 hn2
        obtain ⟨az, hza⟩ := zr_has (Z := Z) (n := pp.2) (by rw [h3]; exact hpN)
        have hlk := zr_at (by rw [h3]; exact h4) hza
        have hcell := h2 _ (zl_mem (f := f) hza)
        show rIxT _ (V.ref t) _ _ _
        walk_at "rd"
        refine Sw.loop_map (f := V.str) (zs := f pp.2) (fun i σ H' => ∃ v2 v5 v6 v7 vs ds WA, σ = [some (.ref d), some (.ref q), v2, some (.ref t), some (.ref tw), v5, v6, v7] ∧ At H' ((tw, .lst vs) :: (WA ++ ((t, .tup [.str pp.1, .str pp.2]) :: L))) ∧ RpAll WA vs ds ∧ ((f pp.2).take i).map (fun x => grow f n (held ++ [x])) = ds.map Grown.no)
          ⟨_, _, _, _, [], [], [], rfl, A5, .nil, rfl⟩ (fun i σ H' ⟨_, _, _, _, _, _, _, _, A, _⟩ => SqL.of (A.rd (by walk_at "mem"))) ?_ ?_
        · rintro i x σ H6 hx ⟨v2, v5, v6, v7, vs, ds, WA, rfl, A6, R6, e6⟩
          have hxm := List.mem_of_getElem? hx
          have hxN : x ∈ N := h7 _ hpN _ hxm
          have hlt := outN_snoc hxN (u3 x hxm)
          have hsub : ∀ z ∈ held ++ [x], z ∈ N := fun z m => by
            rcases List.mem_append.mp m with m | m
            · exact h6 z m
            · rw [List.mem_singleton.mp m]; exact hxN
          walk_at "rd"
          rename_i p1 _ A7 p2 H7 A8
          have A9 : At H7 ((p2, .lst ((held ++ [x]).map V.str)) :: (tw, .lst vs) :: (WA ++ ((t, .tup [.str pp.1, .str pp.2]) :: L))) := by
            rw [List.map_append]
            walk_at "sb"
          have hfuel : outN N (held ++ [x]) < n ∧ (held ++ [x]).length + n ≤ 90000 := by
            rw [List.length_append]
            exact ⟨by omega, by show held.length + 1 + n ≤ 90000; omega⟩
          have hvl : vs.length ≤ 9000 := by
            have q1 := R6.len
            have q2 := congrArg List.length e6
            rw [List.length_map, List.length_map, List.length_take] at q2
            have q3 := h8 _ hpN
            omega
          clear A7 A8
          walk_at "rd"
          · rename_i t2 W2 w2 _ A10 G2 hw p3 H10 A11
            cases hg : grow f n (held ++ [x]) with
            | no d' =>
              rw [hg] at hw
              exact absurd (show ("none" : Str) = "told" from hw) (by decide +kernel)
            | told l =>
              rw [hg] at A11 G2
              have eg : growL (fun x => grow f n (held ++ [x])) (answerD pp) (f pp.2) [] = .told l := growL_stop hx e6 hg
              rw [eg] at k
              obtain ⟨p4, rfl, rfl⟩ := G2
              exact k p3 [(p4, .lst (l.map V.str))] (.ref p4) H10 (by walk_at "sb") ⟨p4, rfl, rfl⟩
          · rename_i t2 W2 w2 _ A10 G2 hw H10 A11
            cases hg : grow f n (held ++ [x]) with
            | told l =>
              rw [hg] at hw
              exact absurd rfl hw
            | no d' =>
              rw [hg] at G2
              refine ⟨_, _, _, _, vs ++ [w2], ds ++ [d'], W2 ++ WA, rfl, by rw [List.append_assoc]; walk_at "sb", ?_, ?_⟩
              · exact RpAll.app (RpAll.mono (fun _ m => List.mem_append_right _ m) R6) (.cons (Rp.mono (fun _ m => List.mem_append_left _ m) G2) .nil)
              · rw [List.take_succ, hx, List.map_append, e6, List.map_append]
                show _ ++ [grow f n (held ++ [x])] = _
                rw [hg]
                rfl
        · rintro σ H6 ⟨v2, v5, v6, v7, vs, ds, WA, rfl, A6, R6, e6⟩
          rw [List.take_length] at e6
          walk_at "rd"
          rename_i tq _ _ ta _ _ tr H9 A9
          rw [growL_take e6] at k
          refine k tr ((ta, .tup [.str "answer", .str pp.1, .str pp.2, .ref tq]) :: (tq, .tup vs) :: WA) (.ref ta) H9 (by walk_at "sb") ?_
          exact .tup (.head _) (.cons (.str _) (.cons (.str _) (.cons (.str _) (.cons (.tup (.tail _ (.head _)) (RpAll.mono (fun _ m => .tail _ (.tail _ m)) R6)) .nil))))
theorem ok_grown_from (T : Tx K mg) : Cal P w K mg base "grown_from" (34) ["strikers", "held"] (sp_grown_from 32) := okr_grown_from T 32
end
end Sw

namespace Sw
open PySem L2 PySem.W
def sp_Web_look_name (K : PySem.W.Frag) : Sp := fun vs H Q E => match vs with
  | [.ref p, .str z] => ∃ (N : List Str) (es : List (Str × Str)) (L : List Cell), (At H L) ∧ (WebIn K L p N es) ∧ (z ∈ N) ∧ (nameB z = true) ∧ (∀ (H' : Hp), (At H' L) → Q (.non) H')
  | _ => False
end Sw
local macro_rules | `(tactic| walk_at "rdc") => `(tactic| ((with_reducible show Sw.sp_Web_look_name _ _ _ _ _); k_dflt (refine' ⟨_, _, _, ?h0, ?h1, ?h2, ?h3, ?_⟩); (case h0 => assumption); (case h1 => k_dflt (walk_at "web")); (case h2 => k_dflt (assumption)); (case h3 => k_dflt (assumption)); intro _ _))
local macro_rules | `(tactic| walk_at "call") => `(tactic| ((with_reducible show Sw.sp_Web_look_name _ _ _ _ _); k_dflt (refine' ⟨_, _, _, ?h0, ?h1, ?h2, ?h3, ?_⟩); (try (case h0 => assumption)); (try (case h1 => k_dflt (walk_at "web"))); (try (case h2 => k_dflt (assumption))); (try (case h3 => k_dflt (assumption)))))
namespace Sw
open PySem L2 PySem.W
section
variable {P : Program} {w : World} {K : PySem.W.Frag} {mg : Str → Option Value} {base : Heap}
theorem sc_Web_look_name : FnScope ["self", "name"] ["self", "name"] (defScope (inClass (top 38) 3)) := ⟨rfl, rfl, rfl, by decide +kernel, rfl, by decide +kernel, by decide +kernel⟩
theorem ok_Web_look_name (T : Tx K mg) : MCal P w K mg base (He.ma K (He.ga K "Web") "look_name") 2 ["self", "name"] (sp_Web_look_name K) := by
  obtain ⟨f_cis_name, d_cis_name, m_cis_name, k_cis_name, b_cis_name, G_cis_name⟩ := (ok_is_name (P := P) (w := w) (base := base) T).ex
  have cl_Sieve := T.cl_Sieve
  have na_Sieve_order := T.na_Sieve_order
  have na_Sieve_hitters := T.na_Sieve_hitters
  have na_Sieve_hits := T.na_Sieve_hits
  have cl_Web := T.cl_Web
  have na_Web_strikers_by := T.na_Web_strikers_by
  have na_Web_struck_by := T.na_Web_struck_by
  have na_Web_own_pairs := T.na_Web_own_pairs
  refine mcal T.fd_Web_look_name (N := ["self", "name"]) sc_Web_look_name (fun _ _ _ _ _ _ us hl => match us, hl with | [_, _], _ => rfl) (fun vs H Q E h => by
    unfold sp_Web_look_name at h
    split at h
    all_goals first | rfl | exact h.elim) ?_
  intro cdv A outer s H vs Q E hr h
  have hu := hu_of hr
  unfold sp_Web_look_name at h
  split at h
  rotate_left
  · exact h.elim
  rename_i p z
  obtain ⟨N, es, L, h0, h1, h2, h3, k⟩ := h
  refine ⟨_, pss_one (ps_if (PW.pt (pw_or (pt_not (pt_val (pe_call G_cis_name (hr.mono (by decide)) (by rfl) m_cis_name k_cis_name b_cis_name .nil pass0 (pa_cons (pv 1) pa_nil)))) (pw_or1 (pt_cmp (pc_dnotin hu (pv 1) (pe_fld (pv 0) rfl)))))) (pss_one (ps_never)) (pss_nil)), ?_⟩
  try clear G_cis_name b_cis_name k_cis_name m_cis_name
  try clear d_cis_name f_cis_name
  try clear hu hr
  obtain ⟨w, hw, e1, e2⟩ := h1.ex
  have m0 := hw _ (.head _)
  have m1 := hw _ (.tail _ (.head _))
  have hz := nameB_len h3
  walk_at "rd"
  · rename_i hb
    rw [h3] at hb
    cases hb
  · rename_i hb
    rw [zr_keys, e1] at hb
    exact absurd h2 hb
  · exact k _ (by assumption)
end
end Sw

namespace Sw
open PySem L2 PySem.W
def sp_Web_strikers (K : PySem.W.Frag) : Sp := fun vs H Q E => match vs with
  | [.ref p, .str z] => ∃ (N : List Str) (es : List (Str × Str)) (L : List Cell), (At H L) ∧ (WebIn K L p N es) ∧ (N.Nodup) ∧ (z ∈ N) ∧ (nameB z = true) ∧ (∀ (q : Addr) (H' : Hp), (At H' ((q, .lst ((srt (strikersOf es z)).map V.str)) :: L)) → Q (.ref q) H')
  | _ => False
end Sw
local macro_rules | `(tactic| walk_at "rdc") => `(tactic| ((with_reducible show Sw.sp_Web_strikers _ _ _ _ _); k_dflt (refine' ⟨_, _, _, ?h0, ?h1, ?h2, ?h3, ?h4, ?_⟩); (case h0 => assumption); (case h1 => k_dflt (walk_at "web")); (case h2 => k_dflt (assumption)); (case h3 => k_dflt (assumption)); (case h4 => k_dflt (assumption)); intro _ _ _))
local macro_rules | `(tactic| walk_at "call") => `(tactic| ((with_reducible show Sw.sp_Web_strikers _ _ _ _ _); k_dflt (refine' ⟨_, _, _, ?h0, ?h1, ?h2, ?h3, ?h4, ?_⟩); (try (case h0 => assumption)); (try (case h1 => k_dflt (walk_at "web"))); (try (case h2 => k_dflt (assumption))); (try (case h3 => k_dflt (assumption))); (try (case h4 => k_dflt (assumption)))))
namespace Sw
open PySem L2 PySem.W
section
variable {P : Program} {w : World} {K : PySem.W.Frag} {mg : Str → Option Value} {base : Heap}
theorem sc_Web_strikers : FnScope ["self", "name"] ["self", "name"] (defScope (inClass (top 38) 4)) := ⟨rfl, rfl, rfl, by decide +kernel, rfl, by decide +kernel, by decide +kernel⟩
theorem ok_Web_strikers (T : Tx K mg) : MCal P w K mg base (He.ma K (He.ga K "Web") "strikers") 3 ["self", "name"] (sp_Web_strikers K) := by
  obtain ⟨d_cWeb_look_name, b_cWeb_look_name, G_cWeb_look_name⟩ := (ok_Web_look_name (P := P) (w := w) (base := base) T).ex
  have C_cWeb_look_name := T.cl_Web
  have x_cWeb_look_name := T.me_Web_look_name
  have cl_Sieve := T.cl_Sieve
  have na_Sieve_order := T.na_Sieve_order
  have na_Sieve_hitters := T.na_Sieve_hitters
  have na_Sieve_hits := T.na_Sieve_hits
  have cl_Web := T.cl_Web
  have na_Web_strikers_by := T.na_Web_strikers_by
  have na_Web_struck_by := T.na_Web_struck_by
  have na_Web_own_pairs := T.na_Web_own_pairs
  refine mcal T.fd_Web_strikers (N := ["self", "name"]) sc_Web_strikers (fun _ _ _ _ _ _ us hl => match us, hl with | [_, _], _ => rfl) (fun vs H Q E h => by
    unfold sp_Web_strikers at h
    split at h
    all_goals first | rfl | exact h.elim) ?_
  intro cdv A outer s H vs Q E hr h
  have hu := hu_of hr
  unfold sp_Web_strikers at h
  split at h
  rotate_left
  · exact h.elim
  rename_i p z
  obtain ⟨N, es, L, h0, h1, h2, h3, h4, k⟩ := h
  refine ⟨_, pss_cons (ps_expr (pe_meth (pv 0) C_cWeb_look_name x_cWeb_look_name G_cWeb_look_name (hr.mono (by decide)) b_cWeb_look_name .nil pass0 (pa_cons (pv 1) pa_nil)))
 (pss_one (ps_ret (pe_callB (Sw.call_srt hr.units) (by rfl) T.z_sorted (by decide +kernel) (pa_cons (pe_dget hu (pe_fld (pv 0) rfl) (pv 1) (fun _ _ => rfl)) pa_nil)))), ?_⟩
  try clear G_cWeb_look_name b_cWeb_look_name
  try clear d_cWeb_look_name
  try clear C_cWeb_look_name x_cWeb_look_name
  try clear hu hr
  obtain ⟨w, hw, e1, e2⟩ := h1.ex
  have m0 := hw _ (.head _)
  have m2 := hw _ (.tail _ (.head _))
  obtain ⟨a, ha⟩ := zr_has (Z := w.Z1) (n := z) (by rw [e1]; exact h3)
  have ea := zr_at (by rw [e1]; exact h2) ha
  have ma := hw _ (.tail _ (.tail _ (.tail _ (.tail _ (List.mem_append_left _ (zl_mem (f := strikersOf es) ha))))))
  walk_at "rd"
  exact k _ _ (by assumption)
end
end Sw

namespace Sw
open PySem L2 PySem.W
def sp_strikers_by (K : PySem.W.Frag) : Sp := fun vs H Q E => match vs with
  | [.ref p] => ∃ (N : List Str) (es : List (Str × Str)) (L : List Cell), (At H L) ∧ (WebIn K L p N es) ∧ (N.Nodup) ∧ (∀ y ∈ N, nameB y = true) ∧ (N.length ≤ 1000) ∧ (∀ (d : Addr) (Z : List (Str × Addr)) (H' : Hp), (At H' ((d, .dK (dk (zr Z))) :: (zl (fun n => srt (strikersOf es n)) Z ++ L))) → (Z.map Prod.fst = srt N) → Q (.ref d) H')
  | _ => False
end Sw
local macro_rules | `(tactic| walk_at "rdc") => `(tactic| ((with_reducible show Sw.sp_strikers_by _ _ _ _ _); k_dflt (refine' ⟨_, _, _, ?h0, ?h1, ?h2, ?h3, ?h4, ?_⟩); (case h0 => assumption); (case h1 => k_dflt (walk_at "web")); (case h2 => k_dflt (assumption)); (case h3 => k_dflt (assumption)); (case h4 => k_dflt (walk_at "om")); intro _ _ _ _ _))
local macro_rules | `(tactic| walk_at "call") => `(tactic| ((with_reducible show Sw.sp_strikers_by _ _ _ _ _); k_dflt (refine' ⟨_, _, _, ?h0, ?h1, ?h2, ?h3, ?h4, ?_⟩); (try (case h0 => assumption)); (try (case h1 => k_dflt (walk_at "web"))); (try (case h2 => k_dflt (assumption))); (try (case h3 => k_dflt (assumption))); (try (case h4 => k_dflt (walk_at "om")))))
namespace Sw
open PySem L2 PySem.W
section
variable {P : Program} {w : World} {K : PySem.W.Frag} {mg : Str → Option Value} {base : Heap}
theorem sc_strikers_by : FnScope ["web", "name"] ["web"] (defScope (top 13)) := ⟨rfl, rfl, rfl, by decide +kernel, rfl, by decide +kernel, by decide +kernel⟩
theorem ok_strikers_by (T : Tx K mg) : Cal P w K mg base "strikers_by" 4 ["web"] (sp_strikers_by K) := by
  obtain ⟨d_cWeb_all_names, b_cWeb_all_names, G_cWeb_all_names⟩ := (ok_Web_all_names (P := P) (w := w) (base := base) T).ex
  have C_cWeb_all_names := T.cl_Web
  have x_cWeb_all_names := T.me_Web_all_names
  obtain ⟨d_cWeb_strikers, b_cWeb_strikers, G_cWeb_strikers⟩ := (ok_Web_strikers (P := P) (w := w) (base := base) T).ex
  have C_cWeb_strikers := T.cl_Web
  have x_cWeb_strikers := T.me_Web_strikers
  have cl_Sieve := T.cl_Sieve
  have na_Sieve_order := T.na_Sieve_order
  have na_Sieve_hitters := T.na_Sieve_hitters
  have na_Sieve_hits := T.na_Sieve_hits
  have cl_Web := T.cl_Web
  have na_Web_strikers_by := T.na_Web_strikers_by
  have na_Web_struck_by := T.na_Web_struck_by
  have na_Web_own_pairs := T.na_Web_own_pairs
  refine T.f_strikers_by.cal (N := ["web", "name"]) sc_strikers_by (fun _ _ _ _ _ _ us hl => match us, hl with | [_], _ => rfl) (fun vs H Q E h => by
    unfold sp_strikers_by at h
    split at h
    all_goals first | rfl | exact h.elim) ?_
  intro f cdv A outer s H vs Q E hr h
  have hu := hu_of hr
  unfold sp_strikers_by at h
  split at h
  rotate_left
  · exact h.elim
  rename_i p
  obtain ⟨N, es, L, h0, h1, h2, h3, h4, k⟩ := h
  refine' ⟨_, pss_one (ps_ret (pe_callTy (Sw.call_dictP rfl) (by rfl) T.z_dict (by decide +kernel) (pa_cons (pe_lc (own := [("name", 1)]) (g := gName 1) (tt := tYes) rfl sc_strikers_by.nd (pi_list (pe_meth0 (pv 0) C_cWeb_all_names x_cWeb_all_names G_cWeb_all_names (hr.mono (by decide)) b_cWeb_all_names .nil pass0)) (blkOk_by (N := ["web", "name"]) (sc := defScope (top 13)) (by decide +kernel)) ?c1g ?c1t ?c1e) pa_nil))), ?_⟩
  (case c1g => exact fun _ _ _ _ _ => pg_name (i := 1) sc_strikers_by.nd rfl (Or.inl rfl)); (case c1t => (intro _ _ _ _ _; refine' Sw.pts_te (pts_nil) ?c1tq; (case c1tq => (first | ((dsimp only [L2.Cx.blk]) <;> exact rfl) | exact rfl)))); (case c1e => (intro _ _ _ _ _; refine' Sw.pe_te (pe_tup (pa_cons (pv 1) (pa_cons (pe_meth (pv 0) C_cWeb_strikers x_cWeb_strikers G_cWeb_strikers (hr.mono (by decide)) b_cWeb_strikers .nil pass0 (pa_cons (pv 1) pa_nil)) pa_nil))) ?c1eq; (case c1eq => (first | ((dsimp only [L2.Cx.blk]) <;> exact rfl) | exact rfl))))
  try clear G_cWeb_all_names b_cWeb_all_names
  try clear d_cWeb_all_names
  try clear C_cWeb_all_names x_cWeb_all_names
  try clear G_cWeb_strikers b_cWeb_strikers
  try clear d_cWeb_strikers
  try clear C_cWeb_strikers x_cWeb_strikers
  try clear hu hr
  have hsl := srt_len N
  obtain ⟨w, hw, e1, e2⟩ := h1.ex
  have m0 := hw _ (.head _)
  walk_at "rd"
  rename_i q H1 A1
  refine Sw.lc_ways (us := srt N) (fun n => srt (strikersOf es n)) A1 (.head _) (by omega) (fun u H2 D acc C Yk Nk hu A2 hY => ?_) fun D zs H2 A2 ez => ?_
  · have hun : u ∈ N := srt_mem.mp hu
    have hub := h3 u hun
    walk_at "rd"
    exact hY _ _ _ (by walk_at "sb")
  · have ez2 : (zs.map Prod.snd).map Prod.fst = srt N := by rw [List.map_map]; exact ez
    walk_at "rd"
    refine Sw.rd_dictWay A2 (.head _) (fun c m => .tail _ (List.mem_append_left _ m)) (by rw [ez]; exact srt_nodup.mpr h2) fun d H3 A3 => ?_
    walk_at "rd"
    exact k d _ _ (by walk_at "sb") ez2
end
end Sw

namespace Sw
open PySem L2 PySem.W
def sp_standing_with (K : PySem.W.Frag) : Sp := fun vs H Q E => match vs with
  | [.ref p, .ref q] => ∃ (t : Bool) (ys : List Str) (N : List Str) (es : List (Str × Str)) (L : List Cell), (At H L) ∧ ((q, rowO t (ys.map V.str)) ∈ L) ∧ (WebIn K L p N es) ∧ (N.Nodup) ∧ (SOk N es) ∧ (∀ y ∈ N, nameB y = true) ∧ (∀ y ∈ ys, y ∈ N) ∧ (N.length ≤ 30 ∧ ys.length ≤ 1000 ∧ es.length ≤ 9000) ∧ (∀ (r : Addr) (W : List Cell) (v : V) (H' : Hp), (At H' ((r, .tup [.str (grow (skF es) 32 ys).word, v]) :: (W ++ L))) → (GrOk W v (grow (skF es) 32 ys)) → Q (.ref r) H')
  | _ => False
end Sw
local macro_rules | `(tactic| walk_at "rdc") => `(tactic| ((with_reducible show Sw.sp_standing_with _ _ _ _ _); k_dflt (refine' ⟨_, _, _, _, _, ?h0, ?h1, ?h2, ?h3, ?h4, ?h5, ?h6, ?h7, ?_⟩); (case h0 => assumption); (case h1 => k_dflt (walk_at "row")); (case h2 => k_dflt (walk_at "web")); (case h3 => k_dflt (assumption)); (case h4 => k_dflt (assumption)); (case h5 => k_dflt (assumption)); (case h6 => k_dflt (walk_at "sub")); (case h7 => k_dflt (walk_at "om")); intro _ _ _ _ _ _))
local macro_rules | `(tactic| walk_at "call") => `(tactic| ((with_reducible show Sw.sp_standing_with _ _ _ _ _); k_dflt (refine' ⟨_, _, _, _, _, ?h0, ?h1, ?h2, ?h3, ?h4, ?h5, ?h6, ?h7, ?_⟩); (try (case h0 => assumption)); (try (case h1 => k_dflt (walk_at "row"))); (try (case h2 => k_dflt (walk_at "web"))); (try (case h3 => k_dflt (assumption))); (try (case h4 => k_dflt (assumption))); (try (case h5 => k_dflt (assumption))); (try (case h6 => k_dflt (walk_at "sub"))); (try (case h7 => k_dflt (walk_at "om")))))
namespace Sw
open PySem L2 PySem.W
section
variable {P : Program} {w : World} {K : PySem.W.Frag} {mg : Str → Option Value} {base : Heap}
theorem sc_standing_with : FnScope ["web", "some"] ["web", "some"] (defScope (top 18)) := ⟨rfl, rfl, rfl, by decide +kernel, rfl, by decide +kernel, by decide +kernel⟩
theorem ok_standing_with (T : Tx K mg) : Cal P w K mg base "standing_with" 35 ["web", "some"] (sp_standing_with K) := by
  obtain ⟨f_cgrown_from, d_cgrown_from, m_cgrown_from, k_cgrown_from, b_cgrown_from, G_cgrown_from⟩ := (ok_grown_from (P := P) (w := w) (base := base) T).ex
  obtain ⟨f_cstrikers_by, d_cstrikers_by, m_cstrikers_by, k_cstrikers_by, b_cstrikers_by, G_cstrikers_by⟩ := (ok_strikers_by (P := P) (w := w) (base := base) T).ex
  refine T.f_standing_with.cal (N := ["web", "some"]) sc_standing_with (fun _ _ _ _ _ _ us hl => match us, hl with | [_, _], _ => rfl) (fun vs H Q E h => by
    unfold sp_standing_with at h
    split at h
    all_goals first | rfl | exact h.elim) ?_
  intro f cdv A outer s H vs Q E hr h
  have hu := hu_of hr
  unfold sp_standing_with at h
  split at h
  rotate_left
  · exact h.elim
  rename_i p q
  obtain ⟨t, ys, N, es, L, h0, h1, h2, h3, h4, h5, h6, h7, k⟩ := h
  refine ⟨_, pss_one (ps_ret (pe_call G_cgrown_from (hr.mono (by decide)) (by rfl) m_cgrown_from k_cgrown_from b_cgrown_from .nil pass0 (pa_cons (pe_call G_cstrikers_by (hr.mono (by decide)) (by rfl) m_cstrikers_by k_cstrikers_by b_cstrikers_by .nil pass0 (pa_cons (pv 0) pa_nil)) (pa_cons (pe_callTy Sw.call_list (by rfl) T.z_list (by decide +kernel) (pa_cons (pv 1) pa_nil)) pa_nil)))), ?_⟩
  try clear G_cgrown_from b_cgrown_from k_cgrown_from m_cgrown_from
  try clear d_cgrown_from f_cgrown_from
  try clear G_cstrikers_by b_cstrikers_by k_cstrikers_by m_cstrikers_by
  try clear d_cstrikers_by f_cstrikers_by
  try clear hu hr
  walk_at "rd"
  rename_i d Z _ A1 ez l H2 A2
  have hnd : (srt N).Nodup := srt_nodup.mpr h3
  have hs : ∀ z ∈ ys, z ∈ srt N := fun z m => srt_mem.mpr (h6 z m)
  have hf : ∀ z ∈ srt N, ∀ x ∈ skF es z, x ∈ srt N := fun z m x mx => srt_mem.mpr (skF_in h4 z (srt_mem.mp m) x mx)
  have hl : ∀ z ∈ srt N, (skF es z).length ≤ 9000 := fun z _ => by
    have := strikersOf_len es z
    rw [srt_len]
    omega
  have hfuel : outN (srt N) ys < 32 ∧ ys.length + 32 ≤ 90000 := by
    have h8 := outN_le (srt N) ys
    rw [srt_len] at h8
    exact ⟨by omega, by omega⟩
  have A3 : At H2 ((l, .lst (ys.map V.str)) :: (d, .dK (dk (zr Z))) :: (zl (skF es) Z ++ L)) := A2
  clear A1 A2
  walk_at "rd"
  rename_i r W v _ A4 G
  exact k r W v _ (by walk_at "sb") G
end
end Sw

namespace Sw
open PySem L2 PySem.W
def sp_answers_by_name (K : PySem.W.Frag) : Sp := fun vs H Q E => match vs with
  | [.ref p] => ∃ (N : List Str) (es : List (Str × Str)) (L : List Cell), (At H L) ∧ (WebIn K L p N es) ∧ (N.Nodup) ∧ (SOk N es) ∧ (∀ y ∈ N, nameB y = true) ∧ (N.length ≤ 30 ∧ es.length ≤ 9000) ∧ (∀ (d : Addr) (Z : List (Str × Addr)) (vf : Str → V) (W : List Cell) (H' : Hp), (At H' ((d, .dK (dk (zr Z))) :: (W ++ L))) → (Z.map Prod.fst = srt N) → (∀ z a, (z, a) ∈ Z → (a, HO.tup [.str (grow (skF es) 32 [z]).word, vf z]) ∈ W) → (∀ z ∈ N, GrIn W (vf z) (grow (skF es) 32 [z])) → Q (.ref d) H')
  | _ => False
end Sw
local macro_rules | `(tactic| walk_at "rdc") => `(tactic| ((with_reducible show Sw.sp_answers_by_name _ _ _ _ _); k_dflt (refine' ⟨_, _, _, ?h0, ?h1, ?h2, ?h3, ?h4, ?h5, ?_⟩); (case h0 => assumption); (case h1 => k_dflt (walk_at "web")); (case h2 => k_dflt (assumption)); (case h3 => k_dflt (assumption)); (case h4 => k_dflt (assumption)); (case h5 => k_dflt (walk_at "om")); intro _ _ _ _ _ _ _ _ _))
local macro_rules | `(tactic| walk_at "call") => `(tactic| ((with_reducible show Sw.sp_answers_by_name _ _ _ _ _); k_dflt (refine' ⟨_, _, _, ?h0, ?h1, ?h2, ?h3, ?h4, ?h5, ?_⟩); (try (case h0 => assumption)); (try (case h1 => k_dflt (walk_at "web"))); (try (case h2 => k_dflt (assumption))); (try (case h3 => k_dflt (assumption))); (try (case h4 => k_dflt (assumption))); (try (case h5 => k_dflt (walk_at "om")))))
namespace Sw
open PySem L2 PySem.W
section
variable {P : Program} {w : World} {K : PySem.W.Frag} {mg : Str → Option Value} {base : Heap}
local macro_rules | `(tactic| walk_at "brp") => `(tactic| first | (refine' Sw.rd_brNY ?h ?_; (case h => assumption)) | (refine' Sw.rd_brNN ?h ?_; (case h => assumption)) | (refine' Sw.rd_brY ?h ?_; (case h => assumption)) | (refine' Sw.rd_brNo ?h ?_; (case h => assumption)))
theorem sc_answers_by_name : FnScope ["web", "answers", "name"] ["web"] (defScope (top 26)) := ⟨rfl, rfl, rfl, by decide +kernel, rfl, by decide +kernel, by decide +kernel⟩
theorem ok_answers_by_name (T : Tx K mg) : Cal P w K mg base "answers_by_name" 36 ["web"] (sp_answers_by_name K) := by
  obtain ⟨d_cWeb_all_names, b_cWeb_all_names, G_cWeb_all_names⟩ := (ok_Web_all_names (P := P) (w := w) (base := base) T).ex
  have C_cWeb_all_names := T.cl_Web
  have x_cWeb_all_names := T.me_Web_all_names
  obtain ⟨f_cstanding_with, d_cstanding_with, m_cstanding_with, k_cstanding_with, b_cstanding_with, G_cstanding_with⟩ := (ok_standing_with (P := P) (w := w) (base := base) T).ex
  have cl_Sieve := T.cl_Sieve
  have na_Sieve_order := T.na_Sieve_order
  have na_Sieve_hitters := T.na_Sieve_hitters
  have na_Sieve_hits := T.na_Sieve_hits
  have cl_Web := T.cl_Web
  have na_Web_strikers_by := T.na_Web_strikers_by
  have na_Web_struck_by := T.na_Web_struck_by
  have na_Web_own_pairs := T.na_Web_own_pairs
  refine T.f_answers_by_name.cal (N := ["web", "answers", "name"]) sc_answers_by_name (fun _ _ _ _ _ _ us hl => match us, hl with | [_], _ => rfl) (fun vs H Q E h => by
    unfold sp_answers_by_name at h
    split at h
    all_goals first | rfl | exact h.elim) ?_
  intro f cdv A outer s H vs Q E hr h
  have hu := hu_of hr
  unfold sp_answers_by_name at h
  split at h
  rotate_left
  · exact h.elim
  rename_i p
  obtain ⟨N, es, L, h0, h1, h2, h3, h4, h5, k⟩ := h
  refine ⟨_, pss_cons (ps_set (i := 1) sc_answers_by_name.nd rfl (by first | exact Or.inl rfl | exact Or.inr rfl) (pe_dnewK))
 (pss_cons (ps_for PassesOwn.never rfl (pi_list (pe_meth0 (pv 0) C_cWeb_all_names x_cWeb_all_names G_cWeb_all_names (hr.mono (by decide)) b_cWeb_all_names .nil pass0)) (pg_name (i := 2) sc_answers_by_name.nd rfl (by first | exact Or.inl rfl | exact Or.inr rfl)) (pss_one (ps_dput hu (pv 1) (pv 2) (pe_call G_cstanding_with (hr.mono (by decide)) (by rfl) m_cstanding_with k_cstanding_with b_cstanding_with .nil pass0 (pa_cons (pv 0) (pa_cons (pe_lst (pa_cons (pv 2) pa_nil)) pa_nil))) rfl)))
 (pss_one (ps_ret (pv 1)))), ?_⟩
  try clear G_cWeb_all_names b_cWeb_all_names
  try clear d_cWeb_all_names
  try clear C_cWeb_all_names x_cWeb_all_names
  try clear G_cstanding_with b_cstanding_with k_cstanding_with m_cstanding_with
  try clear d_cstanding_with f_cstanding_with
  try clear hu hr
  have hsl := srt_len N
  have hnd : (srt N).Nodup := srt_nodup.mpr h2
  obtain ⟨w9, hw9, e19, e29⟩ := h1.ex
  have m0 := hw9 _ (.head _)
  clear hw9
  walk_at "rd"
  rename_i d _ A1 q H2 A2
  refine Sw.loop_map (f := V.str) (zs := srt N) (fun j σ H' => ∃ Z vf W v2, σ = [some (.ref p), some (.ref d), v2] ∧ At H' ((d, .dK (dk (zr Z))) :: (W ++ ((q, .lst ((srt N).map V.str)) :: L))) ∧ Z.map Prod.fst = (srt N).take j ∧ (∀ z a, (z, a) ∈ Z → (a, HO.tup [.str (grow (skF es) 32 [z]).word, vf z]) ∈ W) ∧ ∀ z ∈ (srt N).take j, GrIn W (vf z) (grow (skF es) 32 [z]))
    ⟨[], fun _ => .non, [], _, rfl, by walk_at "sb", rfl, (fun _ _ m => nomatch m), (fun _ m => nomatch m)⟩ (fun j σ H' ⟨_, _, _, _, _, A, _⟩ => SqL.of (A.rd (by walk_at "mem"))) ?_ ?_
  · rintro j z σ H3 hz ⟨Z, vf, W, v2, rfl, A3, eZ, hZ, hG⟩
    have hzm : z ∈ N := srt_mem.mp (List.mem_of_getElem? hz)
    have sz : ∀ y ∈ [z], y ∈ N := fun y m => by
      rw [List.mem_singleton.mp m]
      exact hzm
    have hl9 : N.length ≤ 30 ∧ ([z] : List Str).length ≤ 1000 ∧ es.length ≤ 9000 := ⟨h5.1, by show 1 ≤ 1000; decide, h5.2⟩
    have hjl : j < (srt N).length := (List.getElem?_eq_some_iff.mp hz).1
    have hno : ¬ z ∈ Z.map Prod.fst := fun m => by
      rw [eZ] at m
      obtain ⟨i, hi⟩ := List.getElem?_of_mem m
      have hij : i < j := by
        have := (List.getElem?_eq_some_iff.mp hi).1
        rw [List.length_take] at this
        omega
      rw [List.getElem?_take_of_lt hij] at hi
      have := at_inj hnd hi hz
      omega
    have hlk := zr_none hno
    have hZl : Z.length ≤ 30 := by
      have e9 := congrArg List.length eZ
      rw [List.length_map, List.length_take] at e9
      omega
    have hzr : (zr Z).length < 100000 := by
      unfold zr
      rw [List.length_map]
      omega
    clear A1 A2
    walk_at "rdn"
    rename_i p3 H4 A4
    have A5 : At H4 ((p3, .lst (([z] : List Str).map V.str)) :: (d, .dK (dk (zr Z))) :: (W ++ ((q, .lst ((srt N).map V.str)) :: L))) := A4
    clear A3 A4
    walk_at "rd"
    rename_i r W3 u H5 _ G H6 A6
    refine ⟨Z ++ [(z, r)], (fun y => if y = z then u else vf y), (r, HO.tup [.str (grow (skF es) 32 [z]).word, u]) :: (W3 ++ W), _, rfl, ?_, ?_, fun y a m => ?_, fun y m => ?_⟩
    · rw [zr_snoc]
      rw [List.cons_append, List.append_assoc]
      walk_at "sb"
    · rw [List.map_append, eZ, List.take_succ, hz]
      rfl
    · rcases List.mem_append.mp m with m | m
      · have hyz : y ≠ z := fun e => hno (e ▸ List.mem_map.mpr ⟨_, m, rfl⟩)
        dsimp only
        rw [if_neg hyz]
        exact .tail _ (List.mem_append_right _ (hZ y a m))
      · cases List.mem_singleton.mp m
        dsimp only
        rw [if_pos rfl]
        exact .head _
    · rw [List.take_succ, hz] at m
      rcases List.mem_append.mp m with m | m
      · have hyz : y ≠ z := fun e => by
          rw [← eZ] at m
          exact hno (e ▸ m)
        dsimp only
        rw [if_neg hyz]
        exact (hG y m).mono fun c m => .tail _ (List.mem_append_right _ m)
      · cases List.mem_singleton.mp m
        dsimp only
        rw [if_pos rfl]
        exact G.inn fun c m => .tail _ (List.mem_append_left _ m)
  · rintro σ H3 ⟨Z, vf, W, v2, rfl, A3, eZ, hZ, hG⟩
    rw [List.take_length] at eZ hG
    walk_at "rd"
    exact k d Z vf W _ (by walk_at "sb") eZ hZ fun z m => hG z (srt_mem.mpr m)
end
end Sw

namespace Sw
open PySem L2 PySem.W
def sp_first_drop (K : PySem.W.Frag) : Sp := fun vs H Q E => match vs with
  | [.ref p, .str z, .ref d] => ∃ (N : List Str) (es : List (Str × Str)) (Z : List (Str × Addr)) (vf : Str → V) (W L : List Cell), (At H L) ∧ (WebIn K L p N es) ∧ ((d, HO.dK (dk (zr Z))) ∈ L) ∧ (∀ c ∈ W, c ∈ L) ∧ (Z.map Prod.fst = srt N) ∧ (∀ z a, (z, a) ∈ Z → (a, HO.tup [.str (grow (skF es) 32 [z]).word, vf z]) ∈ W) ∧ (∀ z ∈ N, GrIn W (vf z) (grow (skF es) 32 [z])) ∧ (N.Nodup) ∧ (SOk N es) ∧ (∀ y ∈ N, nameB y = true) ∧ (N.length ≤ 30 ∧ es.length ≤ 9000) ∧ (z ∈ N) ∧ (∀ (v : V) (C : List Cell) (H' : Hp), (At H' (C ++ L)) → (whyOwn W C v (firstD (skF es) z)) → Q (v) H')
  | _ => False
end Sw
local macro_rules | `(tactic| walk_at "rdc") => `(tactic| ((with_reducible show Sw.sp_first_drop _ _ _ _ _); k_dflt (refine' ⟨_, _, _, _, _, _, ?h0, ?h1, ?h2, ?h3, ?h4, ?h5, ?h6, ?h7, ?h8, ?h9, ?h10, ?h11, ?_⟩); (case h0 => assumption); (case h1 => k_dflt (walk_at "web")); (case h2 => k_dflt (walk_at "mem")); (case h3 => k_dflt (assumption)); (case h4 => k_dflt (assumption)); (case h5 => k_dflt (assumption)); (case h6 => k_dflt (assumption)); (case h7 => k_dflt (assumption)); (case h8 => k_dflt (assumption)); (case h9 => k_dflt (assumption)); (case h10 => k_dflt (walk_at "om")); (case h11 => k_dflt (assumption)); intro _ _ _ _ _))
local macro_rules | `(tactic| walk_at "call") => `(tactic| ((with_reducible show Sw.sp_first_drop _ _ _ _ _); k_dflt (refine' ⟨_, _, _, _, _, _, ?h0, ?h1, ?h2, ?h3, ?h4, ?h5, ?h6, ?h7, ?h8, ?h9, ?h10, ?h11, ?_⟩); (try (case h0 => assumption)); (try (case h1 => k_dflt (walk_at "web"))); (try (case h2 => k_dflt (walk_at "mem"))); (try (case h3 => k_dflt (assumption))); (try (case h4 => k_dflt (assumption))); (try (case h5 => k_dflt (assumption))); (try (case h6 => k_dflt (assumption))); (try (case h7 => k_dflt (assumption))); (try (case h8 => k_dflt (assumption))); (try (case h9 => k_dflt (assumption))); (try (case h10 => k_dflt (walk_at "om"))); (try (case h11 => k_dflt (assumption)))))
namespace Sw
open PySem L2 PySem.W
section
variable {P : Program} {w : World} {K : PySem.W.Frag} {mg : Str → Option Value} {base : Heap}
local macro_rules | `(tactic| walk_at "brp") => `(tactic| first | (refine' Sw.rd_brNY ?h ?_; (case h => assumption)) | (refine' Sw.rd_brNN ?h ?_; (case h => assumption)) | (refine' Sw.rd_brY ?h ?_; (case h => assumption)) | (refine' Sw.rd_brNo ?h ?_; (case h => assumption)))
theorem sc_first_drop : FnScope ["web", "name", "answers", "one", "word", "thing"] ["web", "name", "answers"] (defScope (top 27)) := ⟨rfl, rfl, rfl, by decide +kernel, rfl, by decide +kernel, by decide +kernel⟩
theorem ok_first_drop (T : Tx K mg) : Cal P w K mg base "first_drop" 4 ["web", "name", "answers"] (sp_first_drop K) := by
  obtain ⟨d_cWeb_strikers, b_cWeb_strikers, G_cWeb_strikers⟩ := (ok_Web_strikers (P := P) (w := w) (base := base) T).ex
  have C_cWeb_strikers := T.cl_Web
  have x_cWeb_strikers := T.me_Web_strikers
  have cl_Sieve := T.cl_Sieve
  have na_Sieve_order := T.na_Sieve_order
  have na_Sieve_hitters := T.na_Sieve_hitters
  have na_Sieve_hits := T.na_Sieve_hits
  have cl_Web := T.cl_Web
  have na_Web_strikers_by := T.na_Web_strikers_by
  have na_Web_struck_by := T.na_Web_struck_by
  have na_Web_own_pairs := T.na_Web_own_pairs
  refine T.f_first_drop.cal (N := ["web", "name", "answers", "one", "word", "thing"]) sc_first_drop (fun _ _ _ _ _ _ us hl => match us, hl with | [_, _, _], _ => rfl) (fun vs H Q E h => by
    unfold sp_first_drop at h
    split at h
    all_goals first | rfl | exact h.elim) ?_
  intro f cdv A outer s H vs Q E hr h
  have hu := hu_of hr
  unfold sp_first_drop at h
  split at h
  rotate_left
  · exact h.elim
  rename_i p z d
  obtain ⟨N, es, Z, vf, W, L, h0, h1, h2, h3, h4, h5, h6, h7, h8, h9, h10, h11, k⟩ := h
  refine ⟨_, pss_cons (ps_asg (pe_dget hu (pv 2) (pv 1) (fun _ _ => rfl)) (pg_tup rfl (pgs_cons (pg_name (i := 4) sc_first_drop.nd rfl (by first | exact Or.inl rfl | exact Or.inr rfl)) (pgs_cons (pg_name (i := 5) sc_first_drop.nd rfl (by first | exact Or.inl rfl | exact Or.inr rfl)) pgs_nil))))
 (pss_cons (ps_if (pt_cmpR op_eq (pv 4) (pe_str) (nomark _)) (pss_one (ps_ret (pe_tup (pa_cons (pe_str) (pa_cons (pv 5) pa_nil))))) (pss_nil))
 (pss_cons (ps_for PassesOwn.never rfl (pi_list (pe_meth (pv 0) C_cWeb_strikers x_cWeb_strikers G_cWeb_strikers (hr.mono (by decide)) b_cWeb_strikers .nil pass0 (pa_cons (pv 1) pa_nil))) (pg_name (i := 3) sc_first_drop.nd rfl (by first | exact Or.inl rfl | exact Or.inr rfl)) (pss_one (ps_if (pt_cmpR op_eq (pe_ix ix_tup (pe_dget hu (pv 2) (pv 3) (fun _ _ => rfl)) (pe_int) (fun _ _ => rfl)) (pe_str) (nomark _)) (pss_one (ps_ret (pe_tup (pa_cons (pe_str) (pa_cons (pe_callTy Sw.call_list (by rfl) T.z_list (by decide +kernel) (pa_cons (pe_ix ix_tup (pe_dget hu (pv 2) (pv 3) (fun _ _ => rfl)) (pe_int) (fun _ _ => rfl)) pa_nil)) pa_nil))))) (pss_nil))))
 (pss_one (ps_ret (pe_non))))), ?_⟩
  try clear G_cWeb_strikers b_cWeb_strikers
  try clear d_cWeb_strikers
  try clear C_cWeb_strikers x_cWeb_strikers
  try clear hu hr
  have hsl := srt_len N
  have hnd : (Z.map Prod.fst).Nodup := by
    rw [h4]
    exact srt_nodup.mpr h7
  have look : ∀ y ∈ N, ∃ a, (zr Z).lookup y = some (.ref a) ∧ (a, HO.tup [.str (grow (skF es) 32 [y]).word, vf y]) ∈ L := fun y m => by
    obtain ⟨a, ha⟩ := zr_has (Z := Z) (n := y) (by rw [h4]; exact srt_mem.mpr m)
    exact ⟨a, zr_at hnd ha, h3 _ (h5 y a ha)⟩
  obtain ⟨w9, hw9, e19, e29⟩ := h1.ex
  have m0 := hw9 _ (.head _)
  clear hw9
  have hzb := h9 z h11
  obtain ⟨a0, hlk0, ma0⟩ := look z h11
  have ef : firstD (skF es) z = match grow (skF es) 32 [z] with | .no d => some (.never d) | .told _ => strD (skF es) z := rfl
  cases hg : grow (skF es) 32 [z] with
  | no dd =>
    rw [hg] at ma0 ef
    have hG := h6 z h11
    rw [hg] at hG
    have ma1 : (a0, HO.tup [.str "none", vf z]) ∈ L := ma0
    have hw : ("none" : Str) = "none" := rfl
    walk_at "rd"
    rename_i r H2 A2
    refine k (.ref r) [(r, .tup [.str "never", vf z])] _ A2 ?_
    rw [ef]
    exact Own.tup (C := []) (OwnAll.cons (C := []) (D := []) (own_str _) (OwnAll.cons (C := []) (D := []) (.pure hG (grow_noL h8 h10.1 h11 hg)) .nil))
  | told l =>
    rw [hg] at ma0 ef
    have ma1 : (a0, HO.tup [.str "told", vf z]) ∈ L := ma0
    have hw : ¬ (("told" : Str) = "none") := by decide
    have hls := srt_len (strikersOf es z)
    have hl9 := strikersOf_len es z
    walk_at "rd"
    rename_i q2 H2 A2
    refine Sw.loop_map (f := V.str) (zs := skF es z) (fun j σ H' => ∃ v3, σ = [some (.ref p), some (.str z), some (.ref d), v3, some (.str "told"), some (vf z)] ∧ At H' ((q2, .lst ((skF es z).map V.str)) :: L) ∧ ∀ y ∈ (skF es z).take j, toldL (skF es) y = none)
      ⟨_, rfl, A2, (fun _ m => nomatch m)⟩ (fun j σ H' ⟨_, _, A, _⟩ => SqL.of (A.rd (by walk_at "mem"))) ?_ ?_
    · rintro j y σ H3 hy ⟨v3, rfl, A3, hn⟩
      have hyN : y ∈ N := (h8.mem _ (mem_skF.mp (List.mem_of_getElem? hy))).1
      obtain ⟨a1, hlk1, mb0⟩ := look y hyN
      have hG := h6 y hyN
      clear A2
      cases hg1 : grow (skF es) 32 [y] with
      | told l1 =>
        rw [hg1] at mb0 hG
        obtain ⟨pl, epl, mpl⟩ := hG
        rw [epl] at mb0
        have mpl := h3 _ mpl
        have mb1 : (a1, HO.tup [.str "told", .ref pl]) ∈ L := mb0
        have hw1 : ("told" : Str) = "told" := rfl
        have htl : toldL (skF es) y = some (.struck l1) := by
          unfold toldL
          rw [hg1]
        walk_at "rd"
        rename_i p4 _ _ p5 H5 A5
        refine k (.ref p5) [(p5, .tup [.str "struck", .ref p4]), (p4, .lst (l1.map V.str))] _ (by walk_at "sb") ?_
        have es9 : strD (skF es) z = some (.struck l1) := by
          unfold strD
          rw [findSome_at hn hy (by rw [htl]; rfl), htl]
        rw [ef]
        show whyOwn W _ _ (strD (skF es) z)
        rw [es9]
        exact Own.tup (C := [(p4, .lst (l1.map V.str))]) (OwnAll.cons (C := []) (D := [(p4, .lst (l1.map V.str))]) (own_str _) (OwnAll.one (own_strs p4 l1)))
      | no d1 =>
        rw [hg1] at mb0
        have mb1 : (a1, HO.tup [.str "none", vf y]) ∈ L := mb0
        have hw1 : ¬ (("none" : Str) = "told") := no_nt
        have htl : toldL (skF es) y = none := by
          unfold toldL
          rw [hg1]
        walk_at "rd"
        exact ⟨_, rfl, A3, take_all hn hy htl⟩
    · rintro σ H3 ⟨v3, rfl, A3, hn⟩
      walk_at "rd"
      refine k .non [] _ (by walk_at "sb") ?_
      rw [ef]
      unfold strD
      rw [findSome_no hn]
      exact ⟨rfl, rfl⟩
end
end Sw

namespace Sw
open PySem L2 PySem.W
def sp_unanswered_grants (K : PySem.W.Frag) : Sp := fun vs H Q E => match vs with
  | [.ref p, .ref q, .str z] => ∃ (cur : List Str) (N : List Str) (es : List (Str × Str)) (L : List Cell), (At H L) ∧ (WebIn K L p N es) ∧ ((q, HO.lst (cur.map V.str)) ∈ L) ∧ (N.Nodup) ∧ (SOk N es) ∧ (∀ y ∈ N, nameB y = true) ∧ (N.length ≤ 30 ∧ es.length ≤ 9000) ∧ (z ∈ N) ∧ (∀ (H' : Hp), (At H' L) → Q (optS (unA (skF es) cur z)) H')
  | _ => False
end Sw
local macro_rules | `(tactic| walk_at "rdc") => `(tactic| ((with_reducible show Sw.sp_unanswered_grants _ _ _ _ _); k_dflt (refine' ⟨_, _, _, _, ?h0, ?h1, ?h2, ?h3, ?h4, ?h5, ?h6, ?h7, ?_⟩); (case h0 => assumption); (case h1 => k_dflt (walk_at "web")); (case h2 => k_dflt (walk_at "mem")); (case h3 => k_dflt (assumption)); (case h4 => k_dflt (assumption)); (case h5 => k_dflt (assumption)); (case h6 => k_dflt (walk_at "om")); (case h7 => k_dflt (assumption)); intro _ _))
local macro_rules | `(tactic| walk_at "call") => `(tactic| ((with_reducible show Sw.sp_unanswered_grants _ _ _ _ _); k_dflt (refine' ⟨_, _, _, _, ?h0, ?h1, ?h2, ?h3, ?h4, ?h5, ?h6, ?h7, ?_⟩); (try (case h0 => assumption)); (try (case h1 => k_dflt (walk_at "web"))); (try (case h2 => k_dflt (walk_at "mem"))); (try (case h3 => k_dflt (assumption))); (try (case h4 => k_dflt (assumption))); (try (case h5 => k_dflt (assumption))); (try (case h6 => k_dflt (walk_at "om"))); (try (case h7 => k_dflt (assumption)))))
namespace Sw
open PySem L2 PySem.W
section
variable {P : Program} {w : World} {K : PySem.W.Frag} {mg : Str → Option Value} {base : Heap}
local macro_rules | `(tactic| walk_at "brp") => `(tactic| first | (refine' Sw.rd_brNY ?h ?_; (case h => assumption)) | (refine' Sw.rd_brNN ?h ?_; (case h => assumption)) | (refine' Sw.rd_brY ?h ?_; (case h => assumption)) | (refine' Sw.rd_brNo ?h ?_; (case h => assumption)))
theorem sc_unanswered_grants : FnScope ["web", "some", "name", "one", "other"] ["web", "some", "name"] (defScope (top 28)) := ⟨rfl, rfl, rfl, by decide +kernel, rfl, by decide +kernel, by decide +kernel⟩
theorem ok_unanswered_grants (T : Tx K mg) : Cal P w K mg base "unanswered_grants" 4 ["web", "some", "name"] (sp_unanswered_grants K) := by
  obtain ⟨d_cWeb_strikers, b_cWeb_strikers, G_cWeb_strikers⟩ := (ok_Web_strikers (P := P) (w := w) (base := base) T).ex
  have C_cWeb_strikers := T.cl_Web
  have x_cWeb_strikers := T.me_Web_strikers
  have cl_Sieve := T.cl_Sieve
  have na_Sieve_order := T.na_Sieve_order
  have na_Sieve_hitters := T.na_Sieve_hitters
  have na_Sieve_hits := T.na_Sieve_hits
  have cl_Web := T.cl_Web
  have na_Web_strikers_by := T.na_Web_strikers_by
  have na_Web_struck_by := T.na_Web_struck_by
  have na_Web_own_pairs := T.na_Web_own_pairs
  refine T.f_unanswered_grants.cal (N := ["web", "some", "name", "one", "other"]) sc_unanswered_grants (fun _ _ _ _ _ _ us hl => match us, hl with | [_, _, _], _ => rfl) (fun vs H Q E h => by
    unfold sp_unanswered_grants at h
    split at h
    all_goals first | rfl | exact h.elim) ?_
  intro f cdv A outer s H vs Q E hr h
  have hu := hu_of hr
  unfold sp_unanswered_grants at h
  split at h
  rotate_left
  · exact h.elim
  rename_i p q z
  obtain ⟨cur, N, es, L, h0, h1, h2, h3, h4, h5, h6, h7, k⟩ := h
  refine' ⟨_, pss_cons (ps_for PassesOwn.never rfl (pi_list (pe_meth (pv 0) C_cWeb_strikers x_cWeb_strikers G_cWeb_strikers (hr.mono (by decide)) b_cWeb_strikers .nil pass0 (pa_cons (pv 2) pa_nil))) (pg_name (i := 3) sc_unanswered_grants.nd rfl (by first | exact Or.inl rfl | exact Or.inr rfl)) (pss_one (ps_if (pt_not (pt_val (pe_callB (cr_any rfl) (by rfl) T.z_any (by decide +kernel) (pa_cons (pe_lc (own := [("other", 4)]) (g := gName 4) (tt := tYes) rfl sc_unanswered_grants.nd (pi_list (pe_meth (pv 0) C_cWeb_strikers x_cWeb_strikers G_cWeb_strikers (hr.mono (by decide)) b_cWeb_strikers .nil pass0 (pa_cons (pv 3) pa_nil))) (blkOk_by (N := ["web", "some", "name", "one", "other"]) (sc := defScope (top 28)) (by decide +kernel)) ?c1g ?c1t ?c1e) pa_nil)))) (pss_one (ps_ret (pv 3))) (pss_nil))))
 (pss_one (ps_ret (pe_non))), ?_⟩
  (case c1g => exact fun _ _ _ _ _ => pg_name (i := 4) sc_unanswered_grants.nd rfl (Or.inl rfl)); (case c1t => (intro _ _ _ _ _; refine' Sw.pts_te (pts_nil) ?c1tq; (case c1tq => (first | ((dsimp only [L2.Cx.blk]) <;> exact rfl) | exact rfl)))); (case c1e => (intro _ _ _ _ _; refine' Sw.pe_te (pe_cmpR op_in_seq (pv 4) (pv 1) (by rfl)) ?c1eq; (case c1eq => (first | ((dsimp only [L2.Cx.blk]) <;> exact rfl) | exact rfl))))
  try clear G_cWeb_strikers b_cWeb_strikers
  try clear d_cWeb_strikers
  try clear C_cWeb_strikers x_cWeb_strikers
  try clear hu hr
  obtain ⟨w9, hw9, e19, e29⟩ := h1.ex
  have m0 := hw9 _ (.head _)
  clear hw9
  have hzb := h5 z h7
  have hl := strikersOf_len es z
  have hls := srt_len (strikersOf es z)
  walk_at "rd"
  rename_i q2 H2 A2
  refine Sw.loop_map (f := V.str) (zs := skF es z) (fun j σ H' => ∃ v3 v4, σ = [some (.ref p), some (.ref q), some (.str z), v3, v4] ∧ At H' ((q2, .lst ((skF es z).map V.str)) :: L) ∧ ∀ y ∈ (skF es z).take j, (!((skF es y).any fun y => decide (y ∈ cur))) = false)
    ⟨_, _, rfl, A2, fun _ m => nomatch m⟩ (fun j σ H' ⟨_, _, _, A, _⟩ => SqL.of (A.rd (by walk_at "mem"))) ?_ ?_
  · rintro j y σ H3 hy ⟨v3, v4, rfl, A3, hn⟩
    have hyN : y ∈ N := (h4.mem _ (mem_skF.mp (List.mem_of_getElem? hy))).1
    have hyb := h5 y hyN
    have hyl := strikersOf_len es y
    have hyls : (skF es y).length = (strikersOf es y).length := srt_len _
    clear A2
    walk_at "rd"
    rename_i q3 H4 A4
    refine Sw.lc_list (us := skF es y) (F := V.str) A4 (.head _) (by omega) (fun _ => true) (fun u => V.bl (decide (u ∈ cur))) (fun u H5 D acc Yk Nk hu A6 hY hN => ?_) fun D H5 A6 => ?_
    · walk_at "rd"
      exact hY _ _ rfl rfl (by walk_at "sb")
    · rw [all_true_filter] at A6
      clear A3 A4
      have hP : (!((skF es y).any fun y => decide (y ∈ cur))) = !((skF es y).any fun u => decide (u ∈ cur)) := rfl
      walk_at "rd"
      · rename_i hf
        have e9 : unA (skF es) cur z = some y := find_at hn hy (by rw [hf]; rfl)
        rw [e9] at k
        exact k _ (by walk_at "sb")
      · rename_i ht
        exact ⟨_, _, rfl, by walk_at "sb", take_all hn hy (by rw [ht]; rfl)⟩
  · rintro σ H3 ⟨v3, v4, rfl, A3, hn⟩
    walk_at "rd"
    have e9 : unA (skF es) cur z = none := find_no hn
    rw [e9] at k
    exact k _ (by walk_at "sb")
end
end Sw

namespace Sw
open PySem L2 PySem.W
def sp_bare_drops (K : PySem.W.Frag) : Sp := fun vs H Q E => match vs with
  | [.ref p, .ref q] => ∃ (s0 : List Str) (N : List Str) (es : List (Str × Str)) (L : List Cell), (At H L) ∧ (WebIn K L p N es) ∧ ((q, HO.lst (s0.map V.str)) ∈ L) ∧ (N.Nodup) ∧ (SOk N es) ∧ (∀ y ∈ N, nameB y = true) ∧ (N.length ≤ 30 ∧ es.length ≤ 9000) ∧ (s0.Nodup) ∧ (∀ z ∈ s0, z ∈ N) ∧ (∀ (r pl pm : Addr) (mv : List V) (C : List Cell) (H' : Hp), (At H' ((r, .tup [.ref pl, .ref pm]) :: (pl, .lst ((bareL (skF es) (s0.length + 1) s0).1.map V.str)) :: (pm, .lst mv) :: (C ++ L))) → (∀ B, OwnAll B C mv ((bareL (skF es) (s0.length + 1) s0).2.map dropD)) → Q (.ref r) H')
  | _ => False
end Sw
local macro_rules | `(tactic| walk_at "rdc") => `(tactic| ((with_reducible show Sw.sp_bare_drops _ _ _ _ _); k_dflt (refine' ⟨_, _, _, _, ?h0, ?h1, ?h2, ?h3, ?h4, ?h5, ?h6, ?h7, ?h8, ?_⟩); (case h0 => assumption); (case h1 => k_dflt (walk_at "web")); (case h2 => k_dflt (walk_at "mem")); (case h3 => k_dflt (assumption)); (case h4 => k_dflt (assumption)); (case h5 => k_dflt (assumption)); (case h6 => k_dflt (walk_at "om")); (case h7 => k_dflt (assumption)); (case h8 => k_dflt (assumption)); intro _ _ _ _ _ _ _ _))
local macro_rules | `(tactic| walk_at "call") => `(tactic| ((with_reducible show Sw.sp_bare_drops _ _ _ _ _); k_dflt (refine' ⟨_, _, _, _, ?h0, ?h1, ?h2, ?h3, ?h4, ?h5, ?h6, ?h7, ?h8, ?_⟩); (try (case h0 => assumption)); (try (case h1 => k_dflt (walk_at "web"))); (try (case h2 => k_dflt (walk_at "mem"))); (try (case h3 => k_dflt (assumption))); (try (case h4 => k_dflt (assumption))); (try (case h5 => k_dflt (assumption))); (try (case h6 => k_dflt (walk_at "om"))); (try (case h7 => k_dflt (assumption))); (try (case h8 => k_dflt (assumption)))))
namespace Sw
open PySem L2 PySem.W
section
variable {P : Program} {w : World} {K : PySem.W.Frag} {mg : Str → Option Value} {base : Heap}
local macro_rules | `(tactic| walk_at "brp") => `(tactic| first | (refine' Sw.rd_brNY ?h ?_; (case h => assumption)) | (refine' Sw.rd_brNN ?h ?_; (case h => assumption)) | (refine' Sw.rd_brY ?h ?_; (case h => assumption)) | (refine' Sw.rd_brNo ?h ?_; (case h => assumption)))
theorem sc_bare_drops : FnScope ["web", "some", "left", "drops", "before", "name", "one"] ["web", "some"] (defScope (top 30)) := ⟨rfl, rfl, rfl, by decide +kernel, rfl, by decide +kernel, by decide +kernel⟩
theorem ok_bare_drops (T : Tx K mg) : Cal P w K mg base "bare_drops" 5 ["web", "some"] (sp_bare_drops K) := by
  obtain ⟨f_cunanswered_grants, d_cunanswered_grants, m_cunanswered_grants, k_cunanswered_grants, b_cunanswered_grants, G_cunanswered_grants⟩ := (ok_unanswered_grants (P := P) (w := w) (base := base) T).ex
  have cl_Sieve := T.cl_Sieve
  have na_Sieve_order := T.na_Sieve_order
  have na_Sieve_hitters := T.na_Sieve_hitters
  have na_Sieve_hits := T.na_Sieve_hits
  have cl_Web := T.cl_Web
  have na_Web_strikers_by := T.na_Web_strikers_by
  have na_Web_struck_by := T.na_Web_struck_by
  have na_Web_own_pairs := T.na_Web_own_pairs
  refine T.f_bare_drops.cal (N := ["web", "some", "left", "drops", "before", "name", "one"]) sc_bare_drops (fun _ _ _ _ _ _ us hl => match us, hl with | [_, _], _ => rfl) (fun vs H Q E h => by
    unfold sp_bare_drops at h
    split at h
    all_goals first | rfl | exact h.elim) ?_
  intro f cdv A outer s H vs Q E hr h
  have hu := hu_of hr
  unfold sp_bare_drops at h
  split at h
  rotate_left
  · exact h.elim
  rename_i p q
  obtain ⟨s0, N, es, L, h0, h1, h2, h3, h4, h5, h6, h7, h8, k⟩ := h
  refine ⟨_, pss_cons (ps_set (i := 2) sc_bare_drops.nd rfl (by first | exact Or.inl rfl | exact Or.inr rfl) (pe_callTy Sw.call_list (by rfl) T.z_list (by decide +kernel) (pa_cons (pv 1) pa_nil)))
 (pss_cons (ps_set (i := 3) sc_bare_drops.nd rfl (by first | exact Or.inl rfl | exact Or.inr rfl) (pe_lst (pa_nil)))
 (pss_cons (ps_set (i := 4) sc_bare_drops.nd rfl (by first | exact Or.inl rfl | exact Or.inr rfl) (pe_un un_neg (pe_int)))
 (pss_cons (ps_while PassesOwn.never (pt_cmpR op_ne (pv 4) (pe_callB Sw.call_lenQ (by rfl) T.z_len (by decide +kernel) (pa_cons (pv 2) pa_nil)) (nomark _)) (pss_cons (ps_set (i := 4) sc_bare_drops.nd rfl (by first | exact Or.inl rfl | exact Or.inr rfl) (pe_callB Sw.call_lenQ (by rfl) T.z_len (by decide +kernel) (pa_cons (pv 2) pa_nil)))
 (pss_one (ps_for PassesOwn.never rfl (pi_list (pe_callTy Sw.call_list (by rfl) T.z_list (by decide +kernel) (pa_cons (pv 2) pa_nil))) (pg_name (i := 5) sc_bare_drops.nd rfl (by first | exact Or.inl rfl | exact Or.inr rfl)) (pss_cons (ps_set (i := 6) sc_bare_drops.nd rfl (by first | exact Or.inl rfl | exact Or.inr rfl) (pe_call G_cunanswered_grants (hr.mono (by decide)) (by rfl) m_cunanswered_grants k_cunanswered_grants b_cunanswered_grants .nil pass0 (pa_cons (pv 0) (pa_cons (pv 2) (pa_cons (pv 5) pa_nil)))))
 (pss_one (ps_if (pt_cmpR Sw.op_notN (pv 6) (pe_non) (nomark _)) (pss_cons (ps_expr (pe_bm PySem.F.plainAttrs_list PySem.F.slot_list_remove PySem.F.type_list_remove Sw.mt_removeS (pv 2) (pa_cons (pv 5) pa_nil)))
 (pss_one (ps_expr (pe_bm PySem.F.plainAttrs_list PySem.F.slot_list_append PySem.F.type_list_append mt_append (pv 3) (pa_cons (pe_tup (pa_cons (pv 5) (pa_cons (pe_tup (pa_cons (pe_str) (pa_cons (pv 6) pa_nil))) pa_nil))) pa_nil))))) (pss_nil))))))))
 (pss_one (ps_ret (pe_tup (pa_cons (pv 2) (pa_cons (pv 3) pa_nil)))))))), ?_⟩
  try clear G_cunanswered_grants b_cunanswered_grants k_cunanswered_grants m_cunanswered_grants
  try clear d_cunanswered_grants f_cunanswered_grants
  try clear hu hr
  have hsl := nd_len h7 h8
  walk_at "rdn"
  rename_i pl _ A1 pm H2 A2
  have A3 : At H2 ((pm, .lst []) :: (pl, .lst (s0.map V.str)) :: L) := A2
  clear A1 A2
  have hstart : ((-1 : Int) = s0.length ∧ bareL (skF es) (s0.length + 1) s0 = (s0, [])) ∨ (¬ (-1 : Int) = s0.length ∧ s0.length < s0.length + 1 ∧ bareL (skF es) (s0.length + 1) s0 = ((bareL (skF es) (s0.length + 1) s0).1, [] ++ (bareL (skF es) (s0.length + 1) s0).2)) :=
    .inr ⟨by omega, Nat.lt_succ_self _, rfl⟩
  refine Sw.rd_while (fun m σ H' => ∃ (cur : List Str) (ds : List (Str × Why)) (mv : List V) (C : List Cell) (b : Int) (fu : Nat) (v5 v6 : Option V), σ = [some (.ref p), some (.ref q), some (.ref pl), some (.ref pm), some (.int b), v5, v6] ∧ At H' ((pm, .lst mv) :: (pl, .lst (cur.map V.str)) :: (C ++ L)) ∧ (∀ B, OwnAll B C mv (ds.map dropD)) ∧ (cur.Nodup ∧ (∀ z ∈ cur, z ∈ s0) ∧ ds.length + cur.length = s0.length) ∧
      ((b = cur.length ∧ bareL (skF es) (s0.length + 1) s0 = (cur, ds)) ∨ (¬ b = cur.length ∧ cur.length < fu ∧ bareL (skF es) (s0.length + 1) s0 = ((bareL (skF es) fu cur).1, ds ++ (bareL (skF es) fu cur).2))) ∧ m = 2 * cur.length + (if b = cur.length then 0 else 1)) (2 * s0.length + (if (-1 : Int) = s0.length then 0 else 1))
    ⟨s0, [], [], [], -1, s0.length + 1, _, _, rfl, A3, fun _ => .nil, ⟨h7, (fun _ m => m), by show 0 + _ = _; omega⟩, hstart, rfl⟩ ?_
  rintro m σ H3 ⟨cur, ds, mv, C, b, fu, v5, v6, rfl, A4, hO, ⟨hnd, hsub, hlen⟩, hB, rfl⟩
  clear A3 hstart
  have hcl : (cur.map V.str).length = cur.length := List.length_map _
  walk_at "rdn"
  · rename_i hbt p9 H4 A5
    have hbne : ¬ b = cur.length := fun e => by
      rw [decide_eq_true e] at hbt
      cases hbt
    have hfu : cur.length < fu ∧ bareL (skF es) (s0.length + 1) s0 = ((bareL (skF es) fu cur).1, ds ++ (bareL (skF es) fu cur).2) := by
      rcases hB with ⟨e, _⟩ | ⟨_, h⟩
      · exact absurd e hbne
      · exact h
    obtain ⟨k9, rfl⟩ : ∃ k9, fu = k9 + 1 := ⟨fu - 1, by omega⟩
    clear A4 hB hbt
    refine Sw.loop_map (f := V.str) (zs := cur) (fun j σ H' => ∃ (c : List Str) (dj : List (Str × Why)) (mv : List V) (C : List Cell) (v5 v6 : Option V), σ = [some (.ref p), some (.ref q), some (.ref pl), some (.ref pm), some (.int (cur.length : Int)), v5, v6] ∧ At H' ((pm, .lst mv) :: (pl, .lst (c.map V.str)) :: (C ++ ((p9, .lst (cur.map V.str)) :: L))) ∧ (∀ B, OwnAll B C mv ((ds ++ dj).map dropD)) ∧ (c.Nodup ∧ (∀ z ∈ cur.drop j, z ∈ c) ∧ (∀ z ∈ c, z ∈ cur) ∧ dj.length + c.length = cur.length) ∧ passB (skF es) cur cur = ((passB (skF es) c (cur.drop j)).1, dj ++ (passB (skF es) c (cur.drop j)).2))
      ⟨cur, [], mv, C, _, _, rfl, by walk_at "sb", by rw [List.append_nil]; exact hO, ⟨hnd, (fun _ m => m), (fun _ m => m), by show 0 + _ = _; omega⟩, rfl⟩ (fun j σ H' ⟨_, _, _, _, _, _, _, A, _⟩ => SqL.of (A.rd (by walk_at "mem"))) ?_ ?_
    · rintro j z σ H5 hz ⟨c, dj, mv, C, v5, v6, rfl, A6, hO, ⟨hcn, hcd, hcs, hcl2⟩, hP⟩
      have hzc : z ∈ cur := List.mem_of_getElem? hz
      have hzN : z ∈ N := h8 z (hsub z hzc)
      have hjl := (List.getElem?_eq_some_iff.mp hz).1
      have ed : cur.drop j = z :: cur.drop (j + 1) := by
        rw [List.drop_eq_getElem_cons hjl]
        congr 1
        exact (List.getElem?_eq_some_iff.mp hz).2
      rw [ed] at hcd hP
      have hzin : z ∈ c := hcd z (.head _)
      have hdl := (hO []).len
      rw [List.length_map, List.length_append] at hdl
      have hnz : ∀ y ∈ cur.drop (j + 1), y ≠ z := fun y m e => by
        have n1 : (cur.drop j).Nodup := hnd.sublist (List.drop_sublist j cur)
        rw [ed] at n1
        exact (List.nodup_cons.mp n1).1 (e ▸ m)
      have hmv : mv.length ≤ 100 := by omega
      clear A5
      cases e : unA (skF es) c z with
      | none =>
        rw [passB_none e] at hP
        walk_at "rdn"
        rw [e]
        have hn9 : optS none = V.non := rfl
        rw [hn9]
        refine Sw.rd_ifS ?_
        walk_at "rd"
        · rename_i hne _ _ _ _ _ _ _ _ _ _
          exact absurd rfl hne
        · exact ⟨c, dj, mv, C, _, _, rfl, by walk_at "sb", hO, ⟨hcn, fun y m => hcd y (.tail _ m), hcs, hcl2⟩, hP⟩
      | some b9 =>
        rw [passB_some e] at hP
        walk_at "rdn"
        rw [e]
        have hn9 : optS (some b9) = V.str b9 := rfl
        rw [hn9]
        refine Sw.rd_ifS ?_
        walk_at "rd"
        · rename_i _ _ _ t1 _ _ t2 _ _ H9 A9
          have hO2 : ∀ B, OwnAll B (C ++ [(t2, .tup [.str z, .ref t1]), (t1, .tup [.str "bare", .str b9])]) (mv ++ [.ref t2]) ((ds ++ (dj ++ [(z, Why.bare b9)])).map dropD) := fun B => by
            rw [← List.append_assoc, List.map_append]
            exact (hO B).app (OwnAll.one (Own.tup (C := [(t1, .tup [.str "bare", .str b9])]) (OwnAll.cons (C := []) (D := [(t1, .tup [.str "bare", .str b9])]) (own_str _) (OwnAll.one (Own.tup (C := []) (OwnAll.cons (C := []) (D := []) (own_str _) (OwnAll.cons (C := []) (D := []) (own_str _) .nil)))))))
          have hle := List.length_erase_of_mem hzin
          have hpo : 0 < c.length := List.length_pos_of_mem hzin
          refine ⟨c.erase z, dj ++ [(z, .bare b9)], _, _, _, _, rfl, ?_, hO2, ⟨hcn.sublist List.erase_sublist, fun y m => (List.mem_erase_of_ne (hnz y m)).mpr (hcd y (.tail _ m)), fun y m => hcs y (List.mem_of_mem_erase m), ?_⟩, ?_⟩
          · rw [List.append_assoc]
            walk_at "sb"
          · rw [List.length_append]
            show dj.length + 1 + _ = _
            omega
          · rw [hP]
            show (_, dj ++ ((z, Why.bare b9) :: _)) = _
            rw [List.append_assoc]
            rfl
        · rename_i hno
          cases hno
    · rintro σ H5 ⟨c, dj, mv, C, v5, v6, rfl, A6, hO, ⟨hcn, hcd, hcs, hcl2⟩, hP⟩
      rw [List.drop_length] at hP
      have hP : passB (skF es) cur cur = (c, dj) := by
        rw [hP]
        show (c, dj ++ []) = (c, dj)
        rw [List.append_nil]
      walk_at "rd"
      refine ⟨2 * c.length + (if (cur.length : Int) = c.length then 0 else 1), ?_, c, ds ++ dj, mv, C, _, k9, _, _, rfl, ?_, fun B => ?_, ⟨hcn, fun z m => hsub z (hcs z m), ?_⟩, ?_, rfl⟩
      · rw [if_neg hbne]
        have hle := (passB_sub (f := skF es) cur cur).length_le
        rw [hP] at hle
        have hle : c.length ≤ cur.length := hle
        split <;> omega
      · walk_at "sb"
      · exact hO B
      · rw [List.length_append]
        omega
      · obtain ⟨g1, g2⟩ := hfu
        rw [show bareL (skF es) (k9 + 1) cur = (if (passB (skF es) cur cur).1.length = cur.length then passB (skF es) cur cur else ((bareL (skF es) k9 (passB (skF es) cur cur).1).1, (passB (skF es) cur cur).2 ++ (bareL (skF es) k9 (passB (skF es) cur cur).1).2)) from rfl, hP] at g2
        by_cases hcc : c.length = cur.length
        · refine .inl ⟨by rw [hcc], ?_⟩
          rw [if_pos hcc] at g2
          exact g2
        · have hle := (passB_sub (f := skF es) cur cur).length_le
          rw [hP] at hle
          have hle : c.length ≤ cur.length := hle
          refine .inr ⟨by omega, by omega, ?_⟩
          rw [if_neg hcc] at g2
          rw [g2, List.append_assoc]
  · rename_i hbt p9 H4 A5
    have hbe : b = cur.length := by
      refine Classical.byContradiction fun n => ?_
      rw [decide_eq_false n] at hbt
      cases hbt
    have hres : bareL (skF es) (s0.length + 1) s0 = (cur, ds) := by
      rcases hB with ⟨_, h⟩ | ⟨h, _⟩
      · exact h
      · exact absurd hbe h
    rw [hres] at k
    exact k p9 pl pm mv C _ (by walk_at "sb") hO
end
end Sw

namespace Sw
open PySem L2 PySem.W
def sp_strikers_of (K : PySem.W.Frag) : Sp := fun vs H Q E => match vs with
  | [.ref p, .ref q] => ∃ (ys : List Str) (N : List Str) (es : List (Str × Str)) (L : List Cell), (At H L) ∧ ((q, HO.lst (ys.map V.str)) ∈ L) ∧ (WebIn K L p N es) ∧ (N.Nodup) ∧ (SOk N es) ∧ (∀ y ∈ N, nameB y = true) ∧ (∀ y ∈ ys, y ∈ N) ∧ (N.length ≤ 30 ∧ es.length ≤ 9000) ∧ (∀ (r : Addr) (H' : Hp), (At H' ((r, .lst ((strikersIn (skF es) (srt N) ys).map V.str)) :: L)) → Q (.ref r) H')
  | _ => False
end Sw
local macro_rules | `(tactic| walk_at "rdc") => `(tactic| ((with_reducible show Sw.sp_strikers_of _ _ _ _ _); k_dflt (refine' ⟨_, _, _, _, ?h0, ?h1, ?h2, ?h3, ?h4, ?h5, ?h6, ?h7, ?_⟩); (case h0 => assumption); (case h1 => k_dflt (walk_at "mem")); (case h2 => k_dflt (walk_at "web")); (case h3 => k_dflt (assumption)); (case h4 => k_dflt (assumption)); (case h5 => k_dflt (assumption)); (case h6 => k_dflt (walk_at "sub")); (case h7 => k_dflt (walk_at "om")); intro _ _ _))
local macro_rules | `(tactic| walk_at "call") => `(tactic| ((with_reducible show Sw.sp_strikers_of _ _ _ _ _); k_dflt (refine' ⟨_, _, _, _, ?h0, ?h1, ?h2, ?h3, ?h4, ?h5, ?h6, ?h7, ?_⟩); (try (case h0 => assumption)); (try (case h1 => k_dflt (walk_at "mem"))); (try (case h2 => k_dflt (walk_at "web"))); (try (case h3 => k_dflt (assumption))); (try (case h4 => k_dflt (assumption))); (try (case h5 => k_dflt (assumption))); (try (case h6 => k_dflt (walk_at "sub"))); (try (case h7 => k_dflt (walk_at "om")))))
namespace Sw
open PySem L2 PySem.W
section
variable {P : Program} {w : World} {K : PySem.W.Frag} {mg : Str → Option Value} {base : Heap}
local macro_rules | `(tactic| walk_at "brp") => `(tactic| first | (refine' Sw.rd_brNY ?h ?_; (case h => assumption)) | (refine' Sw.rd_brNN ?h ?_; (case h => assumption)) | (refine' Sw.rd_brY ?h ?_; (case h => assumption)) | (refine' Sw.rd_brNo ?h ?_; (case h => assumption)))
theorem sc_strikers_of : FnScope ["web", "some", "found", "name", "one"] ["web", "some"] (defScope (top 31)) := ⟨rfl, rfl, rfl, by decide +kernel, rfl, by decide +kernel, by decide +kernel⟩
theorem ok_strikers_of (T : Tx K mg) : Cal P w K mg base "strikers_of" 4 ["web", "some"] (sp_strikers_of K) := by
  obtain ⟨d_cWeb_strikers, b_cWeb_strikers, G_cWeb_strikers⟩ := (ok_Web_strikers (P := P) (w := w) (base := base) T).ex
  have C_cWeb_strikers := T.cl_Web
  have x_cWeb_strikers := T.me_Web_strikers
  have cl_Sieve := T.cl_Sieve
  have na_Sieve_order := T.na_Sieve_order
  have na_Sieve_hitters := T.na_Sieve_hitters
  have na_Sieve_hits := T.na_Sieve_hits
  have cl_Web := T.cl_Web
  have na_Web_strikers_by := T.na_Web_strikers_by
  have na_Web_struck_by := T.na_Web_struck_by
  have na_Web_own_pairs := T.na_Web_own_pairs
  refine T.f_strikers_of.cal (N := ["web", "some", "found", "name", "one"]) sc_strikers_of (fun _ _ _ _ _ _ us hl => match us, hl with | [_, _], _ => rfl) (fun vs H Q E h => by
    unfold sp_strikers_of at h
    split at h
    all_goals first | rfl | exact h.elim) ?_
  intro f cdv A outer s H vs Q E hr h
  have hu := hu_of hr
  unfold sp_strikers_of at h
  split at h
  rotate_left
  · exact h.elim
  rename_i p q
  obtain ⟨ys, N, es, L, h0, h1, h2, h3, h4, h5, h6, h7, k⟩ := h
  refine ⟨_, pss_cons (ps_set (i := 2) sc_strikers_of.nd rfl (by first | exact Or.inl rfl | exact Or.inr rfl) (pe_dnewK))
 (pss_cons (ps_for PassesOwn.never rfl (pi_list (pv 1)) (pg_name (i := 3) sc_strikers_of.nd rfl (by first | exact Or.inl rfl | exact Or.inr rfl)) (pss_one (ps_for PassesOwn.never rfl (pi_list (pe_meth (pv 0) C_cWeb_strikers x_cWeb_strikers G_cWeb_strikers (hr.mono (by decide)) b_cWeb_strikers .nil pass0 (pa_cons (pv 3) pa_nil))) (pg_name (i := 4) sc_strikers_of.nd rfl (by first | exact Or.inl rfl | exact Or.inr rfl)) (pss_one (ps_dput hu (pv 2) (pv 4) (pe_bl) rfl)))))
 (pss_one (ps_ret (pe_callB (Sw.call_srtK rfl hr.units) (by rfl) T.z_sorted (by decide +kernel) (pa_cons (pv 2) pa_nil))))), ?_⟩
  try clear G_cWeb_strikers b_cWeb_strikers
  try clear d_cWeb_strikers
  try clear C_cWeb_strikers x_cWeb_strikers
  try clear hu hr
  obtain ⟨w9, hw9, e19, e29⟩ := h2.ex
  have m0 := hw9 _ (.head _)
  clear hw9
  walk_at "rd"
  rename_i d H1 A1
  refine Sw.loop_map (f := V.str) (zs := ys) (fun i σ H' => ∃ (ks : List Str) (v3 v4 : Option V), σ = [some (.ref p), some (.ref q), some (.ref d), v3, v4] ∧ At H' ((d, .dK (ds ks)) :: L) ∧ (ks.Nodup ∧ ∀ x ∈ ks, x ∈ N) ∧ ∀ x, x ∈ ks ↔ ∃ n, n ∈ ys.take i ∧ (x, n) ∈ es)
    ⟨[], _, _, rfl, A1, ⟨.nil, fun _ m => nomatch m⟩, fun x => ⟨fun m => (nomatch m), fun ⟨_, m, _⟩ => (nomatch m)⟩⟩ (fun i σ H' ⟨_, _, _, _, A, _⟩ => SqL.of (A.rd (by walk_at "mem"))) ?_ ?_
  · rintro i y σ H2 hy ⟨ks, v3, v4, rfl, A2, hks, hk⟩
    have hym := h6 y (List.mem_of_getElem? hy)
    have hyn := h5 y hym
    clear A1
    walk_at "rd"
    rename_i q2 H3 A3
    refine Sw.loop_map (f := V.str) (zs := srt (strikersOf es y)) (fun j σ H' => ∃ ks' v4, σ = [some (.ref p), some (.ref q), some (.ref d), some (.str y), v4] ∧ At H' ((d, .dK (ds ks')) :: (q2, .lst ((srt (strikersOf es y)).map V.str)) :: L) ∧ (ks'.Nodup ∧ ∀ x ∈ ks', x ∈ N) ∧ ∀ x, x ∈ ks' ↔ x ∈ ks ∨ x ∈ (srt (strikersOf es y)).take j)
      ⟨ks, _, rfl, by walk_at "sb", hks, fun x => ⟨.inl, fun h => h.elim id fun m => (nomatch m)⟩⟩ (fun j σ H' ⟨_, _, _, A, _⟩ => SqL.of (A.rd (by walk_at "mem"))) ?_ ?_
    · rintro j x σ H4 hx ⟨ks', v4, rfl, A4, hks', hk'⟩
      have hln := nd_len hks'.1 hks'.2
      have hxm : (x, y) ∈ es := mem_strikersOf.mp (srt_mem.mp (List.mem_of_getElem? hx))
      walk_at "rd"
      rename_i A5
      refine ⟨insS ks' x, _, rfl, by walk_at "sb", ⟨nodup_insS hks'.1 x, fun z m => ?_⟩, fun z => ?_⟩
      · rcases mem_insS.mp m with m | rfl
        · exact hks'.2 z m
        · exact (h4.mem _ hxm).1
      · rw [mem_insS, hk' z, List.take_succ, hx, List.mem_append, or_assoc]
        show _ ↔ _ ∨ _ ∨ z ∈ [x]
        rw [List.mem_singleton]
    · rintro σ H4 ⟨ks', v4, rfl, A4, hks', hk'⟩
      walk_at "rd"
      refine ⟨ks', _, _, rfl, by walk_at "sb", hks', fun z => ?_⟩
      rw [hk' z, hk z, List.take_length, srt_mem, mem_strikersOf, List.take_succ, hy]
      constructor
      · rintro (⟨n, m, e⟩ | e)
        · exact ⟨n, List.mem_append_left _ m, e⟩
        · exact ⟨y, List.mem_append_right _ (.head _), e⟩
      · rintro ⟨n, m, e⟩
        rcases List.mem_append.mp m with m | m
        · exact .inl ⟨n, m, e⟩
        · cases List.mem_singleton.mp m
          exact .inr e
  · rintro σ H2 ⟨ks, v3, v4, rfl, A2, hks, hk⟩
    rw [List.take_length] at hk
    walk_at "rd"
    rename_i r H3 A3
    have e : srt ks = strikersIn (skF es) (srt N) ys := by
      refine rise_ext2 (rise_srt _) (List.Pairwise.sublist List.filter_sublist (rise_srt N)) (srt_nodup.mpr hks.1) ((srt_nodup.mpr h3).filter _) fun z => ?_
      rw [srt_mem, hk z]
      unfold strikersIn
      rw [List.mem_filter, List.any_eq_true]
      constructor
      · rintro ⟨n, m, he⟩
        exact ⟨srt_mem.mpr (h4.mem _ he).1, n, m, decide_eq_true (mem_skF.mpr he)⟩
      · rintro ⟨_, n, m, he⟩
        exact ⟨n, m, mem_skF.mp (of_decide_eq_true he)⟩
    rw [e] at A3
    exact k r _ (by walk_at "sb")
end
end Sw

namespace Sw
open PySem L2 PySem.W
def sp_granted (K : PySem.W.Frag) : Sp := fun vs H Q E => match vs with
  | [.ref p] => ∃ (N : List Str) (es : List (Str × Str)) (ks us : List Nat) (L : List Cell), (At H L) ∧ (WebIn K L p N es) ∧ (N.Nodup) ∧ (SOk N es) ∧ (∀ y ∈ N, nameB y = true) ∧ (N.length ≤ 30 ∧ es.length ≤ 9000) ∧ (VwOk (srt N) es ks us) ∧ (∀ (r pl t2 pt pd : Addr) (tv dv : List V) (CT CD B : List Cell) (H' : Hp), (At H' ((r, .tup [.ref pl, .ref t2]) :: (pl, .lst ((grantP (skF es) (srt N)).1.map V.str)) :: (t2, .tup [.ref pt, .ref pd]) :: (pt, .lst tv) :: (pd, .lst dv) :: (CT ++ (CD ++ (B ++ L))))) → (OwnAll B CT tv (treesD (skF es) (srt N) (grantP (skF es) (srt N)).1)) → (OwnAll B CD dv ((drops0 (skF es) (srt N) ++ (grantP (skF es) (srt N)).2).map dropD)) → Q (.ref r) H')
  | _ => False
end Sw
local macro_rules | `(tactic| walk_at "rdc") => `(tactic| ((with_reducible show Sw.sp_granted _ _ _ _ _); k_dflt (refine' ⟨_, _, _, _, _, ?h0, ?h1, ?h2, ?h3, ?h4, ?h5, ?h6, ?_⟩); (case h0 => assumption); (case h1 => k_dflt (walk_at "web")); (case h2 => k_dflt (assumption)); (case h3 => k_dflt (assumption)); (case h4 => k_dflt (assumption)); (case h5 => k_dflt (walk_at "om")); (case h6 => k_dflt (assumption)); intro _ _ _ _ _ _ _ _ _ _ _ _ _ _))
local macro_rules | `(tactic| walk_at "call") => `(tactic| ((with_reducible show Sw.sp_granted _ _ _ _ _); k_dflt (refine' ⟨_, _, _, _, _, ?h0, ?h1, ?h2, ?h3, ?h4, ?h5, ?h6, ?_⟩); (try (case h0 => assumption)); (try (case h1 => k_dflt (walk_at "web"))); (try (case h2 => k_dflt (assumption))); (try (case h3 => k_dflt (assumption))); (try (case h4 => k_dflt (assumption))); (try (case h5 => k_dflt (walk_at "om"))); (try (case h6 => k_dflt (assumption)))))
namespace Sw
open PySem L2 PySem.W
section
variable {P : Program} {w : World} {K : PySem.W.Frag} {mg : Str → Option Value} {base : Heap}
local macro_rules | `(tactic| walk_at "brp") => `(tactic| first | (refine' Sw.rd_brNY ?h ?_; (case h => assumption)) | (refine' Sw.rd_brNN ?h ?_; (case h => assumption)) | (refine' Sw.rd_brY ?h ?_; (case h => assumption)) | (refine' Sw.rd_brNo ?h ?_; (case h => assumption)))
theorem sc_granted : FnScope ["web", "answers", "some", "drops", "name", "trees", "why", "more"] ["web"] (defScope (top 32)) := ⟨rfl, rfl, rfl, by decide +kernel, rfl, by decide +kernel, by decide +kernel⟩
theorem ok_granted (T : Tx K mg) : Cal P w K mg base "granted" 37 ["web"] (sp_granted K) := by
  obtain ⟨f_canswers_by_name, d_canswers_by_name, m_canswers_by_name, k_canswers_by_name, b_canswers_by_name, G_canswers_by_name⟩ := (ok_answers_by_name (P := P) (w := w) (base := base) T).ex
  obtain ⟨d_cWeb_all_names, b_cWeb_all_names, G_cWeb_all_names⟩ := (ok_Web_all_names (P := P) (w := w) (base := base) T).ex
  have C_cWeb_all_names := T.cl_Web
  have x_cWeb_all_names := T.me_Web_all_names
  obtain ⟨f_cfirst_drop, d_cfirst_drop, m_cfirst_drop, k_cfirst_drop, b_cfirst_drop, G_cfirst_drop⟩ := (ok_first_drop (P := P) (w := w) (base := base) T).ex
  obtain ⟨f_cbare_drops, d_cbare_drops, m_cbare_drops, k_cbare_drops, b_cbare_drops, G_cbare_drops⟩ := (ok_bare_drops (P := P) (w := w) (base := base) T).ex
  obtain ⟨f_cstrikers_of, d_cstrikers_of, m_cstrikers_of, k_cstrikers_of, b_cstrikers_of, G_cstrikers_of⟩ := (ok_strikers_of (P := P) (w := w) (base := base) T).ex
  have cl_Sieve := T.cl_Sieve
  have na_Sieve_order := T.na_Sieve_order
  have na_Sieve_hitters := T.na_Sieve_hitters
  have na_Sieve_hits := T.na_Sieve_hits
  have cl_Web := T.cl_Web
  have na_Web_strikers_by := T.na_Web_strikers_by
  have na_Web_struck_by := T.na_Web_struck_by
  have na_Web_own_pairs := T.na_Web_own_pairs
  refine T.f_granted.cal (N := ["web", "answers", "some", "drops", "name", "trees", "why", "more"]) sc_granted (fun _ _ _ _ _ _ us hl => match us, hl with | [_], _ => rfl) (fun vs H Q E h => by
    unfold sp_granted at h
    split at h
    all_goals first | rfl | exact h.elim) ?_
  intro f cdv A outer s H vs Q E hr h
  have hu := hu_of hr
  unfold sp_granted at h
  split at h
  rotate_left
  · exact h.elim
  rename_i p
  obtain ⟨N, es, ks, us, L, h0, h1, h2, h3, h4, h5, h6, k⟩ := h
  refine' ⟨_, pss_cons (ps_set (i := 1) sc_granted.nd rfl (by first | exact Or.inl rfl | exact Or.inr rfl) (pe_call G_canswers_by_name (hr.mono (by decide)) (by rfl) m_canswers_by_name k_canswers_by_name b_canswers_by_name .nil pass0 (pa_cons (pv 0) pa_nil)))
 (pss_cons (ps_set (i := 2) sc_granted.nd rfl (by first | exact Or.inl rfl | exact Or.inr rfl) (pe_lst (pa_nil)))
 (pss_cons (ps_set (i := 3) sc_granted.nd rfl (by first | exact Or.inl rfl | exact Or.inr rfl) (pe_lst (pa_nil)))
 (pss_cons (ps_for PassesOwn.never rfl (pi_list (pe_meth0 (pv 0) C_cWeb_all_names x_cWeb_all_names G_cWeb_all_names (hr.mono (by decide)) b_cWeb_all_names .nil pass0)) (pg_name (i := 4) sc_granted.nd rfl (by first | exact Or.inl rfl | exact Or.inr rfl)) (pss_cons (ps_set (i := 6) sc_granted.nd rfl (by first | exact Or.inl rfl | exact Or.inr rfl) (pe_call G_cfirst_drop (hr.mono (by decide)) (by rfl) m_cfirst_drop k_cfirst_drop b_cfirst_drop .nil pass0 (pa_cons (pv 0) (pa_cons (pv 4) (pa_cons (pv 1) pa_nil)))))
 (pss_one (ps_if (pt_cmpR Sw.op_isN (pv 6) (pe_non) (nomark _)) (pss_one (ps_expr (pe_bm PySem.F.plainAttrs_list PySem.F.slot_list_append PySem.F.type_list_append mt_append (pv 2) (pa_cons (pv 4) pa_nil)))) (pss_one (ps_expr (pe_bm PySem.F.plainAttrs_list PySem.F.slot_list_append PySem.F.type_list_append mt_append (pv 3) (pa_cons (pe_tup (pa_cons (pv 4) (pa_cons (pv 6) pa_nil))) pa_nil))))))))
 (pss_cons (ps_asg (pe_call G_cbare_drops (hr.mono (by decide)) (by rfl) m_cbare_drops k_cbare_drops b_cbare_drops .nil pass0 (pa_cons (pv 0) (pa_cons (pv 2) pa_nil))) (pg_tup rfl (pgs_cons (pg_name (i := 2) sc_granted.nd rfl (by first | exact Or.inl rfl | exact Or.inr rfl)) (pgs_cons (pg_name (i := 7) sc_granted.nd rfl (by first | exact Or.inl rfl | exact Or.inr rfl)) pgs_nil))))
 (pss_cons (ps_setLc (i := 5) (own := [("name", 4)]) (g := gName 4) (tt := tYes) rfl sc_granted.nd rfl rfl (sw_true rfl rfl rfl (by decide +kernel)) (pi_list (pe_call G_cstrikers_of (hr.mono (by decide)) (by rfl) m_cstrikers_of k_cstrikers_of b_cstrikers_of .nil pass0 (pa_cons (pv 0) (pa_cons (pv 2) pa_nil)))) (blkOk_by (N := ["web", "answers", "some", "drops", "name", "trees", "why", "more"]) (sc := defScope (top 32)) (by decide +kernel)) ?c1g ?c1t ?c1e)
 (pss_one (ps_ret (pe_tup (pa_cons (pv 2) (pa_cons (pe_tup (pa_cons (pv 5) (pa_cons (pe_op op_cat (pv 3) (pv 7)) pa_nil))) pa_nil)))))))))), ?_⟩
  (case c1g => exact fun _ _ _ _ _ => pg_name (i := 4) sc_granted.nd rfl (Or.inl rfl)); (case c1t => (intro _ _ _ _ _; refine' Sw.pts_te (pts_nil) ?c1tq; (case c1tq => (first | ((dsimp only [L2.Cx.blk]) <;> exact rfl) | exact rfl)))); (case c1e => (intro _ _ _ _ _; refine' Sw.pe_te (pe_tup (pa_cons (pv 4) (pa_cons (pe_ix ix_tup (pe_dget hu (pv 1) (pv 4) (fun _ _ => rfl)) (pe_int) (fun _ _ => rfl)) pa_nil))) ?c1eq; (case c1eq => (first | ((dsimp only [L2.Cx.blk]) <;> exact rfl) | exact rfl))))
  try clear G_canswers_by_name b_canswers_by_name k_canswers_by_name m_canswers_by_name
  try clear d_canswers_by_name f_canswers_by_name
  try clear G_cWeb_all_names b_cWeb_all_names
  try clear d_cWeb_all_names
  try clear C_cWeb_all_names x_cWeb_all_names
  try clear G_cfirst_drop b_cfirst_drop k_cfirst_drop m_cfirst_drop
  try clear d_cfirst_drop f_cfirst_drop
  try clear G_cbare_drops b_cbare_drops k_cbare_drops m_cbare_drops
  try clear d_cbare_drops f_cbare_drops
  try clear G_cstrikers_of b_cstrikers_of k_cstrikers_of m_cstrikers_of
  try clear d_cstrikers_of f_cstrikers_of
  try clear hu hr
  have hsl := srt_len N
  have hnd : (srt N).Nodup := srt_nodup.mpr h2
  obtain ⟨w9, hw9, e19, e29⟩ := h1.ex
  have m0 := hw9 _ (.head _)
  clear hw9
  walk_at "rd"
  rename_i d Z vf W H1 A1 eZ hZ hG ps _ A2 pd H2 A3 q H4 A4
  obtain ⟨F, A5, md, mq, mW, mF, eF⟩ : ∃ F, At H4 ((ps, .lst []) :: (pd, .lst []) :: (W ++ F)) ∧ (d, HO.dK (dk (zr Z))) ∈ F ∧ (q, HO.lst ((srt N).map V.str)) ∈ F ∧ True ∧ (∀ c ∈ L, c ∈ F) ∧ ∃ BF, F = BF ++ L :=
    ⟨(d, .dK (dk (zr Z))) :: (q, .lst ((srt N).map V.str)) :: L, by walk_at "sb", .head _, .tail _ (.head _), trivial, fun c m => .tail _ (.tail _ m), [(d, .dK (dk (zr Z))), (q, .lst ((srt N).map V.str))], rfl⟩
  have web9 := h1.mono mF
  clear A1 A2 A3 A4
  refine Sw.loop_map (f := V.str) (zs := srt N) (fun j σ H' => ∃ (dv : List V) (CD : List Cell) (v4 v5 v6 v7 : Option V), σ = [some (.ref p), some (.ref d), some (.ref ps), some (.ref pd), v4, v5, v6, v7] ∧ At H' ((ps, .lst ((some0 (skF es) ((srt N).take j)).map V.str)) :: (pd, .lst dv) :: (CD ++ (W ++ F))) ∧ OwnAll W CD dv ((drops0 (skF es) ((srt N).take j)).map dropD))
    ⟨[], [], _, _, _, _, rfl, A5, .nil⟩ (fun j σ H' ⟨_, _, _, _, _, _, _, A, _⟩ => SqL.of (A.rd (by walk_at "mem"))) ?_ ?_
  · rintro j z σ H5 hz ⟨dv, CD, v4, v5, v6, v7, rfl, A6, hO⟩
    have hzN : z ∈ N := srt_mem.mp (List.mem_of_getElem? hz)
    have hjl := (List.getElem?_eq_some_iff.mp hz).1
    have hdl := hO.len
    have ed : drops0 (skF es) ((srt N).take (j + 1)) = drops0 (skF es) ((srt N).take j) ++ ((firstD (skF es) z).map fun w => (z, w)).toList := by
      unfold drops0
      rw [List.take_succ, hz, List.filterMap_append]
      have e1 : List.filterMap (fun z => (firstD (skF es) z).map fun w => (z, w)) [z] = ((firstD (skF es) z).map fun w => (z, w)).toList := by
        rw [List.filterMap_cons]
        cases firstD (skF es) z <;> rfl
      exact congrArg _ e1
    have eso : some0 (skF es) ((srt N).take (j + 1)) = some0 (skF es) ((srt N).take j) ++ if (firstD (skF es) z).isNone then [z] else [] := by
      unfold some0
      rw [List.take_succ, hz, List.filter_append]
      have e1 : List.filter (fun z => (firstD (skF es) z).isNone) [z] = if (firstD (skF es) z).isNone then [z] else [] := by
        rw [List.filter_cons]
        rfl
      exact congrArg _ e1
    have hdl2 : (drops0 (skF es) ((srt N).take j)).length ≤ j := by
      unfold drops0
      exact Nat.le_trans (List.length_filterMap_le _ _) (by rw [List.length_take]; omega)
    have hsl2 : (some0 (skF es) ((srt N).take j)).length ≤ j := by
      unfold some0
      exact Nat.le_trans (List.length_filter_le _ _) (by rw [List.length_take]; omega)
    rw [List.length_map] at hdl
    have hWm : ∀ c ∈ W, c ∈ (ps, HO.lst ((some0 (skF es) ((srt N).take j)).map V.str)) :: (pd, .lst dv) :: (CD ++ (W ++ F)) := fun c m => .tail _ (.tail _ (List.mem_append_right _ (List.mem_append_left _ m)))
    have md9 : (d, HO.dK (dk (zr Z))) ∈ (ps, HO.lst ((some0 (skF es) ((srt N).take j)).map V.str)) :: (pd, .lst dv) :: (CD ++ (W ++ F)) := .tail _ (.tail _ (List.mem_append_right _ (List.mem_append_right _ md)))
    clear A5
    walk_at "rdn"
    rename_i v C H6 A7 hw
    cases ef : firstD (skF es) z with
    | none =>
      rw [ef] at hw ed eso
      obtain ⟨rfl, rfl⟩ := hw
      have ed2 : drops0 (skF es) ((srt N).take (j + 1)) = drops0 (skF es) ((srt N).take j) := ed.trans (List.append_nil _)
      have eso2 : some0 (skF es) ((srt N).take (j + 1)) = some0 (skF es) ((srt N).take j) ++ [z] := eso
      walk_at "rd"
      · refine ⟨dv, CD, _, _, _, _, rfl, ?_, by rw [ed2]; exact hO⟩
        rw [eso2]
        walk_at "sb"
      · exact absurd (rfl : V.non = .non) (by assumption)
    | some w =>
      rw [ef] at hw ed eso
      have hvn : ¬ v = .non := fun e => by
        subst e
        cases w <;> (have hw : Own W C .non (.tuple _) := hw; cases hw with | pure h _ => cases h)
      have ed2 : drops0 (skF es) ((srt N).take (j + 1)) = drops0 (skF es) ((srt N).take j) ++ [(z, w)] := ed
      have eso2 : some0 (skF es) ((srt N).take (j + 1)) = some0 (skF es) ((srt N).take j) := eso.trans (List.append_nil _)
      have hw2 : Own W C v (whyD w) := hw
      walk_at "rd"
      rename_i p9 H7 A9 H8 A10
      refine ⟨dv ++ [.ref p9], CD ++ ((p9, .tup [.str z, v]) :: C), _, _, _, _, rfl, ?_, ?_⟩
      · rw [eso2, List.append_assoc]
        have A11 : At H8 ((pd, .lst (dv ++ [.ref p9])) :: (p9, .tup [.str z, v]) :: (C ++ ((ps, .lst ((some0 (skF es) ((srt N).take j)).map V.str)) :: (CD ++ (W ++ F))))) := A10
        clear A9 A10
        walk_at "sb"
      · rw [ed2, List.map_append]
        exact hO.app (OwnAll.one (Own.tup (OwnAll.cons (C := []) (own_str z) (OwnAll.one hw2))))
  · rintro σ H5 ⟨dv, CD, v4, v5, v6, v7, rfl, A6, hO⟩
    rw [List.take_length] at A6 hO
    clear A5
    obtain ⟨F2, A7, m2, web2, md2, mW2, eF2⟩ : ∃ F2, At H5 ((pd, .lst dv) :: (CD ++ F2)) ∧ (ps, HO.lst ((some0 (skF es) (srt N)).map V.str)) ∈ F2 ∧ WebIn K F2 p N es ∧ (d, HO.dK (dk (zr Z))) ∈ F2 ∧ (∀ c ∈ W, c ∈ F2) ∧ ∃ BF, F2 = BF ++ L ∧ ∀ c ∈ W, c ∈ BF :=
      ⟨(ps, .lst ((some0 (skF es) (srt N)).map V.str)) :: (W ++ F), by walk_at "sb", .head _, web9.mono fun c m => .tail _ (List.mem_append_right _ m), .tail _ (List.mem_append_right _ md), fun c m => .tail _ (List.mem_append_left _ m), eF.elim fun BF e => ⟨(ps, .lst ((some0 (skF es) (srt N)).map V.str)) :: (W ++ BF), by rw [e, List.cons_append, List.append_assoc], fun c m => .tail _ (List.mem_append_left _ m)⟩⟩
    have hsn : (some0 (skF es) (srt N)).Nodup := hnd.filter _
    have hss : ∀ z ∈ some0 (skF es) (srt N), z ∈ N := fun z m => srt_mem.mp (mem_some0.mp m).1
    clear A6
    have hNl : (srt N).length ≤ 30 := by omega
    have gsub := fun z m => hss z ((bareL_ok (f := skF es) (P := fun _ => False) (fun _ h => h.elim) _ _ (Nat.lt_succ_self (some0 (skF es) (srt N)).length) hsn (fun _ h => h.elim)).1.subset (a := z) m)
    walk_at "rdn"
    rename_i r1 pl pm mv C H6 A8 hO2 q2 H7 A9
    clear A7 A8
    have hgl : (strikersIn (skF es) (srt N) (bareL (skF es) ((some0 (skF es) (srt N)).length + 1) (some0 (skF es) (srt N))).1).length ≤ (srt N).length := List.length_filter_le _ _
    have htr : ∀ x ∈ strikersIn (skF es) (srt N) (bareL (skF es) ((some0 (skF es) (srt N)).length + 1) (some0 (skF es) (srt N))).1, x ∈ N ∧ ∃ d, grow (skF es) 32 [x] = .no d ∧ NoL d := fun x m => by
      have := grant_trees h6 hnd (rise_srt N) h3.srt hNl m
      exact ⟨srt_mem.mp this.1, this.2⟩
    have hdl4 := bareL_len30 (f := skF es) (cur := some0 (skF es) (srt N)) (Nat.le_trans (List.length_filter_le _ _) hNl)
    generalize eb : bareL (skF es) ((some0 (skF es) (srt N)).length + 1) (some0 (skF es) (srt N)) = bl at *
    generalize et : strikersIn (skF es) (srt N) bl.1 = xs at *
    obtain ⟨F3, A10, mq2, md3, mW3, eF3⟩ : ∃ F3, At H7 ((r1, .tup [.ref pl, .ref pm]) :: (pl, .lst (bl.1.map V.str)) :: (pm, .lst mv) :: (pd, .lst dv) :: (C ++ (CD ++ F3))) ∧ (q2, HO.lst (xs.map V.str)) ∈ F3 ∧ (d, HO.dK (dk (zr Z))) ∈ F3 ∧ (∀ c ∈ W, c ∈ F3) ∧ ∃ BF, F3 = BF ++ L ∧ ∀ c ∈ W, c ∈ BF :=
      ⟨(q2, .lst (xs.map V.str)) :: F2, by walk_at "sb", .head _, .tail _ md2, fun c m => .tail _ (mW2 c m), eF2.elim fun BF e => ⟨(q2, .lst (xs.map V.str)) :: BF, by rw [e.1, List.cons_append], fun c m => .tail _ (e.2 c m)⟩⟩
    have ndZ : (Z.map Prod.fst).Nodup := by
      rw [eZ]
      exact hnd
    have look : ∀ y ∈ N, ∃ a, (zr Z).lookup y = some (.ref a) ∧ (a, HO.tup [.str (grow (skF es) 32 [y]).word, vf y]) ∈ W := fun y m => by
      obtain ⟨a, ha⟩ := zr_has (Z := Z) (n := y) (by rw [eZ]; exact srt_mem.mpr m)
      exact ⟨a, zr_at ndZ ha, hZ y a ha⟩
    have hdl := hO.len
    have hdl2 := (hO2 []).len
    have hdl3 : (drops0 (skF es) (srt N)).length ≤ (srt N).length := List.length_filterMap_le _ _
    rw [List.length_map] at hdl hdl2
    refine Sw.lc_tups (us := xs) (f := V.str) (fun x : Str => [V.str x, vf x]) (fun _ => true) A10 (by walk_at "mem") (by omega) (fun u H8 D acc C2 Yk Nk hu A11 hY hN => ?_) fun D ts H8 A11 ets => ?_
    · obtain ⟨a0, hlk0, ma0⟩ := look u (htr u hu).1
      have ma1 := mW3 _ ma0
      have hub := h4 u (htr u hu).1
      walk_at "rd"
      exact hY _ _ rfl (by walk_at "sb")
    · rw [all_true_filter] at ets
      walk_at "rd"
      rename_i p3 H9 B1 p2 H10 B2 p1 H11 B3
      obtain ⟨BF, rfl, hBF⟩ := eF3
      have eg : grantP (skF es) (srt N) = bl := eb
      refine k p1 pl p2 D p3 (ts.map fun z => V.ref z.1) (dv ++ mv) (tcs (fun x => [V.str x, vf x]) ts) (CD ++ C) ((r1, .tup [.ref pl, .ref pm]) :: (pm, .lst mv) :: (pd, .lst dv) :: BF) _ ?_ ?_ ?_
      · rw [eg, List.append_assoc]
        clear B1 B2 A10 A11
        walk_at "sb"
      · rw [eg]
        unfold treesD
        rw [et, ← ets]
        refine own_tups (δ := fun x => noD (grow (skF es) 32 [x])) ts fun x m => ?_
        rw [ets] at m
        obtain ⟨hxN, dd, hg, hn⟩ := htr x m
        have hG := hG x hxN
        rw [hg] at hG ⊢
        exact ⟨_, rfl, Rp.mono (fun c m => .tail _ (.tail _ (.tail _ (hBF c m)))) hG, hn⟩
      · rw [eg, List.map_append]
        exact (hO.mono fun c m => .tail _ (.tail _ (.tail _ (hBF c m)))).app (hO2 _)
end
end Sw

namespace Sw
open PySem L2 PySem.W
def sp__law_set_of : Sp := fun vs H Q E => match vs with
  | [.ref p, .int z] => ∃ (m : Nat) (pn pk pu : Addr) (N : List Str) (ks us : List Nat) (L : List Cell), (z = (m : Int)) ∧ (At H L) ∧ (Vw L p pn pk pu N ks us) ∧ (N.length ≤ 30) ∧ (∀ (q : Addr) (H' : Hp), (At H' ((q, .lst ((setOf N m).map V.str)) :: L)) → Q (.ref q) H')
  | _ => False
end Sw
local macro_rules | `(tactic| walk_at "rdc") => `(tactic| ((with_reducible show Sw.sp__law_set_of _ _ _ _); k_dflt (refine' ⟨_, _, _, _, _, _, _, _, ?h0, ?h1, ?h2, ?h3, ?_⟩); (case h0 => k_dflt rfl); (case h1 => assumption); (case h2 => k_dflt (walk_at "vw")); (case h3 => k_dflt (walk_at "om")); intro _ _ _))
local macro_rules | `(tactic| walk_at "call") => `(tactic| ((with_reducible show Sw.sp__law_set_of _ _ _ _); k_dflt (refine' ⟨_, _, _, _, _, _, _, _, ?h0, ?h1, ?h2, ?h3, ?_⟩); (try (case h0 => k_dflt rfl)); (try (case h1 => assumption)); (try (case h2 => k_dflt (walk_at "vw"))); (try (case h3 => k_dflt (walk_at "om")))))
namespace Sw
open PySem L2 PySem.W
section
variable {P : Program} {w : World} {K : PySem.W.Frag} {mg : Str → Option Value} {base : Heap}
theorem sc__law_set_of : FnScope ["_law_view", "_law_mask", "_law_k", "_law_name"] ["_law_view", "_law_mask"] (defScope (top 47)) := ⟨rfl, rfl, rfl, by decide +kernel, rfl, by decide +kernel, by decide +kernel⟩
theorem ok__law_set_of (T : Tx K mg) : Cal P w K mg base "_law_set_of" 1 ["_law_view", "_law_mask"] (sp__law_set_of) := by
  refine T.f__law_set_of.cal (N := ["_law_view", "_law_mask", "_law_k", "_law_name"]) sc__law_set_of (fun _ _ _ _ _ _ us hl => match us, hl with | [_, _], _ => rfl) (fun vs H Q E h => by
    unfold sp__law_set_of at h
    split at h
    all_goals first | rfl | exact h.elim) ?_
  intro f cdv A outer s H vs Q E hr h
  have hu := hu_of hr
  unfold sp__law_set_of at h
  split at h
  rotate_left
  · exact h.elim
  rename_i p z
  obtain ⟨m, pn, pk, pu, N, ks, us, L, h0, h1, h2, h3, k⟩ := h
  refine' ⟨_, pss_one (ps_ret (pe_lc (own := [("_law_k", 2), ("_law_name", 3)]) (g := gTup K 2 (gCons (gName 2) (gCons (gName 3) (gNil)))) rfl sc__law_set_of.nd (pi_enum (by rfl) T.z_enumerate (pa_cons (pe_ix ix_list (pv 0) (pe_int) (fun _ _ => rfl)) pa_nil)) (blkOk_by (N := ["_law_view", "_law_mask", "_law_k", "_law_name"]) (sc := defScope (top 47)) (by decide +kernel)) ?c1g ?c1t ?c1e)), ?_⟩
  (case c1g => exact fun _ _ _ _ _ => pg_tup rfl (pgs_cons (pg_name (i := 2) sc__law_set_of.nd rfl (Or.inl rfl)) (pgs_cons (pg_name (i := 3) sc__law_set_of.nd rfl (Or.inl rfl)) pgs_nil))); (case c1t => (intro _ _ _ _ _; refine' Sw.pts_te (pts_one (pt_cmpR op_eq (pe_op op_and (pe_op op_shr (pv 1) (pv 2)) (pe_int)) (pe_int) (nomark _))) ?c1tq; (case c1tq => (first | ((dsimp only [L2.Cx.blk]) <;> exact rfl) | exact rfl)))); (case c1e => (intro _ _ _ _ _; refine' Sw.pe_te (pv 3) ?c1eq; (case c1eq => (first | ((dsimp only [L2.Cx.blk]) <;> exact rfl) | exact rfl))))
  try clear hu hr
  subst h0
  obtain ⟨m1, m2, m3, m4⟩ := h2
  walk_at "rd"
  refine Sw.lc_enum h1 m2 (by omega) (fun u => m.testBit u.2) (fun u => V.str u.1) (fun u n T H1 D acc Yk Nk hu A1 hY hN => ?_) fun D H1 A1 => ?_
  · walk_at "rd"
    · exact hY _ _ (bit_is.mp (by assumption)) rfl (by walk_at "sb")
    · exact hN _ (bit_isF (by assumption)) (by walk_at "sb")
  · exact k _ _ (by unfold setOf; rw [List.map_map]; exact A1)
end
end Sw

namespace Sw
open PySem L2 PySem.W
def sp_look_name (K : PySem.W.Frag) : Sp := fun vs H Q E => match vs with
  | [.ref p, .str z] => ∃ (N : List Str) (es : List (Str × Str)) (L : List Cell), (At H L) ∧ (WebIn K L p N es) ∧ ((¬ z ∈ N) → ∀ (H' : Hp), (At H' L) → E (.ref (He.ga K "NoName")) none H') ∧ (¬ (¬ z ∈ N) → (∀ (H' : Hp), (At H' L) → Q (.non) H'))
  | _ => False
end Sw
local macro_rules | `(tactic| walk_at "rdc") => `(tactic| first | ((with_reducible show Sw.sp_look_name _ _ _ _ _); k_dflt (refine' ⟨_, _, _, ?h0, ?h1, fun hz => Sw.no_of hz ?hz, fun _ => ?_⟩); (case h0 => assumption); (case h1 => k_dflt (walk_at "web")); (case hz => walk_at "nn"); intro _ _) | ((with_reducible show Sw.sp_look_name _ _ _ _ _); k_dflt (refine' ⟨_, _, _, ?h0, ?h1, fun _ _ _ => ?_, fun hn => Sw.no_of ?hz hn⟩); (case h0 => assumption); (case h1 => k_dflt (walk_at "web")); (case hz => k_dflt assumption)) | ((with_reducible show Sw.sp_look_name _ _ _ _ _); k_dflt (refine' ⟨_, _, _, ?h0, ?h1, fun _ _ _ => ?_, fun _ _ _ => ?_⟩); (case h0 => assumption); (case h1 => k_dflt (walk_at "web")); skip))
local macro_rules | `(tactic| walk_at "call") => `(tactic| ((with_reducible show Sw.sp_look_name _ _ _ _ _); k_dflt (refine' ⟨_, _, _, ?h0, ?h1, fun _ _ _ => ?_, fun _ _ _ => ?_⟩); (try (case h0 => assumption)); (try (case h1 => k_dflt (walk_at "web")))))
namespace Sw
open PySem L2 PySem.W
section
variable {P : Program} {w : World} {K : PySem.W.Frag} {mg : Str → Option Value} {base : Heap}
local macro_rules | `(tactic| walk_at "brp") => `(tactic| first | (refine' Sw.rd_brNY ?h ?_; (case h => assumption)) | (refine' Sw.rd_brNN ?h ?_; (case h => assumption)) | (refine' Sw.rd_brY ?h ?_; (case h => assumption)) | (refine' Sw.rd_brNo ?h ?_; (case h => assumption)))
theorem sc_look_name : FnScope ["web", "name"] ["web", "name"] (defScope (top 23)) := ⟨rfl, rfl, rfl, by decide +kernel, rfl, by decide +kernel, by decide +kernel⟩
theorem ok_look_name (T : Tx K mg) : CalX P w K mg base "look_name" 2 ["web", "name"] (sp_look_name K) := by
  obtain ⟨d_cWeb_all_names, b_cWeb_all_names, G_cWeb_all_names⟩ := (ok_Web_all_names (P := P) (w := w) (base := base) T).ex
  have C_cWeb_all_names := T.cl_Web
  have x_cWeb_all_names := T.me_Web_all_names
  have cl_Sieve := T.cl_Sieve
  have na_Sieve_order := T.na_Sieve_order
  have na_Sieve_hitters := T.na_Sieve_hitters
  have na_Sieve_hits := T.na_Sieve_hits
  have cl_Web := T.cl_Web
  have na_Web_strikers_by := T.na_Web_strikers_by
  have na_Web_struck_by := T.na_Web_struck_by
  have na_Web_own_pairs := T.na_Web_own_pairs
  refine T.f_look_name.calX (N := ["web", "name"]) sc_look_name (fun _ _ _ _ _ _ us hl => match us, hl with | [_, _], _ => rfl) (fun vs H Q E h => by
    unfold sp_look_name at h
    split at h
    all_goals first | rfl | exact h.elim) ?_
  intro f cdv A outer s H vs Q E hr h
  have hu := hu_of hr
  unfold sp_look_name at h
  split at h
  rotate_left
  · exact h.elim
  rename_i p z
  obtain ⟨N, es, L, h0, h1, kE, k⟩ := h
  refine ⟨_, pss_one (ps_if (pt_cmpR op_notIn_seq (pv 1) (pe_meth0 (pv 0) C_cWeb_all_names x_cWeb_all_names G_cWeb_all_names (hr.mono (by decide)) b_cWeb_all_names .nil pass0) (by rfl)) (pss_one (Sw.ps_rz rfl (takes_of rfl rfl rfl rfl) T.ex_NoName T.g_NoName (by rfl))) (pss_nil)), ?_⟩
  try clear G_cWeb_all_names b_cWeb_all_names
  try clear d_cWeb_all_names
  try clear C_cWeb_all_names x_cWeb_all_names
  try clear hu hr
  obtain ⟨w, hw, e1, e2⟩ := h1.ex
  have m0 := hw _ (.head _)
  walk_at "rd"
  · rename_i h
    exact kE (fun m => h (srt_mem.mpr m)) _ (by walk_at "sb")
  · rename_i h
    exact k (fun n => n (srt_mem.mp h)) _ (by walk_at "sb")
end
end Sw

namespace Sw
open PySem L2 PySem.W
def sp_in_some (K : PySem.W.Frag) : Sp := fun vs H Q E => match vs with
  | [.ref p, .str z] => ∃ (N : List Str) (es : List (Str × Str)) (L : List Cell), (At H L) ∧ (WebIn K L p N es) ∧ (N.Nodup) ∧ (SOk N es) ∧ (∀ y ∈ N, nameB y = true) ∧ (N.length ≤ 30 ∧ es.length ≤ 9000) ∧ ((¬ z ∈ N) → ∀ (H' : Hp), (At H' L) → E (.ref (He.ga K "NoName")) none H') ∧ (¬ (¬ z ∈ N) → (∀ (r : Addr) (W : List Cell) (v : V) (H' : Hp), (At H' ((r, .tup [.str (grow (skF es) 32 [z]).word, v]) :: (W ++ L))) → (GrOk W v (grow (skF es) 32 [z])) → Q (.ref r) H'))
  | _ => False
end Sw
local macro_rules | `(tactic| walk_at "rdc") => `(tactic| first | ((with_reducible show Sw.sp_in_some _ _ _ _ _); k_dflt (refine' ⟨_, _, _, ?h0, ?h1, ?h2, ?h3, ?h4, ?h5, fun hz => Sw.no_of hz ?hz, fun _ => ?_⟩); (case h0 => assumption); (case h1 => k_dflt (walk_at "web")); (case h2 => k_dflt (assumption)); (case h3 => k_dflt (assumption)); (case h4 => k_dflt (assumption)); (case h5 => k_dflt (walk_at "om")); (case hz => walk_at "nn"); intro _ _ _ _ _ _) | ((with_reducible show Sw.sp_in_some _ _ _ _ _); k_dflt (refine' ⟨_, _, _, ?h0, ?h1, ?h2, ?h3, ?h4, ?h5, fun _ _ _ => ?_, fun hn => Sw.no_of ?hz hn⟩); (case h0 => assumption); (case h1 => k_dflt (walk_at "web")); (case h2 => k_dflt (assumption)); (case h3 => k_dflt (assumption)); (case h4 => k_dflt (assumption)); (case h5 => k_dflt (walk_at "om")); (case hz => k_dflt assumption)) | ((with_reducible show Sw.sp_in_some _ _ _ _ _); k_dflt (refine' ⟨_, _, _, ?h0, ?h1, ?h2, ?h3, ?h4, ?h5, fun _ _ _ => ?_, fun _ _ _ _ _ _ _ => ?_⟩); (case h0 => assumption); (case h1 => k_dflt (walk_at "web")); (case h2 => k_dflt (assumption)); (case h3 => k_dflt (assumption)); (case h4 => k_dflt (assumption)); (case h5 => k_dflt (walk_at "om")); skip))
local macro_rules | `(tactic| walk_at "call") => `(tactic| ((with_reducible show Sw.sp_in_some _ _ _ _ _); k_dflt (refine' ⟨_, _, _, ?h0, ?h1, ?h2, ?h3, ?h4, ?h5, fun _ _ _ => ?_, fun _ _ _ _ _ _ _ => ?_⟩); (try (case h0 => assumption)); (try (case h1 => k_dflt (walk_at "web"))); (try (case h2 => k_dflt (assumption))); (try (case h3 => k_dflt (assumption))); (try (case h4 => k_dflt (assumption))); (try (case h5 => k_dflt (walk_at "om")))))
namespace Sw
open PySem L2 PySem.W
section
variable {P : Program} {w : World} {K : PySem.W.Frag} {mg : Str → Option Value} {base : Heap}
local macro_rules | `(tactic| walk_at "brp") => `(tactic| first | (refine' Sw.rd_brNY ?h ?_; (case h => assumption)) | (refine' Sw.rd_brNN ?h ?_; (case h => assumption)) | (refine' Sw.rd_brY ?h ?_; (case h => assumption)) | (refine' Sw.rd_brNo ?h ?_; (case h => assumption)))
theorem sc_in_some : FnScope ["web", "name"] ["web", "name"] (defScope (top 24)) := ⟨rfl, rfl, rfl, by decide +kernel, rfl, by decide +kernel, by decide +kernel⟩
theorem ok_in_some (T : Tx K mg) : CalX P w K mg base "in_some" 36 ["web", "name"] (sp_in_some K) := by
  obtain ⟨f_clook_name, d_clook_name, m_clook_name, k_clook_name, b_clook_name, G_clook_name⟩ := (ok_look_name (P := P) (w := w) (base := base) T).ex
  obtain ⟨f_cstanding_with, d_cstanding_with, m_cstanding_with, k_cstanding_with, b_cstanding_with, G_cstanding_with⟩ := (ok_standing_with (P := P) (w := w) (base := base) T).ex
  refine T.f_in_some.calX (N := ["web", "name"]) sc_in_some (fun _ _ _ _ _ _ us hl => match us, hl with | [_, _], _ => rfl) (fun vs H Q E h => by
    unfold sp_in_some at h
    split at h
    all_goals first | rfl | exact h.elim) ?_
  intro f cdv A outer s H vs Q E hr h
  have hu := hu_of hr
  unfold sp_in_some at h
  split at h
  rotate_left
  · exact h.elim
  rename_i p z
  obtain ⟨N, es, L, h0, h1, h2, h3, h4, h5, kE, k⟩ := h
  refine ⟨_, pss_cons (ps_expr (pe_callS G_clook_name (hr.mono (by decide)) (by rfl) m_clook_name k_clook_name b_clook_name (fun σ => passAt (W := fun cls d _ H => E cls d H) (takes_of rfl rfl rfl rfl) σ) (pa_cons (pv 0) (pa_cons (pv 1) pa_nil))))
 (pss_one (ps_ret (pe_call G_cstanding_with (hr.mono (by decide)) (by rfl) m_cstanding_with k_cstanding_with b_cstanding_with .nil pass0 (pa_cons (pv 0) (pa_cons (pe_lst (pa_cons (pv 1) pa_nil)) pa_nil))))), ?_⟩
  try clear G_clook_name b_clook_name k_clook_name m_clook_name
  try clear d_clook_name f_clook_name
  try clear G_cstanding_with b_cstanding_with k_cstanding_with m_cstanding_with
  try clear d_cstanding_with f_cstanding_with
  try clear hu hr
  walk_at "rd"
  · rename_i h _ A1
    exact kE h _ A1
  · rename_i h H1 _ p H2 A2
    have hz : z ∈ N := Classical.byContradiction h
    have hs : ∀ y ∈ [z], y ∈ N := fun y m => by
      rw [List.mem_singleton.mp m]
      exact hz
    have hl : N.length ≤ 30 ∧ ([z] : List Str).length ≤ 1000 ∧ es.length ≤ 9000 := ⟨h5.1, by show 1 ≤ 1000; decide, h5.2⟩
    have A3 : At H2 ((p, .lst (([z] : List Str).map V.str)) :: L) := A2
    clear A2
    walk_at "rd"
    rename_i r W v H3 A4 G
    exact k h r W v _ (by walk_at "sb") G
end
end Sw

namespace Sw
open PySem L2 PySem.W
def sp_Sieve_mask_for (K : PySem.W.Frag) : Sp := fun vs H Q E => match vs with
  | [.ref p, .ref q] => ∃ (dx pn : Addr) (fs : List (Str × V)) (N ys : List Str) (L : List Cell), (At H L) ∧ ((p, HO.ins (He.ga K "Sieve") dx fs) ∈ L) ∧ (fs.lookup ("order" : Str) = some (V.ref pn)) ∧ ((pn, HO.lst (N.map V.str)) ∈ L) ∧ ((q, HO.lst (ys.map V.str)) ∈ L) ∧ (N.Nodup) ∧ (∀ y ∈ ys, y ∈ N) ∧ (N.length ≤ 30 ∧ ys.length ≤ 9000) ∧ (∀ (H' : Hp), (At H' L) → Q (.int ((maskL N ys : Nat) : Int)) H')
  | _ => False
end Sw
local macro_rules | `(tactic| walk_at "rdc") => `(tactic| ((with_reducible show Sw.sp_Sieve_mask_for _ _ _ _ _); k_dflt (refine' ⟨_, _, _, _, _, _, ?h0, ?h1, ?h2, ?h3, ?h4, ?h5, ?h6, ?h7, ?_⟩); (case h0 => assumption); (case h1 => k_dflt (walk_at "mem")); (case h2 => k_dflt (walk_at "fl")); (case h3 => k_dflt (walk_at "mem")); (case h4 => k_dflt (walk_at "mem")); (case h5 => k_dflt (assumption)); (case h6 => k_dflt (assumption)); (case h7 => k_dflt (walk_at "om")); intro _ _))
local macro_rules | `(tactic| walk_at "call") => `(tactic| ((with_reducible show Sw.sp_Sieve_mask_for _ _ _ _ _); k_dflt (refine' ⟨_, _, _, _, _, _, ?h0, ?h1, ?h2, ?h3, ?h4, ?h5, ?h6, ?h7, ?_⟩); (try (case h0 => assumption)); (try (case h1 => k_dflt (walk_at "mem"))); (try (case h2 => k_dflt (walk_at "fl"))); (try (case h3 => k_dflt (walk_at "mem"))); (try (case h4 => k_dflt (walk_at "mem"))); (try (case h5 => k_dflt (assumption))); (try (case h6 => k_dflt (assumption))); (try (case h7 => k_dflt (walk_at "om")))))
namespace Sw
open PySem L2 PySem.W
section
variable {P : Program} {w : World} {K : PySem.W.Frag} {mg : Str → Option Value} {base : Heap}
theorem sc_Sieve_mask_for : FnScope ["self", "some", "mask", "name"] ["self", "some"] (defScope (inClass (top 9) 1)) := ⟨rfl, rfl, rfl, by decide +kernel, rfl, by decide +kernel, by decide +kernel⟩
theorem ok_Sieve_mask_for (T : Tx K mg) : MCal P w K mg base (He.ma K (He.ga K "Sieve") "mask_for") 1 ["self", "some"] (sp_Sieve_mask_for K) := by
  have cl_Sieve := T.cl_Sieve
  have na_Sieve_order := T.na_Sieve_order
  have na_Sieve_hitters := T.na_Sieve_hitters
  have na_Sieve_hits := T.na_Sieve_hits
  have cl_Web := T.cl_Web
  have na_Web_strikers_by := T.na_Web_strikers_by
  have na_Web_struck_by := T.na_Web_struck_by
  have na_Web_own_pairs := T.na_Web_own_pairs
  refine mcal T.fd_Sieve_mask_for (N := ["self", "some", "mask", "name"]) sc_Sieve_mask_for (fun _ _ _ _ _ _ us hl => match us, hl with | [_, _], _ => rfl) (fun vs H Q E h => by
    unfold sp_Sieve_mask_for at h
    split at h
    all_goals first | rfl | exact h.elim) ?_
  intro cdv A outer s H vs Q E hr h
  have hu := hu_of hr
  unfold sp_Sieve_mask_for at h
  split at h
  rotate_left
  · exact h.elim
  rename_i p q
  obtain ⟨dx, pn, fs, N, ys, L, h0, h1, h2, h3, h4, h5, h6, h7, k⟩ := h
  refine ⟨_, pss_cons (ps_set (i := 2) sc_Sieve_mask_for.nd rfl (by first | exact Or.inl rfl | exact Or.inr rfl) (pe_int))
 (pss_cons (ps_for PassesOwn.never rfl (pi_list (pv 1)) (pg_name (i := 3) sc_Sieve_mask_for.nd rfl (by first | exact Or.inl rfl | exact Or.inr rfl)) (pss_one (ps_aug (i := 2) sc_Sieve_mask_for.nd rfl (by first | exact Or.inl rfl | exact Or.inr rfl) (pe_op Sw.op_shlA (pe_int) (pe_bm PySem.F.plainAttrs_list PySem.F.slot_list_index PySem.F.type_list_index mt_index (pe_fld (pv 0) rfl) (pa_cons (pv 3) pa_nil))) Sw.ip_or)))
 (pss_one (ps_ret (pv 2)))), ?_⟩
  try clear hu hr
  walk_at "rd"
  refine Sw.loop_map (f := V.str) (zs := ys) (fun i σ H' => ∃ v3, σ = [some (.ref p), some (.ref q), some (.int ((maskL N (ys.take i) : Nat) : Int)), v3] ∧ At H' L) ⟨_, rfl, h0⟩ (fun i σ H' ⟨_, _, A⟩ => SqL.of (A.rd h4)) ?_ ?_
  · rintro i z σ H1 hz ⟨v3, rfl, A1⟩
    have hzN : z ∈ N := h6 z (List.mem_of_getElem? hz)
    have et : ys.take (i + 1) = ys.take i ++ [z] := by rw [List.take_succ, hz]; rfl
    walk_at "rd"
    rename_i n hn _
    exact ⟨_, by rw [et, maskL_app, idx_of h5 hn]; rfl, A1⟩
  · rintro σ H1 ⟨v3, rfl, A1⟩
    rw [List.take_length]
    walk_at "rd"
    exact k _ A1
end
end Sw

namespace Sw
open PySem L2 PySem.W
def sp_Web_struck (K : PySem.W.Frag) : Sp := fun vs H Q E => match vs with
  | [.ref p, .str z] => ∃ (N : List Str) (es : List (Str × Str)) (L : List Cell), (At H L) ∧ (WebIn K L p N es) ∧ (N.Nodup) ∧ (z ∈ N) ∧ (nameB z = true) ∧ (∀ (q : Addr) (H' : Hp), (At H' ((q, .lst ((srt (struckOf es z)).map V.str)) :: L)) → Q (.ref q) H')
  | _ => False
end Sw
local macro_rules | `(tactic| walk_at "rdc") => `(tactic| ((with_reducible show Sw.sp_Web_struck _ _ _ _ _); k_dflt (refine' ⟨_, _, _, ?h0, ?h1, ?h2, ?h3, ?h4, ?_⟩); (case h0 => assumption); (case h1 => k_dflt (walk_at "web")); (case h2 => k_dflt (assumption)); (case h3 => k_dflt (assumption)); (case h4 => k_dflt (assumption)); intro _ _ _))
local macro_rules | `(tactic| walk_at "call") => `(tactic| ((with_reducible show Sw.sp_Web_struck _ _ _ _ _); k_dflt (refine' ⟨_, _, _, ?h0, ?h1, ?h2, ?h3, ?h4, ?_⟩); (try (case h0 => assumption)); (try (case h1 => k_dflt (walk_at "web"))); (try (case h2 => k_dflt (assumption))); (try (case h3 => k_dflt (assumption))); (try (case h4 => k_dflt (assumption)))))
namespace Sw
open PySem L2 PySem.W
section
variable {P : Program} {w : World} {K : PySem.W.Frag} {mg : Str → Option Value} {base : Heap}
theorem sc_Web_struck : FnScope ["self", "name"] ["self", "name"] (defScope (inClass (top 38) 5)) := ⟨rfl, rfl, rfl, by decide +kernel, rfl, by decide +kernel, by decide +kernel⟩
theorem ok_Web_struck (T : Tx K mg) : MCal P w K mg base (He.ma K (He.ga K "Web") "struck") 3 ["self", "name"] (sp_Web_struck K) := by
  obtain ⟨d_cWeb_look_name, b_cWeb_look_name, G_cWeb_look_name⟩ := (ok_Web_look_name (P := P) (w := w) (base := base) T).ex
  have C_cWeb_look_name := T.cl_Web
  have x_cWeb_look_name := T.me_Web_look_name
  have cl_Sieve := T.cl_Sieve
  have na_Sieve_order := T.na_Sieve_order
  have na_Sieve_hitters := T.na_Sieve_hitters
  have na_Sieve_hits := T.na_Sieve_hits
  have cl_Web := T.cl_Web
  have na_Web_strikers_by := T.na_Web_strikers_by
  have na_Web_struck_by := T.na_Web_struck_by
  have na_Web_own_pairs := T.na_Web_own_pairs
  refine mcal T.fd_Web_struck (N := ["self", "name"]) sc_Web_struck (fun _ _ _ _ _ _ us hl => match us, hl with | [_, _], _ => rfl) (fun vs H Q E h => by
    unfold sp_Web_struck at h
    split at h
    all_goals first | rfl | exact h.elim) ?_
  intro cdv A outer s H vs Q E hr h
  have hu := hu_of hr
  unfold sp_Web_struck at h
  split at h
  rotate_left
  · exact h.elim
  rename_i p z
  obtain ⟨N, es, L, h0, h1, h2, h3, h4, k⟩ := h
  refine ⟨_, pss_cons (ps_expr (pe_meth (pv 0) C_cWeb_look_name x_cWeb_look_name G_cWeb_look_name (hr.mono (by decide)) b_cWeb_look_name .nil pass0 (pa_cons (pv 1) pa_nil)))
 (pss_one (ps_ret (pe_callB (Sw.call_srt hr.units) (by rfl) T.z_sorted (by decide +kernel) (pa_cons (pe_dget hu (pe_fld (pv 0) rfl) (pv 1) (fun _ _ => rfl)) pa_nil)))), ?_⟩
  try clear G_cWeb_look_name b_cWeb_look_name
  try clear d_cWeb_look_name
  try clear C_cWeb_look_name x_cWeb_look_name
  try clear hu hr
  obtain ⟨w, hw, e1, e2⟩ := h1.ex
  have m0 := hw _ (.head _)
  have m2 := hw _ (.tail _ (.tail _ (.head _)))
  obtain ⟨a, ha⟩ := zr_has (Z := w.Z2) (n := z) (by rw [e2]; exact h3)
  have ea := zr_at (by rw [e2]; exact h2) ha
  have ma := hw _ (.tail _ (.tail _ (.tail _ (.tail _ (List.mem_append_right _ (zl_mem (f := struckOf es) ha))))))
  walk_at "rd"
  exact k _ _ (by assumption)
end
end Sw

namespace Sw
open PySem L2 PySem.W
def sp_Sieve___init__ (K : PySem.W.Frag) : Sp := fun vs H Q E => match vs with
  | [.ref p, .ref q] => ∃ (dx : Addr) (N : List Str) (es : List (Str × Str)) (F : List Cell), (At H ((p, .ins (He.ga K "Sieve") dx []) :: F)) ∧ (WebIn K F q N es) ∧ (N.Nodup) ∧ (SOk N es) ∧ (∀ y ∈ N, nameB y = true) ∧ (N.length ≤ 30 ∧ es.length ≤ 9000) ∧ (∀ (W : List Cell) (ks us : List Nat) (H' : Hp), (At H' (W ++ F)) → (SvIn K W p (srt N) ks us) → (VwOk (srt N) es ks us) → Q (.non) H')
  | _ => False
end Sw
local macro_rules | `(tactic| walk_at "rdc") => `(tactic| ((with_reducible show Sw.sp_Sieve___init__ _ _ _ _ _); k_dflt (refine' ⟨_, _, _, _, ?h0, ?h1, ?h2, ?h3, ?h4, ?h5, ?_⟩); (case h0 => k_dflt (walk_at "foc")); (case h1 => k_dflt (walk_at "web")); (case h2 => k_dflt (assumption)); (case h3 => k_dflt (assumption)); (case h4 => k_dflt (assumption)); (case h5 => k_dflt (walk_at "om")); intro _ _ _ _ _ _ _))
local macro_rules | `(tactic| walk_at "call") => `(tactic| ((with_reducible show Sw.sp_Sieve___init__ _ _ _ _ _); k_dflt (refine' ⟨_, _, _, _, ?h0, ?h1, ?h2, ?h3, ?h4, ?h5, ?_⟩); (try (case h0 => k_dflt (walk_at "foc"))); (try (case h1 => k_dflt (walk_at "web"))); (try (case h2 => k_dflt (assumption))); (try (case h3 => k_dflt (assumption))); (try (case h4 => k_dflt (assumption))); (try (case h5 => k_dflt (walk_at "om")))))
namespace Sw
open PySem L2 PySem.W
section
variable {P : Program} {w : World} {K : PySem.W.Frag} {mg : Str → Option Value} {base : Heap}
theorem sc_Sieve___init__ : FnScope ["self", "web", "name"] ["self", "web"] (defScope (inClass (top 9) 0)) := ⟨rfl, rfl, rfl, by decide +kernel, rfl, by decide +kernel, by decide +kernel⟩
theorem ok_Sieve___init__ (T : Tx K mg) : MCal P w K mg base (He.ma K (He.ga K "Sieve") "__init__") 4 ["self", "web"] (sp_Sieve___init__ K) := by
  obtain ⟨d_cWeb_all_names, b_cWeb_all_names, G_cWeb_all_names⟩ := (ok_Web_all_names (P := P) (w := w) (base := base) T).ex
  have C_cWeb_all_names := T.cl_Web
  have x_cWeb_all_names := T.me_Web_all_names
  obtain ⟨d_cSieve_mask_for, b_cSieve_mask_for, G_cSieve_mask_for⟩ := (ok_Sieve_mask_for (P := P) (w := w) (base := base) T).ex
  have C_cSieve_mask_for := T.cl_Sieve
  have x_cSieve_mask_for := T.me_Sieve_mask_for
  obtain ⟨d_cWeb_strikers, b_cWeb_strikers, G_cWeb_strikers⟩ := (ok_Web_strikers (P := P) (w := w) (base := base) T).ex
  have C_cWeb_strikers := T.cl_Web
  have x_cWeb_strikers := T.me_Web_strikers
  obtain ⟨d_cWeb_struck, b_cWeb_struck, G_cWeb_struck⟩ := (ok_Web_struck (P := P) (w := w) (base := base) T).ex
  have C_cWeb_struck := T.cl_Web
  have x_cWeb_struck := T.me_Web_struck
  have cl_Sieve := T.cl_Sieve
  have na_Sieve_order := T.na_Sieve_order
  have na_Sieve_hitters := T.na_Sieve_hitters
  have na_Sieve_hits := T.na_Sieve_hits
  have cl_Web := T.cl_Web
  have na_Web_strikers_by := T.na_Web_strikers_by
  have na_Web_struck_by := T.na_Web_struck_by
  have na_Web_own_pairs := T.na_Web_own_pairs
  refine mcal T.fd_Sieve___init__ (N := ["self", "web", "name"]) sc_Sieve___init__ (fun _ _ _ _ _ _ us hl => match us, hl with | [_, _], _ => rfl) (fun vs H Q E h => by
    unfold sp_Sieve___init__ at h
    split at h
    all_goals first | rfl | exact h.elim) ?_
  intro cdv A outer s H vs Q E hr h
  have hu := hu_of hr
  unfold sp_Sieve___init__ at h
  split at h
  rotate_left
  · exact h.elim
  rename_i p q
  obtain ⟨dx, N, es, F, h0, h1, h2, h3, h4, h5, k⟩ := h
  refine' ⟨_, pss_cons (ps_fld (pv 0) (pe_meth0 (pv 1) C_cWeb_all_names x_cWeb_all_names G_cWeb_all_names (hr.mono (by decide)) b_cWeb_all_names .nil pass0) rfl)
 (pss_cons (ps_fld (pv 0) (pe_lc (own := [("name", 2)]) (g := gName 2) (tt := tYes) rfl sc_Sieve___init__.nd (pi_list (pe_fld (pv 0) rfl)) (blkOk_by (N := ["self", "web", "name"]) (sc := defScope (inClass (top 9) 0)) (by decide +kernel)) ?c1g ?c1t ?c1e) rfl)
 (pss_one (ps_fld (pv 0) (pe_lc (own := [("name", 2)]) (g := gName 2) (tt := tYes) rfl sc_Sieve___init__.nd (pi_list (pe_fld (pv 0) rfl)) (blkOk_by (N := ["self", "web", "name"]) (sc := defScope (inClass (top 9) 0)) (by decide +kernel)) ?c2g ?c2t ?c2e) rfl))), ?_⟩
  (case c1g => exact fun _ _ _ _ _ => pg_name (i := 2) sc_Sieve___init__.nd rfl (Or.inl rfl)); (case c1t => (intro _ _ _ _ _; refine' Sw.pts_te (pts_nil) ?c1tq; (case c1tq => (first | ((dsimp only [L2.Cx.blk]) <;> exact rfl) | exact rfl)))); (case c1e => (intro _ _ _ _ _; refine' Sw.pe_te (pe_meth (pv 0) C_cSieve_mask_for x_cSieve_mask_for G_cSieve_mask_for (hr.mono (by decide)) b_cSieve_mask_for .nil pass0 (pa_cons (pe_meth (pv 1) C_cWeb_strikers x_cWeb_strikers G_cWeb_strikers (hr.mono (by decide)) b_cWeb_strikers .nil pass0 (pa_cons (pv 2) pa_nil)) pa_nil)) ?c1eq; (case c1eq => (first | ((dsimp only [L2.Cx.blk]) <;> exact rfl) | exact rfl))))
  (case c2g => exact fun _ _ _ _ _ => pg_name (i := 2) sc_Sieve___init__.nd rfl (Or.inl rfl)); (case c2t => (intro _ _ _ _ _; refine' Sw.pts_te (pts_nil) ?c2tq; (case c2tq => (first | ((dsimp only [L2.Cx.blk]) <;> exact rfl) | exact rfl)))); (case c2e => (intro _ _ _ _ _; refine' Sw.pe_te (pe_meth (pv 0) C_cSieve_mask_for x_cSieve_mask_for G_cSieve_mask_for (hr.mono (by decide)) b_cSieve_mask_for .nil pass0 (pa_cons (pe_meth (pv 1) C_cWeb_struck x_cWeb_struck G_cWeb_struck (hr.mono (by decide)) b_cWeb_struck .nil pass0 (pa_cons (pv 2) pa_nil)) pa_nil)) ?c2eq; (case c2eq => (first | ((dsimp only [L2.Cx.blk]) <;> exact rfl) | exact rfl))))
  try clear G_cWeb_all_names b_cWeb_all_names
  try clear d_cWeb_all_names
  try clear C_cWeb_all_names x_cWeb_all_names
  try clear G_cSieve_mask_for b_cSieve_mask_for
  try clear d_cSieve_mask_for
  try clear C_cSieve_mask_for x_cSieve_mask_for
  try clear G_cWeb_strikers b_cWeb_strikers
  try clear d_cWeb_strikers
  try clear C_cWeb_strikers x_cWeb_strikers
  try clear G_cWeb_struck b_cWeb_struck
  try clear d_cWeb_struck
  try clear C_cWeb_struck x_cWeb_struck
  try clear hu hr
  have hsl := srt_len N
  have nds := srt_nodup.mpr h2
  obtain ⟨w, hw, e1, e2⟩ := h1.ex
  have m0 := hw _ (.head _)
  clear hw
  have hk : ∀ n, ∀ y ∈ srt (strikersOf es n), y ∈ srt N := fun n y m => srt_mem.mpr (h3.mem _ (mem_strikersOf.mp (srt_mem.mp m))).1
  have hu : ∀ n, ∀ y ∈ srt (struckOf es n), y ∈ srt N := fun n y m => srt_mem.mpr (h3.mem _ (mem_struckOf.mp (srt_mem.mp m))).2
  walk_at "rd"
  rename_i pn _ _ H1 A1
  refine Sw.lc_list (us := srt N) (F := V.str) A1 (.tail _ (.head _)) (by omega) (fun _ => true) (fun n => nv (maskL (srt N) (srt (strikersOf es n)))) (fun u H2 D acc Yk Nk hu2 A2 hY hN => ?_) fun D1 H2 A2 => ?_
  · have hun : u ∈ N := srt_mem.mp hu2
    have hub := h4 u hun
    have hku := hk u
    have hkl : (srt (strikersOf es u)).length ≤ 9000 := by rw [srt_len]; exact Nat.le_trans (strikersOf_len _ _) (by omega)
    walk_at "rd"
    exact hY _ _ rfl rfl (by walk_at "sb")
  rw [all_true_filter] at A2
  have A3 : At H2 ((D1, .lst (((srt N).map fun n => maskL (srt N) (srt (strikersOf es n))).map nv)) :: (p, .ins (He.ga K "Sieve") dx [("order", V.ref pn)]) :: (pn, .lst ((srt N).map V.str)) :: F) := by rw [List.map_map]; exact A2
  clear A2 A1
  walk_at "rd"
  rename_i H3 A4
  refine Sw.lc_list (us := srt N) (F := V.str) A4 (by walk_at "mem") (by omega) (fun _ => true) (fun n => nv (maskL (srt N) (srt (struckOf es n)))) (fun u H2 D acc Yk Nk hu2 A2 hY hN => ?_) fun D2 H4 A5 => ?_
  · have hun : u ∈ N := srt_mem.mp hu2
    have hub := h4 u hun
    have hku := hu u
    have hkl : (srt (struckOf es u)).length ≤ 9000 := by rw [srt_len]; exact Nat.le_trans (struckOf_len _ _) (by omega)
    walk_at "rd"
    exact hY _ _ rfl rfl (by walk_at "sb")
  rw [all_true_filter] at A5
  have A6 : At H4 ((D2, .lst (((srt N).map fun n => maskL (srt N) (srt (struckOf es n))).map nv)) :: (p, .ins (He.ga K "Sieve") dx [("order", V.ref pn), ("hitters", .ref D1)]) :: (D1, .lst (((srt N).map fun n => maskL (srt N) (srt (strikersOf es n))).map nv)) :: (pn, .lst ((srt N).map V.str)) :: F) := by
    rw [List.map_map]
    walk_at "sb"
  clear A5 A4 A3
  walk_at "rd"
  rename_i H5 A7
  refine k ((p, .ins (He.ga K "Sieve") dx [("order", V.ref pn), ("hitters", .ref D1), ("hits", .ref D2)]) :: (D2, .lst (((srt N).map fun n => maskL (srt N) (srt (struckOf es n))).map nv)) :: (D1, .lst (((srt N).map fun n => maskL (srt N) (srt (strikersOf es n))).map nv)) :: (pn, .lst ((srt N).map V.str)) :: []) _ _ _ (by walk_at "sb") ⟨dx, pn, D1, D2, .head _, .tail _ (.tail _ (.tail _ (.head _))), .tail _ (.tail _ (.head _)), .tail _ (.head _)⟩ (VwOk.made nds fun e m => ⟨srt_mem.mpr (h3.mem e m).1, srt_mem.mpr (h3.mem e m).2⟩)
end
end Sw

namespace Sw
open PySem L2 PySem.W
def sp_Sieve_names_for (K : PySem.W.Frag) : Sp := fun vs H Q E => match vs with
  | [.ref p, .int z] => ∃ (m : Nat) (N : List Str) (ks us : List Nat) (L : List Cell), (z = (m : Int)) ∧ (At H L) ∧ (SvIn K L p N ks us) ∧ (N.length ≤ 30) ∧ (∀ (q : Addr) (H' : Hp), (At H' ((q, .lst ((setOf N m).map V.str)) :: L)) → Q (.ref q) H')
  | _ => False
end Sw
local macro_rules | `(tactic| walk_at "rdc") => `(tactic| ((with_reducible show Sw.sp_Sieve_names_for _ _ _ _ _); k_dflt (refine' ⟨_, _, _, _, _, ?h0, ?h1, ?h2, ?h3, ?_⟩); (case h0 => k_dflt rfl); (case h1 => assumption); (case h2 => k_dflt (walk_at "web")); (case h3 => k_dflt (walk_at "om")); intro _ _ _))
local macro_rules | `(tactic| walk_at "call") => `(tactic| ((with_reducible show Sw.sp_Sieve_names_for _ _ _ _ _); k_dflt (refine' ⟨_, _, _, _, _, ?h0, ?h1, ?h2, ?h3, ?_⟩); (try (case h0 => k_dflt rfl)); (try (case h1 => assumption)); (try (case h2 => k_dflt (walk_at "web"))); (try (case h3 => k_dflt (walk_at "om")))))
namespace Sw
open PySem L2 PySem.W
section
variable {P : Program} {w : World} {K : PySem.W.Frag} {mg : Str → Option Value} {base : Heap}
theorem sc_Sieve_names_for : FnScope ["self", "mask", "k", "name"] ["self", "mask"] (defScope (inClass (top 9) 2)) := ⟨rfl, rfl, rfl, by decide +kernel, rfl, by decide +kernel, by decide +kernel⟩
theorem ok_Sieve_names_for (T : Tx K mg) : MCal P w K mg base (He.ma K (He.ga K "Sieve") "names_for") 1 ["self", "mask"] (sp_Sieve_names_for K) := by
  have cl_Sieve := T.cl_Sieve
  have na_Sieve_order := T.na_Sieve_order
  have na_Sieve_hitters := T.na_Sieve_hitters
  have na_Sieve_hits := T.na_Sieve_hits
  have cl_Web := T.cl_Web
  have na_Web_strikers_by := T.na_Web_strikers_by
  have na_Web_struck_by := T.na_Web_struck_by
  have na_Web_own_pairs := T.na_Web_own_pairs
  refine mcal T.fd_Sieve_names_for (N := ["self", "mask", "k", "name"]) sc_Sieve_names_for (fun _ _ _ _ _ _ us hl => match us, hl with | [_, _], _ => rfl) (fun vs H Q E h => by
    unfold sp_Sieve_names_for at h
    split at h
    all_goals first | rfl | exact h.elim) ?_
  intro cdv A outer s H vs Q E hr h
  have hu := hu_of hr
  unfold sp_Sieve_names_for at h
  split at h
  rotate_left
  · exact h.elim
  rename_i p z
  obtain ⟨m, N, ks, us, L, h0, h1, h2, h3, k⟩ := h
  refine' ⟨_, pss_one (ps_ret (pe_lc (own := [("k", 2), ("name", 3)]) (g := gTup K 2 (gCons (gName 2) (gCons (gName 3) (gNil)))) rfl sc_Sieve_names_for.nd (pi_enum (by rfl) T.z_enumerate (pa_cons (pe_fld (pv 0) rfl) pa_nil)) (blkOk_by (N := ["self", "mask", "k", "name"]) (sc := defScope (inClass (top 9) 2)) (by decide +kernel)) ?c1g ?c1t ?c1e)), ?_⟩
  (case c1g => exact fun _ _ _ _ _ => pg_tup rfl (pgs_cons (pg_name (i := 2) sc_Sieve_names_for.nd rfl (Or.inl rfl)) (pgs_cons (pg_name (i := 3) sc_Sieve_names_for.nd rfl (Or.inl rfl)) pgs_nil))); (case c1t => (intro _ _ _ _ _; refine' Sw.pts_te (pts_one (pt_cmpR op_eq (pe_op op_and (pe_op op_shr (pv 1) (pv 2)) (pe_int)) (pe_int) (nomark _))) ?c1tq; (case c1tq => (first | ((dsimp only [L2.Cx.blk]) <;> exact rfl) | exact rfl)))); (case c1e => (intro _ _ _ _ _; refine' Sw.pe_te (pv 3) ?c1eq; (case c1eq => (first | ((dsimp only [L2.Cx.blk]) <;> exact rfl) | exact rfl))))
  try clear hu hr
  subst h0
  obtain ⟨dx, pn, pk, pu, m1, m2, m3, m4⟩ := h2.ex
  walk_at "rd"
  refine Sw.lc_enum h1 m2 (by omega) (fun u => m.testBit u.2) (fun u => V.str u.1) (fun u n T H1 D acc Yk Nk hu A1 hY hN => ?_) fun D H1 A1 => ?_
  · walk_at "rd"
    · exact hY _ _ (bit_is.mp (by assumption)) rfl (by walk_at "sb")
    · exact hN _ (bit_isF (by assumption)) (by walk_at "sb")
  · walk_at "rd"
    exact k _ _ (by unfold setOf; rw [List.map_map]; exact A1)
end
end Sw

namespace Sw
open PySem L2 PySem.W
def sp_Sieve_rising_sets (K : PySem.W.Frag) : Sp := fun vs H Q E => match vs with
  | [.ref p, .ref q] => ∃ (N : List Str) (ks us ms : List Nat) (L : List Cell), (At H L) ∧ (SvIn K L p N ks us) ∧ ((q, HO.lst (ms.map nv)) ∈ L) ∧ (N.length ≤ 12 ∧ ms.length ≤ 4096) ∧ ((300 < ms.length) → ∀ (H' : Hp), (At H' L) → E (.ref (He.ga K "TooMany")) none H') ∧ (¬ (300 < ms.length) → (∀ (r : Addr) (zs : List (Addr × List Str)) (H' : Hp), (At H' ((r, .lst (clr zs)) :: (cl zs ++ L))) → (zs.map Prod.snd = srt (ms.map (setOf N))) → Q (.ref r) H'))
  | _ => False
end Sw
local macro_rules | `(tactic| walk_at "rdc") => `(tactic| first | ((with_reducible show Sw.sp_Sieve_rising_sets _ _ _ _ _); k_dflt (refine' ⟨_, _, _, _, _, ?h0, ?h1, ?h2, ?h3, fun hz => Sw.no_of hz ?hz, fun _ => ?_⟩); (case h0 => assumption); (case h1 => k_dflt (walk_at "web")); (case h2 => k_dflt (walk_at "mem")); (case h3 => k_dflt (walk_at "om")); (case hz => walk_at "nn"); intro _ _ _ _ _) | ((with_reducible show Sw.sp_Sieve_rising_sets _ _ _ _ _); k_dflt (refine' ⟨_, _, _, _, _, ?h0, ?h1, ?h2, ?h3, fun _ _ _ => ?_, fun hn => Sw.no_of ?hz hn⟩); (case h0 => assumption); (case h1 => k_dflt (walk_at "web")); (case h2 => k_dflt (walk_at "mem")); (case h3 => k_dflt (walk_at "om")); (case hz => k_dflt assumption)) | ((with_reducible show Sw.sp_Sieve_rising_sets _ _ _ _ _); k_dflt (refine' ⟨_, _, _, _, _, ?h0, ?h1, ?h2, ?h3, fun _ _ _ => ?_, fun _ _ _ _ _ _ => ?_⟩); (case h0 => assumption); (case h1 => k_dflt (walk_at "web")); (case h2 => k_dflt (walk_at "mem")); (case h3 => k_dflt (walk_at "om")); skip))
local macro_rules | `(tactic| walk_at "call") => `(tactic| ((with_reducible show Sw.sp_Sieve_rising_sets _ _ _ _ _); k_dflt (refine' ⟨_, _, _, _, _, ?h0, ?h1, ?h2, ?h3, fun _ _ _ => ?_, fun _ _ _ _ _ _ => ?_⟩); (try (case h0 => assumption)); (try (case h1 => k_dflt (walk_at "web"))); (try (case h2 => k_dflt (walk_at "mem"))); (try (case h3 => k_dflt (walk_at "om")))))
namespace Sw
open PySem L2 PySem.W
section
variable {P : Program} {w : World} {K : PySem.W.Frag} {mg : Str → Option Value} {base : Heap}
theorem sc_Sieve_rising_sets : FnScope ["self", "masks", "mask"] ["self", "masks"] (defScope (inClass (top 9) 10)) := ⟨rfl, rfl, rfl, by decide +kernel, rfl, by decide +kernel, by decide +kernel⟩
theorem ok_Sieve_rising_sets (T : Tx K mg) : MCalX P w K mg base (He.ma K (He.ga K "Sieve") "rising_sets") 2 ["self", "masks"] (sp_Sieve_rising_sets K) := by
  obtain ⟨d_cSieve_names_for, b_cSieve_names_for, G_cSieve_names_for⟩ := (ok_Sieve_names_for (P := P) (w := w) (base := base) T).ex
  have C_cSieve_names_for := T.cl_Sieve
  have x_cSieve_names_for := T.me_Sieve_names_for
  have cl_Sieve := T.cl_Sieve
  have na_Sieve_order := T.na_Sieve_order
  have na_Sieve_hitters := T.na_Sieve_hitters
  have na_Sieve_hits := T.na_Sieve_hits
  have cl_Web := T.cl_Web
  have na_Web_strikers_by := T.na_Web_strikers_by
  have na_Web_struck_by := T.na_Web_struck_by
  have na_Web_own_pairs := T.na_Web_own_pairs
  refine mcalX T.fd_Sieve_rising_sets (N := ["self", "masks", "mask"]) sc_Sieve_rising_sets (fun _ _ _ _ _ _ us hl => match us, hl with | [_, _], _ => rfl) (fun vs H Q E h => by
    unfold sp_Sieve_rising_sets at h
    split at h
    all_goals first | rfl | exact h.elim) ?_
  intro cdv A outer s H vs Q E hr h
  have hu := hu_of hr
  unfold sp_Sieve_rising_sets at h
  split at h
  rotate_left
  · exact h.elim
  rename_i p q
  obtain ⟨N, ks, us, ms, L, h0, h1, h2, h3, kE, k⟩ := h
  refine' ⟨_, pss_cons (ps_if (pt_cmpR op_gt (pe_callB Sw.call_lenQ (by rfl) T.z_len (by decide +kernel) (pa_cons (pv 1) pa_nil)) (pe_glob (v := .int 300) rfl T.g_MOST_TOLD.choose_spec ⟨_, rfl⟩) (nomark _)) (pss_one (Sw.ps_rz rfl (takes_of rfl rfl rfl rfl) T.ex_TooMany T.g_TooMany (by rfl))) (pss_nil))
 (pss_one (ps_ret (pe_callB (Sw.call_srt hr.units) (by rfl) T.z_sorted (by decide +kernel) (pa_cons (pe_lc (own := [("mask", 2)]) (g := gName 2) (tt := tYes) rfl sc_Sieve_rising_sets.nd (pi_list (pv 1)) (blkOk_by (N := ["self", "masks", "mask"]) (sc := defScope (inClass (top 9) 10)) (by decide +kernel)) ?c1g ?c1t ?c1e) pa_nil)))), ?_⟩
  (case c1g => exact fun _ _ _ _ _ => pg_name (i := 2) sc_Sieve_rising_sets.nd rfl (Or.inl rfl)); (case c1t => (intro _ _ _ _ _; refine' Sw.pts_te (pts_nil) ?c1tq; (case c1tq => (first | ((dsimp only [L2.Cx.blk]) <;> exact rfl) | exact rfl)))); (case c1e => (intro _ _ _ _ _; refine' Sw.pe_te (pe_meth (pv 0) C_cSieve_names_for x_cSieve_names_for G_cSieve_names_for (hr.mono (by decide)) b_cSieve_names_for .nil pass0 (pa_cons (pv 2) pa_nil)) ?c1eq; (case c1eq => (first | ((dsimp only [L2.Cx.blk]) <;> exact rfl) | exact rfl))))
  try clear G_cSieve_names_for b_cSieve_names_for
  try clear d_cSieve_names_for
  try clear C_cSieve_names_for x_cSieve_names_for
  try clear hu hr
  obtain ⟨dx, pn, pk, pu, m1, m2, m3, m4⟩ := h1.ex
  have hv : ∀ {A B : Prop} {q : Prop}, q → (q → A) → A := fun h k => k h
  walk_at "rd"
  · rename_i c
    exact kE (by omega) _ h0
  · rename_i c
    have hq : q = q := rfl
    refine Sw.lc_lists (us := ms) (f := nv) (setOf N) h0 h2 (by omega) (fun u H2 D acc C Yk Nk hu A2 hY => ?_) fun D zs H2 A2 ez => ?_
    · have h1' : SvIn K ((D, .lst acc) :: (C ++ L)) p N ks us := h1.mono fun c m => .tail _ (List.mem_append_right _ m)
      have m1' : (p, HO.ins (He.ga K "Sieve") dx [("order", V.ref pn), ("hitters", .ref pk), ("hits", .ref pu)]) ∈ C ++ L := List.mem_append_right _ m1
      walk_at "rd"
      exact hY _ _ (by walk_at "sb")
    · walk_at "rd"
      refine Sw.rd_srtL A2 (.head _) (fun c m => .tail _ (List.mem_append_left _ m)) fun r zs' H3 A3 pz e => ?_
      refine k (by omega) r zs' H3 ?_ (by rw [e, ez])
      have A4 : At H3 ((r, .lst (clr zs')) :: (cl zs ++ L)) := by walk_at "sb"
      exact A4.ofPerm (((cl_perm pz).symm.append_right L).cons _)
end
end Sw

namespace Sw
open PySem L2 PySem.W
def sp_Sieve_quiet_masks (K : PySem.W.Frag) : Sp := fun vs H Q E => match vs with
  | [.ref p] => ∃ (N : List Str) (ks us : List Nat) (L : List Cell), (At H L) ∧ (SvIn K L p N ks us) ∧ (N.length ≤ 12 ∧ us.length = N.length) ∧ (∀ (r : Addr) (H' : Hp), (At H' ((r, .lst (((quietP us N.length).map Prod.fst).map nv)) :: L)) → Q (.ref r) H')
  | _ => False
end Sw
local macro_rules | `(tactic| walk_at "rdc") => `(tactic| ((with_reducible show Sw.sp_Sieve_quiet_masks _ _ _ _ _); k_dflt (refine' ⟨_, _, _, _, ?h0, ?h1, ?h2, ?_⟩); (case h0 => assumption); (case h1 => k_dflt (walk_at "web")); (case h2 => k_dflt (walk_at "om")); intro _ _ _))
local macro_rules | `(tactic| walk_at "call") => `(tactic| ((with_reducible show Sw.sp_Sieve_quiet_masks _ _ _ _ _); k_dflt (refine' ⟨_, _, _, _, ?h0, ?h1, ?h2, ?_⟩); (try (case h0 => assumption)); (try (case h1 => k_dflt (walk_at "web"))); (try (case h2 => k_dflt (walk_at "om")))))
namespace Sw
open PySem L2 PySem.W
section
variable {P : Program} {w : World} {K : PySem.W.Frag} {mg : Str → Option Value} {base : Heap}
theorem sc_Sieve_quiet_masks : FnScope ["self", "found", "k", "hits", "bit", "more", "mask", "struck"] ["self"] (defScope (inClass (top 9) 5)) := ⟨rfl, rfl, rfl, by decide +kernel, rfl, by decide +kernel, by decide +kernel⟩
theorem ok_Sieve_quiet_masks (T : Tx K mg) : MCal P w K mg base (He.ma K (He.ga K "Sieve") "quiet_masks") 1 ["self"] (sp_Sieve_quiet_masks K) := by
  have cl_Sieve := T.cl_Sieve
  have na_Sieve_order := T.na_Sieve_order
  have na_Sieve_hitters := T.na_Sieve_hitters
  have na_Sieve_hits := T.na_Sieve_hits
  have cl_Web := T.cl_Web
  have na_Web_strikers_by := T.na_Web_strikers_by
  have na_Web_struck_by := T.na_Web_struck_by
  have na_Web_own_pairs := T.na_Web_own_pairs
  refine mcal T.fd_Sieve_quiet_masks (N := ["self", "found", "k", "hits", "bit", "more", "mask", "struck"]) sc_Sieve_quiet_masks (fun _ _ _ _ _ _ us hl => match us, hl with | [_], _ => rfl) (fun vs H Q E h => by
    unfold sp_Sieve_quiet_masks at h
    split at h
    all_goals first | rfl | exact h.elim) ?_
  intro cdv A outer s H vs Q E hr h
  have hu := hu_of hr
  unfold sp_Sieve_quiet_masks at h
  split at h
  rotate_left
  · exact h.elim
  rename_i p
  obtain ⟨N, ks, us, L, h0, h1, h2, k⟩ := h
  refine' ⟨_, pss_cons (ps_set (i := 1) sc_Sieve_quiet_masks.nd rfl (by first | exact Or.inl rfl | exact Or.inr rfl) (pe_lst (pa_cons (pe_tup (pa_cons (pe_int) (pa_cons (pe_int) pa_nil))) pa_nil)))
 (pss_cons (ps_for PassesOwn.never rfl (pi_enum (by rfl) T.z_enumerate (pa_cons (pe_fld (pv 0) rfl) pa_nil)) (pg_tup rfl (pgs_cons (pg_name (i := 2) sc_Sieve_quiet_masks.nd rfl (by first | exact Or.inl rfl | exact Or.inr rfl)) (pgs_cons (pg_name (i := 3) sc_Sieve_quiet_masks.nd rfl (by first | exact Or.inl rfl | exact Or.inr rfl)) pgs_nil))) (pss_cons (ps_set (i := 4) sc_Sieve_quiet_masks.nd rfl (by first | exact Or.inl rfl | exact Or.inr rfl) (pe_op Sw.op_shlA (pe_int) (pv 2)))
 (pss_one (ps_if (pt_cmpR op_eq (pe_op op_and (pv 3) (pv 4)) (pe_int) (nomark _)) (pss_cons (ps_set (i := 5) sc_Sieve_quiet_masks.nd rfl (by first | exact Or.inl rfl | exact Or.inr rfl) (pe_lst (pa_nil)))
 (pss_cons (ps_for PassesOwn.never rfl (pi_list (pv 1)) (pg_tup rfl (pgs_cons (pg_name (i := 6) sc_Sieve_quiet_masks.nd rfl (by first | exact Or.inl rfl | exact Or.inr rfl)) (pgs_cons (pg_name (i := 7) sc_Sieve_quiet_masks.nd rfl (by first | exact Or.inl rfl | exact Or.inr rfl)) pgs_nil))) (pss_one (ps_if (PW.pt (pw_and (pt_cmpR op_eq (pe_op op_and (pv 7) (pv 4)) (pe_int) (nomark _)) (pw_and1 (pt_cmpR op_eq (pe_op op_and (pv 3) (pv 6)) (pe_int) (nomark _))))) (pss_one (ps_expr (pe_bm PySem.F.plainAttrs_list PySem.F.slot_list_append PySem.F.type_list_append mt_append (pv 5) (pa_cons (pe_tup (pa_cons (pe_op op_or (pv 6) (pv 4)) (pa_cons (pe_op op_or (pv 7) (pv 3)) pa_nil))) pa_nil)))) (pss_nil))))
 (pss_one (ps_set (i := 1) sc_Sieve_quiet_masks.nd rfl (by first | exact Or.inl rfl | exact Or.inr rfl) (pe_op op_cat (pv 1) (pv 5)))))) (pss_nil)))))
 (pss_one (ps_ret (pe_lc (own := [("mask", 6), ("struck", 7)]) (g := gTup K 2 (gCons (gName 6) (gCons (gName 7) (gNil)))) (tt := tYes) rfl sc_Sieve_quiet_masks.nd (pi_list (pv 1)) (blkOk_by (N := ["self", "found", "k", "hits", "bit", "more", "mask", "struck"]) (sc := defScope (inClass (top 9) 5)) (by decide +kernel)) ?c1g ?c1t ?c1e)))), ?_⟩
  (case c1g => exact fun _ _ _ _ _ => pg_tup rfl (pgs_cons (pg_name (i := 6) sc_Sieve_quiet_masks.nd rfl (Or.inl rfl)) (pgs_cons (pg_name (i := 7) sc_Sieve_quiet_masks.nd rfl (Or.inl rfl)) pgs_nil))); (case c1t => (intro _ _ _ _ _; refine' Sw.pts_te (pts_nil) ?c1tq; (case c1tq => (first | ((dsimp only [L2.Cx.blk]) <;> exact rfl) | exact rfl)))); (case c1e => (intro _ _ _ _ _; refine' Sw.pe_te (pv 6) ?c1eq; (case c1eq => (first | ((dsimp only [L2.Cx.blk]) <;> exact rfl) | exact rfl))))
  try clear hu hr
  obtain ⟨dx, pn, pk, pu, m1, m2, m3, m4⟩ := h1.ex
  walk_at "rd"
  rename_i t0 _ _ f0 H1 A1
  have A2 : At H1 ((f0, .lst (([(t0, 0, 0)] : List (Addr × Nat × Nat)).map fun z => V.ref z.1)) :: (tcs (fun z : Nat × Nat => [nv z.1, nv z.2]) [(t0, 0, 0)] ++ L)) := A1
  clear A1
  refine Sw.loop_enum (f := nv) (zs := us) (fun i σ H' => ∃ (fa : Addr) (ts : List (Addr × Nat × Nat)) (v2 v3 v4 v5 v6 v7 : Option V), σ = [some (.ref p), some (.ref fa), v2, v3, v4, v5, v6, v7] ∧ At H' ((fa, .lst (ts.map fun z => V.ref z.1)) :: (tcs (fun z : Nat × Nat => [nv z.1, nv z.2]) ts ++ L)) ∧ ts.map Prod.snd = quietP us i)
    ⟨f0, [(t0, 0, 0)], _, _, _, _, _, _, rfl, A2, rfl⟩ (fun i σ H' _ ⟨_, _, _, _, _, _, _, _, _, A, _⟩ => ⟨_, A, by walk_at "mem"⟩) ?_ ?_
  · rintro i u T σ H2 hu ⟨fa, ts, v2, v3, v4, v5, v6, v7, rfl, A3, ets⟩ H3 hA3
    have A4 := hA3 _ A3
    clear hA3 A3
    have hi : i < us.length := (List.getElem?_eq_some_iff.mp hu).1
    have htl : ts.length ≤ 4096 := by
      have h9 := congrArg List.length ets
      rw [List.length_map] at h9
      have h8 := quietP_len us i
      have h7 : 2 ^ i ≤ 2 ^ 12 := Nat.pow_le_pow_right (by decide) (by omega)
      have h6 : 2 ^ 12 = 4096 := rfl
      omega
    walk_at "rd"
    · rename_i hb ma H4 A5
      have hb' : u &&& 1 <<< i = 0 := by exact_mod_cast hb
      refine Sw.loop_map (f := fun z : Addr × Nat × Nat => V.ref z.1) (zs := ts) (fun j σ H' => ∃ (ms : List (Addr × Nat × Nat)) (v6 v7 : Option V), σ = [some (.ref p), some (.ref fa), some (.int (i : Int)), some (nv u), some (.int ((1 <<< i : Nat) : Int)), some (.ref ma), v6, v7] ∧ At H' ((ma, .lst (ms.map fun z => V.ref z.1)) :: (tcs (fun z : Nat × Nat => [nv z.1, nv z.2]) ms ++ ((fa, .lst (ts.map fun z => V.ref z.1)) :: (tcs (fun z : Nat × Nat => [nv z.1, nv z.2]) ts ++ L)))) ∧ ms.map Prod.snd = (((ts.map Prod.snd).take j).filter (qOk i u)).map (qAdd i u) ∧ ms.length ≤ j)
        ⟨[], _, _, rfl, (by show At _ ((ma, .lst []) :: (fa, .lst (ts.map fun z => V.ref z.1)) :: (tcs (fun z : Nat × Nat => [nv z.1, nv z.2]) ts ++ L)); walk_at "sb"), rfl, Nat.le_refl _⟩ (fun j σ H' ⟨_, _, _, _, A, _⟩ => SqL.of (A.rd (by walk_at "mem"))) ?_ ?_
      · rintro j ⟨za, zm, zs⟩ σ H5 hz ⟨ms, v6, v7, rfl, A6, ems, hml⟩
        have mz := tcs_mem (ψ := fun z : Nat × Nat => [nv z.1, nv z.2]) (List.mem_of_getElem? hz)
        have hj : j < ts.length := (List.getElem?_eq_some_iff.mp hz).1
        have et : (ts.map Prod.snd).take (j + 1) = (ts.map Prod.snd).take j ++ [(zm, zs)] := by rw [List.take_succ, List.getElem?_map, hz]; rfl
        walk_at "rd"
        · rename_i q1 q2 T2 _ _ H7 A7
          have q1' : zs &&& 1 <<< i = 0 := by exact_mod_cast q1
          have q2' : u &&& zm = 0 := by exact_mod_cast q2
          refine ⟨ms ++ [(T2, qAdd i u (zm, zs))], _, _, rfl, ?_, ?_, by rw [List.length_append]; show ms.length + 1 ≤ _; omega⟩
          · have e1 : tcs (fun z : Nat × Nat => [nv z.1, nv z.2]) (ms ++ [(T2, qAdd i u (zm, zs))]) = tcs (fun z : Nat × Nat => [nv z.1, nv z.2]) ms ++ [(T2, HO.tup [nv (zm ||| 1 <<< i), nv (zs ||| u)])] := List.map_append
            rw [List.map_append, e1, List.append_assoc]
            show At _ ((ma, .lst ((ms.map fun z => V.ref z.1) ++ [V.ref T2])) :: (tcs (fun z : Nat × Nat => [nv z.1, nv z.2]) ms ++ ((T2, HO.tup [nv (zm ||| 1 <<< i), nv (zs ||| u)]) :: (fa, .lst (ts.map fun z => V.ref z.1)) :: (tcs (fun z : Nat × Nat => [nv z.1, nv z.2]) ts ++ L))))
            walk_at "sb"
          · rw [List.map_append, ems, et, List.filter_append, List.map_append, List.filter_cons, if_pos (by unfold qOk; rw [decide_eq_true q1', decide_eq_true q2']; rfl)]
            rfl
        · rename_i q1 q2
          refine ⟨ms, _, _, rfl, by walk_at "sb", ?_, by omega⟩
          rw [ems, et, List.filter_append, List.filter_cons, if_neg (by unfold qOk; rw [decide_eq_false (fun h : u &&& zm = 0 => q2 (by exact_mod_cast h)), Bool.and_false]; decide), List.filter_nil, List.append_nil]
        · rename_i q1
          refine ⟨ms, _, _, rfl, by walk_at "sb", ?_, by omega⟩
          rw [ems, et, List.filter_append, List.filter_cons, if_neg (by unfold qOk; rw [decide_eq_false (fun h : zs &&& 1 <<< i = 0 => q1 (by exact_mod_cast h)), Bool.false_and]; decide), List.filter_nil, List.append_nil]
      · rintro σ H5 ⟨ms, v6, v7, rfl, A6, ems, hml⟩
        rw [List.take_of_length_le (by rw [List.length_map]; exact Nat.le_refl _), ets] at ems
        walk_at "rd"
        rename_i fb H6 A7
        refine ⟨fb, ts ++ ms, _, _, _, _, _, _, rfl, ?_, ?_⟩
        · have e1 : tcs (fun z : Nat × Nat => [nv z.1, nv z.2]) (ts ++ ms) = tcs (fun z : Nat × Nat => [nv z.1, nv z.2]) ts ++ tcs (fun z : Nat × Nat => [nv z.1, nv z.2]) ms := List.map_append
          rw [e1, List.append_assoc]
          walk_at "sb"
        · rw [List.map_append, ets, ems, quietP_step hu]
          unfold qStep
          rw [if_pos hb']
    · rename_i hb
      have hb' : ¬ u &&& 1 <<< i = 0 := fun h => hb (by exact_mod_cast h)
      refine ⟨fa, ts, _, _, _, _, _, _, rfl, by walk_at "sb", ?_⟩
      rw [ets, quietP_step hu]
      unfold qStep
      rw [if_neg hb']
  · rintro σ H2 ⟨fa, ts, v2, v3, v4, v5, v6, v7, rfl, A3, ets⟩
    rw [h2.2] at ets
    have hql := quietP_len us N.length
    have htl : ts.length ≤ 4096 := by
      have h9 := congrArg List.length ets
      rw [List.length_map] at h9
      have h7 : 2 ^ N.length ≤ 2 ^ 12 := Nat.pow_le_pow_right (by decide) (by omega)
      have h6 : 2 ^ 12 = 4096 := rfl
      omega
    walk_at "rd"
    refine Sw.lc_list (us := ts) (F := fun z : Addr × Nat × Nat => V.ref z.1) A3 (.head _) (by omega) (fun _ => true) (fun z => nv z.2.1) (fun z H3 D acc Yk Nk hz A4 hY hN => ?_) fun D H3 A4 => ?_
    · obtain ⟨za, zm, zs⟩ := z
      have mz := tcs_mem (ψ := fun z : Nat × Nat => [nv z.1, nv z.2]) hz
      walk_at "rd"
      exact hY _ _ rfl rfl (by walk_at "sb")
    rw [all_true_filter] at A4
    have e2 : ts.map (fun z => nv z.2.1) = ((quietP us N.length).map Prod.fst).map nv := by
      rw [← ets, List.map_map, List.map_map]
      rfl
    rw [e2] at A4
    walk_at "rd"
    exact k D _ (by walk_at "sb")
end
end Sw

namespace Sw
open PySem L2 PySem.W
def sp_Sieve_hit_by_all (K : PySem.W.Frag) : Sp := fun vs H Q E => match vs with
  | [.ref p, .int z] => ∃ (m : Nat) (N : List Str) (ks us : List Nat) (L : List Cell), (z = (m : Int)) ∧ (At H L) ∧ (SvIn K L p N ks us) ∧ (N.length ≤ 30 ∧ us.length = N.length) ∧ (∀ (H' : Hp), (At H' L) → Q (.int ((hitN us m N.length : Nat) : Int)) H')
  | _ => False
end Sw
local macro_rules | `(tactic| walk_at "rdc") => `(tactic| ((with_reducible show Sw.sp_Sieve_hit_by_all _ _ _ _ _); k_dflt (refine' ⟨_, _, _, _, _, ?h0, ?h1, ?h2, ?h3, ?_⟩); (case h0 => k_dflt rfl); (case h1 => assumption); (case h2 => k_dflt (walk_at "web")); (case h3 => k_dflt (walk_at "om")); intro _ _))
local macro_rules | `(tactic| walk_at "call") => `(tactic| ((with_reducible show Sw.sp_Sieve_hit_by_all _ _ _ _ _); k_dflt (refine' ⟨_, _, _, _, _, ?h0, ?h1, ?h2, ?h3, ?_⟩); (try (case h0 => k_dflt rfl)); (try (case h1 => assumption)); (try (case h2 => k_dflt (walk_at "web"))); (try (case h3 => k_dflt (walk_at "om")))))
namespace Sw
open PySem L2 PySem.W
section
variable {P : Program} {w : World} {K : PySem.W.Frag} {mg : Str → Option Value} {base : Heap}
theorem sc_Sieve_hit_by_all : FnScope ["self", "mask", "struck", "k", "hits"] ["self", "mask"] (defScope (inClass (top 9) 3)) := ⟨rfl, rfl, rfl, by decide +kernel, rfl, by decide +kernel, by decide +kernel⟩
theorem ok_Sieve_hit_by_all (T : Tx K mg) : MCal P w K mg base (He.ma K (He.ga K "Sieve") "hit_by_all") 1 ["self", "mask"] (sp_Sieve_hit_by_all K) := by
  have cl_Sieve := T.cl_Sieve
  have na_Sieve_order := T.na_Sieve_order
  have na_Sieve_hitters := T.na_Sieve_hitters
  have na_Sieve_hits := T.na_Sieve_hits
  have cl_Web := T.cl_Web
  have na_Web_strikers_by := T.na_Web_strikers_by
  have na_Web_struck_by := T.na_Web_struck_by
  have na_Web_own_pairs := T.na_Web_own_pairs
  refine mcal T.fd_Sieve_hit_by_all (N := ["self", "mask", "struck", "k", "hits"]) sc_Sieve_hit_by_all (fun _ _ _ _ _ _ us hl => match us, hl with | [_, _], _ => rfl) (fun vs H Q E h => by
    unfold sp_Sieve_hit_by_all at h
    split at h
    all_goals first | rfl | exact h.elim) ?_
  intro cdv A outer s H vs Q E hr h
  have hu := hu_of hr
  unfold sp_Sieve_hit_by_all at h
  split at h
  rotate_left
  · exact h.elim
  rename_i p z
  obtain ⟨m, N, ks, us, L, h0, h1, h2, h3, k⟩ := h
  refine ⟨_, pss_cons (ps_set (i := 2) sc_Sieve_hit_by_all.nd rfl (by first | exact Or.inl rfl | exact Or.inr rfl) (pe_int))
 (pss_cons (ps_for PassesOwn.never rfl (pi_enum (by rfl) T.z_enumerate (pa_cons (pe_fld (pv 0) rfl) pa_nil)) (pg_tup rfl (pgs_cons (pg_name (i := 3) sc_Sieve_hit_by_all.nd rfl (by first | exact Or.inl rfl | exact Or.inr rfl)) (pgs_cons (pg_name (i := 4) sc_Sieve_hit_by_all.nd rfl (by first | exact Or.inl rfl | exact Or.inr rfl)) pgs_nil))) (pss_one (ps_if (pt_cmpR op_eq (pe_op op_and (pe_op op_shr (pv 1) (pv 3)) (pe_int)) (pe_int) (nomark _)) (pss_one (ps_aug (i := 2) sc_Sieve_hit_by_all.nd rfl (by first | exact Or.inl rfl | exact Or.inr rfl) (pv 4) Sw.ip_or)) (pss_nil))))
 (pss_one (ps_ret (pv 2)))), ?_⟩
  try clear hu hr
  subst h0
  obtain ⟨dx, pn, pk, pu, m1, m2, m3, m4⟩ := h2.ex
  walk_at "rd"
  refine Sw.loop_enum (f := nv) (zs := us) (fun i σ H' => ∃ v3 v4, σ = [some (.ref p), some (.int (m : Int)), some (.int ((hitN us m i : Nat) : Int)), v3, v4] ∧ At H' L) ⟨_, _, rfl, h1⟩ (fun i σ H' _ ⟨_, _, _, A⟩ => ⟨_, A, m4⟩) ?_ ?_
  · rintro i u T σ H1 hu ⟨v3, v4, rfl, A1⟩ H2 hA2
    have A2 := hA2 _ A1
    clear hA2
    walk_at "rd"
    · rename_i hb
      exact ⟨_, _, by rw [hitN_yes (bit_is.mp hb) hu]; rfl, by walk_at "sb"⟩
    · rename_i hb
      exact ⟨_, _, by rw [hitN_no (bit_isF hb)]; rfl, by walk_at "sb"⟩
  · rintro σ H1 ⟨v3, v4, rfl, A1⟩
    rw [h3.2]
    walk_at "rd"
    exact k _ A1
end
end Sw

namespace Sw
open PySem L2 PySem.W
def sp_Sieve_kept_mask (K : PySem.W.Frag) : Sp := fun vs H Q E => match vs with
  | [.ref p, .int z] => ∃ (m : Nat) (N : List Str) (ks us : List Nat) (L : List Cell), (z = (m : Int)) ∧ (At H L) ∧ (SvIn K L p N ks us) ∧ (N.length ≤ 30 ∧ us.length = N.length ∧ ks.length = N.length) ∧ (∀ (H' : Hp), (At H' L) → Q (.int ((keptN ks (hitN us m N.length) N.length : Nat) : Int)) H')
  | _ => False
end Sw
local macro_rules | `(tactic| walk_at "rdc") => `(tactic| ((with_reducible show Sw.sp_Sieve_kept_mask _ _ _ _ _); k_dflt (refine' ⟨_, _, _, _, _, ?h0, ?h1, ?h2, ?h3, ?_⟩); (case h0 => k_dflt rfl); (case h1 => assumption); (case h2 => k_dflt (walk_at "web")); (case h3 => k_dflt (walk_at "om")); intro _ _))
local macro_rules | `(tactic| walk_at "call") => `(tactic| ((with_reducible show Sw.sp_Sieve_kept_mask _ _ _ _ _); k_dflt (refine' ⟨_, _, _, _, _, ?h0, ?h1, ?h2, ?h3, ?_⟩); (try (case h0 => k_dflt rfl)); (try (case h1 => assumption)); (try (case h2 => k_dflt (walk_at "web"))); (try (case h3 => k_dflt (walk_at "om")))))
namespace Sw
open PySem L2 PySem.W
section
variable {P : Program} {w : World} {K : PySem.W.Frag} {mg : Str → Option Value} {base : Heap}
theorem sc_Sieve_kept_mask : FnScope ["self", "mask", "struck", "kept", "k", "hitters"] ["self", "mask"] (defScope (inClass (top 9) 4)) := ⟨rfl, rfl, rfl, by decide +kernel, rfl, by decide +kernel, by decide +kernel⟩
theorem ok_Sieve_kept_mask (T : Tx K mg) : MCal P w K mg base (He.ma K (He.ga K "Sieve") "kept_mask") 2 ["self", "mask"] (sp_Sieve_kept_mask K) := by
  obtain ⟨d_cSieve_hit_by_all, b_cSieve_hit_by_all, G_cSieve_hit_by_all⟩ := (ok_Sieve_hit_by_all (P := P) (w := w) (base := base) T).ex
  have C_cSieve_hit_by_all := T.cl_Sieve
  have x_cSieve_hit_by_all := T.me_Sieve_hit_by_all
  have cl_Sieve := T.cl_Sieve
  have na_Sieve_order := T.na_Sieve_order
  have na_Sieve_hitters := T.na_Sieve_hitters
  have na_Sieve_hits := T.na_Sieve_hits
  have cl_Web := T.cl_Web
  have na_Web_strikers_by := T.na_Web_strikers_by
  have na_Web_struck_by := T.na_Web_struck_by
  have na_Web_own_pairs := T.na_Web_own_pairs
  refine mcal T.fd_Sieve_kept_mask (N := ["self", "mask", "struck", "kept", "k", "hitters"]) sc_Sieve_kept_mask (fun _ _ _ _ _ _ us hl => match us, hl with | [_, _], _ => rfl) (fun vs H Q E h => by
    unfold sp_Sieve_kept_mask at h
    split at h
    all_goals first | rfl | exact h.elim) ?_
  intro cdv A outer s H vs Q E hr h
  have hu := hu_of hr
  unfold sp_Sieve_kept_mask at h
  split at h
  rotate_left
  · exact h.elim
  rename_i p z
  obtain ⟨m, N, ks, us, L, h0, h1, h2, h3, k⟩ := h
  refine ⟨_, pss_cons (ps_set (i := 2) sc_Sieve_kept_mask.nd rfl (by first | exact Or.inl rfl | exact Or.inr rfl) (pe_meth (pv 0) C_cSieve_hit_by_all x_cSieve_hit_by_all G_cSieve_hit_by_all (hr.mono (by decide)) b_cSieve_hit_by_all .nil pass0 (pa_cons (pv 1) pa_nil)))
 (pss_cons (ps_set (i := 3) sc_Sieve_kept_mask.nd rfl (by first | exact Or.inl rfl | exact Or.inr rfl) (pe_int))
 (pss_cons (ps_for PassesOwn.never rfl (pi_enum (by rfl) T.z_enumerate (pa_cons (pe_fld (pv 0) rfl) pa_nil)) (pg_tup rfl (pgs_cons (pg_name (i := 4) sc_Sieve_kept_mask.nd rfl (by first | exact Or.inl rfl | exact Or.inr rfl)) (pgs_cons (pg_name (i := 5) sc_Sieve_kept_mask.nd rfl (by first | exact Or.inl rfl | exact Or.inr rfl)) pgs_nil))) (pss_one (ps_if (pt_cmpR op_eq (pe_op op_and (pv 5) (pe_un un_inv (pv 2))) (pe_int) (nomark _)) (pss_one (ps_aug (i := 3) sc_Sieve_kept_mask.nd rfl (by first | exact Or.inl rfl | exact Or.inr rfl) (pe_op Sw.op_shlA (pe_int) (pv 4)) Sw.ip_or)) (pss_nil))))
 (pss_one (ps_ret (pv 3))))), ?_⟩
  try clear G_cSieve_hit_by_all b_cSieve_hit_by_all
  try clear d_cSieve_hit_by_all
  try clear C_cSieve_hit_by_all x_cSieve_hit_by_all
  try clear hu hr
  subst h0
  obtain ⟨dx, pn, pk, pu, m1, m2, m3, m4⟩ := h2.ex
  walk_at "rd"
  rename_i H2 A2
  refine Sw.loop_enum (f := nv) (zs := ks) (fun i σ H' => ∃ v4 v5, σ = [some (.ref p), some (.int (m : Int)), some (.int ((hitN us m N.length : Nat) : Int)), some (.int ((keptN ks (hitN us m N.length) i : Nat) : Int)), v4, v5] ∧ At H' L) ⟨_, _, rfl, A2⟩ (fun i σ H' _ ⟨_, _, _, A⟩ => ⟨_, A, m3⟩) ?_ ?_
  · rintro i u T σ H1 hu ⟨v4, v5, rfl, A1⟩ H3 hA3
    have A3 := hA3 _ A1
    clear hA3
    have hi : i < ks.length := (List.getElem?_eq_some_iff.mp hu).1
    have eg : ks.getD i 0 = u := by rw [List.getD_eq_getElem?_getD, hu]; rfl
    walk_at "rd"
    · exact ⟨_, _, by rw [keptN, eg, if_pos (by omega)]; rfl, by walk_at "sb"⟩
    · exact ⟨_, _, by rw [keptN, eg, if_neg (by omega)]; rfl, by walk_at "sb"⟩
  · rintro σ H1 ⟨v4, v5, rfl, A1⟩
    rw [h3.2.2]
    walk_at "rd"
    exact k _ A1
end
end Sw

namespace Sw
open PySem L2 PySem.W
def sp_Sieve_standing_masks (K : PySem.W.Frag) : Sp := fun vs H Q E => match vs with
  | [.ref p] => ∃ (N : List Str) (ks us : List Nat) (L : List Cell), (At H L) ∧ (SvIn K L p N ks us) ∧ (N.length ≤ 12 ∧ us.length = N.length ∧ ks.length = N.length) ∧ (∀ (r : Addr) (H' : Hp), (At H' ((r, .lst ((standM ks us N.length).map nv)) :: L)) → Q (.ref r) H')
  | _ => False
end Sw
local macro_rules | `(tactic| walk_at "rdc") => `(tactic| ((with_reducible show Sw.sp_Sieve_standing_masks _ _ _ _ _); k_dflt (refine' ⟨_, _, _, _, ?h0, ?h1, ?h2, ?_⟩); (case h0 => assumption); (case h1 => k_dflt (walk_at "web")); (case h2 => k_dflt (walk_at "om")); intro _ _ _))
local macro_rules | `(tactic| walk_at "call") => `(tactic| ((with_reducible show Sw.sp_Sieve_standing_masks _ _ _ _ _); k_dflt (refine' ⟨_, _, _, _, ?h0, ?h1, ?h2, ?_⟩); (try (case h0 => assumption)); (try (case h1 => k_dflt (walk_at "web"))); (try (case h2 => k_dflt (walk_at "om")))))
namespace Sw
open PySem L2 PySem.W
section
variable {P : Program} {w : World} {K : PySem.W.Frag} {mg : Str → Option Value} {base : Heap}
theorem sc_Sieve_standing_masks : FnScope ["self", "mask"] ["self"] (defScope (inClass (top 9) 6)) := ⟨rfl, rfl, rfl, by decide +kernel, rfl, by decide +kernel, by decide +kernel⟩
theorem ok_Sieve_standing_masks (T : Tx K mg) : MCal P w K mg base (He.ma K (He.ga K "Sieve") "standing_masks") 3 ["self"] (sp_Sieve_standing_masks K) := by
  obtain ⟨d_cSieve_quiet_masks, b_cSieve_quiet_masks, G_cSieve_quiet_masks⟩ := (ok_Sieve_quiet_masks (P := P) (w := w) (base := base) T).ex
  have C_cSieve_quiet_masks := T.cl_Sieve
  have x_cSieve_quiet_masks := T.me_Sieve_quiet_masks
  obtain ⟨d_cSieve_kept_mask, b_cSieve_kept_mask, G_cSieve_kept_mask⟩ := (ok_Sieve_kept_mask (P := P) (w := w) (base := base) T).ex
  have C_cSieve_kept_mask := T.cl_Sieve
  have x_cSieve_kept_mask := T.me_Sieve_kept_mask
  have cl_Sieve := T.cl_Sieve
  have na_Sieve_order := T.na_Sieve_order
  have na_Sieve_hitters := T.na_Sieve_hitters
  have na_Sieve_hits := T.na_Sieve_hits
  have cl_Web := T.cl_Web
  have na_Web_strikers_by := T.na_Web_strikers_by
  have na_Web_struck_by := T.na_Web_struck_by
  have na_Web_own_pairs := T.na_Web_own_pairs
  refine mcal T.fd_Sieve_standing_masks (N := ["self", "mask"]) sc_Sieve_standing_masks (fun _ _ _ _ _ _ us hl => match us, hl with | [_], _ => rfl) (fun vs H Q E h => by
    unfold sp_Sieve_standing_masks at h
    split at h
    all_goals first | rfl | exact h.elim) ?_
  intro cdv A outer s H vs Q E hr h
  have hu := hu_of hr
  unfold sp_Sieve_standing_masks at h
  split at h
  rotate_left
  · exact h.elim
  rename_i p
  obtain ⟨N, ks, us, L, h0, h1, h2, k⟩ := h
  refine' ⟨_, pss_one (ps_ret (pe_lc (own := [("mask", 1)]) (g := gName 1) rfl sc_Sieve_standing_masks.nd (pi_list (pe_meth0 (pv 0) C_cSieve_quiet_masks x_cSieve_quiet_masks G_cSieve_quiet_masks (hr.mono (by decide)) b_cSieve_quiet_masks .nil pass0)) (blkOk_by (N := ["self", "mask"]) (sc := defScope (inClass (top 9) 6)) (by decide +kernel)) ?c1g ?c1t ?c1e)), ?_⟩
  (case c1g => exact fun _ _ _ _ _ => pg_name (i := 1) sc_Sieve_standing_masks.nd rfl (Or.inl rfl)); (case c1t => (intro _ _ _ _ _; refine' Sw.pts_te (pts_one (pt_cmpR op_eq (pe_op op_and (pv 1) (pe_un un_inv (pe_meth (pv 0) C_cSieve_kept_mask x_cSieve_kept_mask G_cSieve_kept_mask (hr.mono (by decide)) b_cSieve_kept_mask .nil pass0 (pa_cons (pv 1) pa_nil)))) (pe_int) (nomark _))) ?c1tq; (case c1tq => (first | ((dsimp only [L2.Cx.blk]) <;> exact rfl) | exact rfl)))); (case c1e => (intro _ _ _ _ _; refine' Sw.pe_te (pv 1) ?c1eq; (case c1eq => (first | ((dsimp only [L2.Cx.blk]) <;> exact rfl) | exact rfl))))
  try clear G_cSieve_quiet_masks b_cSieve_quiet_masks
  try clear d_cSieve_quiet_masks
  try clear C_cSieve_quiet_masks x_cSieve_quiet_masks
  try clear G_cSieve_kept_mask b_cSieve_kept_mask
  try clear d_cSieve_kept_mask
  try clear C_cSieve_kept_mask x_cSieve_kept_mask
  try clear hu hr
  obtain ⟨dx, pn, pk, pu, m1, m2, m3, m4⟩ := h1.ex
  have hql : ((quietP us N.length).map Prod.fst).length ≤ 4096 := by
    rw [List.length_map]
    have h9 := quietP_len us N.length
    have h7 : 2 ^ N.length ≤ 2 ^ 12 := Nat.pow_le_pow_right (by decide) (by omega)
    have h6 : 2 ^ 12 = 4096 := rfl
    omega
  walk_at "rd"
  rename_i q H1 A1
  refine Sw.lc_list (us := (quietP us N.length).map Prod.fst) (F := nv) A1 (.head _) (by omega) (fun m => decide (m - (m &&& keptN ks (hitN us m N.length) N.length) = 0)) nv (fun m H2 D acc Yk Nk hm A2 hY hN => ?_) fun D H2 A2 => ?_
  · walk_at "rd"
    · rename_i q1
      exact hY _ _ (decide_eq_true (by exact_mod_cast q1)) rfl (by walk_at "sb")
    · rename_i q1
      exact hN _ (decide_eq_false fun h => q1 (by exact_mod_cast h)) (by walk_at "sb")
  walk_at "rd"
  exact k D _ (by walk_at "sb")
end
end Sw

namespace Sw
open PySem L2 PySem.W
def sp_Sieve_whole_masks (K : PySem.W.Frag) : Sp := fun vs H Q E => match vs with
  | [.ref p] => ∃ (N : List Str) (ks us : List Nat) (L : List Cell), (At H L) ∧ (SvIn K L p N ks us) ∧ (N.length ≤ 12 ∧ us.length = N.length ∧ ks.length = N.length) ∧ (∀ (r : Addr) (H' : Hp), (At H' ((r, .lst ((wholeM ks us N.length).map nv)) :: L)) → Q (.ref r) H')
  | _ => False
end Sw
local macro_rules | `(tactic| walk_at "rdc") => `(tactic| ((with_reducible show Sw.sp_Sieve_whole_masks _ _ _ _ _); k_dflt (refine' ⟨_, _, _, _, ?h0, ?h1, ?h2, ?_⟩); (case h0 => assumption); (case h1 => k_dflt (walk_at "web")); (case h2 => k_dflt (walk_at "om")); intro _ _ _))
local macro_rules | `(tactic| walk_at "call") => `(tactic| ((with_reducible show Sw.sp_Sieve_whole_masks _ _ _ _ _); k_dflt (refine' ⟨_, _, _, _, ?h0, ?h1, ?h2, ?_⟩); (try (case h0 => assumption)); (try (case h1 => k_dflt (walk_at "web"))); (try (case h2 => k_dflt (walk_at "om")))))
namespace Sw
open PySem L2 PySem.W
section
variable {P : Program} {w : World} {K : PySem.W.Frag} {mg : Str → Option Value} {base : Heap}
theorem sc_Sieve_whole_masks : FnScope ["self", "mask"] ["self"] (defScope (inClass (top 9) 7)) := ⟨rfl, rfl, rfl, by decide +kernel, rfl, by decide +kernel, by decide +kernel⟩
theorem ok_Sieve_whole_masks (T : Tx K mg) : MCal P w K mg base (He.ma K (He.ga K "Sieve") "whole_masks") 4 ["self"] (sp_Sieve_whole_masks K) := by
  obtain ⟨d_cSieve_standing_masks, b_cSieve_standing_masks, G_cSieve_standing_masks⟩ := (ok_Sieve_standing_masks (P := P) (w := w) (base := base) T).ex
  have C_cSieve_standing_masks := T.cl_Sieve
  have x_cSieve_standing_masks := T.me_Sieve_standing_masks
  obtain ⟨d_cSieve_kept_mask, b_cSieve_kept_mask, G_cSieve_kept_mask⟩ := (ok_Sieve_kept_mask (P := P) (w := w) (base := base) T).ex
  have C_cSieve_kept_mask := T.cl_Sieve
  have x_cSieve_kept_mask := T.me_Sieve_kept_mask
  have cl_Sieve := T.cl_Sieve
  have na_Sieve_order := T.na_Sieve_order
  have na_Sieve_hitters := T.na_Sieve_hitters
  have na_Sieve_hits := T.na_Sieve_hits
  have cl_Web := T.cl_Web
  have na_Web_strikers_by := T.na_Web_strikers_by
  have na_Web_struck_by := T.na_Web_struck_by
  have na_Web_own_pairs := T.na_Web_own_pairs
  refine mcal T.fd_Sieve_whole_masks (N := ["self", "mask"]) sc_Sieve_whole_masks (fun _ _ _ _ _ _ us hl => match us, hl with | [_], _ => rfl) (fun vs H Q E h => by
    unfold sp_Sieve_whole_masks at h
    split at h
    all_goals first | rfl | exact h.elim) ?_
  intro cdv A outer s H vs Q E hr h
  have hu := hu_of hr
  unfold sp_Sieve_whole_masks at h
  split at h
  rotate_left
  · exact h.elim
  rename_i p
  obtain ⟨N, ks, us, L, h0, h1, h2, k⟩ := h
  refine' ⟨_, pss_one (ps_ret (pe_lc (own := [("mask", 1)]) (g := gName 1) rfl sc_Sieve_whole_masks.nd (pi_list (pe_meth0 (pv 0) C_cSieve_standing_masks x_cSieve_standing_masks G_cSieve_standing_masks (hr.mono (by decide)) b_cSieve_standing_masks .nil pass0)) (blkOk_by (N := ["self", "mask"]) (sc := defScope (inClass (top 9) 7)) (by decide +kernel)) ?c1g ?c1t ?c1e)), ?_⟩
  (case c1g => exact fun _ _ _ _ _ => pg_name (i := 1) sc_Sieve_whole_masks.nd rfl (Or.inl rfl)); (case c1t => (intro _ _ _ _ _; refine' Sw.pts_te (pts_one (pt_cmpR op_eq (pv 1) (pe_meth (pv 0) C_cSieve_kept_mask x_cSieve_kept_mask G_cSieve_kept_mask (hr.mono (by decide)) b_cSieve_kept_mask .nil pass0 (pa_cons (pv 1) pa_nil)) (nomark _))) ?c1tq; (case c1tq => (first | ((dsimp only [L2.Cx.blk]) <;> exact rfl) | exact rfl)))); (case c1e => (intro _ _ _ _ _; refine' Sw.pe_te (pv 1) ?c1eq; (case c1eq => (first | ((dsimp only [L2.Cx.blk]) <;> exact rfl) | exact rfl))))
  try clear G_cSieve_standing_masks b_cSieve_standing_masks
  try clear d_cSieve_standing_masks
  try clear C_cSieve_standing_masks x_cSieve_standing_masks
  try clear G_cSieve_kept_mask b_cSieve_kept_mask
  try clear d_cSieve_kept_mask
  try clear C_cSieve_kept_mask x_cSieve_kept_mask
  try clear hu hr
  obtain ⟨dx, pn, pk, pu, m1, m2, m3, m4⟩ := h1.ex
  have hql : (standM ks us N.length).length ≤ 4096 := by
    have h8 : (standM ks us N.length).length ≤ ((quietP us N.length).map Prod.fst).length := List.length_filter_le _ _
    rw [List.length_map] at h8
    have h9 := quietP_len us N.length
    have h7 : 2 ^ N.length ≤ 2 ^ 12 := Nat.pow_le_pow_right (by decide) (by omega)
    have h6 : 2 ^ 12 = 4096 := rfl
    omega
  walk_at "rd"
  rename_i q H1 A1
  refine Sw.lc_list (us := standM ks us N.length) (F := nv) A1 (.head _) (by omega) (fun m => decide (m = keptN ks (hitN us m N.length) N.length)) nv (fun m H2 D acc Yk Nk hm A2 hY hN => ?_) fun D H2 A2 => ?_
  · walk_at "rd"
    · rename_i q1
      exact hY _ _ (decide_eq_true (by exact_mod_cast q1)) rfl (by walk_at "sb")
    · rename_i q1
      exact hN _ (decide_eq_false fun h => q1 (by exact_mod_cast h)) (by walk_at "sb")
  walk_at "rd"
  exact k D _ (by walk_at "sb")
end
end Sw

namespace Sw
open PySem L2 PySem.W
def sp_Sieve_greatest_masks (K : PySem.W.Frag) : Sp := fun vs H Q E => match vs with
  | [.ref p] => ∃ (N : List Str) (ks us : List Nat) (L : List Cell), (At H L) ∧ (SvIn K L p N ks us) ∧ (N.length ≤ 12 ∧ us.length = N.length ∧ ks.length = N.length) ∧ (∀ (r : Addr) (gs : List Nat) (H' : Hp), (At H' ((r, .lst (gs.map nv)) :: L)) → (gs.Perm (greatM ks us N.length)) → Q (.ref r) H')
  | _ => False
end Sw
local macro_rules | `(tactic| walk_at "rdc") => `(tactic| ((with_reducible show Sw.sp_Sieve_greatest_masks _ _ _ _ _); k_dflt (refine' ⟨_, _, _, _, ?h0, ?h1, ?h2, ?_⟩); (case h0 => assumption); (case h1 => k_dflt (walk_at "web")); (case h2 => k_dflt (walk_at "om")); intro _ _ _ _ _))
local macro_rules | `(tactic| walk_at "call") => `(tactic| ((with_reducible show Sw.sp_Sieve_greatest_masks _ _ _ _ _); k_dflt (refine' ⟨_, _, _, _, ?h0, ?h1, ?h2, ?_⟩); (try (case h0 => assumption)); (try (case h1 => k_dflt (walk_at "web"))); (try (case h2 => k_dflt (walk_at "om")))))
namespace Sw
open PySem L2 PySem.W
section
variable {P : Program} {w : World} {K : PySem.W.Frag} {mg : Str → Option Value} {base : Heap}
theorem sc_Sieve_greatest_masks : FnScope ["self", "found", "mask", "other"] ["self"] (defScope (inClass (top 9) 8)) := ⟨rfl, rfl, rfl, by decide +kernel, rfl, by decide +kernel, by decide +kernel⟩
theorem ok_Sieve_greatest_masks (T : Tx K mg) : MCal P w K mg base (He.ma K (He.ga K "Sieve") "greatest_masks") 5 ["self"] (sp_Sieve_greatest_masks K) := by
  obtain ⟨d_cSieve_whole_masks, b_cSieve_whole_masks, G_cSieve_whole_masks⟩ := (ok_Sieve_whole_masks (P := P) (w := w) (base := base) T).ex
  have C_cSieve_whole_masks := T.cl_Sieve
  have x_cSieve_whole_masks := T.me_Sieve_whole_masks
  have cl_Sieve := T.cl_Sieve
  have na_Sieve_order := T.na_Sieve_order
  have na_Sieve_hitters := T.na_Sieve_hitters
  have na_Sieve_hits := T.na_Sieve_hits
  have cl_Web := T.cl_Web
  have na_Web_strikers_by := T.na_Web_strikers_by
  have na_Web_struck_by := T.na_Web_struck_by
  have na_Web_own_pairs := T.na_Web_own_pairs
  obtain ⟨fMBk, dMBk, mMBk, FMBk⟩ := T.f_many_bits.ex
  have MBk : MB K fMBk := ⟨dMBk, _, _, _, _, _, _, _, _, _, _, _, _, _, _, _, _, _, _, _, _, FMBk⟩
  refine mcal T.fd_Sieve_greatest_masks (N := ["self", "found", "mask", "other"]) sc_Sieve_greatest_masks (fun _ _ _ _ _ _ us hl => match us, hl with | [_], _ => rfl) (fun vs H Q E h => by
    unfold sp_Sieve_greatest_masks at h
    split at h
    all_goals first | rfl | exact h.elim) ?_
  intro cdv A outer s H vs Q E hr h
  have hu := hu_of hr
  unfold sp_Sieve_greatest_masks at h
  split at h
  rotate_left
  · exact h.elim
  rename_i p
  obtain ⟨N, ks, us, L, h0, h1, h2, k⟩ := h
  refine' ⟨_, pss_cons (ps_set (i := 1) sc_Sieve_greatest_masks.nd rfl (by first | exact Or.inl rfl | exact Or.inr rfl) (pe_lst (pa_nil)))
 (pss_cons (ps_for PassesOwn.never rfl (pi_list (pe_callBK (Sw.cr_srtB MBk (Sw.dp8 (hr.mono (by decide))) hr.units) (by rfl) T.z_sorted (by decide +kernel) (pa_cons (pe_meth0 (pv 0) C_cSieve_whole_masks x_cSieve_whole_masks G_cSieve_whole_masks (hr.mono (by decide)) b_cSieve_whole_masks .nil pass0) pa_nil) (pk_cons (pe_glob (v := .ref fMBk) rfl mMBk rfl) (pk_cons pe_bl pk_nil)))) (pg_name (i := 2) sc_Sieve_greatest_masks.nd rfl (by first | exact Or.inl rfl | exact Or.inr rfl)) (pss_one (ps_if (pt_not (pt_val (pe_callB (cr_any rfl) (by rfl) T.z_any (by decide +kernel) (pa_cons (pe_lc (own := [("other", 3)]) (g := gName 3) (tt := tYes) rfl sc_Sieve_greatest_masks.nd (pi_list (pv 1)) (blkOk_by (N := ["self", "found", "mask", "other"]) (sc := defScope (inClass (top 9) 8)) (by decide +kernel)) ?c1g ?c1t ?c1e) pa_nil)))) (pss_one (ps_expr (pe_bm PySem.F.plainAttrs_list PySem.F.slot_list_append PySem.F.type_list_append mt_append (pv 1) (pa_cons (pv 2) pa_nil)))) (pss_nil))))
 (pss_one (ps_ret (pv 1)))), ?_⟩
  (case c1g => exact fun _ _ _ _ _ => pg_name (i := 3) sc_Sieve_greatest_masks.nd rfl (Or.inl rfl)); (case c1t => (intro _ _ _ _ _; refine' Sw.pts_te (pts_nil) ?c1tq; (case c1tq => (first | ((dsimp only [L2.Cx.blk]) <;> exact rfl) | exact rfl)))); (case c1e => (intro _ _ _ _ _; refine' Sw.pe_te (pe_cmpR op_eq (pe_op op_and (pv 2) (pe_un un_inv (pv 3))) (pe_int) (nomark _)) ?c1eq; (case c1eq => (first | ((dsimp only [L2.Cx.blk]) <;> exact rfl) | exact rfl))))
  try clear G_cSieve_whole_masks b_cSieve_whole_masks
  try clear d_cSieve_whole_masks
  try clear C_cSieve_whole_masks x_cSieve_whole_masks
  try clear FMBk
  try clear hu hr
  obtain ⟨dx, pn, pk, pu, m1, m2, m3, m4⟩ := h1.ex
  have hql : (wholeM ks us N.length).length ≤ 4096 := by
    have h8 : (wholeM ks us N.length).length ≤ ((quietP us N.length).map Prod.fst).length := Nat.le_trans (List.length_filter_le _ _) (List.length_filter_le _ _)
    rw [List.length_map] at h8
    have h9 := quietP_len us N.length
    have h7 : 2 ^ N.length ≤ 2 ^ 12 := Nat.pow_le_pow_right (by decide) (by omega)
    have h6 : 2 ^ 12 = 4096 := rfl
    omega
  walk_at "rd"
  rename_i f0 H1 A1 q0 H2 A2 out so H3 A3 hp hs
  have hol := hp.length_eq
  have gl : ∀ (l : List Nat) (acc : List Nat), (l.foldl gstep acc).length ≤ acc.length + l.length := fun l => by
    induction l with
    | nil => intro acc; exact Nat.le_refl _
    | cons x r ih =>
      intro acc
      have h8 := ih (gstep acc x)
      have h9 : (gstep acc x).length ≤ acc.length + 1 := by
        unfold gstep
        split
        · omega
        · rw [List.length_append]
          exact Nat.le_refl _
      rw [List.foldl_cons, List.length_cons]
      omega
  refine Sw.loop_map (f := nv) (zs := out) (fun i σ H' => ∃ v2 v3, σ = [some (.ref p), some (.ref f0), v2, v3] ∧ At H' ((f0, .lst (((out.take i).foldl gstep []).map nv)) :: (so, .lst (out.map nv)) :: L))
    ⟨_, _, rfl, (by show At _ ((f0, .lst []) :: (so, .lst (out.map nv)) :: L); walk_at "sb")⟩ (fun i σ H' ⟨_, _, _, A⟩ => SqL.of (A.rd (by walk_at "mem"))) ?_ ?_
  · rintro i m σ H4 hm ⟨v2, v3, rfl, A4⟩
    have hi : i < out.length := (List.getElem?_eq_some_iff.mp hm).1
    have et : (out.take (i + 1)).foldl gstep [] = gstep ((out.take i).foldl gstep []) m := by
      rw [List.take_succ, hm, List.foldl_append]
      rfl
    have hgl := gl (out.take i) []
    rw [List.length_take, List.length_nil] at hgl
    rw [et]
    generalize (out.take i).foldl gstep [] = acc at A4 hgl
    walk_at "rd"
    refine Sw.lc_list (us := acc) (F := nv) A4 (.head _) (by omega) (fun _ => true) (fun o => V.bl (decide (m - (m &&& o) = 0))) (fun o H5 D ac Yk Nk ho A5 hY hN => ?_) fun D H5 A5 => ?_
    · walk_at "rd"
      exact hY _ _ rfl (congrArg V.bl (decide_eq_decide.mpr (by omega))) (by walk_at "sb")
    rw [all_true_filter] at A5
    unfold gstep
    walk_at "rd"
    · rename_i hb H6 A6
      refine ⟨_, _, rfl, ?_⟩
      rw [if_neg (by rw [hb]; exact Bool.false_ne_true), List.map_append]
      show At _ ((f0, .lst (acc.map nv ++ [nv m])) :: (so, .lst (out.map nv)) :: L)
      walk_at "sb"
    · rename_i hb
      refine ⟨_, _, rfl, ?_⟩
      rw [if_pos hb]
      walk_at "sb"
  · rintro σ H4 ⟨v2, v3, rfl, A4⟩
    rw [List.take_length] at A4
    walk_at "rd"
    exact k f0 _ _ (by walk_at "sb") (great_perm (wholeM_nd h2.2.1) hp hs)
end
end Sw

namespace Sw
open PySem L2 PySem.W
def sp_greatest_sets (K : PySem.W.Frag) : Sp := fun vs H Q E => match vs with
  | [.ref q] => ∃ (N : List Str) (es : List (Str × Str)) (ks us : List Nat) (L : List Cell), (At H L) ∧ (WebIn K L q N es) ∧ (N.Nodup) ∧ (SOk N es) ∧ (∀ y ∈ N, nameB y = true) ∧ (N.length ≤ 12 ∧ es.length ≤ 9000) ∧ (VwOk (srt N) es ks us) ∧ ((300 < (greatM ks us N.length).length) → ∀ (H' : Hp), (At H' L) → E (.ref (He.ga K "TooMany")) none H') ∧ (¬ (300 < (greatM ks us N.length).length) → (∀ (r : Addr) (zs : List (Addr × List Str)) (H' : Hp), (At H' ((r, .lst (clr zs)) :: (cl zs ++ L))) → (zs.map Prod.snd = srt ((greatM ks us N.length).map (setOf (srt N)))) → Q (.ref r) H'))
  | _ => False
end Sw
local macro_rules | `(tactic| walk_at "rdc") => `(tactic| first | ((with_reducible show Sw.sp_greatest_sets _ _ _ _ _); k_dflt (refine' ⟨_, _, _, _, _, ?h0, ?h1, ?h2, ?h3, ?h4, ?h5, ?h6, fun hz => Sw.no_of hz ?hz, fun _ => ?_⟩); (case h0 => assumption); (case h1 => k_dflt (walk_at "web")); (case h2 => k_dflt (assumption)); (case h3 => k_dflt (assumption)); (case h4 => k_dflt (assumption)); (case h5 => k_dflt (walk_at "om")); (case h6 => k_dflt (assumption)); (case hz => walk_at "nn"); intro _ _ _ _ _) | ((with_reducible show Sw.sp_greatest_sets _ _ _ _ _); k_dflt (refine' ⟨_, _, _, _, _, ?h0, ?h1, ?h2, ?h3, ?h4, ?h5, ?h6, fun _ _ _ => ?_, fun hn => Sw.no_of ?hz hn⟩); (case h0 => assumption); (case h1 => k_dflt (walk_at "web")); (case h2 => k_dflt (assumption)); (case h3 => k_dflt (assumption)); (case h4 => k_dflt (assumption)); (case h5 => k_dflt (walk_at "om")); (case h6 => k_dflt (assumption)); (case hz => k_dflt assumption)) | ((with_reducible show Sw.sp_greatest_sets _ _ _ _ _); k_dflt (refine' ⟨_, _, _, _, _, ?h0, ?h1, ?h2, ?h3, ?h4, ?h5, ?h6, fun _ _ _ => ?_, fun _ _ _ _ _ _ => ?_⟩); (case h0 => assumption); (case h1 => k_dflt (walk_at "web")); (case h2 => k_dflt (assumption)); (case h3 => k_dflt (assumption)); (case h4 => k_dflt (assumption)); (case h5 => k_dflt (walk_at "om")); (case h6 => k_dflt (assumption)); skip))
local macro_rules | `(tactic| walk_at "call") => `(tactic| ((with_reducible show Sw.sp_greatest_sets _ _ _ _ _); k_dflt (refine' ⟨_, _, _, _, _, ?h0, ?h1, ?h2, ?h3, ?h4, ?h5, ?h6, fun _ _ _ => ?_, fun _ _ _ _ _ _ => ?_⟩); (try (case h0 => assumption)); (try (case h1 => k_dflt (walk_at "web"))); (try (case h2 => k_dflt (assumption))); (try (case h3 => k_dflt (assumption))); (try (case h4 => k_dflt (assumption))); (try (case h5 => k_dflt (walk_at "om"))); (try (case h6 => k_dflt (assumption)))))
namespace Sw
open PySem L2 PySem.W
section
variable {P : Program} {w : World} {K : PySem.W.Frag} {mg : Str → Option Value} {base : Heap}
theorem sc_greatest_sets : FnScope ["web", "sieve"] ["web"] (defScope (top 11)) := ⟨rfl, rfl, rfl, by decide +kernel, rfl, by decide +kernel, by decide +kernel⟩
theorem ok_greatest_sets (T : Tx K mg) : CalX P w K mg base "greatest_sets" 6 ["web"] (sp_greatest_sets K) := by
  obtain ⟨d_cSieve, b_cSieve, G_cSieve⟩ := (ok_Sieve___init__ (P := P) (w := w) (base := base) T).ex
  have M_cSieve := T.mk_Sieve
  have m_cSieve := T.g_Sieve
  obtain ⟨d_cSieve_rising_sets, b_cSieve_rising_sets, G_cSieve_rising_sets⟩ := (ok_Sieve_rising_sets (P := P) (w := w) (base := base) T).ex
  have C_cSieve_rising_sets := T.cl_Sieve
  have x_cSieve_rising_sets := T.me_Sieve_rising_sets
  obtain ⟨d_cSieve_greatest_masks, b_cSieve_greatest_masks, G_cSieve_greatest_masks⟩ := (ok_Sieve_greatest_masks (P := P) (w := w) (base := base) T).ex
  have C_cSieve_greatest_masks := T.cl_Sieve
  have x_cSieve_greatest_masks := T.me_Sieve_greatest_masks
  have cl_Sieve := T.cl_Sieve
  have na_Sieve_order := T.na_Sieve_order
  have na_Sieve_hitters := T.na_Sieve_hitters
  have na_Sieve_hits := T.na_Sieve_hits
  have cl_Web := T.cl_Web
  have na_Web_strikers_by := T.na_Web_strikers_by
  have na_Web_struck_by := T.na_Web_struck_by
  have na_Web_own_pairs := T.na_Web_own_pairs
  refine T.f_greatest_sets.calX (N := ["web", "sieve"]) sc_greatest_sets (fun _ _ _ _ _ _ us hl => match us, hl with | [_], _ => rfl) (fun vs H Q E h => by
    unfold sp_greatest_sets at h
    split at h
    all_goals first | rfl | exact h.elim) ?_
  intro f cdv A outer s H vs Q E hr h
  have hu := hu_of hr
  unfold sp_greatest_sets at h
  split at h
  rotate_left
  · exact h.elim
  rename_i q
  obtain ⟨N, es, ks, us, L, h0, h1, h2, h3, h4, h5, h6, kE, k⟩ := h
  refine ⟨_, pss_cons (ps_set (i := 1) sc_greatest_sets.nd rfl (by first | exact Or.inl rfl | exact Or.inr rfl) (pe_make M_cSieve G_cSieve (hr.mono (by decide)) (by rfl) m_cSieve b_cSieve .nil pass0 (pa_cons (pv 0) pa_nil)))
 (pss_one (ps_ret (Sw.pe_methE (pv 1) C_cSieve_rising_sets x_cSieve_rising_sets G_cSieve_rising_sets (hr.mono (by decide)) b_cSieve_rising_sets (fun σ => passAt (W := fun cls d _ H => E cls d H) (takes_of rfl rfl rfl rfl) σ) (pa_cons (pe_meth0 (pv 1) C_cSieve_greatest_masks x_cSieve_greatest_masks G_cSieve_greatest_masks (hr.mono (by decide)) b_cSieve_greatest_masks .nil pass0) pa_nil)))), ?_⟩
  try clear G_cSieve b_cSieve
  try clear d_cSieve
  try clear M_cSieve m_cSieve
  try clear G_cSieve_rising_sets b_cSieve_rising_sets
  try clear d_cSieve_rising_sets
  try clear C_cSieve_rising_sets x_cSieve_rising_sets
  try clear G_cSieve_greatest_masks b_cSieve_greatest_masks
  try clear d_cSieve_greatest_masks
  try clear C_cSieve_greatest_masks x_cSieve_greatest_masks
  try clear hu hr
  have hsl := srt_len N
  walk_at "rd"
  rename_i x dx H1 A1 W ks' us' H2 A2 sv vw
  obtain ⟨rfl, rfl⟩ := vw.uniq h6
  have el := vw.kl
  have eu := vw.ul
  have sv2 : SvIn K (W ++ (dx, HO.own x) :: L) x (srt N) ks' us' := sv.mono fun c m => List.mem_append_left _ m
  obtain ⟨dx2, pn, pk, pu, m1, m2, m3, m4⟩ := sv2.ex
  have hql : (greatM ks' us' (srt N).length).length ≤ 4096 := by
    have h8 : (greatM ks' us' (srt N).length).length ≤ ((quietP us' (srt N).length).map Prod.fst).length := Nat.le_trans (List.length_filter_le _ _) (Nat.le_trans (List.length_filter_le _ _) (List.length_filter_le _ _))
    rw [List.length_map] at h8
    have h9 := quietP_len us' (srt N).length
    have h7 : 2 ^ (srt N).length ≤ 2 ^ 12 := Nat.pow_le_pow_right (by decide) (by omega)
    have h6 : 2 ^ 12 = 4096 := rfl
    omega
  rw [← hsl] at kE k
  walk_at "rd"
  rename_i r0 gs H3 A3 pg
  have hgl := pg.length_eq
  have e9 : srt (gs.map (setOf (srt N))) = srt ((greatM ks' us' (srt N).length).map (setOf (srt N))) := srt_congr (pg.map _)
  walk_at "rd"
  · rename_i c H4 A4
    exact kE (by omega) _ (by walk_at "sb")
  · rename_i c r zs H4 A4 e
    exact k (by omega) r zs H4 (by walk_at "sb") (e.trans e9)
end
end Sw

namespace Sw
open PySem L2 PySem.W
def sp_first_with : Sp := fun vs H Q E => match vs with
  | [.ref s, .ref q] => ∃ (zs : List (Addr × List Str)) (held : List Str) (L : List Cell), (At H L) ∧ ((s, HO.lst (clr zs)) ∈ L) ∧ (∀ c ∈ cl zs, c ∈ L) ∧ ((q, HO.lst (held.map V.str)) ∈ L) ∧ (held.length ≤ 90000 ∧ zs.length ≤ 9000) ∧ (∀ (H' : Hp), (At H' L) → Q (swN (firstF (zs.map Prod.snd) held)) H')
  | _ => False
end Sw
local macro_rules | `(tactic| walk_at "rdc") => `(tactic| ((with_reducible show Sw.sp_first_with _ _ _ _); k_dflt (refine' ⟨_, _, _, ?h0, ?h1, ?h2, ?h3, ?h4, ?_⟩); (case h0 => assumption); (case h1 => k_dflt (walk_at "mem")); (case h2 => k_dflt (walk_at "alm")); (case h3 => k_dflt (walk_at "mem")); (case h4 => k_dflt (walk_at "om")); intro _ _))
local macro_rules | `(tactic| walk_at "call") => `(tactic| ((with_reducible show Sw.sp_first_with _ _ _ _); k_dflt (refine' ⟨_, _, _, ?h0, ?h1, ?h2, ?h3, ?h4, ?_⟩); (try (case h0 => assumption)); (try (case h1 => k_dflt (walk_at "mem"))); (try (case h2 => k_dflt (walk_at "alm"))); (try (case h3 => k_dflt (walk_at "mem"))); (try (case h4 => k_dflt (walk_at "om")))))
namespace Sw
open PySem L2 PySem.W
section
variable {P : Program} {w : World} {K : PySem.W.Frag} {mg : Str → Option Value} {base : Heap}
theorem sc_first_with : FnScope ["sets", "held", "number", "one", "name"] ["sets", "held"] (defScope (top 19)) := ⟨rfl, rfl, rfl, by decide +kernel, rfl, by decide +kernel, by decide +kernel⟩
theorem ok_first_with (T : Tx K mg) : Cal P w K mg base "first_with" 1 ["sets", "held"] (sp_first_with) := by
  refine T.f_first_with.cal (N := ["sets", "held", "number", "one", "name"]) sc_first_with (fun _ _ _ _ _ _ us hl => match us, hl with | [_, _], _ => rfl) (fun vs H Q E h => by
    unfold sp_first_with at h
    split at h
    all_goals first | rfl | exact h.elim) ?_
  intro f cdv A outer s H vs Q E hr h
  have hu := hu_of hr
  unfold sp_first_with at h
  split at h
  rotate_left
  · exact h.elim
  rename_i s q
  obtain ⟨zs, held, L, h0, h1, h2, h3, h4, k⟩ := h
  refine' ⟨_, pss_cons (ps_for PassesOwn.never rfl (pi_enum (by rfl) T.z_enumerate (pa_cons (pv 0) pa_nil)) (pg_tup rfl (pgs_cons (pg_name (i := 2) sc_first_with.nd rfl (by first | exact Or.inl rfl | exact Or.inr rfl)) (pgs_cons (pg_name (i := 3) sc_first_with.nd rfl (by first | exact Or.inl rfl | exact Or.inr rfl)) pgs_nil))) (pss_one (ps_if (pt_val (pe_callB (cr_all rfl) (by rfl) T.z_all (by decide +kernel) (pa_cons (pe_lc (own := [("name", 4)]) (g := gName 4) (tt := tYes) rfl sc_first_with.nd (pi_list (pv 1)) (blkOk_by (N := ["sets", "held", "number", "one", "name"]) (sc := defScope (top 19)) (by decide +kernel)) ?c1g ?c1t ?c1e) pa_nil))) (pss_one (ps_ret (pv 2))) (pss_nil))))
 (pss_one (ps_ret (pe_non))), ?_⟩
  (case c1g => exact fun _ _ _ _ _ => pg_name (i := 4) sc_first_with.nd rfl (Or.inl rfl)); (case c1t => (intro _ _ _ _ _; refine' Sw.pts_te (pts_nil) ?c1tq; (case c1tq => (first | ((dsimp only [L2.Cx.blk]) <;> exact rfl) | exact rfl)))); (case c1e => (intro _ _ _ _ _; refine' Sw.pe_te (pe_cmpR op_in_seq (pv 4) (pv 3) (by rfl)) ?c1eq; (case c1eq => (first | ((dsimp only [L2.Cx.blk]) <;> exact rfl) | exact rfl))))
  try clear hu hr
  have h1' : (s, HO.lst (zs.map fun u => V.ref u.1)) ∈ L := h1
  walk_at "rd"
  refine Sw.loop_enum (f := fun u : Addr × List Str => V.ref u.1) (zs := zs) (fun i σ H' => ∃ v2 v3 v4, σ = [some (.ref s), some (.ref q), v2, v3, v4] ∧ At H' L ∧ ∀ y ∈ (zs.map Prod.snd).take i, (held.all fun x => decide (x ∈ y)) = false)
    ⟨_, _, _, rfl, h0, fun _ m => nomatch m⟩ (fun i σ H' _ ⟨_, _, _, _, A, _⟩ => ⟨L, A, h1'⟩) ?_ ?_
  · rintro i u T σ H1 hu ⟨v2, v3, v4, rfl, A1, hn⟩ H2 hT
    have A2 := hT L A1
    have hus : (zs.map Prod.snd)[i]? = some u.2 := by rw [List.getElem?_map, hu]; rfl
    have mu : (u.1, HO.lst (u.2.map V.str)) ∈ L := h2 _ (List.mem_map.mpr ⟨u, List.mem_of_getElem? hu, rfl⟩)
    have hil := (List.getElem?_eq_some_iff.mp hu).1
    walk_at "rd"
    refine Sw.lc_list (us := held) (F := V.str) A2 (by walk_at "mem") (by omega) (fun _ => true) (fun x => V.bl (decide (x ∈ u.2))) (fun x H4 D acc Yk Nk hx A4 hY hN => ?_) fun D H4 A4 => ?_
    · walk_at "rd"
      exact hY _ _ rfl rfl (by walk_at "sb")
    · rw [all_true_filter] at A4
      walk_at "rd"
      · rename_i ha
        rw [firstF_at hus hn ha] at k
        exact k _ (by walk_at "sb")
      · rename_i ha
        exact ⟨_, _, _, rfl, by walk_at "sb", take_snoc hus hn ha⟩
  · rintro σ H1 ⟨v2, v3, v4, rfl, A1, hn⟩
    rw [← List.length_map (f := Prod.snd) (as := zs), List.take_length] at hn
    walk_at "rd"
    rw [firstF_no hn] at k
    exact k _ A1
end
end Sw

namespace Sw
open PySem L2 PySem.W
def sp_greatest_tree (n : Nat) : Sp := fun vs H Q E => match vs with
  | [.ref d, .ref s, .ref q] => ∃ (f : Str → List Str) (Z : List (Str × Addr)) (N held : List Str) (zs : List (Addr × List Str)) (L : List Cell), (At H L) ∧ ((d, HO.dK (dk (zr Z))) ∈ L) ∧ (∀ c ∈ zl f Z, c ∈ L) ∧ (Z.map Prod.fst = N) ∧ (N.Nodup) ∧ (Rise N) ∧ ((q, HO.lst (held.map V.str)) ∈ L) ∧ (∀ z ∈ held, z ∈ N) ∧ (∀ z ∈ N, ∀ x ∈ f z, x ∈ N) ∧ (∀ z ∈ N, (f z).length ≤ 9000) ∧ ((s, HO.lst (clr zs)) ∈ L) ∧ (∀ c ∈ cl zs, c ∈ L) ∧ (FirstOk f N (zs.map Prod.snd) fun held => unansF f held = none) ∧ ((outN N held < n ∧ held.length + n ≤ 9000) ∧ zs.length ≤ 1000 ∧ N.length ≤ 1000) ∧ (∀ (v : V) (W : List Cell) (H' : Hp), (At H' (W ++ L)) → (Rp W v (gtree f N (zs.map Prod.snd) n held)) → Q (v) H')
  | _ => False
end Sw
local macro_rules | `(tactic| walk_at "rdc") => `(tactic| ((with_reducible show Sw.sp_greatest_tree _ _ _ _ _); k_dflt (refine' ⟨_, _, _, _, _, _, ?h0, ?h1, ?h2, ?h3, ?h4, ?h5, ?h6, ?h7, ?h8, ?h9, ?h10, ?h11, ?h12, ?h13, ?_⟩); (case h0 => assumption); (case h1 => k_dflt (walk_at "mem")); (case h2 => k_dflt (walk_at "alm")); (case h3 => k_dflt (assumption)); (case h4 => k_dflt (assumption)); (case h5 => k_dflt (assumption)); (case h6 => k_dflt (walk_at "mem")); (case h7 => k_dflt (assumption)); (case h8 => k_dflt (assumption)); (case h9 => k_dflt (assumption)); (case h10 => k_dflt (walk_at "mem")); (case h11 => k_dflt (walk_at "alm")); (case h12 => k_dflt (assumption)); (case h13 => k_dflt (walk_at "om")); intro _ _ _ _ _))
local macro_rules | `(tactic| walk_at "call") => `(tactic| ((with_reducible show Sw.sp_greatest_tree _ _ _ _ _); k_dflt (refine' ⟨_, _, _, _, _, _, ?h0, ?h1, ?h2, ?h3, ?h4, ?h5, ?h6, ?h7, ?h8, ?h9, ?h10, ?h11, ?h12, ?h13, ?_⟩); (try (case h0 => assumption)); (try (case h1 => k_dflt (walk_at "mem"))); (try (case h2 => k_dflt (walk_at "alm"))); (try (case h3 => k_dflt (assumption))); (try (case h4 => k_dflt (assumption))); (try (case h5 => k_dflt (assumption))); (try (case h6 => k_dflt (walk_at "mem"))); (try (case h7 => k_dflt (assumption))); (try (case h8 => k_dflt (assumption))); (try (case h9 => k_dflt (assumption))); (try (case h10 => k_dflt (walk_at "mem"))); (try (case h11 => k_dflt (walk_at "alm"))); (try (case h12 => k_dflt (assumption))); (try (case h13 => k_dflt (walk_at "om")))))
namespace Sw
open PySem L2 PySem.W
section
variable {P : Program} {w : World} {K : PySem.W.Frag} {mg : Str → Option Value} {base : Heap}
theorem sc_greatest_tree : FnScope ["strikers", "sets", "held", "clash", "spot", "twigs", "number", "others", "name"] ["strikers", "sets", "held"] (defScope (top 20)) := ⟨rfl, rfl, rfl, by decide +kernel, rfl, by decide +kernel, by decide +kernel⟩
theorem okr_greatest_tree (T : Tx K mg) : ∀ n : Nat, Cal P w K mg base "greatest_tree" (2 + n) ["strikers", "sets", "held"] (sp_greatest_tree n) := by
  intro n
  induction n with
  | zero =>
  refine T.f_greatest_tree.cal (k := 1) (N := ["strikers", "sets", "held", "clash", "spot", "twigs", "number", "others", "name"]) sc_greatest_tree (fun _ _ _ _ _ _ us hl => match us, hl with | [_, _, _], _ => rfl) (fun vs H Q E h => by
    unfold sp_greatest_tree at h
    split at h
    all_goals first | rfl | exact h.elim) ?_
  intro f cdv A outer s H vs Q E hr h
  unfold sp_greatest_tree at h
  split at h
  rotate_left
  · exact h.elim
  rename_i d s q
  obtain ⟨f, Z, N, held, zs, L, h0, h1, h2, h3, h4, h5, h6, h7, h8, h9, h10, h11, h12, h13, k⟩ := h
  exact absurd h13.1.1 (Nat.not_lt_zero _)
  | succ n ih =>
  obtain ⟨f_cgreatest_tree, d_cgreatest_tree, m_cgreatest_tree, k_cgreatest_tree, b_cgreatest_tree, G_cgreatest_tree⟩ := ih.ex
  obtain ⟨f_cclash_in, d_cclash_in, m_cclash_in, k_cclash_in, b_cclash_in, G_cclash_in⟩ := (ok_clash_in (P := P) (w := w) (base := base) T).ex
  obtain ⟨f_cunanswered_trees, d_cunanswered_trees, m_cunanswered_trees, k_cunanswered_trees, b_cunanswered_trees, G_cunanswered_trees⟩ := (ok_unanswered_trees (P := P) (w := w) (base := base) T).ex
  obtain ⟨f_cfirst_with, d_cfirst_with, m_cfirst_with, k_cfirst_with, b_cfirst_with, G_cfirst_with⟩ := (ok_first_with (P := P) (w := w) (base := base) T).ex
  refine T.f_greatest_tree.cal (k := 2 + n) (N := ["strikers", "sets", "held", "clash", "spot", "twigs", "number", "others", "name"]) sc_greatest_tree (fun _ _ _ _ _ _ us hl => match us, hl with | [_, _, _], _ => rfl) (fun vs H Q E h => by
    unfold sp_greatest_tree at h
    split at h
    all_goals first | rfl | exact h.elim) ?_
  intro f cdv A outer s H vs Q E hr h
  have hu := hu_of hr
  unfold sp_greatest_tree at h
  split at h
  rotate_left
  · exact h.elim
  rename_i d s q
  obtain ⟨f, Z, N, held, zs, L, h0, h1, h2, h3, h4, h5, h6, h7, h8, h9, h10, h11, h12, h13, k⟩ := h
  refine' ⟨_, pss_cons (ps_set (i := 3) sc_greatest_tree.nd rfl (by first | exact Or.inl rfl | exact Or.inr rfl) (pe_call G_cclash_in (hr.mono (by omega)) (by rfl) m_cclash_in k_cclash_in b_cclash_in .nil pass0 (pa_cons (pv 0) (pa_cons (pv 2) pa_nil))))
 (pss_cons (ps_if (pt_cmpR Sw.op_notN (pv 3) (pe_non) (nomark _)) (pss_one (ps_ret (pv 3))) (pss_nil))
 (pss_cons (ps_set (i := 4) sc_greatest_tree.nd rfl (by first | exact Or.inl rfl | exact Or.inr rfl) (pe_call G_cunanswered_trees (hr.mono (by omega)) (by rfl) m_cunanswered_trees k_cunanswered_trees b_cunanswered_trees .nil pass0 (pa_cons (pv 0) (pa_cons (pv 2) pa_nil))))
 (pss_cons (ps_if (pt_cmpR Sw.op_isN (pv 4) (pe_non) (nomark _)) (pss_cons (ps_set (i := 6) sc_greatest_tree.nd rfl (by first | exact Or.inl rfl | exact Or.inr rfl) (pe_call G_cfirst_with (hr.mono (by omega)) (by rfl) m_cfirst_with k_cfirst_with b_cfirst_with .nil pass0 (pa_cons (pv 1) (pa_cons (pv 2) pa_nil))))
 (pss_cons (ps_setLc (i := 7) (own := [("name", 8)]) (g := gName 8) rfl sc_greatest_tree.nd rfl rfl (sw_true rfl rfl rfl (by decide +kernel)) (pi_list (pe_callB (Sw.call_srtK rfl hr.units) (by rfl) T.z_sorted (by decide +kernel) (pa_cons (pv 0) pa_nil))) (blkOk_by (N := ["strikers", "sets", "held", "clash", "spot", "twigs", "number", "others", "name"]) (sc := defScope (top 20)) (by decide +kernel)) ?c1g ?c1t ?c1e)
 (pss_one (ps_ret (pe_tup (pa_cons (pe_str) (pa_cons (pv 6) (pa_cons (pe_callTy Sw.call_tuple (by rfl) T.z_tuple (by decide +kernel) (pa_cons (pe_lc (own := [("name", 8)]) (g := gName 8) (tt := tYes) rfl sc_greatest_tree.nd (pi_list (pv 7)) (blkOk_by (N := ["strikers", "sets", "held", "clash", "spot", "twigs", "number", "others", "name"]) (sc := defScope (top 20)) (by decide +kernel)) ?c2g ?c2t ?c2e) pa_nil)) pa_nil)))))))) (pss_nil))
 (pss_cons (ps_setLc (i := 5) (own := [("name", 8)]) (g := gName 8) (tt := tYes) rfl sc_greatest_tree.nd rfl rfl (sw_true rfl rfl rfl (by decide +kernel)) (pi_list (pe_dget hu (pv 0) (pe_ix ix_tup (pv 4) (pe_int) (fun _ _ => rfl)) (fun _ _ => rfl))) (blkOk_by (N := ["strikers", "sets", "held", "clash", "spot", "twigs", "number", "others", "name"]) (sc := defScope (top 20)) (by decide +kernel)) ?c3g ?c3t ?c3e)
 (pss_one (ps_ret (pe_tup (pa_cons (pe_str) (pa_cons (pe_ix ix_tup (pv 4) (pe_int) (fun _ _ => rfl)) (pa_cons (pe_ix ix_tup (pv 4) (pe_int) (fun _ _ => rfl)) (pa_cons (pe_callTy Sw.call_tuple (by rfl) T.z_tuple (by decide +kernel) (pa_cons (pv 5) pa_nil)) pa_nil))))))))))), ?_⟩
  (case c1g => exact fun _ _ _ _ _ => pg_name (i := 8) sc_greatest_tree.nd rfl (Or.inl rfl)); (case c1t => (intro _ _ _ _ _; refine' Sw.pts_te (pts_one (pt_cmpR op_notIn_seq (pv 8) (pe_ix ix_list (pv 1) (pv 6) (fun _ _ => rfl)) (by rfl))) ?c1tq; (case c1tq => (first | ((dsimp only [L2.Cx.blk]) <;> exact rfl) | exact rfl)))); (case c1e => (intro _ _ _ _ _; refine' Sw.pe_te (pv 8) ?c1eq; (case c1eq => (first | ((dsimp only [L2.Cx.blk]) <;> exact rfl) | exact rfl))))
  (case c2g => exact fun _ _ _ _ _ => pg_name (i := 8) sc_greatest_tree.nd rfl (Or.inl rfl)); (case c2t => (intro _ _ _ _ _; refine' Sw.pts_te (pts_nil) ?c2tq; (case c2tq => (first | ((dsimp only [L2.Cx.blk]) <;> exact rfl) | exact rfl)))); (case c2e => (intro _ _ _ _ _; refine' Sw.pe_te (pe_call G_cgreatest_tree (hr.mono (by omega)) (by rfl) m_cgreatest_tree k_cgreatest_tree b_cgreatest_tree .nil pass0 (pa_cons (pv 0) (pa_cons (pv 1) (pa_cons (pe_op op_cat (pv 2) (pe_lst (pa_cons (pv 8) pa_nil))) pa_nil)))) ?c2eq; (case c2eq => (first | ((dsimp only [L2.Cx.blk]) <;> exact rfl) | exact rfl))))
  (case c3g => exact fun _ _ _ _ _ => pg_name (i := 8) sc_greatest_tree.nd rfl (Or.inl rfl)); (case c3t => (intro _ _ _ _ _; refine' Sw.pts_te (pts_nil) ?c3tq; (case c3tq => (first | ((dsimp only [L2.Cx.blk]) <;> exact rfl) | exact rfl)))); (case c3e => (intro _ _ _ _ _; refine' Sw.pe_te (pe_call G_cgreatest_tree (hr.mono (by omega)) (by rfl) m_cgreatest_tree k_cgreatest_tree b_cgreatest_tree .nil pass0 (pa_cons (pv 0) (pa_cons (pv 1) (pa_cons (pe_op op_cat (pv 2) (pe_lst (pa_cons (pv 8) pa_nil))) pa_nil)))) ?c3eq; (case c3eq => (first | ((dsimp only [L2.Cx.blk]) <;> exact rfl) | exact rfl))))
  try clear G_cclash_in b_cclash_in k_cclash_in m_cclash_in
  try clear d_cclash_in f_cclash_in
  try clear G_cunanswered_trees b_cunanswered_trees k_cunanswered_trees m_cunanswered_trees
  try clear d_cunanswered_trees f_cunanswered_trees
  try clear G_cfirst_with b_cfirst_with k_cfirst_with m_cfirst_with
  try clear d_cfirst_with f_cfirst_with
  try clear G_cgreatest_tree b_cgreatest_tree k_cgreatest_tree m_cgreatest_tree
  try clear d_cgreatest_tree f_cgreatest_tree
  try clear hu hr
  walk_at "rd"
  · rename_i t H1 A1 hn1
    cases hc : clashF f held with
    | none =>
      rw [hc] at hn1
      exact absurd rfl hn1
    | some pp =>
      rw [hc] at A1
      rw [gt_clash hc] at k
      exact k (.ref t) (clashC t (some pp)) _ A1 (.tup (.head _) (.cons (.str _) (.cons (.str _) (.cons (.str _) .nil))))
  · rename_i t1 _ A1 hn1 t _ A2 hn2 _ A3 p H4 A4
    cases hc : clashF f held with
    | some pp =>
      rw [hc] at hn1
      exact nomatch hn1
    | none =>
      cases hu : unansF f held with
      | some pp =>
        rw [hu] at hn2
        exact nomatch hn2
      | none =>
        have hsome := h12 held h7 hc hu
        cases hf : firstF (zs.map Prod.snd) held with
        | none => rw [hf] at hsome; cases hsome
        | some i =>
          obtain ⟨f1, f2⟩ := first_at hf
          have e0 : swN (some i) = .int (i : Int) := rfl
          rw [e0]
          rw [gt_bey hc hu hf] at k
          rw [hc, hu, zr_keys, h3, srt_of_rise h5] at A4
          have A5 : At H4 ((p, .lst (N.map V.str)) :: L) := A4
          clear A1 A2 A3 A4 hn1 hn2 hsome
          rw [List.length_map] at f1
          have hzi := List.getElem?_eq_getElem f1
          have hsi : (zs.map Prod.snd).getD i [] = zs[i].2 := by rw [List.getD_eq_getElem?_getD, List.getElem?_map, hzi]; rfl
          have mz : (zs[i].1, HO.lst (zs[i].2.map V.str)) ∈ L := h11 _ (List.mem_map.mpr ⟨_, List.getElem_mem f1, rfl⟩)
          have hcz : (clr zs)[i]? = some (V.ref zs[i].1) := by unfold clr; rw [List.getElem?_map, hzi]; rfl
          refine Sw.lc_list (us := N) (F := V.str) A5 (.head _) (by omega) (fun x => decide (¬ x ∈ (zs.map Prod.snd).getD i [])) V.str (fun u H5 D acc Yk Nk hu A6 hY hN => ?_) fun D H5 A6 => ?_
          · walk_at "rd"
            rename_i z hz
            have ez : z = zs[i] := Option.some.inj (hz.symm.trans hzi)
            rw [← ez] at mz hsi
            walk_at "rd"
            · rename_i hn
              exact hY _ _ (by rw [hsi]; exact decide_eq_true hn) rfl (by walk_at "sb")
            · rename_i hn
              exact hN _ (by rw [hsi]; exact decide_eq_false fun h => h hn) (by walk_at "sb")
          · have A7 : At H5 ((D, .lst ((othersF N (zs.map Prod.snd) i).map V.str)) :: (p, .lst (N.map V.str)) :: L) := A6
            have hol : (othersF N (zs.map Prod.snd) i).length ≤ N.length := List.length_filter_le _ _
            clear A5 A6
            walk_at "rd"
            refine Sw.lc_rps (us := othersF N (zs.map Prod.snd) i) (f := fun x => gtree f N (zs.map Prod.snd) n (held ++ [x])) A7 (by walk_at "mem") (by omega) (fun u H8 D2 acc C Yk Nk hu A8 hY => ?_) fun D2 xs W H8 A8 R8 => ?_
            · have hou := others_out hf hu
              have hfuel : (outN N (held ++ [u]) < n ∧ (held ++ [u]).length + n ≤ 9000) ∧ zs.length ≤ 1000 ∧ N.length ≤ 1000 := by
                have hlt := outN_snoc hou.1 hou.2
                rw [List.length_append]
                exact ⟨⟨by omega, by show held.length + 1 + n ≤ 9000; omega⟩, by omega, by omega⟩
              have hsub := held_snoc h7 hou.1
              have A10 := A8
              clear A8
              walk_at "rd"
              rename_i p1 _ A9 p2 H9 A11
              have A12 : At H9 ((p2, .lst ((held ++ [u]).map V.str)) :: (D2, .lst acc) :: (C ++ ((D, .lst ((othersF N (zs.map Prod.snd) i).map V.str)) :: (p, .lst (N.map V.str)) :: L))) := by
                rw [List.map_append]
                walk_at "sb"
              clear A9 A11 A10
              walk_at "rd"
              rename_i v W2 H11 A13 G2
              exact hY v W2 _ (by walk_at "sb") G2
            · walk_at "rd"
              rename_i pt H9 A9 pr H10 A10
              exact k (.ref pr) ((pr, .tup [.str "beyond", .int (i : Int), .ref pt]) :: (pt, .tup xs) :: W) _ (by walk_at "sb") (.tup (.head _) (.cons (.str _) (.cons (.int _) (.cons (.tup (.tail _ (.head _)) (RpAll.mono (fun _ m => .tail _ (.tail _ m)) R8)) .nil))))
  · rename_i t1 _ A1 hn1 t H4 A2 hn2
    cases hc : clashF f held with
    | some pp =>
      rw [hc] at hn1
      exact nomatch hn1
    | none =>
      cases hu : unansF f held with
      | none =>
        rw [hu] at hn2
        exact absurd rfl hn2
      | some pp =>
        obtain ⟨u1, u2, u3⟩ := unans_some hu
        have hpN : pp.2 ∈ N := h8 _ (h7 _ u1) _ u2
        rw [gt_ans hc hu] at k
        have A5 : At H4 ((t, .tup [.str pp.1, .str pp.2]) :: L) := by rw [hc, hu] at A2; exact A2
        clear A1 A2 hn1 hn2
        obtain ⟨az, hza⟩ := zr_has (Z := Z) (n := pp.2) (by rw [h3]; exact hpN)
        have hlk := zr_at (by rw [h3]; exact h4) hza
        have hcell := h2 _ (zl_mem (f := f) hza)
        have hfl := h9 _ hpN
        have e1 : opV t (some pp) = .ref t := rfl
        rw [e1]
        walk_at "rd"
        refine Sw.lc_rps (us := f pp.2) (f := fun x => gtree f N (zs.map Prod.snd) n (held ++ [x])) A5 (by walk_at "mem") (by omega) (fun u H8 D2 acc C Yk Nk hu A8 hY => ?_) fun D2 xs W H8 A8 R8 => ?_
        · have hou : u ∈ N ∧ ¬ u ∈ held := ⟨h8 _ hpN _ hu, u3 u hu⟩
          have hfuel : (outN N (held ++ [u]) < n ∧ (held ++ [u]).length + n ≤ 9000) ∧ zs.length ≤ 1000 ∧ N.length ≤ 1000 := by
            have hlt := outN_snoc hou.1 hou.2
            rw [List.length_append]
            exact ⟨⟨by omega, by show held.length + 1 + n ≤ 9000; omega⟩, by omega, by omega⟩
          have hsub := held_snoc h7 hou.1
          have A10 := A8
          clear A8
          walk_at "rd"
          rename_i p1 _ A9 p2 H9 A11
          have A12 : At H9 ((p2, .lst ((held ++ [u]).map V.str)) :: (D2, .lst acc) :: (C ++ ((t, .tup [.str pp.1, .str pp.2]) :: L))) := by
            rw [List.map_append]
            walk_at "sb"
          clear A9 A11 A10
          walk_at "rd"
          rename_i v W2 H11 A13 G2
          exact hY v W2 _ (by walk_at "sb") G2
        · walk_at "rd"
          rename_i pt H9 A9 pr H10 A10
          exact k (.ref pr) ((pr, .tup [.str "answer", .str pp.1, .str pp.2, .ref pt]) :: (pt, .tup xs) :: W) _ (by walk_at "sb") (.tup (.head _) (.cons (.str _) (.cons (.str _) (.cons (.str _) (.cons (.tup (.tail _ (.head _)) (RpAll.mono (fun _ m => .tail _ (.tail _ m)) R8)) .nil)))))
theorem ok_greatest_tree (T : Tx K mg) : Cal P w K mg base "greatest_tree" (34) ["strikers", "sets", "held"] (sp_greatest_tree 32) := okr_greatest_tree T 32
end
end Sw

namespace Sw
open PySem L2 PySem.W
def sp_greatest_with (K : PySem.W.Frag) : Sp := fun vs H Q E => match vs with
  | [.ref q] => ∃ (N : List Str) (es : List (Str × Str)) (ks us : List Nat) (L : List Cell), (At H L) ∧ (WebIn K L q N es) ∧ (N.Nodup) ∧ (SOk N es) ∧ (∀ y ∈ N, nameB y = true) ∧ (N.length ≤ 12 ∧ es.length ≤ 9000) ∧ (VwOk (srt N) es ks us) ∧ (∀ (t r : Addr) (zs : List (Addr × List Str)) (v : V) (W : List Cell) (H' : Hp), (At H' ((t, .tup [.ref r, v]) :: (r, .lst (clr zs)) :: (cl zs ++ (W ++ L)))) → (zs.map Prod.snd = srt ((greatM ks us N.length).map (setOf (srt N)))) → (Rp W v (gtree (skF es) (srt N) (zs.map Prod.snd) 32 [])) → Q (.ref t) H')
  | _ => False
end Sw
local macro_rules | `(tactic| walk_at "rdc") => `(tactic| ((with_reducible show Sw.sp_greatest_with _ _ _ _ _); k_dflt (refine' ⟨_, _, _, _, _, ?h0, ?h1, ?h2, ?h3, ?h4, ?h5, ?h6, ?_⟩); (case h0 => assumption); (case h1 => k_dflt (walk_at "web")); (case h2 => k_dflt (assumption)); (case h3 => k_dflt (assumption)); (case h4 => k_dflt (assumption)); (case h5 => k_dflt (walk_at "om")); (case h6 => k_dflt (assumption)); intro _ _ _ _ _ _ _ _ _))
local macro_rules | `(tactic| walk_at "call") => `(tactic| ((with_reducible show Sw.sp_greatest_with _ _ _ _ _); k_dflt (refine' ⟨_, _, _, _, _, ?h0, ?h1, ?h2, ?h3, ?h4, ?h5, ?h6, ?_⟩); (try (case h0 => assumption)); (try (case h1 => k_dflt (walk_at "web"))); (try (case h2 => k_dflt (assumption))); (try (case h3 => k_dflt (assumption))); (try (case h4 => k_dflt (assumption))); (try (case h5 => k_dflt (walk_at "om"))); (try (case h6 => k_dflt (assumption)))))
namespace Sw
open PySem L2 PySem.W
section
variable {P : Program} {w : World} {K : PySem.W.Frag} {mg : Str → Option Value} {base : Heap}
theorem sc_greatest_with : FnScope ["web", "sets"] ["web"] (defScope (top 21)) := ⟨rfl, rfl, rfl, by decide +kernel, rfl, by decide +kernel, by decide +kernel⟩
theorem ok_greatest_with (T : Tx K mg) : Cal P w K mg base "greatest_with" 35 ["web"] (sp_greatest_with K) := by
  obtain ⟨f_cgreatest_sets, d_cgreatest_sets, m_cgreatest_sets, k_cgreatest_sets, b_cgreatest_sets, G_cgreatest_sets⟩ := (ok_greatest_sets (P := P) (w := w) (base := base) T).ex
  obtain ⟨f_cgreatest_tree, d_cgreatest_tree, m_cgreatest_tree, k_cgreatest_tree, b_cgreatest_tree, G_cgreatest_tree⟩ := (ok_greatest_tree (P := P) (w := w) (base := base) T).ex
  obtain ⟨f_cstrikers_by, d_cstrikers_by, m_cstrikers_by, k_cstrikers_by, b_cstrikers_by, G_cstrikers_by⟩ := (ok_strikers_by (P := P) (w := w) (base := base) T).ex
  refine T.f_greatest_with.cal (N := ["web", "sets"]) sc_greatest_with (fun _ _ _ _ _ _ us hl => match us, hl with | [_], _ => rfl) (fun vs H Q E h => by
    unfold sp_greatest_with at h
    split at h
    all_goals first | rfl | exact h.elim) ?_
  intro f cdv A outer s H vs Q E hr h
  have hu := hu_of hr
  unfold sp_greatest_with at h
  split at h
  rotate_left
  · exact h.elim
  rename_i q
  obtain ⟨N, es, ks, us, L, h0, h1, h2, h3, h4, h5, h6, k⟩ := h
  refine ⟨_, pss_cons (ps_set (i := 1) sc_greatest_with.nd rfl (by first | exact Or.inl rfl | exact Or.inr rfl) (pe_callS G_cgreatest_sets (hr.mono (by decide)) (by rfl) m_cgreatest_sets k_cgreatest_sets b_cgreatest_sets (fun σ => passAt  Sw.takes_no σ) (pa_cons (pv 0) pa_nil)))
 (pss_one (ps_ret (pe_tup (pa_cons (pv 1) (pa_cons (pe_call G_cgreatest_tree (hr.mono (by decide)) (by rfl) m_cgreatest_tree k_cgreatest_tree b_cgreatest_tree .nil pass0 (pa_cons (pe_call G_cstrikers_by (hr.mono (by decide)) (by rfl) m_cstrikers_by k_cstrikers_by b_cstrikers_by .nil pass0 (pa_cons (pv 0) pa_nil)) (pa_cons (pv 1) (pa_cons (pe_lst (pa_nil)) pa_nil)))) pa_nil))))), ?_⟩
  try clear G_cgreatest_sets b_cgreatest_sets k_cgreatest_sets m_cgreatest_sets
  try clear d_cgreatest_sets f_cgreatest_sets
  try clear G_cgreatest_tree b_cgreatest_tree k_cgreatest_tree m_cgreatest_tree
  try clear d_cgreatest_tree f_cgreatest_tree
  try clear G_cstrikers_by b_cstrikers_by k_cstrikers_by m_cstrikers_by
  try clear d_cstrikers_by f_cstrikers_by
  try clear hu hr
  have hsl := srt_len N
  have hgl := great_le h6 (srt_nodup.mpr h2) h3.srt (by rw [hsl]; exact h5.1)
  rw [hsl] at hgl
  walk_at "rd"
  · omega
  rename_i _ r zs H1 A1 ez d Z H2 A2 eZ p H3 A3
  have hnd : (srt N).Nodup := srt_nodup.mpr h2
  have hri : Rise (srt N) := rise_srt N
  have hS := h3.srt
  have hf : ∀ z ∈ srt N, ∀ x ∈ skF es z, x ∈ srt N := fun z m x mx => srt_mem.mpr (skF_in h3 z (srt_mem.mp m) x mx)
  have hl : ∀ z ∈ srt N, (skF es z).length ≤ 9000 := fun z _ => by
    have := strikersOf_len es z
    rw [srt_len]
    omega
  have hzl : zs.length ≤ 233 := by
    have e9 := congrArg List.length ez
    rw [List.length_map, srt_len, List.length_map] at e9
    omega
  have hfuel : (outN (srt N) [] < 32 ∧ ([] : List Str).length + 32 ≤ 9000) ∧ zs.length ≤ 1000 ∧ (srt N).length ≤ 1000 := by
    have h8 := outN_le (srt N) []
    exact ⟨⟨by omega, by show 0 + 32 ≤ 9000; omega⟩, by omega, by omega⟩
  have hFO := great_first h6 hnd hS
  rw [hsl, ← ez] at hFO
  have hno : ∀ z ∈ ([] : List Str), z ∈ srt N := fun _ m => nomatch m
  have A4 : At H3 ((p, .lst (([] : List Str).map V.str)) :: (d, .dK (dk (zr Z))) :: (zl (skF es) Z ++ ((r, .lst (clr zs)) :: (cl zs ++ L)))) := A3
  clear A1 A2 A3
  walk_at "rd"
  rename_i v W H5 A5 G t H6 A6
  exact k t r zs v W _ (by walk_at "sb") ez G
end
end Sw

namespace Sw
open PySem L2 PySem.W
def sp_in_each (K : PySem.W.Frag) : Sp := fun vs H Q E => match vs with
  | [.ref p, .str z] => ∃ (N : List Str) (es : List (Str × Str)) (ks us : List Nat) (L : List Cell), (At H L) ∧ (WebIn K L p N es) ∧ (N.Nodup) ∧ (SOk N es) ∧ (∀ y ∈ N, nameB y = true) ∧ (N.length ≤ 12 ∧ es.length ≤ 9000) ∧ (VwOk (srt N) es ks us) ∧ ((¬ z ∈ N) → ∀ (H' : Hp), (At H' L) → E (.ref (He.ga K "NoName")) none H') ∧ (¬ (¬ z ∈ N) → (∀ (r : Addr) (X : List Cell) (xs : List V) (H' : Hp), (At H' ((r, .tup xs) :: (X ++ L))) → (EachR (srt ((greatM ks us N.length).map (setOf (srt N)))) (gtree (skF es) (srt N) (srt ((greatM ks us N.length).map (setOf (srt N)))) 32 []) z X xs) → Q (.ref r) H'))
  | _ => False
end Sw
local macro_rules | `(tactic| walk_at "rdc") => `(tactic| first | ((with_reducible show Sw.sp_in_each _ _ _ _ _); k_dflt (refine' ⟨_, _, _, _, _, ?h0, ?h1, ?h2, ?h3, ?h4, ?h5, ?h6, fun hz => Sw.no_of hz ?hz, fun _ => ?_⟩); (case h0 => assumption); (case h1 => k_dflt (walk_at "web")); (case h2 => k_dflt (assumption)); (case h3 => k_dflt (assumption)); (case h4 => k_dflt (assumption)); (case h5 => k_dflt (walk_at "om")); (case h6 => k_dflt (assumption)); (case hz => walk_at "nn"); intro _ _ _ _ _ _) | ((with_reducible show Sw.sp_in_each _ _ _ _ _); k_dflt (refine' ⟨_, _, _, _, _, ?h0, ?h1, ?h2, ?h3, ?h4, ?h5, ?h6, fun _ _ _ => ?_, fun hn => Sw.no_of ?hz hn⟩); (case h0 => assumption); (case h1 => k_dflt (walk_at "web")); (case h2 => k_dflt (assumption)); (case h3 => k_dflt (assumption)); (case h4 => k_dflt (assumption)); (case h5 => k_dflt (walk_at "om")); (case h6 => k_dflt (assumption)); (case hz => k_dflt assumption)) | ((with_reducible show Sw.sp_in_each _ _ _ _ _); k_dflt (refine' ⟨_, _, _, _, _, ?h0, ?h1, ?h2, ?h3, ?h4, ?h5, ?h6, fun _ _ _ => ?_, fun _ _ _ _ _ _ _ => ?_⟩); (case h0 => assumption); (case h1 => k_dflt (walk_at "web")); (case h2 => k_dflt (assumption)); (case h3 => k_dflt (assumption)); (case h4 => k_dflt (assumption)); (case h5 => k_dflt (walk_at "om")); (case h6 => k_dflt (assumption)); skip))
local macro_rules | `(tactic| walk_at "call") => `(tactic| ((with_reducible show Sw.sp_in_each _ _ _ _ _); k_dflt (refine' ⟨_, _, _, _, _, ?h0, ?h1, ?h2, ?h3, ?h4, ?h5, ?h6, fun _ _ _ => ?_, fun _ _ _ _ _ _ _ => ?_⟩); (try (case h0 => assumption)); (try (case h1 => k_dflt (walk_at "web"))); (try (case h2 => k_dflt (assumption))); (try (case h3 => k_dflt (assumption))); (try (case h4 => k_dflt (assumption))); (try (case h5 => k_dflt (walk_at "om"))); (try (case h6 => k_dflt (assumption)))))
namespace Sw
open PySem L2 PySem.W
section
variable {P : Program} {w : World} {K : PySem.W.Frag} {mg : Str → Option Value} {base : Heap}
local macro_rules | `(tactic| walk_at "brp") => `(tactic| first | (refine' Sw.rd_brNY ?h ?_; (case h => assumption)) | (refine' Sw.rd_brNN ?h ?_; (case h => assumption)) | (refine' Sw.rd_brY ?h ?_; (case h => assumption)) | (refine' Sw.rd_brNo ?h ?_; (case h => assumption)))
theorem sc_in_each : FnScope ["web", "name", "one", "sets", "tree"] ["web", "name"] (defScope (top 25)) := ⟨rfl, rfl, rfl, by decide +kernel, rfl, by decide +kernel, by decide +kernel⟩
theorem ok_in_each (T : Tx K mg) : CalX P w K mg base "in_each" 36 ["web", "name"] (sp_in_each K) := by
  obtain ⟨f_clook_name, d_clook_name, m_clook_name, k_clook_name, b_clook_name, G_clook_name⟩ := (ok_look_name (P := P) (w := w) (base := base) T).ex
  obtain ⟨f_cgreatest_with, d_cgreatest_with, m_cgreatest_with, k_cgreatest_with, b_cgreatest_with, G_cgreatest_with⟩ := (ok_greatest_with (P := P) (w := w) (base := base) T).ex
  refine T.f_in_each.calX (N := ["web", "name", "one", "sets", "tree"]) sc_in_each (fun _ _ _ _ _ _ us hl => match us, hl with | [_, _], _ => rfl) (fun vs H Q E h => by
    unfold sp_in_each at h
    split at h
    all_goals first | rfl | exact h.elim) ?_
  intro f cdv A outer s H vs Q E hr h
  have hu := hu_of hr
  unfold sp_in_each at h
  split at h
  rotate_left
  · exact h.elim
  rename_i p z
  obtain ⟨N, es, ks, us, L, h0, h1, h2, h3, h4, h5, h6, kE, k⟩ := h
  refine ⟨_, pss_cons (ps_expr (pe_callS G_clook_name (hr.mono (by decide)) (by rfl) m_clook_name k_clook_name b_clook_name (fun σ => passAt (W := fun cls d _ H => E cls d H) (takes_of rfl rfl rfl rfl) σ) (pa_cons (pv 0) (pa_cons (pv 1) pa_nil))))
 (pss_cons (ps_asg (pe_call G_cgreatest_with (hr.mono (by decide)) (by rfl) m_cgreatest_with k_cgreatest_with b_cgreatest_with .nil pass0 (pa_cons (pv 0) pa_nil)) (pg_tup rfl (pgs_cons (pg_name (i := 3) sc_in_each.nd rfl (by first | exact Or.inl rfl | exact Or.inr rfl)) (pgs_cons (pg_name (i := 4) sc_in_each.nd rfl (by first | exact Or.inl rfl | exact Or.inr rfl)) pgs_nil))))
 (pss_cons (ps_for (passes_of rfl) rfl (pi_list (pv 3)) (pg_name (i := 2) sc_in_each.nd rfl (by first | exact Or.inl rfl | exact Or.inr rfl)) (pss_one (ps_if (pt_cmpR op_notIn_seq (pv 1) (pv 2) (by rfl)) (pss_one (ps_ret (pe_tup (pa_cons (pe_str) (pa_cons (pe_callTy Sw.call_list (by rfl) T.z_list (by decide +kernel) (pa_cons (pv 2) pa_nil)) pa_nil))))) (pss_nil))))
 (pss_one (ps_ret (pe_tup (pa_cons (pe_str) (pa_cons (pv 3) (pa_cons (pv 4) pa_nil)))))))), ?_⟩
  try clear G_clook_name b_clook_name k_clook_name m_clook_name
  try clear d_clook_name f_clook_name
  try clear G_cgreatest_with b_cgreatest_with k_cgreatest_with m_cgreatest_with
  try clear d_cgreatest_with f_cgreatest_with
  try clear hu hr
  have hsl := srt_len N
  walk_at "rd"
  · rename_i h _ A1
    exact kE h _ A1
  · rename_i h H1 _ t r zs v W H2 A2 ez hR
    have hz : z ∈ N := Classical.byContradiction h
    obtain ⟨S, eS⟩ : ∃ S, S = srt ((greatM ks us N.length).map (setOf (srt N))) := ⟨_, rfl⟩
    rw [← eS] at ez k
    have hzb := h4 z hz
    have mr : (r, HO.lst (zs.map fun o => V.ref o.1)) ∈ (t, HO.tup [.ref r, v]) :: (r, HO.lst (clr zs)) :: (cl zs ++ (W ++ L)) := .tail _ (.head _)
    have mcl : ∀ o ∈ zs, (o.1, HO.lst (o.2.map V.str)) ∈ (t, HO.tup [.ref r, v]) :: (r, HO.lst (clr zs)) :: (cl zs ++ (W ++ L)) := fun o m => .tail _ (.tail _ (List.mem_append_left _ (List.mem_map.mpr ⟨o, m, rfl⟩)))
    refine Sw.loop_map (f := fun o : Addr × List Str => V.ref o.1) (zs := zs) (fun i σ H' => ∃ v2, σ = [some (.ref p), some (.str z), v2, some (.ref r), some v] ∧ At H' ((t, .tup [.ref r, v]) :: (r, .lst (clr zs)) :: (cl zs ++ (W ++ L))) ∧ ∀ o ∈ zs.take i, z ∈ o.2) ⟨_, rfl, A2, fun _ m => nomatch m⟩ (fun i σ H' ⟨_, _, A, _⟩ => SqL.of (A.rd mr)) ?_ ?_
    · rintro i o σ H3 ho ⟨v2, rfl, A4, hall⟩
      have hom : o ∈ zs := List.mem_of_getElem? ho
      have mo := mcl o hom
      have hoS : o.2 ∈ S := by
        rw [← ez]
        exact List.mem_map.mpr ⟨o, hom, rfl⟩
      clear A2
      walk_at "rd"
      · rename_i hno a9 H5 A5 p9 H6 A6
        exact k h p9 ((a9, .lst (o.2.map V.str)) :: ((t, .tup [.ref r, v]) :: (r, .lst (clr zs)) :: (cl zs ++ W))) _ _ (by
          simp only [List.append_assoc, List.cons_append]
          walk_at "sb") (.inl ⟨a9, o.2, _, rfl, rfl, by
          rw [← ez]
          refine find_at (j := i) (fun y my => ?_) (by rw [List.getElem?_map, ho]; rfl) (by rw [decide_eq_false hno]; rfl)
          rw [← List.map_take] at my
          obtain ⟨q, mq, rfl⟩ := List.mem_map.mp my
          rw [decide_eq_true (hall q mq)]
          rfl⟩)
      · rename_i hin
        exact ⟨_, rfl, A4, take_all hall ho (by simpa using hin)⟩
    · rintro σ H3 ⟨v2, rfl, A4, hall⟩
      rw [List.take_length] at hall
      clear A2
      walk_at "rd"
      rename_i p9 H6 A6
      refine k h p9 ((r, .lst (clr zs)) :: (cl zs ++ (W ++ [(t, .tup [.ref r, v])]))) _ _ (by
          simp only [List.append_assoc, List.cons_append, List.nil_append]
          walk_at "sb") (.inr ⟨r, zs, v, _, rfl, rfl, ez, Rp.mono (fun c m => List.mem_append_left _ m) (by rw [← ez]; exact hR), fun o mo => ?_⟩)
      rw [← ez] at mo
      obtain ⟨q, mq, rfl⟩ := List.mem_map.mp mo
      exact hall q mq
end
end Sw

namespace Sw
open PySem L2 PySem.W
def sp__law_asked (K : PySem.W.Frag) : Sp := fun vs H Q E => match vs with
  | [.ref l, .ref w, .ref x, .int n] => ∃ (a b c : Int) (ns ns' : List Str) (es es' : List (Str × Str)) (ks us : List Nat) (q e x0 p pn pk pu ra rb : Addr) (vs : List V) (F0 F : List Cell), (At H ((l, .lst [.int a, .int b, .int c]) :: F)) ∧ (WorldG K F0 w ns es ks us q e x0 p pn pk pu ra rb vs) ∧ (∀ c ∈ F0, c ∈ F) ∧ (WebIn K F x ns' es') ∧ (ns'.Perm ns) ∧ (es'.Perm es) ∧ ((n = 2 ∨ n = 3) ∧ (0 ≤ c ∧ c < 2 ^ 49)) ∧ (∀ (l2 : Addr) (o2 : HO) (H' : Hp), (At H' ((l2, o2) :: F)) → Q (.bl true) H')
  | _ => False
end Sw
local macro_rules | `(tactic| walk_at "rdc") => `(tactic| ((with_reducible show Sw.sp__law_asked _ _ _ _ _); k_dflt (refine' ⟨_, _, _, _, _, _, _, _, _, _, _, _, _, _, _, _, _, _, _, _, _, ?h0, ?h1, ?h2, ?h3, ?h4, ?h5, ?h6, ?_⟩); (case h0 => k_dflt (walk_at "foc")); (case h1 => k_dflt (assumption)); (case h2 => k_dflt (walk_at "sbl")); (case h3 => k_dflt (walk_at "web")); (case h4 => k_dflt (assumption)); (case h5 => k_dflt (assumption)); (case h6 => k_dflt (walk_at "om")); intro _ _ _ _))
local macro_rules | `(tactic| walk_at "call") => `(tactic| ((with_reducible show Sw.sp__law_asked _ _ _ _ _); k_dflt (refine' ⟨_, _, _, _, _, _, _, _, _, _, _, _, _, _, _, _, _, _, _, _, _, ?h0, ?h1, ?h2, ?h3, ?h4, ?h5, ?h6, ?_⟩); (try (case h0 => k_dflt (walk_at "foc"))); (try (case h1 => k_dflt (assumption))); (try (case h2 => k_dflt (walk_at "sbl"))); (try (case h3 => k_dflt (walk_at "web"))); (try (case h4 => k_dflt (assumption))); (try (case h5 => k_dflt (assumption))); (try (case h6 => k_dflt (walk_at "om")))))
namespace Sw
open PySem L2 PySem.W
section
variable {P : Program} {w : World} {K : PySem.W.Frag} {mg : Str → Option Value} {base : Heap}
local macro_rules | `(tactic| walk_at "brp") => `(tactic| first | (refine' Sw.rd_brNY ?h ?_; (case h => assumption)) | (refine' Sw.rd_brNN ?h ?_; (case h => assumption)) | (refine' Sw.rd_brY ?h ?_; (case h => assumption)) | (refine' Sw.rd_brNo ?h ?_; (case h => assumption)))
theorem sc__law_asked : FnScope ["_law_left_here", "_law_world_here", "_law_web", "_law_most", "_law_way", "_law_name", "_law_place", "_law_found", "_law_right", "_law_some", "_law_paper", "_law_word", "_law_thing", "_law_mask"] ["_law_left_here", "_law_world_here", "_law_web", "_law_most"] (defScope (top 59)) := ⟨rfl, rfl, rfl, by decide +kernel, rfl, by decide +kernel, by decide +kernel⟩
theorem ok__law_asked (T : Tx K mg) : Cal P w K mg base "_law_asked" 38 ["_law_left_here", "_law_world_here", "_law_web", "_law_most"] (sp__law_asked K) := by
  obtain ⟨f_c_law_pick, d_c_law_pick, m_c_law_pick, k_c_law_pick, b_c_law_pick, G_c_law_pick⟩ := (ok__law_pick (P := P) (w := w) (base := base) T).ex
  obtain ⟨f_cgranted, d_cgranted, m_cgranted, k_cgranted, b_cgranted, G_cgranted⟩ := (ok_granted (P := P) (w := w) (base := base) T).ex
  obtain ⟨f_c_law_set_of, d_c_law_set_of, m_c_law_set_of, k_c_law_set_of, b_c_law_set_of, G_c_law_set_of⟩ := (ok__law_set_of (P := P) (w := w) (base := base) T).ex
  obtain ⟨f_cin_some, d_cin_some, m_cin_some, k_cin_some, b_cin_some, G_cin_some⟩ := (ok_in_some (P := P) (w := w) (base := base) T).ex
  obtain ⟨f_cin_each, d_cin_each, m_cin_each, k_cin_each, b_cin_each, G_cin_each⟩ := (ok_in_each (P := P) (w := w) (base := base) T).ex
  have cl_Sieve := T.cl_Sieve
  have na_Sieve_order := T.na_Sieve_order
  have na_Sieve_hitters := T.na_Sieve_hitters
  have na_Sieve_hits := T.na_Sieve_hits
  have cl_Web := T.cl_Web
  have na_Web_strikers_by := T.na_Web_strikers_by
  have na_Web_struck_by := T.na_Web_struck_by
  have na_Web_own_pairs := T.na_Web_own_pairs
  refine T.f__law_asked.cal (N := ["_law_left_here", "_law_world_here", "_law_web", "_law_most", "_law_way", "_law_name", "_law_place", "_law_found", "_law_right", "_law_some", "_law_paper", "_law_word", "_law_thing", "_law_mask"]) sc__law_asked (fun _ _ _ _ _ _ us hl => match us, hl with | [_, _, _, _], _ => rfl) (fun vs H Q E h => by
    unfold sp__law_asked at h
    split at h
    all_goals first | rfl | exact h.elim) ?_
  intro f cdv A outer s H vs Q E hr h
  have hu := hu_of hr
  unfold sp__law_asked at h
  split at h
  rotate_left
  · exact h.elim
  rename_i l w x n
  obtain ⟨a, b, c, ns, ns', es, es', ks, us, q, e, x0, p, pn, pk, pu, ra, rb, vs, F0, F, h0, h1, h2, h3, h4, h5, h6, k⟩ := h
  refine' ⟨_, pss_cons (ps_set (i := 4) sc__law_asked.nd rfl (by first | exact Or.inl rfl | exact Or.inr rfl) (pe_call G_c_law_pick (hr.mono (by decide)) (by rfl) m_c_law_pick k_c_law_pick b_c_law_pick .nil pass0 (pa_cons (pv 0) (pa_cons (pv 3) pa_nil))))
 (pss_cons (ps_if (PW.pt (pw_or (pt_cmpR op_eq (pv 4) (pe_int) (nomark _)) (pw_or1 (pt_cmpR (op_eqD hr.units) (pe_dget hu (pv 1) (pe_str) (fun _ _ => rfl)) (pe_lst (pa_nil)) (nomark _))))) (pss_cons (ps_asg (pe_call G_cgranted (hr.mono (by decide)) (by rfl) m_cgranted k_cgranted b_cgranted .nil pass0 (pa_cons (pv 2) pa_nil)) (pg_tup rfl (pgs_cons (pg_name (i := 9) sc__law_asked.nd rfl (by first | exact Or.inl rfl | exact Or.inr rfl)) (pgs_cons (pg_name (i := 10) sc__law_asked.nd rfl (by first | exact Or.inl rfl | exact Or.inr rfl)) pgs_nil))))
 (pss_cons (ps_set (i := 8) sc__law_asked.nd rfl (by first | exact Or.inl rfl | exact Or.inr rfl) (pe_cmpR (op_eqD hr.units) (pv 9) (pe_call G_c_law_set_of (hr.mono (by decide)) (by rfl) m_c_law_set_of k_c_law_set_of b_c_law_set_of .nil pass0 (pa_cons (pe_dget hu (pv 1) (pe_str) (fun _ _ => rfl)) (pa_cons (pe_dget hu (pv 1) (pe_str) (fun _ _ => rfl)) pa_nil))) (nomark _)))
 (pss_cons (ps_expr (pe_bm PySem.F.plainAttrs_list PySem.F.slot_list_append PySem.F.type_list_append mt_append (pv 9) (pa_cons (pe_str) pa_nil)))
 (pss_cons (ps_expr (pe_bm PySem.F.plainAttrs_list PySem.F.slot_list_append PySem.F.type_list_append mt_append (pe_ix ix_tup (pv 10) (pe_int) (fun _ _ => rfl)) (pa_cons (pe_str) pa_nil)))
 (pss_one (ps_ret (pv 8))))))) (pss_nil))
 (pss_cons (ps_set (i := 5) sc__law_asked.nd rfl (by first | exact Or.inl rfl | exact Or.inr rfl) (pe_ix ix_list (pe_dget hu (pv 1) (pe_str) (fun _ _ => rfl)) (pe_call G_c_law_pick (hr.mono (by decide)) (by rfl) m_c_law_pick k_c_law_pick b_c_law_pick .nil pass0 (pa_cons (pv 0) (pa_cons (pe_callB Sw.call_lenQ (by rfl) T.z_len (by decide +kernel) (pa_cons (pe_dget hu (pv 1) (pe_str) (fun _ _ => rfl)) pa_nil)) pa_nil))) (fun _ _ => rfl)))
 (pss_cons (ps_set (i := 6) sc__law_asked.nd rfl (by first | exact Or.inl rfl | exact Or.inr rfl) (pe_bm PySem.F.plainAttrs_list PySem.F.slot_list_index PySem.F.type_list_index mt_index (pe_ix ix_list (pe_dget hu (pv 1) (pe_str) (fun _ _ => rfl)) (pe_int) (fun _ _ => rfl)) (pa_cons (pv 5) pa_nil)))
 (pss_cons (ps_if (pt_cmpR op_eq (pv 4) (pe_int) (nomark _)) (pss_cons (ps_asg (pe_callS G_cin_some (hr.mono (by decide)) (by rfl) m_cin_some k_cin_some b_cin_some (fun σ => passAt  Sw.takes_no σ) (pa_cons (pv 2) (pa_cons (pv 5) pa_nil))) (pg_tup rfl (pgs_cons (pg_name (i := 11) sc__law_asked.nd rfl (by first | exact Or.inl rfl | exact Or.inr rfl)) (pgs_cons (pg_name (i := 12) sc__law_asked.nd rfl (by first | exact Or.inl rfl | exact Or.inr rfl)) pgs_nil))))
 (pss_cons (ps_set (i := 8) sc__law_asked.nd rfl (by first | exact Or.inl rfl | exact Or.inr rfl) (pe_cmpR op_eq (pe_cmpR op_eq (pv 11) (pe_str) (nomark _)) (pe_callB (cr_any rfl) (by rfl) T.z_any (by decide +kernel) (pa_cons (pe_lc (own := [("_law_mask", 13)]) (g := gName 13) (tt := tYes) rfl sc__law_asked.nd (pi_list (pe_dget hu (pv 1) (pe_str) (fun _ _ => rfl))) (blkOk_by (N := ["_law_left_here", "_law_world_here", "_law_web", "_law_most", "_law_way", "_law_name", "_law_place", "_law_found", "_law_right", "_law_some", "_law_paper", "_law_word", "_law_thing", "_law_mask"]) (sc := defScope (top 59)) (by decide +kernel)) ?c1g ?c1t ?c1e) pa_nil)) (nomark _)))
 (pss_cons (ps_if (pt_cmpR op_eq (pv 11) (pe_str) (nomark _)) (pss_cons (ps_set (i := 8) sc__law_asked.nd rfl (by first | exact Or.inl rfl | exact Or.inr rfl) (pe_and (pv 8) (pe_one (pe_cmpR op_in_seq (pv 5) (pv 12) (by rfl)))))
 (pss_one (ps_expr (pe_bm PySem.F.plainAttrs_list PySem.F.slot_list_append PySem.F.type_list_append mt_append (pv 12) (pa_cons (pe_str) pa_nil))))) (pss_nil))
 (pss_one (ps_ret (pv 8)))))) (pss_nil))
 (pss_cons (ps_set (i := 7) sc__law_asked.nd rfl (by first | exact Or.inl rfl | exact Or.inr rfl) (pe_callS G_cin_each (hr.mono (by decide)) (by rfl) m_cin_each k_cin_each b_cin_each (fun σ => passAt  Sw.takes_no σ) (pa_cons (pv 2) (pa_cons (pv 5) pa_nil))))
 (pss_cons (ps_set (i := 8) sc__law_asked.nd rfl (by first | exact Or.inl rfl | exact Or.inr rfl) (pe_cmpR op_eq (pe_cmpR op_eq (pe_ix ix_tup (pv 7) (pe_int) (fun _ _ => rfl)) (pe_str) (nomark _)) (pe_callB (cr_all rfl) (by rfl) T.z_all (by decide +kernel) (pa_cons (pe_lc (own := [("_law_mask", 13)]) (g := gName 13) (tt := tYes) rfl sc__law_asked.nd (pi_list (pe_dget hu (pv 1) (pe_str) (fun _ _ => rfl))) (blkOk_by (N := ["_law_left_here", "_law_world_here", "_law_web", "_law_most", "_law_way", "_law_name", "_law_place", "_law_found", "_law_right", "_law_some", "_law_paper", "_law_word", "_law_thing", "_law_mask"]) (sc := defScope (top 59)) (by decide +kernel)) ?c2g ?c2t ?c2e) pa_nil)) (nomark _)))
 (pss_cons (ps_expr (pe_bm PySem.F.plainAttrs_list PySem.F.slot_list_append PySem.F.type_list_append mt_append (pe_ix ix_tup (pv 7) (pe_int) (fun _ _ => rfl)) (pa_cons (pe_str) pa_nil)))
 (pss_one (ps_ret (pv 8)))))))))), ?_⟩
  (case c1g => exact fun _ _ _ _ _ => pg_name (i := 13) sc__law_asked.nd rfl (Or.inl rfl)); (case c1t => (intro _ _ _ _ _; refine' Sw.pts_te (pts_nil) ?c1tq; (case c1tq => (first | ((dsimp only [L2.Cx.blk]) <;> exact rfl) | exact rfl)))); (case c1e => (intro _ _ _ _ _; refine' Sw.pe_te (pe_cmpR op_eq (pe_op op_and (pe_op op_shr (pv 13) (pv 6)) (pe_int)) (pe_int) (nomark _)) ?c1eq; (case c1eq => (first | ((dsimp only [L2.Cx.blk]) <;> exact rfl) | exact rfl))))
  (case c2g => exact fun _ _ _ _ _ => pg_name (i := 13) sc__law_asked.nd rfl (Or.inl rfl)); (case c2t => (intro _ _ _ _ _; refine' Sw.pts_te (pts_nil) ?c2tq; (case c2tq => (first | ((dsimp only [L2.Cx.blk]) <;> exact rfl) | exact rfl)))); (case c2e => (intro _ _ _ _ _; refine' Sw.pe_te (pe_cmpR op_eq (pe_op op_and (pe_op op_shr (pv 13) (pv 6)) (pe_int)) (pe_int) (nomark _)) ?c2eq; (case c2eq => (first | ((dsimp only [L2.Cx.blk]) <;> exact rfl) | exact rfl))))
  try clear G_c_law_pick b_c_law_pick k_c_law_pick m_c_law_pick
  try clear d_c_law_pick f_c_law_pick
  try clear G_cgranted b_cgranted k_cgranted m_cgranted
  try clear d_cgranted f_cgranted
  try clear G_c_law_set_of b_c_law_set_of k_c_law_set_of m_c_law_set_of
  try clear d_c_law_set_of f_c_law_set_of
  try clear G_cin_some b_cin_some k_cin_some m_cin_some
  try clear d_cin_some f_cin_some
  try clear G_cin_each b_cin_each k_cin_each m_cin_each
  try clear d_cin_each f_cin_each
  try clear hu hr
  have h1 := h1.mono h2
  clear h2
  have h2 := h3
  clear h3
  have h3 := h4
  clear h4
  have h4 := h5
  clear h5
  have h5 := h6
  clear h6
  obtain ⟨cw, cq, ce, his, hweb, hvw, hV, ca, cb, ⟨nd, S, nb, hl, he⟩⟩ := h1
  obtain ⟨w1, w2, w3, w4⟩ := hvw
  have esn : srt ns' = srt ns := srt_congr h3
  have eln : ns'.length = ns.length := h3.length_eq
  have ele : es'.length = es.length := h4.length_eq
  have hsl := srt_len ns
  have hnd : (srt ns).Nodup := srt_nodup.mpr nd
  have nd' : ns'.Nodup := h3.nodup_iff.mpr nd
  have S' : SOk ns' es' := S.perm2 h4 h3
  have nb' : ∀ y ∈ ns', nameB y = true := fun y m => nb y (h3.mem_iff.mp m)
  have hV' : VwOk (srt ns') es' ks us := by
    rw [esn]
    exact hV.perm h4
  have hl30 : ns'.length ≤ 30 ∧ es'.length ≤ 9000 := ⟨by omega, by omega⟩
  have hl12 : ns'.length ≤ 12 ∧ es'.length ≤ 9000 := ⟨by omega, by omega⟩
  have hml := standM_len (ks := ks) (n := (srt ns).length) hV.ul (by omega)
  walk_at "rdn"
  rename_i r a1 H1 hr0 hrn A1
  have web9 := h2.mono fun y (m : y ∈ F) => List.mem_cons_of_mem (l, HO.lst [V.int a1, V.int b, V.int (c + 1)]) m
  have cw9 := List.mem_cons_of_mem (l, HO.lst [V.int a1, V.int b, V.int (c + 1)]) cw
  have cq9 := List.mem_cons_of_mem (l, HO.lst [V.int a1, V.int b, V.int (c + 1)]) cq
  have hvw9 : Vw ((l, HO.lst [V.int a1, V.int b, V.int (c + 1)]) :: F) p pn pk pu (srt ns) ks us := ⟨.tail _ w1, .tail _ w2, .tail _ w3, .tail _ w4⟩
  have egr := grant_set hV' (srt_nodup.mpr nd') (rise_srt ns') S'.srt (by rw [srt_len]; omega)
  have egl : (grantP (skF es') (srt ns')).1.length ≤ 30 := by
    have h9 := (grant_main hV' (srt_nodup.mpr nd') (rise_srt ns') S'.srt (by rw [srt_len]; omega)).1.length_le
    rw [srt_len] at h9
    omega
  have egs : (grantP (skF es') (srt ns')).1 = setOf (srt ns) (grantM ks us (srt ns).length) := by
    rw [← esn]
    exact egr.symm
  have hdl4 := bareL_len30 (f := skF es') (cur := some0 (skF es') (srt ns')) (Nat.le_trans (List.length_filter_le _ _) (by rw [srt_len]; omega))
  have hdl3 : (drops0 (skF es') (srt ns')).length ≤ (srt ns').length := List.length_filterMap_le _ _
  rw [srt_len] at hdl3
  have hdl5 : (grantP (skF es') (srt ns')).2.length ≤ 930 := hdl4
  refine Sw.rd_ifS ?_
  walk_at "rdn"
  · rename_i r1 pl t2 pt pd tv dv CT CD B _ _ O1 O2 _ _ _ _ A3
    have hdl := O2.len
    rw [List.length_map, List.length_append] at hdl
    walk_at "rdn"
    rw [decide_eq_true egs]
    exact k _ _ _ (by walk_at "sb")
  · rename_i r1 pl t2 pt pd tv dv CT CD B _ _ O1 O2 _ _ _ _ A3
    have hdl := O2.len
    rw [List.length_map, List.length_append] at hdl
    walk_at "rdn"
    rw [decide_eq_true egs]
    exact k _ _ _ (by walk_at "sb")
  · rename_i hr1 p9 H3 A3 hne
    have hnl1 : 0 < ns.length := List.length_pos_iff.mpr hne
    have A4 : At H3 ((l, .lst [.int a1, .int b, .int (c + 1)]) :: (p9, .lst []) :: F) := by walk_at "sb"
    clear A1 A3 web9 cw9 cq9 hvw9
    walk_at "rdn"
    rename_i r2 a2 H4 hr2 hr2n A5 z hz
    have hzn : z ∈ ns := List.mem_of_getElem? hz
    have hzs : z ∈ srt ns := srt_mem.mpr hzn
    have hz' : z ∈ ns' := h3.mem_iff.mpr hzn
    have web8 := h2.mono fun y (m : y ∈ F) => List.mem_cons_of_mem (l, HO.lst [V.int a2, V.int b, V.int (c + 1 + 1)]) (List.mem_cons_of_mem (p9, HO.lst []) m)
    clear A4
    walk_at "rdn"
    rename_i j hj hjl
    have hnd' : (srt ns').Nodup := srt_nodup.mpr nd'
    have hl30' : (srt ns').length ≤ 30 := by
      rw [srt_len]
      omega
    have hj' : (srt ns')[j]? = some z := by
      rw [esn]
      exact hj
    have hgl := greatM_len (ks := ks) hV.ul (show (srt ns).length ≤ 10 by omega)
    refine Sw.rd_ifS ?_
    walk_at "rdn"
    · rename_i hr1 _ r5 W v H5 A6 G
      clear A5 web8
      refine Sw.lc_list (us := standM ks us (srt ns).length) (F := nv) A6 (by walk_at "mem") (by omega) (fun _ => true) (fun u => V.bl (decide (((u >>> j &&& 1 : Nat) : Int) = 1))) (fun u H6 D acc Yk Nk hu A7 hY hN => ?_) fun D H6 A7 => ?_
      · walk_at "rd"
        exact hY _ _ rfl rfl (by walk_at "sb")
      rw [all_true_filter] at A7
      have hany := some_bits hV' hnd' (rise_srt ns') S'.srt hl30' hj'
      rw [esn] at hany
      clear A6
      cases hg : grow (skF es') 32 [z] with
      | told lo =>
        have hth := hany.mpr ⟨lo, hg⟩
        rw [hg] at A7 G
        obtain ⟨pl, rfl, rfl⟩ := G
        have hz2 : ∀ y ∈ [z], y ∈ srt ns' := fun y m => by
          rw [List.mem_singleton.mp m]
          exact srt_mem.mpr hz'
        have ny : ([z] : List Str).Nodup := List.nodup_cons.mpr ⟨(fun m => nomatch m), .nil⟩
        have hfu : outN (srt ns') [z] < 32 := by
          have := outN_le (srt ns') [z]
          omega
        have hT := grow_ok hV' hnd' S'.srt ny hz2 hfu hg
        have hll := nd_len hT.nd hT.sub
        have hzl9 : z ∈ lo := by
          obtain ⟨more, e1, _⟩ := grow_told (fun z m x mx => skF_in S'.srt z m x mx) hfu hz2 hg
          rw [e1]
          exact srt_mem.mpr (.head _)
        have hw : (Grown.told lo).word = "told" := rfl
        have hlol : lo.length ≤ 1000 := by
          rw [srt_len] at hll
          omega
        have A8 : At H6 ((D, .lst ((standM ks us (srt ns).length).map fun u => V.bl (decide (((u >>> j &&& 1 : Nat) : Int) = 1)))) :: (r5, HO.tup [V.str (Grown.told lo).word, .ref pl]) :: (pl, .lst (lo.map V.str)) :: (l, HO.lst [V.int a2, V.int b, V.int (c + 1 + 1)]) :: (p9, HO.lst []) :: F) := A7
        clear A7
        walk_at "rdn"
        refine Sw.rd_ifS ?_
        walk_at "rdn"
        · rename_i hne H8 A9
          rw [decide_eq_true hzl9]
          exact k _ _ _ (by walk_at "sb")
        · rename_i hne H8 A9
          exact absurd ((decide_eq_true hw).trans hth.symm) hne
      | no d =>
        have hth : ¬ _ := fun h => (nomatch hg.symm.trans (hany.mp h).choose_spec : False)
        rw [hg] at A7 G
        have hw : ¬ (Grown.no d).word = "told" := no_nt
        walk_at "rdn"
        refine Sw.rd_ifS ?_
        walk_at "rdn"
        rw [decide_eq_true ((decide_eq_false hw).trans (Bool.eq_false_iff.mpr hth).symm)]
        exact k _ _ _ (by walk_at "sb")
    · rename_i hr1 _ r5 X xs H5 A6 E
      rw [esn, h3.length_eq, ← hsl] at E
      have hall := each_bits (ms := greatM ks us (srt ns).length) hnd hj
      clear A5 web8
      rcases E with ⟨a9, o, B, rfl, rfl, hfo⟩ | ⟨rr, zz, v, W, rfl, rfl, ez, hR, hea⟩
      · walk_at "rdn"
        refine Sw.lc_list (us := greatM ks us (srt ns).length) (F := nv) A6 (by walk_at "mem") (by omega) (fun _ => true) (fun u => V.bl (decide (((u >>> j &&& 1 : Nat) : Int) = 1))) (fun u H6 D acc Yk Nk hu A7 hY hN => ?_) fun D H6 A7 => ?_
        · walk_at "rd"
          exact hY _ _ rfl rfl (by walk_at "sb")
        rw [all_true_filter] at A7
        clear A6
        have A8 : At H6 ((D, .lst ((greatM ks us (srt ns).length).map fun u => V.bl (decide (((u >>> j &&& 1 : Nat) : Int) = 1)))) :: (r5, HO.tup [V.str "not", .ref a9]) :: (a9, .lst (o.map V.str)) :: (B ++ ((l, HO.lst [V.int a2, V.int b, V.int (c + 1 + 1)]) :: (p9, HO.lst []) :: F))) := A7
        clear A7
        have hol : o.length ≤ 1000 := by
          obtain ⟨u, hu, rfl⟩ := List.mem_map.mp (srt_mem.mp (List.mem_of_find?_eq_some hfo))
          have := (SetI.of hnd (rise_srt ns) u)
          exact Nat.le_trans (nd_len this.nd this.sub) (by omega)
        walk_at "rdn"
        have hf : ((greatM ks us (srt ns).length).all fun u => decide (((u >>> j &&& 1 : Nat) : Int) = 1)) = false := by
          refine Bool.eq_false_iff.mpr fun h => ?_
          have h9 := List.find?_some hfo
          rw [decide_eq_true (hall.mp h o (List.mem_of_find?_eq_some hfo))] at h9
          cases h9
        rw [decide_eq_true ((decide_eq_false (by decide)).trans hf.symm)]
        exact k _ _ _ (by walk_at "sb")
      · walk_at "rdn"
        refine Sw.lc_list (us := greatM ks us (srt ns).length) (F := nv) A6 (by walk_at "mem") (by omega) (fun _ => true) (fun u => V.bl (decide (((u >>> j &&& 1 : Nat) : Int) = 1))) (fun u H6 D acc Yk Nk hu A7 hY hN => ?_) fun D H6 A7 => ?_
        · walk_at "rd"
          exact hY _ _ rfl rfl (by walk_at "sb")
        rw [all_true_filter] at A7
        clear A6
        have A8 : At H6 ((D, .lst ((greatM ks us (srt ns).length).map fun u => V.bl (decide (((u >>> j &&& 1 : Nat) : Int) = 1)))) :: (r5, HO.tup [V.str "each", .ref rr, v]) :: (rr, .lst (clr zz)) :: ((cl zz ++ W) ++ ((l, HO.lst [V.int a2, V.int b, V.int (c + 1 + 1)]) :: (p9, HO.lst []) :: F))) := A7
        clear A7
        have hzl : zz.length ≤ 1000 := by
          have e9 := congrArg List.length ez
          rw [List.length_map, srt_len, List.length_map] at e9
          omega
        have hcl : (clr zz).length ≤ 1000 := by
          unfold clr
          rw [List.length_map]
          exact hzl
        walk_at "rdn"
        rw [decide_eq_true ((decide_eq_true (by decide)).trans (hall.mpr hea).symm)]
        exact k _ _ _ (by walk_at "sb")
end
end Sw

namespace Sw
open PySem L2 PySem.W
def sp_Web_all_strikes (K : PySem.W.Frag) : Sp := fun vs H Q E => match vs with
  | [.ref p] => ∃ (N : List Str) (es : List (Str × Str)) (L : List Cell), (At H L) ∧ (WebIn K L p N es) ∧ (∀ (q : Addr) (vs : List V) (W : List Cell) (H' : Hp), (At H' ((q, .lst vs) :: (W ++ L))) → (Iss W vs (srt es)) → Q (.ref q) H')
  | _ => False
end Sw
local macro_rules | `(tactic| walk_at "rdc") => `(tactic| ((with_reducible show Sw.sp_Web_all_strikes _ _ _ _ _); k_dflt (refine' ⟨_, _, _, ?h0, ?h1, ?_⟩); (case h0 => assumption); (case h1 => k_dflt (walk_at "web")); intro _ _ _ _ _ _))
local macro_rules | `(tactic| walk_at "call") => `(tactic| ((with_reducible show Sw.sp_Web_all_strikes _ _ _ _ _); k_dflt (refine' ⟨_, _, _, ?h0, ?h1, ?_⟩); (try (case h0 => assumption)); (try (case h1 => k_dflt (walk_at "web")))))
namespace Sw
open PySem L2 PySem.W
section
variable {P : Program} {w : World} {K : PySem.W.Frag} {mg : Str → Option Value} {base : Heap}
theorem sc_Web_all_strikes : FnScope ["self"] ["self"] (defScope (inClass (top 38) 2)) := ⟨rfl, rfl, rfl, by decide +kernel, rfl, by decide +kernel, by decide +kernel⟩
theorem ok_Web_all_strikes (T : Tx K mg) : MCal P w K mg base (He.ma K (He.ga K "Web") "all_strikes") 1 ["self"] (sp_Web_all_strikes K) := by
  have cl_Sieve := T.cl_Sieve
  have na_Sieve_order := T.na_Sieve_order
  have na_Sieve_hitters := T.na_Sieve_hitters
  have na_Sieve_hits := T.na_Sieve_hits
  have cl_Web := T.cl_Web
  have na_Web_strikers_by := T.na_Web_strikers_by
  have na_Web_struck_by := T.na_Web_struck_by
  have na_Web_own_pairs := T.na_Web_own_pairs
  refine mcal T.fd_Web_all_strikes (N := ["self"]) sc_Web_all_strikes (fun _ _ _ _ _ _ us hl => match us, hl with | [_], _ => rfl) (fun vs H Q E h => by
    unfold sp_Web_all_strikes at h
    split at h
    all_goals first | rfl | exact h.elim) ?_
  intro cdv A outer s H vs Q E hr h
  have hu := hu_of hr
  unfold sp_Web_all_strikes at h
  split at h
  rotate_left
  · exact h.elim
  rename_i p
  obtain ⟨N, es, L, h0, h1, k⟩ := h
  refine ⟨_, pss_one (ps_ret (pe_callB (Sw.call_srtT rfl hr.units) (by rfl) T.z_sorted (by decide +kernel) (pa_cons (pe_fld (pv 0) rfl) pa_nil))), ?_⟩
  try clear hu hr
  obtain ⟨w, hw, e1, e2⟩ := h1.ex
  have m0 := hw _ (.head _)
  have m3 := hw _ (.tail _ (.tail _ (.tail _ (.head _))))
  walk_at "rd"
  exact k _ _ _ _ (by assumption) (by assumption)
end
end Sw

local macro_rules | `(tactic| walk_at "rdc") => `(tactic| ((with_reducible show Sw.sp_law _ _ _ _ _); k_dflt (refine' ⟨_, _, ?h0, ?h1, ?_⟩); (case h0 => assumption); (case h1 => k_dflt (assumption)); intro _))
local macro_rules | `(tactic| walk_at "call") => `(tactic| ((with_reducible show Sw.sp_law _ _ _ _ _); k_dflt (refine' ⟨_, _, ?h0, ?h1, ?_⟩); (try (case h0 => assumption)); (try (case h1 => k_dflt (assumption)))))
namespace Sw
open PySem L2 PySem.W
section
variable {P : Program} {w : World} {K : PySem.W.Frag} {mg : Str → Option Value} {base : Heap}
local macro_rules | `(tactic| walk_at "brp") => `(tactic| first | (refine' Sw.rd_brNY ?h ?_; (case h => assumption)) | (refine' Sw.rd_brNN ?h ?_; (case h => assumption)) | (refine' Sw.rd_brY ?h ?_; (case h => assumption)) | (refine' Sw.rd_brNo ?h ?_; (case h => assumption)))
theorem sc_law : FnScope ["_law_script", "_law_worlds", "_law_k", "_law_world_here", "_law_left_here", "_law_web", "_law_names_here", "_law_strikes_here", "_law_mask"] ["_law_script"] (defScope (top 60)) := ⟨rfl, rfl, rfl, by decide +kernel, rfl, by decide +kernel, by decide +kernel⟩
theorem ok_law (T : Tx K mg) {f : Addr} {fd : FuncData} (F : FunD K "law" "law" (defArgs (top 60)) (defBody (top 60)) (defScope (top 60)) [] [] f fd) : FnOk P w K mg base CX0 39 f fd ["_law_script"] (sp_law K) := by
  obtain ⟨f_c_law_drawn, d_c_law_drawn, m_c_law_drawn, k_c_law_drawn, b_c_law_drawn, G_c_law_drawn⟩ := (ok__law_drawn (P := P) (w := w) (base := base) T).ex
  obtain ⟨f_c_law_pick, d_c_law_pick, m_c_law_pick, k_c_law_pick, b_c_law_pick, G_c_law_pick⟩ := (ok__law_pick (P := P) (w := w) (base := base) T).ex
  obtain ⟨f_c_law_strikes, d_c_law_strikes, m_c_law_strikes, k_c_law_strikes, b_c_law_strikes, G_c_law_strikes⟩ := (ok__law_strikes (P := P) (w := w) (base := base) T).ex
  obtain ⟨f_c_law_world, d_c_law_world, m_c_law_world, k_c_law_world, b_c_law_world, G_c_law_world⟩ := (ok__law_world (P := P) (w := w) (base := base) T).ex
  obtain ⟨f_c_law_least, d_c_law_least, m_c_law_least, k_c_law_least, b_c_law_least, G_c_law_least⟩ := (ok__law_least (P := P) (w := w) (base := base) T).ex
  obtain ⟨f_c_law_left, d_c_law_left, m_c_law_left, k_c_law_left, b_c_law_left, G_c_law_left⟩ := (ok__law_left (P := P) (w := w) (base := base) T).ex
  obtain ⟨d_cWeb, b_cWeb, G_cWeb⟩ := (ok_Web___init__ (P := P) (w := w) (base := base) T).ex
  have M_cWeb := T.mk_Web
  have m_cWeb := T.g_Web
  obtain ⟨f_c_law_asked, d_c_law_asked, m_c_law_asked, k_c_law_asked, b_c_law_asked, G_c_law_asked⟩ := (ok__law_asked (P := P) (w := w) (base := base) T).ex
  obtain ⟨d_cWeb_all_names, b_cWeb_all_names, G_cWeb_all_names⟩ := (ok_Web_all_names (P := P) (w := w) (base := base) T).ex
  have C_cWeb_all_names := T.cl_Web
  have x_cWeb_all_names := T.me_Web_all_names
  obtain ⟨d_cWeb_all_strikes, b_cWeb_all_strikes, G_cWeb_all_strikes⟩ := (ok_Web_all_strikes (P := P) (w := w) (base := base) T).ex
  have C_cWeb_all_strikes := T.cl_Web
  have x_cWeb_all_strikes := T.me_Web_all_strikes
  have cl_Sieve := T.cl_Sieve
  have na_Sieve_order := T.na_Sieve_order
  have na_Sieve_hitters := T.na_Sieve_hitters
  have na_Sieve_hits := T.na_Sieve_hits
  have cl_Web := T.cl_Web
  have na_Web_strikers_by := T.na_Web_strikers_by
  have na_Web_struck_by := T.na_Web_struck_by
  have na_Web_own_pairs := T.na_Web_own_pairs
  refine fnok F (N := ["_law_script", "_law_worlds", "_law_k", "_law_world_here", "_law_left_here", "_law_web", "_law_names_here", "_law_strikes_here", "_law_mask"]) sc_law (fun vs H Q E h => by
    unfold sp_law at h
    split at h
    all_goals first | rfl | exact h.elim) ?_
  intro cdv A outer s H vs Q E hr h
  have hu := hu_of hr
  unfold sp_law at h
  split at h
  rotate_left
  · exact h.elim
  rename_i s
  obtain ⟨ss, L, h0, h1, k⟩ := h
  refine' ⟨_, pss_cons (ps_set (i := 1) sc_law.nd rfl (by first | exact Or.inl rfl | exact Or.inr rfl) (pe_lst (pa_nil)))
 (pss_cons (ps_for PassesOwn.never rfl (pi_range1 (by rfl) T.z_range (pa_cons (pe_int) pa_nil)) (pg_name (i := 2) sc_law.nd rfl (by first | exact Or.inl rfl | exact Or.inr rfl)) (pss_cons (ps_asg (pe_call G_c_law_drawn (hr.mono (by decide)) (by rfl) m_c_law_drawn k_c_law_drawn b_c_law_drawn .nil pass0 (pa_cons (pv 0) (pa_cons (pv 2) pa_nil))) (pg_tup rfl (pgs_cons (pg_name (i := 4) sc_law.nd rfl (by first | exact Or.inl rfl | exact Or.inr rfl)) (pgs_cons (pg_name (i := 6) sc_law.nd rfl (by first | exact Or.inl rfl | exact Or.inr rfl)) (pgs_cons (pg_name (i := 7) sc_law.nd rfl (by first | exact Or.inl rfl | exact Or.inr rfl)) pgs_nil)))))
 (pss_cons (ps_if (PW.pt (pw_and (pt_cmpR op_eq (pv 2) (pe_int) (nomark _)) (pw_and1 (pt_cmpR op_eq (pe_call G_c_law_pick (hr.mono (by decide)) (by rfl) m_c_law_pick k_c_law_pick b_c_law_pick .nil pass0 (pa_cons (pv 4) (pa_cons (pe_int) pa_nil))) (pe_int) (nomark _))))) (pss_cons (ps_set (i := 6) sc_law.nd rfl (by first | exact Or.inl rfl | exact Or.inr rfl) (pe_dget hu (pe_ix ix_list (pv 1) (pe_int) (fun _ _ => rfl)) (pe_str) (fun _ _ => rfl)))
 (pss_one (ps_set (i := 7) sc_law.nd rfl (by first | exact Or.inl rfl | exact Or.inr rfl) (pe_call G_c_law_strikes (hr.mono (by decide)) (by rfl) m_c_law_strikes k_c_law_strikes b_c_law_strikes .nil pass0 (pa_cons (pv 4) (pa_cons (pv 6) pa_nil)))))) (pss_nil))
 (pss_one (ps_expr (pe_bm PySem.F.plainAttrs_list PySem.F.slot_list_append PySem.F.type_list_append mt_append (pv 1) (pa_cons (pe_call G_c_law_world (hr.mono (by decide)) (by rfl) m_c_law_world k_c_law_world b_c_law_world .nil pass0 (pa_cons (pv 6) (pa_cons (pv 7) pa_nil))) pa_nil)))))))
 (pss_cons (ps_for PassesOwn.never rfl (pi_list (pv 1)) (pg_name (i := 3) sc_law.nd rfl (by first | exact Or.inl rfl | exact Or.inr rfl)) (pss_cons (ps_if (pt_cmpR op_ne (pe_op op_and (pe_call G_c_law_least (hr.mono (by decide)) (by rfl) m_c_law_least k_c_law_least b_c_law_least .nil pass0 (pa_cons (pe_dget hu (pv 3) (pe_str) (fun _ _ => rfl)) pa_nil)) (pe_un un_inv (pe_dget hu (pv 3) (pe_str) (fun _ _ => rfl)))) (pe_int) (nomark _)) (pss_one (ps_ret (pe_bl))) (pss_nil))
 (pss_one (ps_if (pt_val (pe_callB (cr_any rfl) (by rfl) T.z_any (by decide +kernel) (pa_cons (pe_lc (own := [("_law_mask", 8)]) (g := gName 8) (tt := tYes) rfl sc_law.nd (pi_list (pe_dget hu (pv 3) (pe_str) (fun _ _ => rfl))) (blkOk_by (N := ["_law_script", "_law_worlds", "_law_k", "_law_world_here", "_law_left_here", "_law_web", "_law_names_here", "_law_strikes_here", "_law_mask"]) (sc := defScope (top 60)) (by decide +kernel)) ?c1g ?c1t ?c1e) pa_nil))) (pss_one (ps_ret (pe_bl))) (pss_nil)))))
 (pss_cons (ps_for PassesOwn.never rfl (pi_range2 (by rfl) T.z_range (pa_cons (pe_int) (pa_cons (pe_callB (Sw.call_max2 rfl) (by rfl) T.z_max (by decide +kernel) (pa_cons (pe_int) (pa_cons (pe_callB (Sw.call_min2 rfl) (by rfl) T.z_min (by decide +kernel) (pa_cons (pe_int) (pa_cons (pe_callB Sw.call_lenQ (by rfl) T.z_len (by decide +kernel) (pa_cons (pv 0) pa_nil)) pa_nil))) pa_nil))) pa_nil))) (pg_name (i := 2) sc_law.nd rfl (by first | exact Or.inl rfl | exact Or.inr rfl)) (pss_cons (ps_set (i := 4) sc_law.nd rfl (by first | exact Or.inl rfl | exact Or.inr rfl) (pe_call G_c_law_left (hr.mono (by decide)) (by rfl) m_c_law_left k_c_law_left b_c_law_left .nil pass0 (pa_cons (pv 0) (pa_cons (pv 2) pa_nil))))
 (pss_cons (ps_set (i := 3) sc_law.nd rfl (by first | exact Or.inl rfl | exact Or.inr rfl) (pe_ix ix_list (pv 1) (pe_call G_c_law_pick (hr.mono (by decide)) (by rfl) m_c_law_pick k_c_law_pick b_c_law_pick .nil pass0 (pa_cons (pv 4) (pa_cons (pe_int) pa_nil))) (fun _ _ => rfl)))
 (pss_cons (ps_set (i := 5) sc_law.nd rfl (by first | exact Or.inl rfl | exact Or.inr rfl) (pe_dget hu (pv 3) (pe_str) (fun _ _ => rfl)))
 (pss_cons (ps_if (pt_cmpR op_eq (pe_call G_c_law_pick (hr.mono (by decide)) (by rfl) m_c_law_pick k_c_law_pick b_c_law_pick .nil pass0 (pa_cons (pv 4) (pa_cons (pe_int) pa_nil))) (pe_int) (nomark _)) (pss_one (ps_set (i := 5) sc_law.nd rfl (by first | exact Or.inl rfl | exact Or.inr rfl) (pe_make M_cWeb G_cWeb (hr.mono (by decide)) (by rfl) m_cWeb b_cWeb .nil pass0 (pa_cons (pe_revL (pe_dget hu (pv 3) (pe_str) (fun _ _ => rfl))) (pa_cons (pe_revL (pe_dget hu (pv 3) (pe_str) (fun _ _ => rfl))) pa_nil))))) (pss_nil))
 (pss_cons (ps_if (pt_not (pt_val (pe_call G_c_law_asked (hr.mono (by decide)) (by rfl) m_c_law_asked k_c_law_asked b_c_law_asked .nil pass0 (pa_cons (pv 4) (pa_cons (pv 3) (pa_cons (pv 5) (pa_cons (pe_ix ix_list (pe_lst (pa_cons (pe_int) (pa_cons (pe_int) pa_nil))) (pe_callTy Sw.call_int (by rfl) T.z_int (by decide +kernel) (pa_cons (pe_or (pe_cmpR op_gt (pv 2) (pe_int) (nomark _)) (pe_one (pe_and (pe_cmpR op_gt (pv 2) (pe_int) (nomark _)) (pe_one (pe_cmpR op_gt (pe_callB Sw.call_lenQ (by rfl) T.z_len (by decide +kernel) (pa_cons (pe_dget hu (pv 3) (pe_str) (fun _ _ => rfl)) pa_nil)) (pe_int) (nomark _)))))) pa_nil)) (fun _ _ => rfl)) pa_nil))))))) (pss_one (ps_ret (pe_bl))) (pss_nil))
 (pss_one (ps_if (PW.pt (pw_or (pt_cmpR (op_neD hr.units) (pe_meth0 (pv 5) C_cWeb_all_names x_cWeb_all_names G_cWeb_all_names (hr.mono (by decide)) b_cWeb_all_names .nil pass0) (pe_ix ix_list (pe_dget hu (pv 3) (pe_str) (fun _ _ => rfl)) (pe_int) (fun _ _ => rfl)) (nomark _)) (pw_or1 (pt_cmpR (op_neD hr.units) (pe_meth0 (pv 5) C_cWeb_all_strikes x_cWeb_all_strikes G_cWeb_all_strikes (hr.mono (by decide)) b_cWeb_all_strikes .nil pass0) (pe_callB (Sw.call_srt hr.units) (by rfl) T.z_sorted (by decide +kernel) (pa_cons (pe_dget hu (pv 3) (pe_str) (fun _ _ => rfl)) pa_nil)) (nomark _))))) (pss_one (ps_ret (pe_bl))) (pss_nil)))))))))
 (pss_one (ps_ret (pe_bl)))))), ?_⟩
  (case c1g => exact fun _ _ _ _ _ => pg_name (i := 8) sc_law.nd rfl (Or.inl rfl)); (case c1t => (intro _ _ _ _ _; refine' Sw.pts_te (pts_nil) ?c1tq; (case c1tq => (first | ((dsimp only [L2.Cx.blk]) <;> exact rfl) | exact rfl)))); (case c1e => (intro _ _ _ _ _; refine' Sw.pe_te (pe_cmpR op_ne (pe_op op_and (pe_dget hu (pv 3) (pe_str) (fun _ _ => rfl)) (pe_un un_inv (pv 8))) (pe_int) (nomark _)) ?c1eq; (case c1eq => (first | ((dsimp only [L2.Cx.blk]) <;> exact rfl) | exact rfl))))
  try clear G_c_law_drawn b_c_law_drawn k_c_law_drawn m_c_law_drawn
  try clear d_c_law_drawn f_c_law_drawn
  try clear G_c_law_pick b_c_law_pick k_c_law_pick m_c_law_pick
  try clear d_c_law_pick f_c_law_pick
  try clear G_c_law_strikes b_c_law_strikes k_c_law_strikes m_c_law_strikes
  try clear d_c_law_strikes f_c_law_strikes
  try clear G_c_law_world b_c_law_world k_c_law_world m_c_law_world
  try clear d_c_law_world f_c_law_world
  try clear G_c_law_least b_c_law_least k_c_law_least m_c_law_least
  try clear d_c_law_least f_c_law_least
  try clear G_c_law_left b_c_law_left k_c_law_left m_c_law_left
  try clear d_c_law_left f_c_law_left
  try clear G_cWeb b_cWeb
  try clear d_cWeb
  try clear M_cWeb m_cWeb
  try clear G_c_law_asked b_c_law_asked k_c_law_asked m_c_law_asked
  try clear d_c_law_asked f_c_law_asked
  try clear G_cWeb_all_names b_cWeb_all_names
  try clear d_cWeb_all_names
  try clear C_cWeb_all_names x_cWeb_all_names
  try clear G_cWeb_all_strikes b_cWeb_all_strikes
  try clear d_cWeb_all_strikes
  try clear C_cWeb_all_strikes x_cWeb_all_strikes
  try clear hu hr
  have hS := h1 _ h0
  walk_at "rd"
  rename_i wl H0 A0
  refine Sw.loop_range (fun i σ H' => ∃ (ws : List Addr) (F : List Cell) (v2 v3 v4 v5 v6 v7 v8 : Option V), σ = [some (.ref s), some (.ref wl), v2, v3, v4, v5, v6, v7, v8] ∧ At H' ((wl, .lst (ws.map V.ref)) :: (F ++ L)) ∧ ws.length = i ∧ ∀ w ∈ ws, WorldE K F w) ⟨[], [], _, _, _, _, _, _, _, rfl, A0, rfl, fun _ m => nomatch m⟩ ?_ ?_
  · rintro i σ H1 hi ⟨ws, F, v2, v3, v4, v5, v6, v7, v8, rfl, A1, hwl, hW⟩
    have hi' : i < 2 := hi
    have hS := h1 _ A1.tail.app2
    clear A0
    walk_at "rdn"
    rename_i t l q e x y c ns vs es W H2 A2 I S nd nb hl hc
    have web9 : True := trivial
    refine Sw.rd_ifS ?_
    walk_at "rdn"
    · rename_i hi1 r1 a1 H3 _ _ A3 hr0 z hz
      obtain ⟨ns0, es0, ks0, us0, q0, e0, x0, p0, pn0, pk0, pu0, ra0, rb0, vs0, hG⟩ := hW z (List.mem_of_getElem? hz)
      have mw := hG.cw
      have mq0 := hG.cq
      have hnd0 := hG.good.nd
      have hnl0 := hG.good.hl
      walk_at "rdn"
      rename_i e2 vs2 es2 W2 a2 c2 H4 A4 I2 S2 hc2 he2
      obtain ⟨F2, A5, mq, me, I2, hF2, s2⟩ : ∃ F2, At H4 ((wl, .lst (ws.map V.ref)) :: (F2 ++ L)) ∧ (q0, HO.lst (ns0.map V.str)) ∈ F2 ∧ (e2, HO.lst vs2) ∈ F2 ∧ Iss F2 vs2 es2 ∧ (∀ c ∈ F, c ∈ F2) ∧ ∀ c ∈ F2, c ∈ (wl, HO.lst (ws.map V.ref)) :: (F2 ++ L) :=
        ⟨(e2, .lst vs2) :: (W2 ++ F), by simp only [List.cons_append, List.append_assoc]; walk_at "sb", .tail _ (List.mem_append_right _ mq0), .head _, iss_mono (fun c m => .tail _ (List.mem_append_left _ m)) I2, fun c m => .tail _ (List.mem_append_right _ m), fun c m => .tail _ (List.mem_append_left _ m)⟩
      have gd : GoodW ns0 es2 := ⟨hnd0, S2, hG.good.nb, hnl0, he2⟩
      clear A2 A3 A4
      walk_at "rdn"
      rename_i w W2 _ A5 hE H5 A6
      refine ⟨ws ++ [w], W2 ++ F2, _, _, _, _, _, _, _, rfl, ?_, ?_, ?_⟩
      · rw [List.map_append, List.append_assoc]
        walk_at "sb"
      · rw [List.length_append, hwl]
        rfl
      · intro y my
        rcases List.mem_append.mp my with my | my
        · exact (hW y my).mono fun c m => List.mem_append_right _ (hF2 c m)
        · cases List.mem_singleton.mp my
          exact hE
    · rename_i hi1 r1 a1 H3 _ _ A3 hr0
      obtain ⟨F2, A4, mq, me, I2, hF2, s2⟩ : ∃ F2, At H3 ((wl, .lst (ws.map V.ref)) :: (F2 ++ L)) ∧ (q, HO.lst (ns.map V.str)) ∈ F2 ∧ (e, HO.lst vs) ∈ F2 ∧ Iss F2 vs es ∧ (∀ c ∈ F, c ∈ F2) ∧ ∀ c ∈ F2, c ∈ (wl, HO.lst (ws.map V.ref)) :: (F2 ++ L) :=
        ⟨(q, .lst (ns.map V.str)) :: (e, .lst vs) :: (W ++ F), by simp only [List.cons_append, List.append_assoc]; walk_at "sb", .head _, .tail _ (.head _), iss_mono (fun c m => .tail _ (.tail _ (List.mem_append_left _ m))) I, fun c m => .tail _ (.tail _ (List.mem_append_right _ m)), fun c m => .tail _ (List.mem_append_left _ m)⟩
      have gd : GoodW ns es := ⟨nd, S, nb, by omega, hl.2⟩
      clear A3 A2
      walk_at "rdn"
      rename_i w W2 _ A5 hE H5 A6
      refine ⟨ws ++ [w], W2 ++ F2, _, _, _, _, _, _, _, rfl, ?_, ?_, ?_⟩
      · rw [List.map_append, List.append_assoc]
        walk_at "sb"
      · rw [List.length_append, hwl]
        rfl
      · intro y my
        rcases List.mem_append.mp my with my | my
        · exact (hW y my).mono fun c m => List.mem_append_right _ (hF2 c m)
        · cases List.mem_singleton.mp my
          exact hE
    · rename_i hi1
      obtain ⟨F2, A4, mq, me, I2, hF2, s2⟩ : ∃ F2, At H2 ((wl, .lst (ws.map V.ref)) :: (F2 ++ L)) ∧ (q, HO.lst (ns.map V.str)) ∈ F2 ∧ (e, HO.lst vs) ∈ F2 ∧ Iss F2 vs es ∧ (∀ c ∈ F, c ∈ F2) ∧ ∀ c ∈ F2, c ∈ (wl, HO.lst (ws.map V.ref)) :: (F2 ++ L) :=
        ⟨(q, .lst (ns.map V.str)) :: (e, .lst vs) :: (W ++ F), by simp only [List.cons_append, List.append_assoc]; walk_at "sb", .head _, .tail _ (.head _), iss_mono (fun c m => .tail _ (.tail _ (List.mem_append_left _ m))) I, fun c m => .tail _ (.tail _ (List.mem_append_right _ m)), fun c m => .tail _ (List.mem_append_left _ m)⟩
      have gd : GoodW ns es := ⟨nd, S, nb, by omega, hl.2⟩
      clear A2
      walk_at "rdn"
      rename_i w W2 _ A5 hE H5 A6
      refine ⟨ws ++ [w], W2 ++ F2, _, _, _, _, _, _, _, rfl, ?_, ?_, ?_⟩
      · rw [List.map_append, List.append_assoc]
        walk_at "sb"
      · rw [List.length_append, hwl]
        rfl
      · intro y my
        rcases List.mem_append.mp my with my | my
        · exact (hW y my).mono fun c m => List.mem_append_right _ (hF2 c m)
        · cases List.mem_singleton.mp my
          exact hE
  · rintro σ H1 ⟨ws, F, v2, v3, v4, v5, v6, v7, v8, rfl, A1, hwl, hW⟩
    have hwl : ws.length = 2 := hwl
    clear A0
    walk_at "rdn"
    refine Sw.loop_map (f := V.ref) (zs := ws) (fun j σ H' => ∃ (v3 v8 : Option V), σ = [some (.ref s), some (.ref wl), v2, v3, v4, v5, v6, v7, v8] ∧ At H' ((wl, .lst (ws.map V.ref)) :: (F ++ L))) ⟨_, _, rfl, A1⟩ (fun j σ H' ⟨_, _, _, A⟩ => SqL.of (A.rd (.head _))) ?_ ?_
    · rintro j z σ H2 hz ⟨v3, v8, rfl, A2⟩
      obtain ⟨ns, es, ks, us, q, e, x, p, pn, pk, pu, ra, rb, vs, hG⟩ := hW z (List.mem_of_getElem? hz)
      obtain ⟨mw, mq, me, hI, hweb, hvw, hV, ma, mb, ⟨nd, S, nb, hl, he⟩⟩ := hG
      obtain ⟨w1, w2, w3, w4⟩ := hvw
      have hul := hV.ul
      have hkl := hV.kl
      have hsl := srt_len ns
      have hnd : (srt ns).Nodup := srt_nodup.mpr nd
      have hgl := greatM_len (ks := ks) hul (show (srt ns).length ≤ 10 by omega)
      clear A1
      refine Sw.rd_ifS ?_
      walk_at "rdn"
      · rename_i m H3 A3 m1 m2 m3 hx
        exact absurd (congrArg Nat.cast (sub_and.mpr (least_in_grant hV hnd S.srt m1 m2 m3))) hx
      rename_i m H3 A3 m1 m2 m3 hx
      clear A2
      refine Sw.rd_ifS ?_
      walk_at "rdn"
      refine Sw.lc_list (us := greatM ks us (srt ns).length) (F := nv) A3 (by walk_at "mem") (by omega) (fun _ => true) (fun u => V.bl (decide (¬ ((grantM ks us (srt ns).length - (grantM ks us (srt ns).length &&& u) : Nat) : Int) = 0))) (fun u H5 D acc Yk Nk hu A5 hY hN => ?_) fun D H5 A5 => ?_
      · walk_at "rd"
        exact hY _ _ rfl (by first | rfl | simp) (by walk_at "sb")
      · rw [all_true_filter] at A5
        have hall : ((greatM ks us (srt ns).length).any fun u => decide (¬ ((grantM ks us (srt ns).length - (grantM ks us (srt ns).length &&& u) : Nat) : Int) = 0)) = false := by
          rw [List.any_eq_false]
          intro u hu
          rw [decide_eq_true_eq]
          intro h
          exact h (congrArg Nat.cast (sub_and.mpr (grant_in_great hV hnd S.srt hu)))
        clear A3
        walk_at "rdn"
        exact ⟨_, _, rfl, by walk_at "sb"⟩
    · rintro σ H2 ⟨v3, v8, rfl, A2⟩
      have hS := h1 _ A2.tail.app2
      clear A1
      walk_at "rdn"
      refine Sw.loop_rangeL (fun i σ H' => ∃ v2 v3 v4 v5 v8, σ = [some (.ref s), some (.ref wl), v2, v3, v4, v5, v6, v7, v8] ∧ At H' ((wl, .lst (ws.map V.ref)) :: (F ++ L))) ⟨_, _, _, _, _, rfl, A2⟩ ?_ ?_
      · rintro i σ H3 hi ⟨v2, v3, v4, v5, v8, rfl, A3⟩
        have hi' : i < 18 := by
          refine Nat.lt_of_lt_of_le hi ?_
          (repeat' split) <;> omega
        have hS := h1 _ A3.tail.app2
        clear A2
        walk_at "rdn"
        rename_i p0 x0 y0 _ _ r0 a0 H4 hr0 hr02 A4 z hz
        obtain ⟨ns, es, ks, us, q, e, x, p, pn, pk, pu, ra, rb, vs, hG⟩ := hW z (List.mem_of_getElem? hz)
        have hG8 := hG
        obtain ⟨mw, mq, me, hI, hweb, hvw, hV, ma, mb, ⟨nd, S, nb, hl, he⟩⟩ := hG8
        obtain ⟨w1, w2, w3, w4⟩ := hvw
        have hvl := hI.len
        have ndr : ns.reverse.Nodup := (List.reverse_perm ns).nodup_iff.mpr nd
        have Sr : SOk ns.reverse es.reverse := S.perm2 (List.reverse_perm es) (List.reverse_perm ns)
        have nbr : ∀ y ∈ ns.reverse, nameB y = true := fun y m => nb y (List.mem_reverse.mp m)
        have hIr : Iss F vs.reverse es.reverse := iss_rev hI
        have hrl : ns.reverse.length = ns.length := List.length_reverse
        have hrl2 : es.reverse.length = es.length := List.length_reverse
        walk_at "rdn"
        refine Sw.rd_ifS ?_
        walk_at "rdn"
        · rename_i r1 a1 H5 _ _ _ hr1 pA H6 _ pB H7 _ x2 dx2 H8 _ Wb H9 A9 hWb
          obtain ⟨n2, e2, Lb, A10, web9, pr1, pr2, sF, backb⟩ : ∃ (n2 : List Str) (e2 : List (Str × Str)) (Lb : List Cell), At H9 ((p0, .lst [.int a1, .int y0, .int (0 + 1 + 1)]) :: Lb) ∧ WebIn K Lb x2 n2 e2 ∧ n2.Perm ns ∧ e2.Perm es ∧ (∀ c ∈ F, c ∈ Lb) ∧ ∀ H' : Hp, At H' Lb → At H' ((wl, .lst (ws.map V.ref)) :: (F ++ L)) :=
            ⟨_, _, Wb ++ ((wl, .lst (ws.map V.ref)) :: (F ++ L)), by walk_at "sb", hWb.mono fun c m => List.mem_append_left _ m, List.reverse_perm ns, List.reverse_perm es, fun c m => List.mem_append_right _ (.tail _ (List.mem_append_left _ m)), fun H' h => h.app2⟩
          have hG9 : WorldG K Lb z ns es ks us q e x p pn pk pu ra rb vs := hG.mono sF
          have mw9 := hG9.cw
          have mq9 := hG9.cq
          refine Sw.rd_ifS ?_
          walk_at "rdn"
          all_goals try (refine Sw.rd_ixLz (zs := [3, 2]) (by assumption) (.head _) (by split <;> decide) (by split <;> decide) fun g hg => ?_; simp only [List.mem_cons, List.not_mem_nil, or_false] at hg; walk_at "rdn")
          all_goals
            rename_i l2 o2 H11 A11
            have A12 : At H11 Lb := A11.tail.tail
            have esn : srt n2 = srt ns := srt_congr pr1
            have ese : srt e2 = srt es := srt_congr pr2
            have hel : e2.length = es.length := pr2.length_eq
            obtain ⟨w5, hw5, e15, e25⟩ := web9.ex
            have m0 := hw5 _ (.head _)
            have v1 := sF _ w1
            have v2 := sF _ w2
            have me9 := hG9.ce
            have I9 := hG9.is
            clear A10 A11 hw5
            refine Sw.rd_ifS ?_
            walk_at "rdn"
            rename_i _ _ _ _ _ _ _ H12 A13 _ _
            exact ⟨_, _, _, _, _, rfl, backb _ A13.tail.tail.app2.tail⟩
        · rename_i r1 a1 H5 _ _ A5 hr1
          obtain ⟨n2, e2, Lb, A10, web9, pr1, pr2, sF, backb⟩ : ∃ (n2 : List Str) (e2 : List (Str × Str)) (Lb : List Cell), At H5 ((p0, .lst [.int a1, .int y0, .int (0 + 1 + 1)]) :: Lb) ∧ WebIn K Lb x n2 e2 ∧ n2.Perm ns ∧ e2.Perm es ∧ (∀ c ∈ F, c ∈ Lb) ∧ ∀ H' : Hp, At H' Lb → At H' ((wl, .lst (ws.map V.ref)) :: (F ++ L)) :=
            ⟨_, _, _, A5, hweb.mono fun c m => .tail _ (List.mem_append_left _ m), .refl _, .refl _, fun c m => .tail _ (List.mem_append_left _ m), fun H' h => h⟩
          have hG9 : WorldG K Lb z ns es ks us q e x p pn pk pu ra rb vs := hG.mono sF
          have mw9 := hG9.cw
          have mq9 := hG9.cq
          refine Sw.rd_ifS ?_
          walk_at "rdn"
          all_goals try (refine Sw.rd_ixLz (zs := [3, 2]) (by assumption) (.head _) (by split <;> decide) (by split <;> decide) fun g hg => ?_; simp only [List.mem_cons, List.not_mem_nil, or_false] at hg; walk_at "rdn")
          all_goals
            rename_i l2 o2 H11 A11
            have A12 : At H11 Lb := A11.tail.tail
            have esn : srt n2 = srt ns := srt_congr pr1
            have ese : srt e2 = srt es := srt_congr pr2
            have hel : e2.length = es.length := pr2.length_eq
            obtain ⟨w5, hw5, e15, e25⟩ := web9.ex
            have m0 := hw5 _ (.head _)
            have v1 := sF _ w1
            have v2 := sF _ w2
            have me9 := hG9.ce
            have I9 := hG9.is
            clear A10 A11 hw5
            refine Sw.rd_ifS ?_
            walk_at "rdn"
            rename_i _ _ _ _ _ _ _ H12 A13 _ _
            exact ⟨_, _, _, _, _, rfl, backb _ A13.tail.tail.app2.tail⟩
      · rintro σ H3 ⟨v2, v3, v4, v5, v8, rfl, A3⟩
        walk_at "rdn"
        exact k _
end
end Sw

set_option maxHeartbeats 0
namespace Hd
open PySem PySem.Spec PyProof.Rows L2
theorem tx {K : PySem.W.Frag} {h : Heap} {mg : Str → Option Value} (X : K.In h) (G : h.Ns mainGlobals mg) (c : He.SaysD fa fn K) : Sw.Tx K mg where
  f_many_bits := ⟨_, _, He.glo_ok X G (c.fact 23 (f := .glo "many_bits") rfl), (c.def_ 11 (d := (⟨("many_bits", none), "many_bits", "many_bits", defArgs (Sw.top 10), defBody (Sw.top 10), defScope (Sw.top 10), [], []⟩ : He.DefD)) rfl).choose_spec⟩
  f_greatest_sets := ⟨_, _, He.glo_ok X G (c.fact 24 (f := .glo "greatest_sets") rfl), (c.def_ 12 (d := (⟨("greatest_sets", none), "greatest_sets", "greatest_sets", defArgs (Sw.top 11), defBody (Sw.top 11), defScope (Sw.top 11), [], []⟩ : He.DefD)) rfl).choose_spec⟩
  f_strikers_by := ⟨_, _, He.glo_ok X G (c.fact 25 (f := .glo "strikers_by") rfl), (c.def_ 13 (d := (⟨("strikers_by", none), "strikers_by", "strikers_by", defArgs (Sw.top 13), defBody (Sw.top 13), defScope (Sw.top 13), [], []⟩ : He.DefD)) rfl).choose_spec⟩
  f_clash_in := ⟨_, _, He.glo_ok X G (c.fact 26 (f := .glo "clash_in") rfl), (c.def_ 14 (d := (⟨("clash_in", none), "clash_in", "clash_in", defArgs (Sw.top 14), defBody (Sw.top 14), defScope (Sw.top 14), [], []⟩ : He.DefD)) rfl).choose_spec⟩
  f_unanswered_trees := ⟨_, _, He.glo_ok X G (c.fact 27 (f := .glo "unanswered_trees") rfl), (c.def_ 15 (d := (⟨("unanswered_trees", none), "unanswered", "unanswered", defArgs (Sw.top 15), defBody (Sw.top 15), defScope (Sw.top 15), [], []⟩ : He.DefD)) rfl).choose_spec⟩
  f_grown_from := ⟨_, _, He.glo_ok X G (c.fact 28 (f := .glo "grown_from") rfl), (c.def_ 16 (d := (⟨("grown_from", none), "grown_from", "grown_from", defArgs (Sw.top 17), defBody (Sw.top 17), defScope (Sw.top 17), [], []⟩ : He.DefD)) rfl).choose_spec⟩
  f_standing_with := ⟨_, _, He.glo_ok X G (c.fact 29 (f := .glo "standing_with") rfl), (c.def_ 17 (d := (⟨("standing_with", none), "standing_with", "standing_with", defArgs (Sw.top 18), defBody (Sw.top 18), defScope (Sw.top 18), [], []⟩ : He.DefD)) rfl).choose_spec⟩
  f_first_with := ⟨_, _, He.glo_ok X G (c.fact 30 (f := .glo "first_with") rfl), (c.def_ 18 (d := (⟨("first_with", none), "first_with", "first_with", defArgs (Sw.top 19), defBody (Sw.top 19), defScope (Sw.top 19), [], []⟩ : He.DefD)) rfl).choose_spec⟩
  f_greatest_tree := ⟨_, _, He.glo_ok X G (c.fact 31 (f := .glo "greatest_tree") rfl), (c.def_ 19 (d := (⟨("greatest_tree", none), "greatest_tree", "greatest_tree", defArgs (Sw.top 20), defBody (Sw.top 20), defScope (Sw.top 20), [], []⟩ : He.DefD)) rfl).choose_spec⟩
  f_greatest_with := ⟨_, _, He.glo_ok X G (c.fact 32 (f := .glo "greatest_with") rfl), (c.def_ 20 (d := (⟨("greatest_with", none), "greatest_with", "greatest_with", defArgs (Sw.top 21), defBody (Sw.top 21), defScope (Sw.top 21), [], []⟩ : He.DefD)) rfl).choose_spec⟩
  f_look_name := ⟨_, _, He.glo_ok X G (c.fact 33 (f := .glo "look_name") rfl), (c.def_ 21 (d := (⟨("look_name", none), "look_name", "look_name", defArgs (Sw.top 23), defBody (Sw.top 23), defScope (Sw.top 23), [], []⟩ : He.DefD)) rfl).choose_spec⟩
  f_in_some := ⟨_, _, He.glo_ok X G (c.fact 34 (f := .glo "in_some") rfl), (c.def_ 22 (d := (⟨("in_some", none), "in_some", "in_some", defArgs (Sw.top 24), defBody (Sw.top 24), defScope (Sw.top 24), [], []⟩ : He.DefD)) rfl).choose_spec⟩
  f_in_each := ⟨_, _, He.glo_ok X G (c.fact 35 (f := .glo "in_each") rfl), (c.def_ 23 (d := (⟨("in_each", none), "in_each", "in_each", defArgs (Sw.top 25), defBody (Sw.top 25), defScope (Sw.top 25), [], []⟩ : He.DefD)) rfl).choose_spec⟩
  f_answers_by_name := ⟨_, _, He.glo_ok X G (c.fact 36 (f := .glo "answers_by_name") rfl), (c.def_ 24 (d := (⟨("answers_by_name", none), "answers_by_name", "answers_by_name", defArgs (Sw.top 26), defBody (Sw.top 26), defScope (Sw.top 26), [], []⟩ : He.DefD)) rfl).choose_spec⟩
  f_first_drop := ⟨_, _, He.glo_ok X G (c.fact 37 (f := .glo "first_drop") rfl), (c.def_ 25 (d := (⟨("first_drop", none), "first_drop", "first_drop", defArgs (Sw.top 27), defBody (Sw.top 27), defScope (Sw.top 27), [], []⟩ : He.DefD)) rfl).choose_spec⟩
  f_unanswered_grants := ⟨_, _, He.glo_ok X G (c.fact 38 (f := .glo "unanswered_grants") rfl), (c.def_ 26 (d := (⟨("unanswered_grants", none), "unanswered", "unanswered", defArgs (Sw.top 28), defBody (Sw.top 28), defScope (Sw.top 28), [], []⟩ : He.DefD)) rfl).choose_spec⟩
  f_bare_drops := ⟨_, _, He.glo_ok X G (c.fact 39 (f := .glo "bare_drops") rfl), (c.def_ 27 (d := (⟨("bare_drops", none), "bare_drops", "bare_drops", defArgs (Sw.top 30), defBody (Sw.top 30), defScope (Sw.top 30), [], []⟩ : He.DefD)) rfl).choose_spec⟩
  f_strikers_of := ⟨_, _, He.glo_ok X G (c.fact 40 (f := .glo "strikers_of") rfl), (c.def_ 28 (d := (⟨("strikers_of", none), "strikers_of", "strikers_of", defArgs (Sw.top 31), defBody (Sw.top 31), defScope (Sw.top 31), [], []⟩ : He.DefD)) rfl).choose_spec⟩
  f_granted := ⟨_, _, He.glo_ok X G (c.fact 41 (f := .glo "granted") rfl), (c.def_ 29 (d := (⟨("granted", none), "granted", "granted", defArgs (Sw.top 32), defBody (Sw.top 32), defScope (Sw.top 32), [], []⟩ : He.DefD)) rfl).choose_spec⟩
  f_is_name := ⟨_, _, He.glo_ok X G (c.fact 44 (f := .glo "is_name") rfl), (c.def_ 30 (d := (⟨("is_name", none), "is_name", "is_name", defArgs (Sw.top 36), defBody (Sw.top 36), defScope (Sw.top 36), [], []⟩ : He.DefD)) rfl).choose_spec⟩
  f_is_pair_of := ⟨_, _, He.glo_ok X G (c.fact 45 (f := .glo "is_pair_of") rfl), (c.def_ 31 (d := (⟨("is_pair_of", none), "is_pair_of", "is_pair_of", defArgs (Sw.top 37), defBody (Sw.top 37), defScope (Sw.top 37), [], []⟩ : He.DefD)) rfl).choose_spec⟩
  f__law_mix := ⟨_, _, He.glo_ok X G (c.fact 57 (f := .glo "_law_mix") rfl), (c.def_ 38 (d := (⟨("_law_mix", none), "_law_mix", "_law_mix", defArgs (Sw.top 40), defBody (Sw.top 40), defScope (Sw.top 40), [], []⟩ : He.DefD)) rfl).choose_spec⟩
  f__law_left := ⟨_, _, He.glo_ok X G (c.fact 58 (f := .glo "_law_left") rfl), (c.def_ 39 (d := (⟨("_law_left", none), "_law_left", "_law_left", defArgs (Sw.top 41), defBody (Sw.top 41), defScope (Sw.top 41), [], []⟩ : He.DefD)) rfl).choose_spec⟩
  f__law_pick := ⟨_, _, He.glo_ok X G (c.fact 59 (f := .glo "_law_pick") rfl), (c.def_ 40 (d := (⟨("_law_pick", none), "_law_pick", "_law_pick", defArgs (Sw.top 42), defBody (Sw.top 42), defScope (Sw.top 42), [], []⟩ : He.DefD)) rfl).choose_spec⟩
  f__law_names := ⟨_, _, He.glo_ok X G (c.fact 60 (f := .glo "_law_names") rfl), (c.def_ 41 (d := (⟨("_law_names", none), "_law_names", "_law_names", defArgs (Sw.top 43), defBody (Sw.top 43), defScope (Sw.top 43), [], []⟩ : He.DefD)) rfl).choose_spec⟩
  f__law_size := ⟨_, _, He.glo_ok X G (c.fact 61 (f := .glo "_law_size") rfl), (c.def_ 42 (d := (⟨("_law_size", none), "_law_size", "_law_size", defArgs (Sw.top 44), defBody (Sw.top 44), defScope (Sw.top 44), [], []⟩ : He.DefD)) rfl).choose_spec⟩
  f__law_strikes := ⟨_, _, He.glo_ok X G (c.fact 62 (f := .glo "_law_strikes") rfl), (c.def_ 43 (d := (⟨("_law_strikes", none), "_law_strikes", "_law_strikes", defArgs (Sw.top 45), defBody (Sw.top 45), defScope (Sw.top 45), [], []⟩ : He.DefD)) rfl).choose_spec⟩
  f__law_masks := ⟨_, _, He.glo_ok X G (c.fact 63 (f := .glo "_law_masks") rfl), (c.def_ 44 (d := (⟨("_law_masks", none), "_law_masks", "_law_masks", defArgs (Sw.top 46), defBody (Sw.top 46), defScope (Sw.top 46), [], []⟩ : He.DefD)) rfl).choose_spec⟩
  f__law_set_of := ⟨_, _, He.glo_ok X G (c.fact 64 (f := .glo "_law_set_of") rfl), (c.def_ 45 (d := (⟨("_law_set_of", none), "_law_set_of", "_law_set_of", defArgs (Sw.top 47), defBody (Sw.top 47), defScope (Sw.top 47), [], []⟩ : He.DefD)) rfl).choose_spec⟩
  f__law_hit := ⟨_, _, He.glo_ok X G (c.fact 65 (f := .glo "_law_hit") rfl), (c.def_ 46 (d := (⟨("_law_hit", none), "_law_hit", "_law_hit", defArgs (Sw.top 48), defBody (Sw.top 48), defScope (Sw.top 48), [], []⟩ : He.DefD)) rfl).choose_spec⟩
  f__law_kept := ⟨_, _, He.glo_ok X G (c.fact 66 (f := .glo "_law_kept") rfl), (c.def_ 47 (d := (⟨("_law_kept", none), "_law_kept", "_law_kept", defArgs (Sw.top 49), defBody (Sw.top 49), defScope (Sw.top 49), [], []⟩ : He.DefD)) rfl).choose_spec⟩
  f__law_is_quiet := ⟨_, _, He.glo_ok X G (c.fact 67 (f := .glo "_law_is_quiet") rfl), (c.def_ 48 (d := (⟨("_law_is_quiet", none), "_law_is_quiet", "_law_is_quiet", defArgs (Sw.top 50), defBody (Sw.top 50), defScope (Sw.top 50), [], []⟩ : He.DefD)) rfl).choose_spec⟩
  f__law_stands := ⟨_, _, He.glo_ok X G (c.fact 68 (f := .glo "_law_stands") rfl), (c.def_ 49 (d := (⟨("_law_stands", none), "_law_stands", "_law_stands", defArgs (Sw.top 51), defBody (Sw.top 51), defScope (Sw.top 51), [], []⟩ : He.DefD)) rfl).choose_spec⟩
  f__law_is_whole := ⟨_, _, He.glo_ok X G (c.fact 69 (f := .glo "_law_is_whole") rfl), (c.def_ 50 (d := (⟨("_law_is_whole", none), "_law_is_whole", "_law_is_whole", defArgs (Sw.top 52), defBody (Sw.top 52), defScope (Sw.top 52), [], []⟩ : He.DefD)) rfl).choose_spec⟩
  f__law_all_standing := ⟨_, _, He.glo_ok X G (c.fact 70 (f := .glo "_law_all_standing") rfl), (c.def_ 51 (d := (⟨("_law_all_standing", none), "_law_all_standing", "_law_all_standing", defArgs (Sw.top 53), defBody (Sw.top 53), defScope (Sw.top 53), [], []⟩ : He.DefD)) rfl).choose_spec⟩
  f__law_greatest := ⟨_, _, He.glo_ok X G (c.fact 71 (f := .glo "_law_greatest") rfl), (c.def_ 52 (d := (⟨("_law_greatest", none), "_law_greatest", "_law_greatest", defArgs (Sw.top 54), defBody (Sw.top 54), defScope (Sw.top 54), [], []⟩ : He.DefD)) rfl).choose_spec⟩
  f__law_least := ⟨_, _, He.glo_ok X G (c.fact 72 (f := .glo "_law_least") rfl), (c.def_ 53 (d := (⟨("_law_least", none), "_law_least", "_law_least", defArgs (Sw.top 55), defBody (Sw.top 55), defScope (Sw.top 55), [], []⟩ : He.DefD)) rfl).choose_spec⟩
  f__law_drawn := ⟨_, _, He.glo_ok X G (c.fact 73 (f := .glo "_law_drawn") rfl), (c.def_ 54 (d := (⟨("_law_drawn", none), "_law_drawn", "_law_drawn", defArgs (Sw.top 56), defBody (Sw.top 56), defScope (Sw.top 56), [], []⟩ : He.DefD)) rfl).choose_spec⟩
  f__law_granted := ⟨_, _, He.glo_ok X G (c.fact 74 (f := .glo "_law_granted") rfl), (c.def_ 55 (d := (⟨("_law_granted", none), "_law_granted", "_law_granted", defArgs (Sw.top 57), defBody (Sw.top 57), defScope (Sw.top 57), [], []⟩ : He.DefD)) rfl).choose_spec⟩
  f__law_world := ⟨_, _, He.glo_ok X G (c.fact 75 (f := .glo "_law_world") rfl), (c.def_ 56 (d := (⟨("_law_world", none), "_law_world", "_law_world", defArgs (Sw.top 58), defBody (Sw.top 58), defScope (Sw.top 58), [], []⟩ : He.DefD)) rfl).choose_spec⟩
  f__law_asked := ⟨_, _, He.glo_ok X G (c.fact 76 (f := .glo "_law_asked") rfl), (c.def_ 57 (d := (⟨("_law_asked", none), "_law_asked", "_law_asked", defArgs (Sw.top 59), defBody (Sw.top 59), defScope (Sw.top 59), [], []⟩ : He.DefD)) rfl).choose_spec⟩
  f_law := ⟨_, _, He.glo_ok X G (c.fact 77 (f := .glo "law") rfl), (c.def_ 58 (d := (⟨("law", none), "law", "law", defArgs (Sw.top 60), defBody (Sw.top 60), defScope (Sw.top 60), [], []⟩ : He.DefD)) rfl).choose_spec⟩
  g_MOST_TOLD := He.int_ok X G (c.fact 6 (f := .int "MOST_TOLD" 300) rfl)
  g_LETTERS := He.str_ok X G (c.fact 42 (f := .str "LETTERS" "abcdefghijklmnopqrstuvwxyz") rfl)
  g_MOST_NAME := He.int_ok X G (c.fact 43 (f := .int "MOST_NAME" 8) rfl)
  z_len := He.free_ok X G (c.fact 78 (f := .free "len") rfl)
  z_sorted := He.free_ok X G (c.fact 79 (f := .free "sorted") rfl)
  z_any := He.free_ok X G (c.fact 80 (f := .free "any") rfl)
  z_all := He.free_ok X G (c.fact 81 (f := .free "all") rfl)
  z_list := He.free_ok X G (c.fact 82 (f := .free "list") rfl)
  z_tuple := He.free_ok X G (c.fact 83 (f := .free "tuple") rfl)
  z_dict := He.free_ok X G (c.fact 84 (f := .free "dict") rfl)
  z_range := He.free_ok X G (c.fact 85 (f := .free "range") rfl)
  z_enumerate := He.free_ok X G (c.fact 86 (f := .free "enumerate") rfl)
  z_isinstance := He.free_ok X G (c.fact 87 (f := .free "isinstance") rfl)
  z_abs := He.free_ok X G (c.fact 88 (f := .free "abs") rfl)
  z_int := He.free_ok X G (c.fact 89 (f := .free "int") rfl)
  z_min := He.free_ok X G (c.fact 90 (f := .free "min") rfl)
  z_max := He.free_ok X G (c.fact 91 (f := .free "max") rfl)
  z_str := He.free_ok X G (c.fact 92 (f := .free "str") rfl)
  z_bool := He.free_ok X G (c.fact 93 (f := .free "bool") rfl)
  z_zip := He.free_ok X G (c.fact 94 (f := .free "zip") rfl)
  z_reversed := He.free_ok X G (c.fact 95 (f := .free "reversed") rfl)
  z_set := He.free_ok X G (c.fact 96 (f := .free "set") rfl)
  z_sum := He.free_ok X G (c.fact 97 (f := .free "sum") rfl)
  z_ValueError := He.free_ok X G (c.fact 98 (f := .free "ValueError") rfl)
  g_StrikeError := He.glo_ok X G (c.fact 0 (f := .glo "StrikeError") rfl)
  ex_StrikeError := Sw.ExW.of (He.exc_ok (c.fact 1 (f := .exc "StrikeError") rfl))
  g_NoName := He.glo_ok X G (c.fact 2 (f := .glo "NoName") rfl)
  ex_NoName := Sw.ExW.of (He.exc_ok (c.fact 3 (f := .exc "NoName") rfl))
  g_TooMany := He.glo_ok X G (c.fact 4 (f := .glo "TooMany") rfl)
  ex_TooMany := Sw.ExW.of (He.exc_ok (c.fact 5 (f := .exc "TooMany") rfl))
  g_Sieve := He.glo_ok X G (c.fact 7 (f := .glo "Sieve") rfl)
  cl_Sieve := He.cls_ok (c.fact 8 (f := .cls "Sieve") rfl)
  na_Sieve_order := He.noat_ok (c.fact 9 (f := .noat "Sieve" "order") rfl)
  na_Sieve_hitters := He.noat_ok (c.fact 10 (f := .noat "Sieve" "hitters") rfl)
  na_Sieve_hits := He.noat_ok (c.fact 11 (f := .noat "Sieve" "hits") rfl)
  mk_Sieve := He.mkr_ok (c.fact 12 (f := .mkr "Sieve") rfl)
  fd_Sieve___init__ := c.def_ 0 (d := (⟨("Sieve", some "__init__"), "__init__", "Sieve.__init__", defArgs (inClass (Sw.top 9) 0), defBody (inClass (Sw.top 9) 0), defScope (inClass (Sw.top 9) 0), [], []⟩ : He.DefD)) rfl
  me_Sieve_mask_for := He.meth_ok (c.fact 13 (f := .meth "Sieve" "mask_for") rfl)
  fd_Sieve_mask_for := c.def_ 1 (d := (⟨("Sieve", some "mask_for"), "mask_for", "Sieve.mask_for", defArgs (inClass (Sw.top 9) 1), defBody (inClass (Sw.top 9) 1), defScope (inClass (Sw.top 9) 1), [], []⟩ : He.DefD)) rfl
  me_Sieve_names_for := He.meth_ok (c.fact 14 (f := .meth "Sieve" "names_for") rfl)
  fd_Sieve_names_for := c.def_ 2 (d := (⟨("Sieve", some "names_for"), "names_for", "Sieve.names_for", defArgs (inClass (Sw.top 9) 2), defBody (inClass (Sw.top 9) 2), defScope (inClass (Sw.top 9) 2), [], []⟩ : He.DefD)) rfl
  me_Sieve_hit_by_all := He.meth_ok (c.fact 15 (f := .meth "Sieve" "hit_by_all") rfl)
  fd_Sieve_hit_by_all := c.def_ 3 (d := (⟨("Sieve", some "hit_by_all"), "hit_by_all", "Sieve.hit_by_all", defArgs (inClass (Sw.top 9) 3), defBody (inClass (Sw.top 9) 3), defScope (inClass (Sw.top 9) 3), [], []⟩ : He.DefD)) rfl
  me_Sieve_kept_mask := He.meth_ok (c.fact 16 (f := .meth "Sieve" "kept_mask") rfl)
  fd_Sieve_kept_mask := c.def_ 4 (d := (⟨("Sieve", some "kept_mask"), "kept_mask", "Sieve.kept_mask", defArgs (inClass (Sw.top 9) 4), defBody (inClass (Sw.top 9) 4), defScope (inClass (Sw.top 9) 4), [], []⟩ : He.DefD)) rfl
  me_Sieve_quiet_masks := He.meth_ok (c.fact 17 (f := .meth "Sieve" "quiet_masks") rfl)
  fd_Sieve_quiet_masks := c.def_ 5 (d := (⟨("Sieve", some "quiet_masks"), "quiet_masks", "Sieve.quiet_masks", defArgs (inClass (Sw.top 9) 5), defBody (inClass (Sw.top 9) 5), defScope (inClass (Sw.top 9) 5), [], []⟩ : He.DefD)) rfl
  me_Sieve_standing_masks := He.meth_ok (c.fact 18 (f := .meth "Sieve" "standing_masks") rfl)
  fd_Sieve_standing_masks := c.def_ 6 (d := (⟨("Sieve", some "standing_masks"), "standing_masks", "Sieve.standing_masks", defArgs (inClass (Sw.top 9) 6), defBody (inClass (Sw.top 9) 6), defScope (inClass (Sw.top 9) 6), [], []⟩ : He.DefD)) rfl
  me_Sieve_whole_masks := He.meth_ok (c.fact 19 (f := .meth "Sieve" "whole_masks") rfl)
  fd_Sieve_whole_masks := c.def_ 7 (d := (⟨("Sieve", some "whole_masks"), "whole_masks", "Sieve.whole_masks", defArgs (inClass (Sw.top 9) 7), defBody (inClass (Sw.top 9) 7), defScope (inClass (Sw.top 9) 7), [], []⟩ : He.DefD)) rfl
  me_Sieve_greatest_masks := He.meth_ok (c.fact 20 (f := .meth "Sieve" "greatest_masks") rfl)
  fd_Sieve_greatest_masks := c.def_ 8 (d := (⟨("Sieve", some "greatest_masks"), "greatest_masks", "Sieve.greatest_masks", defArgs (inClass (Sw.top 9) 8), defBody (inClass (Sw.top 9) 8), defScope (inClass (Sw.top 9) 8), [], []⟩ : He.DefD)) rfl
  me_Sieve_outright_masks := He.meth_ok (c.fact 21 (f := .meth "Sieve" "outright_masks") rfl)
  fd_Sieve_outright_masks := c.def_ 9 (d := (⟨("Sieve", some "outright_masks"), "outright_masks", "Sieve.outright_masks", defArgs (inClass (Sw.top 9) 9), defBody (inClass (Sw.top 9) 9), defScope (inClass (Sw.top 9) 9), [], []⟩ : He.DefD)) rfl
  me_Sieve_rising_sets := He.meth_ok (c.fact 22 (f := .meth "Sieve" "rising_sets") rfl)
  fd_Sieve_rising_sets := c.def_ 10 (d := (⟨("Sieve", some "rising_sets"), "rising_sets", "Sieve.rising_sets", defArgs (inClass (Sw.top 9) 10), defBody (inClass (Sw.top 9) 10), defScope (inClass (Sw.top 9) 10), [], []⟩ : He.DefD)) rfl
  g_Web := He.glo_ok X G (c.fact 46 (f := .glo "Web") rfl)
  cl_Web := He.cls_ok (c.fact 47 (f := .cls "Web") rfl)
  na_Web_strikers_by := He.noat_ok (c.fact 48 (f := .noat "Web" "strikers_by") rfl)
  na_Web_struck_by := He.noat_ok (c.fact 49 (f := .noat "Web" "struck_by") rfl)
  na_Web_own_pairs := He.noat_ok (c.fact 50 (f := .noat "Web" "own_pairs") rfl)
  mk_Web := He.mkr_ok (c.fact 51 (f := .mkr "Web") rfl)
  fd_Web___init__ := c.def_ 32 (d := (⟨("Web", some "__init__"), "__init__", "Web.__init__", defArgs (inClass (Sw.top 38) 0), defBody (inClass (Sw.top 38) 0), defScope (inClass (Sw.top 38) 0), [], []⟩ : He.DefD)) rfl
  me_Web_all_names := He.meth_ok (c.fact 52 (f := .meth "Web" "all_names") rfl)
  fd_Web_all_names := c.def_ 33 (d := (⟨("Web", some "all_names"), "all_names", "Web.all_names", defArgs (inClass (Sw.top 38) 1), defBody (inClass (Sw.top 38) 1), defScope (inClass (Sw.top 38) 1), [], []⟩ : He.DefD)) rfl
  me_Web_all_strikes := He.meth_ok (c.fact 53 (f := .meth "Web" "all_strikes") rfl)
  fd_Web_all_strikes := c.def_ 34 (d := (⟨("Web", some "all_strikes"), "all_strikes", "Web.all_strikes", defArgs (inClass (Sw.top 38) 2), defBody (inClass (Sw.top 38) 2), defScope (inClass (Sw.top 38) 2), [], []⟩ : He.DefD)) rfl
  me_Web_look_name := He.meth_ok (c.fact 54 (f := .meth "Web" "look_name") rfl)
  fd_Web_look_name := c.def_ 35 (d := (⟨("Web", some "look_name"), "look_name", "Web.look_name", defArgs (inClass (Sw.top 38) 3), defBody (inClass (Sw.top 38) 3), defScope (inClass (Sw.top 38) 3), [], []⟩ : He.DefD)) rfl
  me_Web_strikers := He.meth_ok (c.fact 55 (f := .meth "Web" "strikers") rfl)
  fd_Web_strikers := c.def_ 36 (d := (⟨("Web", some "strikers"), "strikers", "Web.strikers", defArgs (inClass (Sw.top 38) 4), defBody (inClass (Sw.top 38) 4), defScope (inClass (Sw.top 38) 4), [], []⟩ : He.DefD)) rfl
  me_Web_struck := He.meth_ok (c.fact 56 (f := .meth "Web" "struck") rfl)
  fd_Web_struck := c.def_ 37 (d := (⟨("Web", some "struck"), "struck", "Web.struck", defArgs (inClass (Sw.top 38) 5), defBody (inClass (Sw.top 38) 5), defScope (inClass (Sw.top 38) 5), [], []⟩ : He.DefD)) rfl
theorem facts {P : Program} {w : World} {K : PySem.W.Frag} {h : Heap} {mg : Str → Option Value} {f : Addr} (X : K.In h) (G : h.Ns mainGlobals mg) (hfa : mg ("law" : Str) = some (.ref f)) (c : He.SaysD fa fn K) :
    ∃ fd : FuncData, (∀ (s : Shared) (v : Value), BindsTo s fd ⟨[v], []⟩ [("_law_script", v)]) ∧ ∀ base : Heap, K.In base → base.Ns mainGlobals mg → FnOk P w K mg base CX0 39 f fd ["_law_script"] (Sw.sp_law K) := by
  obtain ⟨fd, F⟩ := c.def_ 58 (d := (⟨("law", none), "law", "law", defArgs (Sw.top 60), defBody (Sw.top 60), defScope (Sw.top 60), [], []⟩ : He.DefD)) rfl
  have e := hfa.symm.trans (He.glo_ok X G (c.fact 77 (f := .glo "law") rfl))
  cases e
  have b := FunD.bindsA (ps := ["_law_script"]) F fun _ _ _ _ _ _ us hl => match us, hl with | [_], _ => rfl
  exact ⟨fd, fun s v => b s [v] rfl, fun base _ _ => Sw.ok_law (tx X G c) F⟩
end Hd
theorem PySem.Challenge.cw_strikeweave_k46_granted_by_turns_holds : PySem.Challenge.rw_strikeweave_k46_granted_by_turns.Holds :=
  Hd.early fun P w K h mg f X G hfa c => Hd.facts X G hfa c
