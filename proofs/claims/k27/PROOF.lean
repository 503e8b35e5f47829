import PyProof.Rows.All
import Wide.All
import OpenK.AllK
import Wide.FinOn
import HandS.Base
import HandS.Call
import HandS.List
import HandS.Comp
import HandS.Ends
import HandS.Dict
import HandS.Iter
import HandS.Text
import HandS.Words
import HandS.WordsList
import HandS.Exc
import HandS.ExcOwn
import HandS.TryOnly
import HandS.Star
import HandS.Set
import HandS.SetFor
import HandS.Sort
import HandS.IsInst
import HandS.Style
import HandS.ClsMeth
import HandS.SlotsOwn
import KE.KStateDown
import Lean
import HandS.Defaults
import HandS.EndBits
import HandS.Head0
import HandS.Head1
import HandS.Head2
import HandS.HeadEnd
import HandS.HeadHook1
import HandS.HeadHook2
import HandS.More
import HandS.TupAny
import HandS.WordsExc
import HandS.Flow
import KE.Datum
import KE.DatumIndex
import HandS.IterVal
import HandS.OwnIter
import HandS.OwnEq
import KE.KOwnIter
import HandS.RaiseMore
import KE.KUnpackStar
import HandS.FStr
import KE.GoesEnumKw
import PyProof.Rows.CallKw2
import KE.KExcSuper
import HandS.ExcInit
import HandS.ExcField
import HandS.Nested
import KE.KExcIs
import HandS.TryMany
import HandS.ExcIs
import KE.KxField
import PyProof.StrBlock2
import PyProof.FString3
import PySem.Challenge.RW_aloneright_k27_puts_by_one_table
set_option Elab.async false
set_option linter.all false
set_option maxRecDepth 100000
set_option maxHeartbeats 0
/-! The base of our own layer: what is known (G) within what is tracked (H), promises, the steps of a reading. -/
namespace Ax
open PySem PySem.Spec PyProof.Rows L2

/-! ### what is known -/
theorem same_new {H : Hp} {p : Addr} {o : HO} (h : H p = none) : Same H (upd H p o) := fun b x e => (upd_ne (ne_of_none e h)).trans e
/-- from the entry (G0 known, H0 tracked) to now (G known, H tracked) -/
structure Nx (G0 H0 G H : Hp) : Prop where
  g : Same G0 G
  h : Same G H
  e : Same H0 H
  n : ∀ a, G a ≠ none → G0 a ≠ none ∨ H0 a = none
theorem Nx.refl {G H : Hp} (h : Same G H) : Nx G H G H := ⟨Same.refl _, h, Same.refl _, fun _ x => .inl x⟩
theorem Nx.trans {G0 H0 G1 H1 G2 H2 : Hp} (a : Nx G0 H0 G1 H1) (b : Nx G1 H1 G2 H2) : Nx G0 H0 G2 H2 :=
  ⟨a.g.trans b.g, b.h, a.e.trans b.e, fun x hx => (b.n x hx).elim (a.n x) fun z => .inr (a.e.free z)⟩
/-- nothing more is known, more is tracked -/
theorem Nx.more {G0 H0 G H H' : Hp} (N : Nx G0 H0 G H) (s : Same H H') : Nx G0 H0 G H' := ⟨N.g, N.h.trans s, N.e.trans s, N.n⟩
/-- an object of the def's own is changed -/
theorem Nx.mut {G0 H0 G H : Hp} {l : Addr} {o : HO} (N : Nx G0 H0 G H) (h0 : H0 l = none) (hg : G l = none) : Nx G0 H0 G (upd H l o) :=
  ⟨N.g, fun b x e => (upd_ne (ne_of_none e hg)).trans (N.h b x e), fun b x e => (upd_ne (ne_of_none e h0)).trans (N.e b x e), N.n⟩
/-- a tracked object of the def's own becomes known -/
theorem Nx.fz {G0 H0 G H : Hp} {l : Addr} {o : HO} (N : Nx G0 H0 G H) (h : H l = some o) (h0 : H0 l = none) (hg : G l = none) : Nx G0 H0 (upd G l o) H :=
  ⟨N.g.trans (same_new hg), fun b x e => by
    by_cases hb : b = l
    · subst hb; rw [upd_same] at e; cases e; exact h
    · rw [upd_ne hb] at e; exact N.h b x e, N.e, fun a ha => by
    by_cases hb : a = l
    · subst hb; exact .inr h0
    · rw [upd_ne hb] at ha; exact N.n a ha⟩
theorem Nx.newk {G0 H0 G H : Hp} {p : Addr} {o : HO} (N : Nx G0 H0 G H) (h : H p = none) : Nx G0 H0 (upd G p o) (upd H p o) :=
  (N.more (same_new h)).fz upd_same (N.e.free h) (N.h.free h)
/-- what is tracked and not known stays unknown -/
theorem Nx.hid {G H G' H' : Hp} {l : Addr} {o : HO} (n : Nx G H G' H') (h : H l = some o) (hg : G l = none) : G' l = none := by
  cases q : G' l with
  | none => rfl
  | some x =>
    rcases n.n l (by rw [q]; exact fun z => nomatch z) with z | z
    · exact absurd hg z
    · rw [h] at z; cases z
theorem ne_none {H : Hp} {a : Addr} {o : HO} (h : H a = some o) : H a ≠ none := by rw [h]; exact fun z => nomatch z
theorem ne_nn {H : Hp} {a b : Addr} (h : H a ≠ none) (h' : H b = none) : a ≠ b := fun e => h (e ▸ h')
theorem Same.get {G G' : Hp} {a : Addr} {o : HO} (s : Same G G') (h : G a = some o) : G' a = some o := s a o h

/-! ### promises -/
/-- the arguments (told by a datum), the result, the error -/
def spX {α : Type} (A : α → List V → Hp → Prop) (R : α → V → Hp → Prop) (X : α → Value → Option Addr → Hp → Prop) : Sp := fun vs H Q E =>
  ∃ (a : α) (G : Hp), Same G H ∧ A a vs G ∧ (∀ v G' H', Nx G H G' H' → R a v G' → Q v H') ∧ (∀ c d G' H', Nx G H G' H' → X a c d G' → E c d H')
def NoX {α : Type} : α → Value → Option Addr → Hp → Prop := fun _ _ _ _ => False
/-- a call, by its promise -/
theorem cl {α : Type} {A : α → List V → Hp → Prop} {R : α → V → Hp → Prop} {X : α → Value → Option Addr → Hp → Prop} {vs : List V} {H G0 H0 G : Hp} {Q : VK} {E : XK}
    (N : Nx G0 H0 G H) (a : α) (ha : A a vs G) (k : ∀ v G' H', Nx G0 H0 G' H' → Nx G H G' H' → R a v G' → Q v H')
    (x : ∀ c d G' H', Nx G0 H0 G' H' → Nx G H G' H' → X a c d G' → E c d H') : spX A R X vs H Q E :=
  ⟨a, G, N.h, ha, fun v G' H' n r => k v G' H' (N.trans n) n r, fun c d G' H' n r => x c d G' H' (N.trans n) n r⟩
theorem cl0 {α : Type} {A : α → List V → Hp → Prop} {R : α → V → Hp → Prop} {vs : List V} {H G0 H0 G : Hp} {Q : VK} {E : XK}
    (N : Nx G0 H0 G H) (a : α) (ha : A a vs G) (k : ∀ v G' H', Nx G0 H0 G' H' → Nx G H G' H' → R a v G' → Q v H') : spX A R NoX vs H Q E :=
  cl N a ha k fun _ _ _ _ _ _ z => z.elim
theorem FnR.spx {P : Program} {w : World} {K : PySem.W.Frag} {mg : Str → Option Value} {base : Heap} {CX : CXT} {k : Nat} {f : Addr} {α β : Type} {A : α → List V → Hp → Prop} {R : α → V → Hp → Prop} {X : α → Value → Option Addr → Hp → Prop}
    {A' : β → List V → Hp → Prop} {R' : β → V → Hp → Prop} {X' : β → Value → Option Addr → Hp → Prop} (F : FnR P w K mg base CX k f (spX A R X)) (g : β → α) (ha : ∀ b vs G, A' b vs G → A (g b) vs G)
    (hr : ∀ b v G, R (g b) v G → R' b v G) (hx : ∀ b c d G, X (g b) c d G → X' b c d G) : FnR P w K mg base CX k f (spX A' R' X') :=
  F.imp fun vs H Q E ⟨b, G, s, a, q, e⟩ => ⟨g b, G, s, ha b vs G a, fun v G' H' n r => q v G' H' n (hr b v G' r), fun c d G' H' n r => e c d G' H' n (hx b c d G' r)⟩

/-! ### the steps of a reading -/
section
variable {σ : L2.St} {H G0 H0 G : Hp} {Q : VK} {D : Ends}
theorem w_var {i : Nat} {v : V} (h : σ[i]? = some (some v)) (q : Q v H) : tVar i σ H Q := ⟨v, h, q⟩
theorem w_c {v : V} (q : Q v H) : tC v σ H Q := q
theorem w_op {r : R2} {ta tb : TE} (q : ta σ H fun x H1 => tb σ H1 fun y H2 => r x y H2 Q) : tOp r ta tb σ H Q := q
theorem w_un {r : V → Hp → VK → Prop} {ta : TE} (q : ta σ H fun x H1 => r x H1 Q) : tUn r ta σ H Q := q
theorem w_seq {t u : TS} (q : t { D with nx := u D } σ H) : tSeq t u D σ H := q
theorem w_next (q : D.nx σ H) : tNext D σ H := q
theorem w_asg {te : TE} {i : Nat} (q : te σ H fun x H1 => D.nx (σ.set i (some x)) H1) : tAsg te (gName i) D σ H := q
theorem w_ret {te : TE} (q : te σ H D.rt) : tRet te D σ H := q
theorem w_retN (q : D.rt .non H) : tRetN D σ H := q
theorem w_drop {te : TE} (q : te σ H fun _ H1 => D.nx σ H1) : tDrop te D σ H := q
theorem w_if {c : TT} {t u : TS} (q : c σ H fun b H1 => if b = true then t D σ H1 else u D σ H1) : tIfS c t u D σ H := q
theorem w_test {te : TE} {Q : Bool → Hp → Prop} (q : te σ H fun x H1 => ∃ k, x = .bl k ∧ Q k H1) : tTest te σ H Q := q
theorem w_b {te : TE} {Q : Bool → Hp → Prop} (q : te σ H fun x H1 => ∃ k, x = .bl k ∧ Q k H1) : tB te σ H Q := q
theorem w_bl {b : Bool} {P : Bool → Prop} (q : P b) : ∃ k, V.bl b = .bl k ∧ P k := ⟨b, rfl, q⟩
theorem w_nil {Q : List V → Hp → Prop} (q : Q [] H) : tNil σ H Q := q
theorem w_cons {te : TE} {tr : TA} {Q : List V → Hp → Prop} (q : te σ H fun x H1 => tr σ H1 fun xs H2 => Q (x :: xs) H2) : tCons te tr σ H Q := q
theorem w_cb {r : List V → Hp → VK → Prop} {t : TA} (q : t σ H fun vs H1 => r vs H1 Q) : tCB r t σ H Q := q
theorem w_I0 {g : Int → Int → V} {i j : Int} (q : Q (g i j) H) : rI0 g (.int i) (.int j) H Q := ⟨i, j, rfl, rfl, q⟩
theorem w_I {C : Int → Int → Prop} {g : Int → Int → V} {i j : Int} (h : C i j) (q : Q (g i j) H) : rI C g (.int i) (.int j) H Q := ⟨i, j, rfl, rfl, h, q⟩
theorem w_not {t : TT} {Q : Bool → Hp → Prop} (q : t σ H fun c H1 => Q (!c) H1) : tNot t σ H Q := q
theorem w_and {t u : TT} {Q : Bool → Hp → Prop} (q : t σ H fun c H1 => if c = true then u σ H1 Q else Q false H1) : tAnd t u σ H Q := q
theorem w_or {t u : TT} {Q : Bool → Hp → Prop} (q : t σ H fun c H1 => if c = true then Q true H1 else u σ H1 Q) : tOr t u σ H Q := q
theorem w_tif {t : TT} {ta tb : TE} (q : t σ H fun c H1 => if c = true then ta σ H1 Q else tb σ H1 Q) : tIf t ta tb σ H Q := q
theorem w_notV {ta : TE} (q : ta σ H fun x H1 => ∃ c, x = .bl c ∧ Q (.bl (!c)) H1) : tNotV ta σ H Q := q
theorem w_andV {ta tb : TE} (q : ta σ H fun x H1 => ∃ c, x = .bl c ∧ if c = true then tb σ H1 Q else Q (.bl false) H1) : tAndV ta tb σ H Q := q
theorem w_orV {ta tb : TE} (q : ta σ H fun x H1 => ∃ c, x = .bl c ∧ if c = true then Q (.bl true) H1 else tb σ H1 Q) : tOrV ta tb σ H Q := q
theorem w_fld {K : PySem.W.Frag} {ta : TE} {f : Str} (q : ta σ H fun x H1 => ∃ a C dx fs v, x = .ref a ∧ H1 a = some (.ins C dx fs) ∧ Cls K C ∧ NoAttr K C f ∧ fs.lookup f = some v ∧ Q v H1) : tFld K ta f σ H Q := q
theorem w_fldE {K : PySem.W.Frag} {f : Str} {a C dx : Addr} {fs : List (Str × V)} {v : V} (h : H a = some (.ins C dx fs)) (c : Cls K C) (n : NoAttr K C f) (l : fs.lookup f = some v) (q : Q v H) :
    ∃ a' C dx fs v, V.ref a = .ref a' ∧ H a' = some (.ins C dx fs) ∧ Cls K C ∧ NoAttr K C f ∧ fs.lookup f = some v ∧ Q v H := ⟨a, C, dx, fs, v, rfl, h, c, n, l, q⟩
/-- a new object, known from now on -/
theorem nw {o : HO} (N : Nx G0 H0 G H) (k : ∀ p G' H', Nx G0 H0 G' H' → Nx G H G' H' → G' p = some o → Q (.ref p) H') : ∀ p, H p = none → Q (.ref p) (upd H p o) := fun p hp =>
  k p (upd G p o) _ (N.newk hp) ((Nx.refl N.h).newk hp) upd_same
/-- a new object of the def's own, that may change -/
theorem nwm {o : HO} (N : Nx G0 H0 G H) (k : ∀ p H', Nx G0 H0 G H' → Nx G H G H' → H' p = some o → G p = none → H0 p = none → Q (.ref p) H') : ∀ p, H p = none → Q (.ref p) (upd H p o) := fun p hp =>
  k p _ (N.more (same_new hp)) ((Nx.refl N.h).more (same_new hp)) upd_same (N.h.free hp) (N.e.free hp)
end
theorem sz {n : Nat} (h : n ≤ 100000) : n ≤ sizeLine := Nat.le_trans h (by decide)
theorem szl {n : Nat} (h : n < 100000) : n < sizeLine := Nat.lt_of_lt_of_le h (by decide)
end Ax

/-! What is walked (Src), for loops and comprehensions over it. -/
namespace Ax
open PySem PySem.Spec PyProof.Rows L2

theorem Same.seqL {K : PySem.W.Frag} {H H' : Hp} {a : Addr} {xs : List V} (e : Same H H') (h : SqL K H a xs) : SqL K H' a xs := e.seq h
theorem Same.seqT {K : PySem.W.Frag} {H H' : Hp} {a : Addr} {xs : List V} (e : Same H H') (h : SqT K H a xs) : SqT K H' a xs := by
  rcases h with (h | ⟨o, h⟩) | h
  · exact .inl (.inl (e _ _ h))
  · exact .inl (.inr ⟨o, e _ _ h⟩)
  · exact .inr h
theorem sqL {K : PySem.W.Frag} {H : Hp} {a : Addr} {xs : List V} (h : H a = some (.lst xs)) : SqL K H a xs := .inl (.inl h)
theorem sqT {K : PySem.W.Frag} {H : Hp} {a : Addr} {xs : List V} (h : H a = some (.tup xs)) : SqT K H a xs := .inl (.inl h)

/-- what an iterator gives, from the known heap G on: n turns, the i-th one an x with Y i x -/
structure Src (J : It) (G : Hp) (n : Nat) (Y : Nat → V → Hp → Prop) : Prop where
  go : ∀ i H', i < n → Same G H' → J.go i H'
  stop : ∀ i H', n ≤ i → Same G H' → J.stop i H'
  yld : ∀ i x G' H' H'', i < n → Same G G' → Same G' H' → J.yld i H' x H'' → ∃ G'', Nx G' H' G'' H'' ∧ Y i x G''
section
variable {K : PySem.W.Frag} {G : Hp} {a b : Addr} {xs ys : List V}
theorem src_list (h : SqL K G a xs) : Src (Itl K a) G xs.length (fun i x _ => xs[i]? = some x) where
  go := fun i H' hi s => ⟨xs, xs[i], Same.seqL s h, List.getElem?_eq_getElem hi⟩
  stop := fun i H' hi s => ⟨xs, Same.seqL s h, hi⟩
  yld := fun i x G' H' H'' hi s s' ⟨e, y⟩ => by subst e; exact ⟨G', Nx.refl s', y xs (Same.seqL (s.trans s') h)⟩
theorem src_tup (h : SqT K G a xs) : Src (Itt K a) G xs.length (fun i x _ => xs[i]? = some x) where
  go := fun i H' hi s => ⟨xs, xs[i], Same.seqT s h, List.getElem?_eq_getElem hi⟩
  stop := fun i H' hi s => ⟨xs, Same.seqT s h, hi⟩
  yld := fun i x G' H' H'' hi s s' ⟨e, y⟩ => by subst e; exact ⟨G', Nx.refl s', y xs (Same.seqT (s.trans s') h)⟩
theorem src_range {lo : Int} {n : Nat} : Src (Itr lo n) G n (fun i x _ => x = .int (lo + i)) where
  go := fun i H' hi s => hi
  stop := fun i H' hi s => hi
  yld := fun i x G' H' H'' hi s s' ⟨e, y⟩ => by subst e; exact ⟨G', Nx.refl s', y⟩
theorem src_str {z : Str} : Src (Its z) G z.cps.size (fun i x _ => ∃ c, z.cps[i]? = some c ∧ x = .str ⟨#[c]⟩) where
  go := fun i H' hi s => hi
  stop := fun i H' hi s => hi
  yld := fun i x G' H' H'' hi s s' ⟨e, y⟩ => by subst e; exact ⟨G', Nx.refl s', y⟩
theorem src_rev (h : SqL K G a xs) : Src (Itv K a xs.length) G xs.length (fun i x _ => xs[xs.length - 1 - i]? = some x) where
  go := fun i H' hi s => ⟨hi, xs, _, Same.seqL s h, List.getElem?_eq_getElem (show xs.length - 1 - i < xs.length by omega)⟩
  stop := fun i H' hi s => hi
  yld := fun i x G' H' H'' hi s s' ⟨e, y⟩ => by subst e; exact ⟨G', Nx.refl s', y xs (Same.seqL (s.trans s') h)⟩
theorem src_enum (h : SqL K G a xs) : Src (Ite K a) G xs.length (fun i x G => ∃ T y, x = .ref T ∧ G T = some (.tup [.int (i : Nat), y]) ∧ xs[i]? = some y) where
  go := fun i H' hi s => ⟨xs, xs[i], Same.seqL s h, List.getElem?_eq_getElem hi⟩
  stop := fun i H' hi s => ⟨xs, Same.seqL s h, hi⟩
  yld := fun i x G' H' H'' hi s s' ⟨T, y, e1, e2, e3, e4⟩ => by subst e3; exact ⟨_, (Nx.refl s').newk e2, T, y, e1, upd_same, e4 xs (Same.seqL (s.trans s') h)⟩
theorem src_zip (h : SqL K G a xs) (h' : SqL K G b ys) : Src (Itz K a b) G (min xs.length ys.length) (fun i x G => ∃ T y z, x = .ref T ∧ G T = some (.tup [y, z]) ∧ xs[i]? = some y ∧ ys[i]? = some z) where
  go := fun i H' hi s => ⟨xs, ys, xs[i]'(by omega), ys[i]'(by omega), Same.seqL s h, Same.seqL s h', List.getElem?_eq_getElem (by omega), List.getElem?_eq_getElem (by omega)⟩
  stop := fun i H' hi s => ⟨xs, ys, Same.seqL s h, Same.seqL s h', by omega⟩
  yld := fun i x G' H' H'' hi s s' ⟨T, y, z, e1, e2, e3, e4, e5⟩ => by
    subst e3; exact ⟨_, (Nx.refl s').newk e2, T, y, z, e1, upd_same, e4 xs (Same.seqL (s.trans s') h), e5 ys (Same.seqL (s.trans s') h')⟩
end

/-! ### for -/
/-- the invariant of a loop: I at turn i, with what is known -/
def LI (G0 H0 G : Hp) (I : Nat → L2.St → Hp → Hp → Prop) (i : Nat) (σ : L2.St) (H : Hp) : Prop := ∃ G', Nx G0 H0 G' H ∧ Same G G' ∧ I i σ G' H
theorem w_for {g : TG} {tb : TS} {D : Ends} {σ : L2.St} {H : Hp} {J : It} {G0 H0 G : Hp} {n : Nat} {Y : Nat → V → Hp → Prop} (S : Src J G n Y) (N : Nx G0 H0 G H)
    (I : Nat → L2.St → Hp → Hp → Prop) (h0 : I 0 σ G H)
    (hs : ∀ i x σ' G' H' G'' H'', i < n → I i σ' G' H' → Nx G0 H0 G'' H'' → Same G G'' → Nx G' H' G'' H'' → Y i x G'' → g x σ' H'' fun σ2 H2 => tb { D with nx := LI G0 H0 G I (i + 1), ct := LI G0 H0 G I (i + 1), bk := D.nx } σ2 H2)
    (hd : ∀ σ' G' H', I n σ' G' H' → Nx G0 H0 G' H' → Same G G' → D.nx σ' H') :
    ∃ W : Nat → Nat → L2.St → Hp → Prop, (∃ m, W 0 m σ H) ∧ ∀ i m σ H, W i m σ H →
      (J.stop i H ∧ D.nx σ H) ∨ (J.go i H ∧ ∃ N : L2.St → Hp → Prop, (∀ σ' H', N σ' H' → ∃ m', m' < m ∧ W (i + 1) m' σ' H') ∧ ∀ x H', J.yld i H x H' → g x σ H' fun σ2 H2 => tb { D with nx := N, ct := N, bk := D.nx } σ2 H2) := by
  refine ⟨fun i m σ H => m = n - i ∧ i ≤ n ∧ LI G0 H0 G I i σ H, ⟨n, by simp, Nat.zero_le _, G, N, Same.refl _, h0⟩, ?_⟩
  rintro i m σ' H' ⟨rfl, hi, G', N', s', p⟩
  by_cases hlt : i < n
  · refine .inr ⟨S.go i H' hlt (s'.trans N'.h), LI G0 H0 G I (i + 1), fun σ2 H2 p2 => ⟨n - (i + 1), by omega, rfl, hlt, p2⟩, fun x H'' y => ?_⟩
    obtain ⟨G'', n1, hy⟩ := S.yld i x G' H' H'' hlt s' N'.h y
    exact hs i x σ' G' H' G'' H'' hlt p (N'.trans n1) (s'.trans n1.g) n1 hy
  · have e : i = n := by omega
    subst e
    exact .inl ⟨S.stop i H' (Nat.le_refl _) (s'.trans N'.h), hd σ' G' H' p N' s'⟩

/-! ### comprehensions -/
/-- e gives, from (G, H) on, a value with R; a test gives b -/
def Gv (te : TE) (σ : L2.St) (G H : Hp) (R : V → Hp → Prop) : Prop := ∀ Q : VK, (∀ v G' H', Nx G H G' H' → R v G' → Q v H') → te σ H Q
def Gt (tt : TT) (σ : L2.St) (G H : Hp) (b : Bool) : Prop := ∀ Q : Bool → Hp → Prop, (∀ G' H', Nx G H G' H' → Q b H') → tt σ H Q
abbrev All2 {α : Type} (R : α → V → Hp → Prop) (G : Hp) (zs : List α) (vs : List V) : Prop := Paired (fun z v => R z v G) zs vs
theorem All2.mono {α : Type} {R : α → V → Hp → Prop} {G G' : Hp} (up : ∀ z v, R z v G → R z v G') {zs : List α} {vs : List V} (h : All2 R G zs vs) : All2 R G' zs vs :=
  Paired.mapP h fun z v r => up z v r
theorem All2.eq {α : Type} {f : α → V} {G : Hp} : ∀ {zs : List α} {vs : List V}, All2 (fun z v _ => v = f z) G zs vs → vs = zs.map f
  | _, _, .nil => rfl
  | _, _, .cons r t => by rw [r, All2.eq (G := G) t]; rfl
theorem All2.of_map {α : Type} {f : α → V} {R : α → V → Hp → Prop} {G : Hp} : ∀ (zs : List α), (∀ z ∈ zs, R z (f z) G) → All2 R G zs (zs.map f)
  | [], _ => .nil
  | z :: zs, h => .cons (h z List.mem_cons_self) (All2.of_map zs fun y hy => h y (List.mem_cons_of_mem _ hy))
theorem Paired.get {α β : Type} {F : α → β → Prop} : ∀ {l : List α} {m : List β} {i : Nat} {y : β}, Paired F l m → m[i]? = some y → ∃ x, l[i]? = some x ∧ F x y
  | _, _, _, _, .nil, h => by simp at h
  | _, _, 0, _, .cons r _, h => by simp at h; subst h; exact ⟨_, rfl, r⟩
  | _, _, i + 1, _, .cons _ t, h => by
    obtain ⟨x, h1, h2⟩ := Paired.get (i := i) t (by simpa using h)
    exact ⟨x, by simpa using h1, h2⟩
theorem take_succ' {α : Type} {l : List α} {i : Nat} {x : α} (h : l[i]? = some x) : l.take (i + 1) = l.take i ++ [x] := by
  rw [List.take_succ, h]; rfl
theorem filter_succ {α : Type} {l : List α} {i : Nat} {x : α} (p : α → Bool) (h : l[i]? = some x) : (l.take (i + 1)).filter p = (l.take i).filter p ++ if p x = true then [x] else [] := by
  rw [take_succ' h, List.filter_append]
  cases e : p x <;> simp [List.filter_cons, e]
/-- [e for target in J if tests]: zs the data of the turns -/
theorem w_lc {α : Type} {g : TG} {tt : TT} {te : TE} {vs : List Nat} {σ : L2.St} {H : Hp} {Q : VK} {J : It} {G0 H0 G : Hp} {n : Nat} {Y : Nat → V → Hp → Prop} (S : Src J G n Y) (N : Nx G0 H0 G H)
    (zs : List α) (p : α → Bool) (R : α → V → Hp → Prop) (hn : zs.length = n) (hz : n ≤ 90000) (up : ∀ z v G G', Same G G' → R z v G → R z v G')
    (hs : ∀ i z x G' H', zs[i]? = some z → Same G G' → Same G' H' → Y i x G' → ∃ σ2, (∀ Q : L2.St → Hp → Prop, Q σ2 H' → g x (wipe σ vs) H' Q) ∧ wipe σ2 vs = wipe σ vs ∧ Gt tt σ2 G' H' (p z) ∧
      (p z = true → ∀ G2 H2, Same G' G2 → Same G2 H2 → Gv te σ2 G2 H2 (R z)))
    (k : ∀ D L G' H', Nx G0 H0 G' H' → Nx G H G' H' → H' D = some (.lst L) → G' D = none → H0 D = none → All2 R G' (zs.filter p) L → Q (.ref D) H') :
    ∀ D, H D = none → ∃ W : Nat → Nat → Hp → Prop, (∃ m, W 0 m (upd H D (.lst []))) ∧ ∀ i m H, W i m H →
      (J.stop i H ∧ Q (.ref D) H) ∨ (J.go i H ∧ ∃ Nx : Hp → Prop, (∀ H', Nx H' → ∃ m', m' < m ∧ W (i + 1) m' H') ∧ ∀ x H', J.yld i H x H' → g x (wipe σ vs) H' fun σ2 H2 => wipe σ2 vs = wipe σ vs ∧ tt σ2 H2 fun b H3 =>
        if b = true then te σ2 H3 fun y H4 => ∃ acc, H4 D = some (.lst acc) ∧ acc.length < sizeLine ∧ Nx (upd H4 D (.lst (acc ++ [y]))) else Nx H3) := by
  intro D hD
  let I : Nat → Hp → Prop := fun i H' => ∃ G' L, Nx G H G' H' ∧ H' D = some (.lst L) ∧ G' D = none ∧ L.length ≤ i ∧ All2 R G' ((zs.take i).filter p) L
  have hDG : G D = none := N.h.free hD
  refine ⟨fun i m H' => m = n - i ∧ i ≤ n ∧ I i H', ⟨n, by simp, Nat.zero_le _, G, [], (Nx.refl N.h).more (same_new hD), upd_same, hDG, Nat.le_refl _, .nil⟩, ?_⟩
  rintro i m H' ⟨rfl, hi, G', L, n', hL, gD, hl, hA⟩
  by_cases hlt : i < n
  · refine .inr ⟨S.go i H' hlt (n'.g.trans n'.h), I (i + 1), fun H2 p2 => ⟨n - (i + 1), by omega, rfl, hlt, p2⟩, fun x H'' y => ?_⟩
    obtain ⟨G'', n1, hy⟩ := S.yld i x G' H' H'' hlt n'.g n'.h y
    have hzi : zs[i]? = some (zs[i]'(by omega)) := List.getElem?_eq_getElem (by omega)
    obtain ⟨σ2, hg, hw, ht, he⟩ := hs i _ x G'' H'' hzi (n'.g.trans n1.g) n1.h hy
    refine hg _ ⟨hw, ht _ fun G2 H2 n2 => ?_⟩
    have n3 := n1.trans n2
    have fs := filter_succ p hzi
    cases hp : p (zs[i]'(by omega)) with
    | false =>
      rw [hp] at fs
      refine iteF ⟨G2, L, n'.trans n3, n3.e _ _ hL, n3.hid hL gD, by omega, ?_⟩
      rw [fs]
      simpa using All2.mono (fun z v r => up z v _ _ n3.g r) hA
    | true =>
      rw [hp] at fs
      refine iteT (he hp G2 H2 n2.g n2.h _ fun v G3 H3 n4 r => ?_)
      have n5 := n3.trans n4
      refine ⟨L, n5.e _ _ hL, szl (by omega), G3, L ++ [v], (n'.trans n5).mut hD (n5.hid hL gD), upd_same, n5.hid hL gD, by simp; omega, ?_⟩
      rw [fs, if_pos rfl]
      exact Paired.snoc (All2.mono (fun z v r => up z v _ _ n5.g r) hA) r
  · have e : i = n := by omega
    subst e
    have ef : (zs.take i).filter p = zs.filter p := by rw [← hn, List.take_length]
    rw [ef] at hA
    exact .inl ⟨S.stop i H' (Nat.le_refl _) (n'.g.trans n'.h), k D L G' H' (N.trans n') n' hL gD (N.e.free hD) hA⟩
end Ax

/-! Sets of keys of any plain kind that can be walked: made from a list or a tuple, sorted. -/
namespace Ax
open PySem PySem.Spec PyProof.Rows L2

section
variable {P : Program} {w : World} {K : Type} [DecidableEq K]
def EnK (knd : KeyKind P w K) (k : K) (e : Int × Value) : Prop := knd.is k e.2 = true ∧ e.1 = knd.hash k ∧ e.2.scannable = true
/-- the set at a has the keys ks (in any order), its table can be walked -/
def SKs (knd : KeyKind P w K) (h : Heap) (a : Addr) (ks : List K) : Prop :=
  ∃ (o : Obj) (es : Array (Int × Value)) (ep : Nat) (t : SetTable) (l : List K), h.get? a = some o ∧ o.ExactSet ∧ o.data = .set es ep t ∧ l.Perm ks ∧ Paired (EnK knd) l es.toList ∧ ks.Nodup ∧
    es.size < scanBound ∧ t.fits es.size = true ∧ Ris t.place.toList ∧ (w.params.followText "set-order" = true ∨ t.led = true)
variable {knd : KeyKind P w K} {A : Around} {E : Value → Shared → Prop} {s : Shared} {a : Addr} {ks : List K} {h h' : Heap}
theorem pair_len {α β : Type} {F : α → β → Prop} {l : List α} {m : List β} (p : Paired F l m) : l.length = m.length := Paired.length p
theorem pair_mem {α β : Type} {F : α → β → Prop} : ∀ {l : List α} {m : List β} {y : β}, Paired F l m → y ∈ m → ∃ x ∈ l, F x y
  | _, _, _, .nil, h => by cases h
  | _, _, y, .cons r t, h => by
    rcases List.mem_cons.mp h with e | e
    · subst e; exact ⟨_, List.mem_cons_self, r⟩
    · obtain ⟨x, hx, q⟩ := pair_mem t e
      exact ⟨x, List.mem_cons_of_mem _ hx, q⟩
theorem pair_mem' {α β : Type} {F : α → β → Prop} : ∀ {l : List α} {m : List β} {x : α}, Paired F l m → x ∈ l → ∃ y ∈ m, F x y
  | _, _, _, .nil, h => by cases h
  | _, _, x, .cons r t, h => by
    rcases List.mem_cons.mp h with e | e
    · subst e; exact ⟨_, List.mem_cons_self, r⟩
    · obtain ⟨y, hy, q⟩ := pair_mem' t e
      exact ⟨y, List.mem_cons_of_mem _ hy, q⟩
/-- a permutation on the right is followed on the left -/
theorem pair_perm {α β : Type} {F : α → β → Prop} {m m' : List β} (q : m'.Perm m) : ∀ {l : List α}, Paired F l m → ∃ l', l'.Perm l ∧ Paired F l' m' := by
  induction q with
  | nil => intro l p; cases p; exact ⟨[], .nil, .nil⟩
  | cons y _ ih =>
    intro l p
    cases p with
    | cons r t =>
      obtain ⟨l', h1, h2⟩ := ih t
      exact ⟨_ :: l', h1.cons _, .cons r h2⟩
  | swap x y r =>
    intro l p
    cases p with
    | cons r1 t1 => cases t1 with
      | cons r2 t2 => exact ⟨_, List.Perm.swap _ _ _, .cons r2 (.cons r1 t2)⟩
  | trans _ _ ih1 ih2 =>
    intro l p
    obtain ⟨l1, a1, b1⟩ := ih2 p
    obtain ⟨l2, a2, b2⟩ := ih1 b1
    exact ⟨l2, a2.trans a1, b2⟩
theorem en_elems {l : List K} {es : List (Int × Value)} (p : Paired (EnK knd) l es) : ElemsOf knd es := fun e he => by
  obtain ⟨k, _, h1, h2, h3⟩ := pair_mem p he
  exact ⟨⟨k, h1, h2⟩, h3⟩
theorem SKs.at (R : SKs knd h a ks) (k : ∀ o, h.get? a = some o → h'.get? a = some o) : SKs knd h' a ks := by
  obtain ⟨o, es, ep, t, l, ho, r⟩ := R
  exact ⟨o, es, ep, t, l, k o ho, r⟩
theorem SKs.perm {ks' : List K} (R : SKs knd h a ks) (p : ks.Perm ks') : SKs knd h a ks' := by
  obtain ⟨o, es, ep, t, l, ho, hx, hd, hp, pr, nd, r⟩ := R
  exact ⟨o, es, ep, t, l, ho, hx, hd, hp.trans p, pr, p.nodup_iff.mp nd, r⟩
theorem put_at {h : Heap} {a : Addr} {o : Obj} {es es' : Array (Int × Value)} {ep : Nat} {t t' : SetTable} (ho : h.get? a = some o) (hd : o.data = .set es ep t) :
    (h.update a (Obj.putSet es' t')).get? a = some { o with data := .set es' (ep + 1) t' } := by
  have e := putSet_of es' t' hd
  have z := Heap.get?_update_self (Obj.putSet es' t') ho (by rw [e]; rfl)
  exact z.trans (by rw [e])
/-- what is laid is stored, the table grown where it is too full -/
theorem sks_tail {g : Bool → Sem Unit} (hg : ∀ (b : Bool) (s₁ : Shared) (Q' : Unit → Shared → Prop), Q' () s₁ → wpAny (model P w) A (g b) Q' E s₁) {o : Obj} {es es1 : Array (Int × Value)} {ep : Nat} {t t2 : SetTable} {l : List K}
    (ho : s.heap.get? a = some o) (hex : o.ExactSet) (hd : o.data = .set es ep t) (hl : l.Perm ks) (hp : Paired (EnK knd) l es1.toList) (nd : ks.Nodup) (hb : es1.size < scanBound) (hf : t2.fits es1.size = true)
    (hr : Ris t2.place.toList) (hw : w.params.followText "set-order" = true ∨ t2.led = true) {dum : Bool} {R : Option Bool → Shared → Prop}
    (hR : ∀ h', Heap.SameBut a s.heap h' → SKs knd h' a ks → R (some true) { s with heap := h' }) :
    wpAny (model P w) A (do
        storeSet a es1 t2
        if (!dum && t2.tooFull) = true then do
            g (relayAll t2 es1 (SetTable.grown es1.size)).2.2
            storeSet a (relayAll t2 es1 (SetTable.grown es1.size)).1 (relayAll t2 es1 (SetTable.grown es1.size)).2.1
            pure (some true)
          else pure (some true)) R E s := by
  refine wpAny_bind (wpAny_storeSet_of ho hd ?_ (fits_of_scanBound hb))
  have o1 := put_at (es' := es1) (t' := t2) ho hd
  have b1 := Heap.SameBut.update s.heap a (Obj.putSet es1 t2)
  by_cases hc : (!dum && t2.tooFull) = true
  · rw [if_pos hc]
    have q1 := relayAll_perm t2 es1 (SetTable.grown es1.size)
    have q2 := relayAll_fits t2 es1 (SetTable.grown es1.size)
    have q3 := relayAll_ris t2 es1 (SetTable.grown es1.size)
    have q4 := relayAll_led t2 es1 (SetTable.grown es1.size)
    generalize relayAll t2 es1 (SetTable.grown es1.size) = Z at q1 q2 q3 q4 ⊢
    obtain ⟨es2, t3, gv⟩ := Z
    dsimp only at q1 q2 q3 q4 ⊢
    have z2 : es2.size = es1.size := by rw [← Array.length_toList, q1.length_eq, Array.length_toList]
    have hb2 : es2.size < scanBound := by rw [z2]; exact hb
    refine wpAny_bind (hg _ _ _ (wpAny_bind (wpAny_storeSet_of o1 rfl ?_ (fits_of_scanBound hb2))))
    have o2 := put_at (es' := es2) (t' := t3) o1 rfl
    obtain ⟨l', p1, p2⟩ := pair_perm q1 hp
    exact wpAny_pure (hR _ (b1.trans (Heap.SameBut.update _ a _)) ⟨_, es2, _, t3, l', o2, hex, rfl, p1.trans hl, p2, nd, hb2, q2, q3, hw.imp id fun z => q4.trans z⟩)
  · rw [if_neg hc]
    exact wpAny_pure (hR _ b1 ⟨_, es1, _, t2, l, o1, hex, rfl, hl, hp, nd, hb, hf, hr, hw⟩)
theorem sks_add {k : K} {x : Value} {Q : Bool → Shared → Prop} (R : SKs knd s.heap a ks) (hk : knd.is k x = true) (hsc : x.scannable = true) (room : ks.length + 1 < scanBound)
    (hQ : ∀ b h', Heap.SameBut a s.heap h' → SKs knd h' a (if k ∈ ks then ks else k :: ks) → Q b { s with heap := h' }) :
    wpAny (model P w) A (setAddHashed a x (knd.hash k)) Q E s := by
  obtain ⟨o, es, ep, t, l, ho, hex, hd, hl, hp, nd, hb, hf, hr, hw⟩ := R
  have hel : ElemsOf knd es.toList := en_elems hp
  have hsz : es.size = ks.length := by rw [← Array.length_toList, ← pair_len hp, hl.length_eq]
  unfold setAddHashed setAddHashedIn
  refine wpAny_holding (wpAny_bind (wpAny_setState_of ho hd hf ?_))
  dsimp only
  rw [byScan_of hsc hb hel]
  simp only [↓reduceIte]
  unfold setAddByScan
  refine wpAny_bind (wpAny_bind (wpAny_rule (wpAny_bind (wpAny_setScan_of hk ho hd hf hel ?_))))
  cases hfi : List.findIdx? (fun e => knd.is k e.2) es.toList with
  | some j =>
    dsimp only
    obtain ⟨hj, pj, _⟩ := List.findIdx?_eq_some_iff_getElem.mp hfi
    obtain ⟨k', hm, e1, _, _⟩ := pair_mem hp (List.getElem_mem hj)
    have ek : k = k' := knd.inj _ _ _ pj e1
    have hin : k ∈ ks := by rw [ek]; exact hl.mem_iff.mp hm
    refine wpAny_pure (wpAny_pure ?_)
    exact hQ _ s.heap (Heap.SameBut.refl a s.heap) (by rw [if_pos hin]; exact ⟨o, es, ep, t, l, ho, hex, hd, hl, hp, nd, hb, hf, hr, hw⟩)
  | none =>
    dsimp only
    have hnk : k ∉ ks := fun hm => by
      obtain ⟨e, he, q, _⟩ := pair_mem' hp (hl.mem_iff.mpr hm)
      have c := List.findIdx?_eq_none_iff.mp hfi e he
      rw [q] at c; cases c
    have gw : ∀ (b : Bool) {s₁ : Shared} {Q' : Unit → Shared → Prop}, Q' () s₁ → wpAny (model P w) A (match b with | true => rule "set.scan.the-table-gave-way" | false => pure ()) Q' E s₁ :=
      fun b _ _ q => by cases b <;> first | exact wpAny_pure q | exact wpAny_rule q
    have q1 := layNew_perm t es (knd.hash k) x
    have q2 := layNew_fits t es (knd.hash k) x
    have q3 := layNew_ris t es (knd.hash k) x hr
    have q4 := layNew_led t es (knd.hash k) x
    generalize layNew t es (knd.hash k) x = Z at q1 q2 q3 q4 ⊢
    obtain ⟨es1, t1, dum, gv⟩ := Z
    dsimp only at q1 q2 q3 q4 ⊢
    rw [Array.toList_push] at q1
    obtain ⟨l', p1, p2⟩ := pair_perm (q1.trans (List.perm_append_singleton _ _)) (Paired.cons (F := EnK knd) (a := k) (b := (knd.hash k, x)) ⟨hk, rfl, hsc⟩ hp)
    have pk : l'.Perm (k :: ks) := p1.trans (hl.cons k)
    have nd1 : (k :: ks).Nodup := List.nodup_cons.mpr ⟨hnk, nd⟩
    have hb1 : es1.size < scanBound := by
      rw [← Array.length_toList, ← pair_len p2, pk.length_eq]
      exact room
    have hw1 : w.params.followText "set-order" = true ∨ t1.led = true := hw.imp id fun z => q4.trans z
    have fin : ∀ h', Heap.SameBut a s.heap h' → SKs knd h' a (k :: ks) → Q true { s with heap := h' } := fun h' sb r => hQ true h' sb (by rw [if_neg hnk]; exact r)
    refine wpAny_bind (gw _ ?_)
    split
    · refine wpAny_bind ?_
      rw [hashByValue_scannable 8 hsc]
      refine wpAny_pure (sks_tail ?_ ho hex hd pk p2 nd1 hb1 ?_ ?_ ?_ fun h' sb r => ?_)
      · intro b _ _ q; cases b <;> first | exact wpAny_pure q | exact wpAny_rule q
      · first | (split <;> first | exact q2 | exact SetTable.fits_plain_off q2) | exact q2
      · first | (split <;> exact q3) | exact q3
      · first | (split <;> exact hw1) | exact hw1
      · dsimp only; exact wpAny_pure (fin h' sb r)
    · refine wpAny_bind (wpAny_pure ?_)
      simp only [↓reduceIte]
      refine sks_tail ?_ ho hex hd pk p2 nd1 hb1 q2 q3 hw1 fun h' sb r => ?_
      · intro b _ _ q; cases b <;> first | exact wpAny_pure q | exact wpAny_rule q
      · dsimp only; exact wpAny_pure (fin h' sb r)
/-- what the first i of xs leave -/
def dd (xs : List K) : List K := xs.foldl (fun ks k => if k ∈ ks then ks else k :: ks) []
theorem dd_snoc (xs : List K) (k : K) : dd (xs ++ [k]) = if k ∈ dd xs then dd xs else k :: dd xs := by unfold dd; rw [List.foldl_append]; rfl
theorem dd_mem : ∀ (xs : List K) (k : K), k ∈ dd xs ↔ k ∈ xs := by
  intro xs
  suffices h : ∀ n (ys : List K), ys.length = n → ∀ k, k ∈ dd ys ↔ k ∈ ys from h _ xs rfl
  intro n
  induction n with
  | zero => intro ys hy k; rw [List.length_eq_zero_iff.mp hy]; unfold dd; simp
  | succ n ih =>
    intro ys hy k
    rcases List.eq_nil_or_concat ys with e | ⟨zs, z, e⟩
    · subst e; cases hy
    · rw [List.concat_eq_append] at e
      subst e
      have hz : zs.length = n := by rw [List.length_append] at hy; simpa using hy
      rw [dd_snoc]
      split
      · rename_i hin
        rw [ih zs hz, List.mem_append, List.mem_singleton]
        exact ⟨.inl, fun q => q.elim id fun e => e ▸ (ih zs hz z).mp hin⟩
      · rw [List.mem_cons, ih zs hz, List.mem_append, List.mem_singleton]
        exact Or.comm
theorem dd_len (xs : List K) : (dd xs).length ≤ xs.length := by
  suffices h : ∀ (ys acc : List K), (ys.foldl (fun ks k => if k ∈ ks then ks else k :: ks) acc).length ≤ acc.length + ys.length by
    have := h xs []; simpa [dd] using this
  intro ys
  induction ys with
  | nil => intro acc; simp
  | cons y ys ih =>
    intro acc
    refine Nat.le_trans (ih _) ?_
    show (if y ∈ acc then acc else y :: acc).length + ys.length ≤ _
    split <;> simp <;> omega
theorem dd_nodup (xs : List K) : (dd xs).Nodup := by
  suffices h : ∀ (ys acc : List K), acc.Nodup → (ys.foldl (fun ks k => if k ∈ ks then ks else k :: ks) acc).Nodup from h xs [] List.nodup_nil
  intro ys
  induction ys with
  | nil => intro acc h; exact h
  | cons y ys ih =>
    intro acc h
    refine ih _ ?_
    show (if y ∈ acc then acc else y :: acc).Nodup
    split
    · exact h
    · rename_i hn; exact List.nodup_cons.mpr ⟨hn, h⟩
end
end Ax

/-! set(list), set(tuple) of texts; sorted of such a set. -/
namespace Ax
open PySem PySem.Spec PyProof.Rows L2

section
variable {P : Program} {w : World} {A : Around} {E : Value → Shared → Prop} {s : Shared}
theorem strs_get : ∀ {us : List Value} {xs : List Str}, StrsAre us xs → ∀ (i : Nat) (v : Value), us[i]? = some v → ∃ x t, xs[i]? = some x ∧ v = .str x t
  | _, _, .nil, i, v, h => by simp at h
  | _, _, .cons n t hr, 0, v, h => by simp at h; exact ⟨n, t, rfl, h.symm⟩
  | _, _, .cons n t hr, i + 1, v, h => by
    simp only [List.getElem?_cons_succ] at h ⊢
    exact strs_get hr i v h
/-- the loop of set.update over anything that walks texts -/
theorem set_loop {I : Addr} {fp wr : List Addr} {Gn : Array GenState → Array GenState → Prop} {n : Nat} {Pv : Nat → Value → Prop} {Sv : Nat → Shared → Prop} {R : Result → Shared → Prop}
    (W : WalksS P w A.in1 I fp wr Gn n Pv Sv) (S : Addr) (hSf : S ∉ fp) (xs : List Str) (hn : n = xs.length) (hb : xs.length + 1 < scanBound) (hval : ∀ i v, Pv i v → ∃ x t, xs[i]? = some x ∧ v = .str x t) :
    ∀ (k i : Nat) (s : Shared), n - i = k → i ≤ n → Sv i s → SKs (strKind P w) s.heap S (dd (xs.take i)) →
      (∀ s', Moved (S :: wr) Gn s s' → SKs (strKind P w) s'.heap S (dd xs) → R (.ok (.ret .none)) s') →
      codeAny (model P w) A (.builtin "set.update.loop" ⟨[.ref S, .ref I], []⟩) R s := by
  have hSw : S ∉ wr := fun h => hSf (W.sub _ h)
  have more : ∀ b ∈ wr, b ∈ S :: wr := fun b hb => List.mem_cons_of_mem _ hb
  intro k
  induction k with
  | zero =>
    intro i s hk hi hst hS hR
    have e : i = n := by omega
    subst e
    refine codeAny_builtin F.entry_set_update_loop ?_
    rw [Around.under_plainId F.plain_set_update_loop _]
    show wpAny _ A.in1 (pyNext (.ref I) >>= _) _ _ s
    refine wpAny_bind (W.done s _ _ hst fun s' hm => ?_)
    show wpAny _ A.in1 (ret Value.none) _ _ s'
    rw [hn, List.take_length] at hS
    exact wpAny_pure (hR s' (hm.mono more) (hS.at fun o q => hm.heap S o hSw q))
  | succ k ih =>
    intro i s hk hi hst hS hR
    have lt : i < n := by omega
    refine codeAny_builtin F.entry_set_update_loop ?_
    rw [Around.under_plainId F.plain_set_update_loop _]
    show wpAny _ A.in1 (pyNext (.ref I) >>= _) _ _ s
    refine wpAny_bind (W.item i s _ _ lt hst fun v s' hP hst' hm => ?_)
    obtain ⟨x, t, hx, rfl⟩ := hval i v hP
    have hS' := hS.at fun o q => hm.heap S o hSw q
    show wpAny _ A.in1 (holding [Value.str x t] (setAdd S (.str x t)) >>= _) _ _ s'
    refine wpAny_bind (wpAny_holding ?_)
    unfold setAdd
    have hkx : (strKind P w).is x (.str x t) = true := strKind_is P w x t
    refine wpAny_holding (wpAny_bind ((strKind P w).pyHash hkx ?_))
    have hl : (dd (xs.take i)).length + 1 < scanBound := by
      have h1 := dd_len (xs.take i)
      rw [List.length_take] at h1
      omega
    refine sks_add (s := { s' with toks := s'.toks + 1 }) hS' hkx rfl hl fun b h' sb hS2 => ?_
    have hS3 : SKs (strKind P w) h' S (dd (xs.take (i + 1))) := by rw [take_succ' hx, dd_snoc]; exact hS2
    refine wpAny_pure ⟨plainId_quiet F.plain_set_update_loop _, ih (i + 1) _ (by omega) lt (W.frame _ s' _ _ hst' (Nat.le_add_right _ _) fun b hb o e => ?_) hS3 fun s2 hm2 hq => ?_⟩
    · rw [sb.2 b (fun z : b = S => hSf (by rw [← z]; exact hb))]; exact e
    · refine hR s2 (Moved.trans W.gtrans ((hm.mono more).then_heap (Nat.le_add_right _ _) fun b o hb e => ?_) hm2) hq
      rw [sb.2 b (fun z : b = S => hb (by rw [z]; exact List.mem_cons_self))]; exact e
abbrev set0 (w : World) : Obj := { cls := .type "set", dict := none, data := .set #[] 0 (.fresh 0 0 (!w.params.followText "set-order")) }
theorem sks_fresh {h : Heap} {a : Addr} (ho : h.get? a = some (set0 w)) : SKs (strKind P w) h a [] :=
  ⟨_, #[], 0, _, [], ho, ⟨rfl, rfl, rfl⟩, rfl, .refl _, .nil, List.nodup_nil, by decide, rfl, List.Pairwise.nil, by
    show _ ∨ (!w.params.followText "set-order") = true
    cases w.params.followText "set-order"
    · exact .inr rfl
    · exact .inl rfl⟩
/-- the sequence at l: a list or a tuple -/
def IsSq (h : Heap) (l : Addr) (items : Array Value) (T : String) : Prop := (T = "list" ∧ h.IsList l items) ∨ (T = "tuple" ∧ h.IsTuple l items)
/-- a built-in class is called: made, then its init -/
theorem called_codes {T newId initId : String} {args : List Value} {Q Q₁ : Value → Shared → Prop} (ft : TypeCalled T newId initId) (hct : checkTypeCall T ⟨args, []⟩ = pure ())
    (hnew : codeAny (model P w) A.in1 (.call (.builtin newId) ⟨.type T :: args, []⟩) (wants Q₁ E) s)
    (hnext : ∀ obj s₁, Q₁ obj s₁ → s₁.TypeIs obj T ∧ codeAny (model P w) A.in1 (.call (.builtin initId) ⟨obj :: args, []⟩) (wants (fun r s₂ => r = .none ∧ Q obj s₂) E) s₁) :
    wpAny (model P w) A (call (.type T) args) Q E s := by
  obtain ⟨c, tl, hmro⟩ := ft.mro
  have hmade := ft.made
  have hsub := ft.sub
  refine wpAny_call (codeAny_of_tree ?_)
  show wpAny _ _ (callAny (.type T) _) _ _ _
  refine wpAny_pure ⟨Code.quiet_builtin _ (by decide +kernel), codeAny_builtin F.entry_type_call ?_⟩
  rw [Around.under_plain (weight_type_call_type T args []) rfl]
  have h1 := ft.notType
  have h2 := ft.canCreate
  repeat (any_goals (first | assumption | wp_step))
  refine codeAny_mono hnew fun r s₁ hr => ?_
  clear hnew
  cases r with
  | error e => exact hr
  | ok fl =>
    cases fl with
    | ret obj =>
      obtain ⟨hT, hi⟩ := hnext _ _ hr
      clear hnext
      have hli := ft.init.lookup
      have hbi := ft.init.bind obj
      repeat (any_goals (first | assumption | wp_step))
      refine codeAny_mono hi fun r₂ s₂ hr₂ => ?_
      cases r₂ with
      | error e => exact hr₂
      | ok fl₂ =>
        cases fl₂ with
        | ret r =>
          obtain ⟨rfl, hq⟩ := hr₂
          repeat (any_goals (first | assumption | wp_step))
        | _ => exact hr₂.elim
    | _ => exact hr.elim
/-- what set.__init__ does with an iterator of texts at hand -/
theorem set_init_loop {Q : Value → Shared → Prop} {l : Addr} {xs : List Str} {n : Nat} {Pv : Nat → Value → Prop} {Sv : Nat → Heap → Prop} {it : Obj} {tk : Nat}
    (W : Walks P w A.in1 (s.heap.push (set0 w)).objs.size [(s.heap.push (set0 w)).objs.size, l] [(s.heap.push (set0 w)).objs.size] n Pv Sv) (hl : l < s.heap.objs.size) (hn : n = xs.length) (hb : xs.length + 1 < scanBound)
    (hval : ∀ i v, Pv i v → ∃ x t, xs[i]? = some x ∧ v = .str x t) (hst : Sv 0 ((s.heap.push (set0 w)).push it))
    (hQ : ∀ (h' : Heap) (tk : Nat), SKs (strKind P w) h' s.heap.objs.size (dd xs) → (∀ b o, s.heap.get? b = some o → h'.get? b = some o) → Q .none { s with heap := h', toks := tk }) :
    codeAny (model P w) A (.builtin "set.update.loop" ⟨[.ref s.heap.objs.size, .ref (s.heap.push (set0 w)).objs.size], []⟩) (wants Q E) { s with heap := (s.heap.push (set0 w)).push it, toks := tk } := by
  have hS : (s.heap.push (set0 w)).get? s.heap.objs.size = some (set0 w) := Heap.get?_push_size _ rfl
  have hSf : s.heap.objs.size ∉ [(s.heap.push (set0 w)).objs.size, l] := by
    rw [Heap.size_push]; simp only [List.mem_cons, List.mem_singleton, List.not_mem_nil, or_false, not_or]
    exact ⟨Nat.ne_of_lt (Nat.lt_succ_self _), Nat.ne_of_gt hl⟩
  refine set_loop W.toS s.heap.objs.size hSf xs hn hb hval (n - 0) 0 _ rfl (Nat.zero_le _) hst (sks_fresh (Heap.get?_push_of_some _ hS)) fun s' hm hS' => ?_
  obtain ⟨h', g2, d', tk', os'⟩ := s'
  have eg : g2 = s.gens := hm.gens
  have ed : d' = s.drawn := hm.drawn
  have eo : os' = s.os := hm.os
  subst eg; subst ed; subst eo
  refine hQ h' tk' hS' fun b o e => hm.heap b o (fun hb => ?_) (Heap.get?_push_of_some _ (Heap.get?_push_of_some _ e))
  have lt := Heap.lt_size e
  rcases List.mem_cons.mp hb with z | z
  · rw [z] at lt; exact Nat.lt_irrefl _ lt
  · rw [List.mem_singleton.mp z, Heap.size_push] at lt; exact absurd lt (Nat.not_lt.mpr (Nat.le_succ _))
theorem set_init_T {l I : Addr} {T : String} {s2 : Shared} {P1 : Fin → Shared → Prop} {E1 : Value → Shared → Prop} (hT : s.TypeIs (.ref l) T) (hs : isSubtype (.type T) (.type "set") = pure false) (hf : isSubtype (.type T) (.type "frozenset") = pure false)
    (hne : (Value.type T == Value.type "dict") = false) {a : Addr} (hS : s.heap.get? a = some (set0 w))
    (hpi : ∀ (A' : Around) (E' : Value → Shared → Prop) (Q : Value → Shared → Prop), Q (.ref I) s2 → wpAny (model P w) A' (pyIter (.ref l)) Q E' s)
    (key : codeAny (model P w) A.in1 (.builtin "set.update.loop" ⟨[.ref a, .ref I], []⟩) (fun r s' => match r with | .ok (.ret _) => P1 (.done (.ret .none)) s' | .ok _ => False | .error e => E1 e s') s2) :
    wpAny (model P w) A.in1 (Builtin.«set.__init__» ⟨[.ref a, .ref l], []⟩) P1 E1 s := by
  have hT0 : s.TypeIs (.ref a) "set" := ⟨_, hS, rfl⟩
  obtain ⟨KP, hKP, kp⟩ : ∃ KP : Prop, (KP → codeAny (model P w) A.in1 (.builtin "set.update.loop" ⟨[.ref a, .ref I], []⟩) (fun r s' => match r with | .ok (.ret _) => P1 (.done (.ret .none)) s' | .ok _ => False | .error e => E1 e s') s2) ∧ KP := ⟨_, id, key⟩
  clear key
  unfold Builtin.«set.__init__» noKeywords Builtin.Frozenset.updateFrom
  obtain ⟨hp, g, d, tk, os⟩ := s
  generalize hPI : pyIter = PI at hpi ⊢
  clear hPI
  wp_walk
  refine hpi _ _ _ (wpAny_bind (wpAny_runValue (codeAny_mono (hKP kp) fun r s' hr => ?_)))
  cases r with
  | error e => exact hr
  | ok fl => cases fl with
    | ret v => exact wpAny_pure (wpAny_pure hr)
    | _ => exact hr.elim
theorem call_set_sq {l : Addr} {items : Array Value} {T : String} (xs : List Str) {Q : Value → Shared → Prop} (hh : A.handled = none) (hl : IsSq s.heap l items T) (hi : StrsAre items.toList xs) (hb : xs.length + 1 < scanBound)
    (h : ∀ (h' : Heap) (tk : Nat), SKs (strKind P w) h' s.heap.objs.size (dd xs) → (∀ b o, s.heap.get? b = some o → h'.get? b = some o) → Q (.ref s.heap.objs.size) { s with heap := h', toks := tk }) :
    wpAny (model P w) A (call (.type "set") [.ref l]) Q E s := by
  have hsz : items.size = xs.length := by rw [← Array.length_toList]; exact hi.length
  have hval : ∀ (i : Nat) (v : Value), items[i]? = some v → ∃ x t, xs[i]? = some x ∧ v = .str x t := fun i v hv => by
    have q : items.toList[i]? = some v := by rw [Array.getElem?_toList]; exact hv
    exact strs_get hi i v q
  have hh3 : A.in1.in1.in1.handled = none := by simp [hh]
  refine called_codes F.called_set (F.typeCall_set_1 (.ref l)) (Q₁ := fun obj s₁ => obj = .ref s.heap.objs.size ∧ s₁ = { s with heap := s.heap.push (set0 w) }) (code_set_led1 (A := A.in1) (.ref l) (E := E) ⟨rfl, rfl⟩) ?_
  rintro obj s₁ ⟨rfl, rfl⟩
  have hS : (s.heap.push (set0 w)).get? s.heap.objs.size = some (set0 w) := Heap.get?_push_size _ rfl
  have hT : Shared.TypeIs { s with heap := s.heap.push (set0 w) } (.ref s.heap.objs.size) "set" := ⟨_, hS, rfl⟩
  refine ⟨hT, codeAny_call_builtin F.called_set.init.plain F.entry_set_init (check_set_init_1 hT ?_)⟩
  have fin : ∀ (it : Obj) (I : Addr) (hI : I = (s.heap.push (set0 w)).objs.size), codeAny (model P w) A.in1.in1 (.builtin "set.update.loop" ⟨[.ref s.heap.objs.size, .ref I], []⟩) (wants (fun r s₂ => r = .none ∧ Q (.ref s.heap.objs.size) s₂) E) { s with heap := (s.heap.push (set0 w)).push it } →
      codeAny (model P w) A.in1.in1 (.builtin "set.update.loop" ⟨[.ref s.heap.objs.size, .ref I], []⟩) (fun r s' => match r with | .ok (.ret _) => (Q (.ref s.heap.objs.size) s') | .ok _ => False | .error e => E e s') { s with heap := (s.heap.push (set0 w)).push it } := fun it I _ k =>
    codeAny_mono k fun r s' hr => by
      cases r with
      | error e => exact hr
      | ok fl => cases fl with
        | ret v => exact hr.2
        | _ => exact hr.elim
  rcases hl with ⟨rfl, hl⟩ | ⟨rfl, hl⟩
  · have hlS : l < s.heap.objs.size := by obtain ⟨ol, hol, _⟩ := hl; exact Heap.lt_size hol
    have hneI : l ≠ (s.heap.push (set0 w)).objs.size := by rw [Heap.size_push]; exact Nat.ne_of_lt (Nat.lt_succ_of_lt hlS)
    have hl1 : (s.heap.push (set0 w)).IsList l items := hl.push _
    have hTl : Shared.TypeIs { s with heap := s.heap.push (set0 w) } (.ref l) "list" := by obtain ⟨ol, hol, hcl, _⟩ := hl1; exact ⟨ol, hol, hcl⟩
    refine set_init_T (I := (s.heap.push (set0 w)).objs.size) (s2 := { s with heap := (s.heap.push (set0 w)).push { cls := .type "list_iterator", data := .fields #[.ref l, .int 0 0] } }) hTl F.sub_list_set F.sub_list_frozenset (by decide) hS
      (fun A' E' Q' q => wpAny_pyIter_list hl1 q) ?_
    refine codeAny_mono (fin _ _ rfl (set_init_loop (tk := s.toks) (Walks.list hh3 (s.heap.push (set0 w)).objs.size l hneI items) hlS hsz hb hval ⟨⟨_, Heap.get?_push_size _ rfl, rfl, rfl⟩, (hl1.push _)⟩ fun h' tk a b => ⟨rfl, h h' tk a b⟩)) fun r s' hr => ?_
    cases r with
    | error e => exact hr
    | ok fl => cases fl with
      | ret v => exact ⟨rfl, hr⟩
      | _ => exact hr.elim
  · have hlS : l < s.heap.objs.size := by obtain ⟨ol, hol, _⟩ := hl; exact Heap.lt_size hol
    have hneI : l ≠ (s.heap.push (set0 w)).objs.size := by rw [Heap.size_push]; exact Nat.ne_of_lt (Nat.lt_succ_of_lt hlS)
    have hl1 : (s.heap.push (set0 w)).IsTuple l items := hl.push _
    have hTl : Shared.TypeIs { s with heap := s.heap.push (set0 w) } (.ref l) "tuple" := by obtain ⟨ol, hol, hcl, _⟩ := hl1; exact ⟨ol, hol, hcl⟩
    refine set_init_T (I := (s.heap.push (set0 w)).objs.size) (s2 := { s with heap := (s.heap.push (set0 w)).push { cls := .type "tuple_iterator", data := .fields #[.ref l, .int 0 0] } }) hTl F.sub_tuple_set F.sub_tuple_frozenset (by decide) hS
      (fun A' E' Q' q => wpAny_pyIter_tuple hl1 q) ?_
    refine codeAny_mono (fin _ _ rfl (set_init_loop (tk := s.toks) (Walks.tuple hh3 (s.heap.push (set0 w)).objs.size l hneI items) hlS hsz hb hval ⟨⟨_, Heap.get?_push_size _ rfl, rfl, rfl⟩, (hl1.push _)⟩ fun h' tk a b => ⟨rfl, h h' tk a b⟩)) fun r s' hr => ?_
    cases r with
    | error e => exact hr
    | ok fl => cases fl with
      | ret v => exact ⟨rfl, hr⟩
      | _ => exact hr.elim
/-- sorted(set of texts) -/
theorem pair_strs {l : List Str} {es : List (Int × Value)} (p : Paired (EnK (strKind P w)) l es) : StrsAre (es.map (·.2)) l := by
  induction p with
  | nil => exact StrsAre.nil
  | cons r t ih =>
    rename_i a b l₁ l₂
    obtain ⟨h1, _, _⟩ := r
    obtain ⟨t', e⟩ := Value.isStrOf_shape (x := a) (v := b.2) h1
    show StrsAre (b.2 :: List.map (·.2) l₂) (a :: l₁)
    rw [e]
    exact StrsAre.cons _ _ ih
theorem strs_perm {us vs : List Value} (p : us.Perm vs) : ∀ {xs : List Str}, StrsAre vs xs → ∃ ys, StrsAre us ys ∧ ys.Perm xs := by
  induction p with
  | nil => intro xs h; cases h; exact ⟨[], .nil, .refl _⟩
  | cons v _ ih =>
    intro xs h
    cases h with
    | cons y t h' =>
      obtain ⟨ys, a1, a2⟩ := ih h'
      exact ⟨_ :: ys, .cons _ _ a1, a2.cons _⟩
  | swap u v r =>
    intro xs h
    cases h with
    | cons y t h1 => cases h1 with
      | cons z t' h2 => exact ⟨_, .cons _ _ (.cons _ _ h2), List.Perm.swap _ _ _⟩
  | trans _ _ ih1 ih2 =>
    intro xs h
    obtain ⟨y1, a1, b1⟩ := ih2 h
    obtain ⟨y2, a2, b2⟩ := ih1 a1
    exact ⟨y2, a2, b2.trans b1⟩
theorem call_sorted_sks {a : Addr} {ks : List Str} {Q : Value → Shared → Prop} (R : SKs (strKind P w) s.heap a ks) (hh : A.handled = none) (h64 : ks.length < 64)
    (hQ : ∀ s' p (out : Array Value) (c : Nat) (ys : List Str), (∀ b o, s.heap.get? b = some o → s'.heap.get? b = some o) → s'.gens = s.gens → s'.os = s.os → s.heap.objs.size ≤ p →
      s'.heap.get? p = some (seqObj "list" out c) → StrsAre out.toList ys → ys.Perm ks → sortedS ys = true → Q (.ref p) s') :
    wpAny (model P w) A (call (.builtin "sorted") [.ref a]) Q E s := by
  obtain ⟨o, es, ep, t, l, ho, hex, hd, hl, hp, nd, hb, hf, hr, hw⟩ := R
  refine Calls.call_function_entry kind_sorted plain_sorted entry_sorted (args_sorted1 _) ?_
  unfold Builtin.«sorted»
  refine wpAny_bind (m := checkCount "sorted" 1 1 _) (wpAny_pure ?_)
  refine wpAny_bind (collect_set (A := A.in1) hh ⟨o, ho, hex.1, hd⟩ hf hb hr hw fun s1 vs k1 hz g1 o1 pm => ?_)
  obtain ⟨zs, hzs, pz⟩ := strs_perm pm (pair_strs hp)
  have hvl : vs.length < 64 := by rw [hzs.length, pz.length_eq, hl.length_eq]; exact h64
  refine wpAny_bind (wpAny_newList ?_ (by rw [sizeLine_eq]; omega))
  have hoL : (s1.heap.push (seqObj "list" vs.toArray 0)).get? s1.heap.objs.size = some (seqObj "list" vs.toArray 0) := Heap.get?_push_size _ rfl
  refine wpAny_bind (wpAny_holding (wpAny_call_entry slot_list_sort ⟨_, hoL, rfl⟩ entry_list_sort
    (list_sort_treeK strKind_oneLt hoL hzs.keysOf (fun v₁ v₂ rest e => keyKind_strs (by rw [← e]; exact hzs)) hvl fun st' hp' hs' => ⟨_, rfl, ?_⟩) (args_list_sort _)))
  obtain ⟨ys, y1, y2, y3⟩ := sorted_out_str hzs hp' hs'
  obtain ⟨c, hc⟩ := sortedHeap_at (vs := vs) (out := (arrOf st').map (·.2)) hoL
  refine wpAny_pure ⟨_, rfl, hQ _ s1.heap.objs.size _ c ys (fun b u e => ?_) g1 o1 hz hc y1 ((y2.trans pz).trans hl) y3⟩
  have q := k1 b u e
  have lt := Heap.lt_size q
  show (sortedHeap (s1.heap.push (seqObj "list" vs.toArray 0)) s1.heap.objs.size vs _).get? b = some u
  rw [sortedHeap_old (Nat.ne_of_lt lt) (by rw [size_push']; exact Nat.lt_succ_of_lt lt)]
  exact Heap.get?_push_of_some _ q
end
end Ax

/-! Rules that the layer lacks: star calls of classes, a class in a local name, own operators, len, in, bool, iter of own instances; sets. -/
namespace Ax
open PySem PySem.Spec PyProof.Rows L2 SlX StX

section
variable {X : Cx} {CX : CXT} {k : Nat} {C f g : Addr} {sp : Sp} {E : XK} {x m : Str} {p p2 apos pos : Pos} {e o a b : Expr} {es : List Expr} {te ta tb : TE} {t : TA}
/-- o.m() -/
theorem pe_methR0 {pl : Sem Bool} (he : PE X o ta) (c : Cls X.K C) (hm : Meth X.K C m f) (F : FnR X.prog X.w X.K X.mg X.base CX k f sp) (hr : Room k X.A) (hx : Passes CX X E)
    (ht : eval (.Call (.Attribute o m apos) [] [] pos) X.env = (do
      let ov ← eval o X.env
      standAt apos.atName
      let (f, first) ← holding [ov] (getMethod ov m pl)
      callWith pos f first (backTo pos (starEach [] X.env)) (backToKw pos (keywordEach [] X.env))) := by rfl) :
    PE X (.Call (.Attribute o m apos) [] [] pos) (tMethR C m sp E ta tNil) := by
  refine ⟨fun pins s σ H Q I h => ?_⟩
  refine PySem.W.methodCall_KW (pl := pl) (thn (he.run pins s σ H _ I h) fun u s1 ⟨y, H1, I1, rx, a, dx, fs, ex, ea, l, q⟩ => ?_) ht
  subst ex
  obtain rfl : u = Value.ref a := rx
  refine getmeth_ok I1 ea c hm l ?_
  exact PySem.W.callWith_K0 (first := [.ref a]) I1.kIn hm.kp (wpAny_call (run_fnR (us := [.ref a]) (vs := [.ref a]) F hr hx I1 (.cons rfl .nil) q))
/-- what a class is made by: a new instance, then its __init__ -/
def rMk (C : Addr) (sp : Sp) (E : XK) : List V → Hp → VK → Prop := fun vs H Q => ∀ y dy, H y = none → H dy = none → dy ≠ y → sp (.ref y :: vs) (upd (upd H dy (.own y)) y (.ins C dy [])) (fun v H2 => v = .non ∧ Q (.ref y) H2) E
/-- C(*e) -/
theorem pe_makeS1 (M : Mk X.K C f) (F : FnR X.prog X.w X.K X.mg X.base CX k f sp) (hr : Room (k + 1) X.A) (hg : Gl X x) (hm : X.mg x = some (.ref C)) (hx : Passes CX X E) (he : PE X e te) (hd : (x == ("__debug__" : Str)) = false := by decide)
    (hst : starEach [.Starred e p2] X.env = [(true, eval e X.env)] := by rfl) :
    PE X (.Call (.Name x p) [.Starred e p2] [] pos) (fun σ H Q => te σ H fun y H1 => ∃ a xs, y = V.ref a ∧ (SqT X.K H1 a xs ∨ SqL X.K H1 a xs) ∧ rMk C sp E xs H1 Q) := by
  refine ⟨fun pins s σ H Q I h => wpAny_Call_Name_kw (ld_glob I hg hm ?_ hd)⟩
  refine PySem.W.callWith_S (h₀ := X.base) I.ok.mod.kin M.kp (thn (he.run pins s σ H _ I h) fun v s1 ⟨y, H1, I1, ry, a, xs, ey, hxs, q⟩ => ?_) hst
  subst ey
  obtain rfl : v = Value.ref a := ry
  exact star_any I1 hxs fun us s2 I2 rv => ⟨I2.kIn, run_makeR M F hr hx I2 rv q⟩
/-- C(e, .., *z) -/
theorem pe_makeS2 (M : Mk X.K C f) (F : FnR X.prog X.w X.K X.mg X.base CX k f sp) (hr : Room (k + 1) X.A) (hg : Gl X x) (hm : X.mg x = some (.ref C)) (hx : Passes CX X E) (ha : PA X (e :: es) t) (hd : (x == ("__debug__" : Str)) = false := by decide)
    (he : starEach (e :: es) X.env = (false, eval e X.env) :: starEach es X.env := by rfl) (hst : (backTo pos (starEach es X.env)).any (·.1) = true := by rfl) :
    PE X (.Call (.Name x p) (e :: es) [] pos) (tCB (rMk C sp E) t) := by
  refine ⟨fun pins s σ H Q I h => wpAny_Call_Name_kw (ld_glob I hg hm ?_ hd)⟩
  exact PySem.W.callWith_S2 (h₀ := X.base) I.ok.mod.kin M.kp (thn (ha.run pos pins s σ H _ I h) fun us s1 ⟨vs, H1, I1, r, q⟩ => ⟨I1.kIn, run_makeR M F hr hx I1 r q⟩) he hst
/-- C(e, ..), plain -/
theorem pe_mkR (M : Mk X.K C f) (F : FnR X.prog X.w X.K X.mg X.base CX k f sp) (hr : Room (k + 1) X.A) (hg : Gl X x) (hm : X.mg x = some (.ref C)) (hx : Passes CX X E) (ha : PA X (e :: es) t) (hdb : (x == ("__debug__" : Str)) = false := by decide)
    (he : starEach (e :: es) X.env = (false, eval e X.env) :: starEach es X.env := by rfl) (hpl : (backTo pos (starEach es X.env)).any (·.1) = false := by rfl) : PE X (.Call (.Name x p) (e :: es) [] pos) (tCB (rMk C sp E) t) := by
  refine ⟨fun pins s σ H Q I h => wpAny_Call_Name_kw (ld_glob I hg hm ?_ hdb)⟩
  exact PySem.W.callWith_K (h₀ := X.base) I.ok.mod.kin M.kp (thn (ha.run pos pins s σ H _ I h) fun us s1 ⟨vs, H1, I1, r, q⟩ => ⟨I1.kIn, run_makeR M F hr hx I1 r q⟩) he hpl
/-- C() -/
theorem pe_mkR0 (M : Mk X.K C f) (F : FnR X.prog X.w X.K X.mg X.base CX k f sp) (hr : Room (k + 1) X.A) (hg : Gl X x) (hm : X.mg x = some (.ref C)) (hx : Passes CX X E) (hdb : (x == ("__debug__" : Str)) = false := by decide) :
    PE X (.Call (.Name x p) [] [] pos) (tCB (rMk C sp E) tNil) := by
  refine ⟨fun pins s σ H Q I h => wpAny_Call_Name_kw (ld_glob I hg hm ?_ hdb)⟩
  exact PySem.W.callWith_K0 I.kIn M.kp (run_makeR (us := []) M F hr hx I .nil h)
/-- cls(*e), cls a local name -/
theorem pe_clsS {i : Nat} (M : Mk X.K C f) (F : FnR X.prog X.w X.K X.mg X.base CX k f sp) (hr : Room (k + 1) X.A) (hN : X.N[i]? = some x) (hv : Vis X.env.scope x) (hx : Passes CX X E) (he : PE X e te)
    (hdb : (x == ("__debug__" : Str)) = false := by decide) (hcd : (x == ("__classdict__" : Str)) = false := by decide) (hst : starEach [.Starred e p2] X.env = [(true, eval e X.env)] := by rfl) :
    PE X (.Call (.Name x p) [.Starred e p2] [] pos) (fun σ H Q => σ[i]? = some (some (.ref C)) ∧ te σ H fun y H1 => ∃ a xs, y = V.ref a ∧ (SqT X.K H1 a xs ∨ SqL X.K H1 a xs) ∧ rMk C sp E xs H1 Q) := by
  refine ⟨fun pins s σ H Q I h => ?_⟩
  obtain ⟨hs, h⟩ := h
  refine wpAny_Call_Name_kw (thn ((pe_var (pos := p) hN hv hdb hcd).run pins s σ H (fun v H1 => v = .ref C ∧ H1 = H) I ⟨.ref C, hs, rfl, rfl⟩) fun u s1 ⟨v, H1, I1, r1, q1⟩ => ?_)
  obtain ⟨rfl, rfl⟩ := q1
  cases r1
  refine PySem.W.callWith_S (h₀ := X.base) I.ok.mod.kin M.kp (thn (he.run pins s1 σ _ _ I1 h) fun v s1 ⟨y, H1, I1, ry, a, xs, ey, hxs, q⟩ => ?_) hst
  subst ey
  obtain rfl : v = Value.ref a := ry
  exact star_any I1 hxs fun us s2 I2 rv => ⟨I2.kIn, run_makeR M F hr hx I2 rv q⟩
/-- cls() -/
theorem pe_cls0 {i : Nat} (M : Mk X.K C f) (F : FnR X.prog X.w X.K X.mg X.base CX k f sp) (hr : Room (k + 1) X.A) (hN : X.N[i]? = some x) (hv : Vis X.env.scope x) (hx : Passes CX X E)
    (hdb : (x == ("__debug__" : Str)) = false := by decide) (hcd : (x == ("__classdict__" : Str)) = false := by decide) :
    PE X (.Call (.Name x p) [] [] pos) (fun σ H Q => σ[i]? = some (some (.ref C)) ∧ rMk C sp E [] H Q) := by
  refine ⟨fun pins s σ H Q I h => ?_⟩
  obtain ⟨hs, h⟩ := h
  refine wpAny_Call_Name_kw (thn ((pe_var (pos := p) hN hv hdb hcd).run pins s σ H (fun v H1 => v = .ref C ∧ H1 = H) I ⟨.ref C, hs, rfl, rfl⟩) fun u s1 ⟨v, H1, I1, r1, q1⟩ => ?_)
  obtain ⟨rfl, rfl⟩ := q1
  cases r1
  exact PySem.W.callWith_K0 I1.kIn M.kp (run_makeR (us := []) M F hr hx I1 .nil h)

/-! ### own operators -/
/-- a is an instance of C -/
def Ins (H : Hp) (a C : Addr) : Prop := ∃ dx fs, H a = some (.ins C dx fs)
theorem ins_at {pins : List (Addr × Obj)} {σ : L2.St} {H : Hp} {s : Shared} {a C : Addr} (I : Inv X pins σ H s) (h : Ins H a C) : ∃ ox od, PySem.W.InstAt s.heap a ox C od := by
  obtain ⟨dx, fs, e⟩ := h
  obtain ⟨mA, O, _⟩ := ins_get I.hok e
  obtain ⟨od, J, _⟩ := O.look
  exact ⟨_, _, J⟩
def rOp (C D : Addr) (sp : Sp) (E : XK) : R2 := fun x y H Q => ∃ a b, x = .ref a ∧ y = .ref b ∧ Ins H a C ∧ Ins H b D ∧ sp [x, y] H Q E
/-- x op y by C's def; y an instance of the same class -/
theorem op_bin {op : Operator} (hc : PySem.W.selfFirst X.K C = true) (hs : PySem.W.findIn X.K (.ref C) (PySem.dunder op.info.2) = some (some (.ref g))) (hf : PySem.W.isFn X.K (.ref g) = true) (F : FnR X.prog X.w X.K X.mg X.base CX k g sp)
    (hr : Room k X.A) (hx : Passes CX X E) : OpR X (binaryOp op) (rOp C C sp E) := by
  intro pins s σ H x y v u Q I rx ry h
  obtain ⟨a, b, rfl, rfl, ha, hb, q⟩ := h
  cases (show v = Value.ref a from rx)
  cases (show u = Value.ref b from ry)
  obtain ⟨_, _, J⟩ := ins_at I ha
  obtain ⟨_, _, J'⟩ := ins_at I hb
  obtain ⟨m, hF⟩ := I.fr
  refine PySem.W.binop_K hF I.ok.mod.kin J J'.type hc hs hf ?_
  refine wpAny_mono (wpAny_call (run_fnR (us := [.ref a, .ref b]) (vs := [.ref a, .ref b]) F hr hx I (.cons rfl (.cons rfl .nil)) q)) (fun w s' z => ?_) fun _ _ x => x
  obtain ⟨z', H', I', rz, qz⟩ := z
  exact cmpback rz ⟨z', H', I', rz, qz⟩
/-- x op y, a comparison, by C's def; y an instance of D -/
theorem op_cmp {D : Addr} {op : CmpOp} (hop : ∀ a b, compareOp op a b = richCompare op a b) (hn : PySem.W.notFirst X.K C (.ref D) = true) (hs : PySem.W.findIn X.K (.ref C) (cmpInfo op).2.1 = some (some (.ref g))) (hf : PySem.W.isFn X.K (.ref g) = true)
    (F : FnR X.prog X.w X.K X.mg X.base CX k g sp) (hr : Room k X.A) (hx : Passes CX X E) : OpR X (compareOp op) (rOp C D sp E) := by
  intro pins s σ H x y v u Q I rx ry h
  obtain ⟨a, b, rfl, rfl, ha, hb, q⟩ := h
  cases (show v = Value.ref a from rx)
  cases (show u = Value.ref b from ry)
  obtain ⟨_, _, J⟩ := ins_at I ha
  obtain ⟨_, _, J'⟩ := ins_at I hb
  obtain ⟨m, hF⟩ := I.fr
  rw [hop]
  refine PySem.W.cmp_K (op := op) hr.units0 hF I.ok.mod.kin J J'.type hn hs hf ?_
  refine wpAny_mono (wpAny_call (run_fnR (us := [.ref a, .ref b]) (vs := [.ref a, .ref b]) F hr hx I (.cons rfl (.cons rfl .nil)) q)) (fun w s' z => ?_) fun _ _ x => x
  obtain ⟨z', H', I', rz, qz⟩ := z
  exact cmpback rz ⟨z', H', I', rz, qz⟩
/-- y in x, by C's __contains__, which gives a bool -/
def rInO (C : Addr) (sp : Sp) (E : XK) (neg : Bool) : R2 := fun y x H Q => ∃ a, x = .ref a ∧ Ins H a C ∧ sp [x, y] H (fun r H' => ∃ c, r = .bl c ∧ Q (.bl (if neg then !c else c)) H') E
theorem op_inO (hs : PySem.W.findIn X.K (.ref C) "__contains__" = some (some (.ref g))) (hf : PySem.W.isFn X.K (.ref g) = true) (F : FnR X.prog X.w X.K X.mg X.base CX k g sp) (hr : Room k X.A) (hx : Passes CX X E) :
    OpR X (compareOp .In) (rInO C sp E false) := by
  intro pins s σ H y x u v Q I ry rx h
  obtain ⟨a, rfl, ha, q⟩ := h
  cases (show v = Value.ref a from rx)
  obtain ⟨_, _, J⟩ := ins_at I ha
  obtain ⟨m, hF⟩ := I.fr
  refine PySem.W.in_K hF I.ok.mod.kin J hs hf ?_
  refine wpAny_mono (wpAny_call (run_fnR (us := [.ref a, u]) (vs := [.ref a, y]) F hr hx I (.cons rfl (.cons ry .nil)) q)) (fun w s' z => ?_) fun _ _ x => x
  obtain ⟨z', H', I', rz, c, ec, qz⟩ := z
  subst ec
  cases (show w = Value.bool c from rz)
  exact wpAny_pure ⟨.bl _, H', I', rfl, qz⟩
theorem op_notInO (hs : PySem.W.findIn X.K (.ref C) "__contains__" = some (some (.ref g))) (hf : PySem.W.isFn X.K (.ref g) = true) (F : FnR X.prog X.w X.K X.mg X.base CX k g sp) (hr : Room k X.A) (hx : Passes CX X E) :
    OpR X (compareOp .NotIn) (rInO C sp E true) := by
  intro pins s σ H y x u v Q I ry rx h
  obtain ⟨a, rfl, ha, q⟩ := h
  cases (show v = Value.ref a from rx)
  obtain ⟨_, _, J⟩ := ins_at I ha
  obtain ⟨m, hF⟩ := I.fr
  refine PySem.W.notIn_K hF I.ok.mod.kin J hs hf ?_
  refine wpAny_mono (wpAny_call (run_fnR (us := [.ref a, u]) (vs := [.ref a, y]) F hr hx I (.cons rfl (.cons ry .nil)) q)) (fun w s' z => ?_) fun _ _ x => x
  obtain ⟨z', H', I', rz, c, ec, qz⟩ := z
  subst ec
  cases (show w = Value.bool c from rz)
  exact wpAny_pure ⟨.bl _, H', I', rfl, qz⟩
/-- len(x), by C's __len__ -/
def rLenO (C : Addr) (sp : Sp) (E : XK) : List V → Hp → VK → Prop := fun xs H Q => ∃ a, xs = [.ref a] ∧ Ins H a C ∧ sp xs H (fun r H' => ∃ n : Nat, r = .int n ∧ n < 2 ^ 63 ∧ Q (.int n) H') E
theorem len_body {pins : List (Addr × Obj)} {σ : L2.St} {H : Hp} {s : Shared} {A : Around} {a : Addr} {Q : VK} (hs : PySem.W.findIn X.K (.ref C) "__len__" = some (some (.ref g))) (hf : PySem.W.isFn X.K (.ref g) = true) (F : FnR X.prog X.w X.K X.mg X.base CX k g sp)
    (hr : Room k A.in1) (e0 : Env0 X.prog X.w X.K X.mg X.base A.in1 X.stack s H) (hx : Passes CX X E) (I : Inv X pins σ H s) (ha : Ins H a C) (q : sp [.ref a] H (fun r H' => ∃ n : Nat, r = .int n ∧ n < 2 ^ 63 ∧ Q (.int n) H') E) :
    wpAny (model X.prog X.w) A.in1 (Builtin.«len» ⟨[.ref a], []⟩) (fun fin s' => ∃ v, fin = .done (.ret v) ∧ EP X pins σ Q v s') X.xe s := by
  obtain ⟨_, _, J⟩ := ins_at I ha
  unfold Builtin.«len»
  refine wpAny_bind (m := PySem.oneArg "len" _) (wpAny_pure ?_)
  refine wpAny_bind (m := callSpecial? (.ref a) (Str.ofString "__len__")) (PySem.W.special_fn I.kIn J hs (beq_iff_eq.mp hf) ?_)
  refine wpAny_mono (wpAny_call (run_at (us := [.ref a]) (ws := [.ref a]) F hr e0 hx I (.cons rfl .nil) q)) (fun w s' z => ?_) fun _ _ x => x
  obtain ⟨z', H', I', rz, n, en, hn, qz⟩ := z
  subst en
  obtain ⟨tk, ew⟩ := (show ∃ t, w = Value.int (n : Int) t from rz)
  subst ew
  refine wpAny_bind (wpAny_holding (wpAny_pure ?_))
  refine wpAny_bind (wpAny_letGo ?_)
  show wpAny _ _ (if (n : Int) < 0 then _ else _) _ _ _
  rw [if_neg (by omega)]
  show wpAny _ _ (if (n : Int) ≥ 2 ^ 63 then _ else _) _ _ _
  rw [if_neg (by have : (n : Int) < 2 ^ 63 := by exact_mod_cast hn
                 omega)]
  exact wpAny_bind (wpAny_mkInt (wpAny_pure ⟨_, rfl, .int n, H', I'.tok _, ⟨_, rfl⟩, qz⟩))
theorem len_at {pins : List (Addr × Obj)} {σ : L2.St} {H : Hp} {s : Shared} {A : Around} {a : Addr} {Q : VK} (hs : PySem.W.findIn X.K (.ref C) "__len__" = some (some (.ref g))) (hf : PySem.W.isFn X.K (.ref g) = true) (F : FnR X.prog X.w X.K X.mg X.base CX k g sp)
    (hr : Room k A.in1) (e0 : Env0 X.prog X.w X.K X.mg X.base A.in1 X.stack s H) (hx : Passes CX X E) (I : Inv X pins σ H s) (ha : Ins H a C) (q : sp [.ref a] H (fun r H' => ∃ n : Nat, r = .int n ∧ n < 2 ^ 63 ∧ Q (.int n) H') E) :
    wpAny (model X.prog X.w) A (call (.builtin "len") [.ref a]) (EP X pins σ Q) X.xe s :=
  Calls.call_function_entry kind_len plain_len entry_len (args_len1 _) (len_body hs hf F hr e0 hx I ha q)
theorem call_lenO (hs : PySem.W.findIn X.K (.ref C) "__len__" = some (some (.ref g))) (hf : PySem.W.isFn X.K (.ref g) = true) (F : FnR X.prog X.w X.K X.mg X.base CX k g sp) (hr : Room (k + 1) X.A) (hx : Passes CX X E) :
    CallR X (.builtin "len") (rLenO C sp E) := by
  intro pins s σ H xs us Q I r h
  obtain ⟨a, rfl, ha, q⟩ := h
  obtain rfl := Vals.ref1 r
  exact len_at hs hf F hr.in1 I.env0.in1 hx I ha q
/-- bool(x), if x: by C's __len__ -/
theorem truthy_at {pins : List (Addr × Obj)} {σ : L2.St} {H : Hp} {s : Shared} {A : Around} {a : Addr} {Q : Bool → Hp → Prop} (hb : PySem.W.findIn X.K (.ref C) "__bool__" = some none) (hs : PySem.W.findIn X.K (.ref C) "__len__" = some (some (.ref g)))
    (hf : PySem.W.isFn X.K (.ref g) = true) (F : FnR X.prog X.w X.K X.mg X.base CX k g sp) (hr : Room k A.in1) (e0 : Env0 X.prog X.w X.K X.mg X.base A.in1 X.stack s H) (hx : Passes CX X E) (I : Inv X pins σ H s) (ha : Ins H a C)
    (q : sp [.ref a] H (fun r H' => ∃ n : Nat, r = .int n ∧ n < 2 ^ 63 ∧ Q (n != 0) H') E) : wpAny (model X.prog X.w) A (truthy (.ref a)) (fun b s' => ∃ H', Inv X pins σ H' s' ∧ Q b H') X.xe s := by
  obtain ⟨_, _, J⟩ := ins_at I ha
  unfold truthy
  refine wpAny_bind (m := callSpecial? (.ref a) (Str.ofString "__bool__")) (wpAny_bind (wpAny_bind (J.type.here ((PySem.W.looks_findIn I.kIn hb).here (wpAny_pure ?_)))))
  refine wpAny_bind (wpAny_bind (J.type.here ((PySem.W.looks_findIn I.kIn hs).here ?_)))
  have z := len_body (A := A) (Q := fun r H' => ∃ n : Nat, r = .int n ∧ Q (n != 0) H') hs hf F hr e0 hx I ha (by
    have e : (fun (r : V) (H' : Hp) => ∃ n : Nat, r = .int n ∧ n < 2 ^ 63 ∧ (∃ m : Nat, V.int (n : Int) = .int m ∧ Q (m != 0) H')) = fun r H' => ∃ n : Nat, r = .int n ∧ n < 2 ^ 63 ∧ Q (n != 0) H' := by
      funext r H'
      apply propext
      constructor
      · rintro ⟨n, h1, h2, m, h3, h4⟩
        injection h3 with h5
        have h6 : n = m := by exact_mod_cast h5
        subst h6
        exact ⟨n, h1, h2, h4⟩
      · rintro ⟨n, h1, h2, h4⟩
        exact ⟨n, h1, h2, n, rfl, h4⟩
    rw [e]
    exact q)
  refine wpAny_bind (wpAny_runValue (codeAny_builtin entry_len ?_))
  rw [Around.under_plainId plain_len _]
  refine wpAny_mono z (fun fin s' hz => ?_) fun _ _ x => x
  obtain ⟨v, rfl, r, H', I', rz, n, en, qz⟩ := hz
  subst en
  obtain ⟨tk, ew⟩ := (show ∃ t, v = Value.int (n : Int) t from rz)
  subst ew
  have e : ((n : Int) != 0) = (n != 0) := by
    rcases Nat.eq_zero_or_pos n with h | h
    · subst h; rfl
    · have h1 : ((n : Int) != 0) = true := bne_iff_ne.mpr (by omega)
      have h2 : (n != 0) = true := bne_iff_ne.mpr (by omega)
      rw [h1, h2]
  show wpAny _ _ (pure ((n : Int) != 0)) _ _ _
  rw [e]
  exact wpAny_pure ⟨H', I', qz⟩
/-- bool(x) -/
def rBoolO (C : Addr) (sp : Sp) (E : XK) : List V → Hp → VK → Prop := fun xs H Q => ∃ a, xs = [.ref a] ∧ Ins H a C ∧ sp xs H (fun r H' => ∃ n : Nat, r = .int n ∧ n < 2 ^ 63 ∧ Q (.bl (n != 0)) H') E
theorem call_boolO (hb : PySem.W.findIn X.K (.ref C) "__bool__" = some none) (hs : PySem.W.findIn X.K (.ref C) "__len__" = some (some (.ref g))) (hf : PySem.W.isFn X.K (.ref g) = true) (Fg : FnR X.prog X.w X.K X.mg X.base CX k g sp) (hr : Room (k + 3) X.A) (hx : Passes CX X E) :
    CallR X (.type "bool") (rBoolO C sp E) := by
  intro pins s σ H xs us Q I r h
  obtain ⟨a, rfl, ha, q⟩ := h
  obtain rfl := Vals.ref1 r
  refine callType_newIn (Bn := Builtin.«bool.__new__») (S := fun A R s => wpAny (model X.prog X.w) A.in1 (Builtin.«bool.__new__» ⟨[.type "bool", .ref a], []⟩)
    (fun fin s' => match fin with | .done f => R (.ok f) s' | .again c' => c'.quiet = true ∧ codeAny (model X.prog X.w) A c' R s') (fun e s' => R (.error e) s') s)
    PySem.F.called_bool PySem.F.newNe_bool (PySem.F.typeCall_bool_1 _) (PySem.F.newCall_bool_1 _) (fun obj => PySem.F.args_object_init_2 obj _) PySem.F.entry_bool_new (fun A R s h => h) ?_
  have ht : wpAny (model X.prog X.w) X.A.in1.in1 (truthy (.ref a)) (fun b s' => ∃ H', Inv X pins σ H' s' ∧ Q (.bl b) H') X.xe s :=
    truthy_at (Q := fun b H' => Q (.bl b) H') hb hs hf Fg (hr.in1.in1.in1) I.env0.in1.in1.in1 hx I ha q
  unfold Builtin.«bool.__new__»
  have f1 := PySem.F.conv_sub_bool
  clear q
  obtain ⟨TP, hTP, tp⟩ : ∃ TP : Prop, (TP → wpAny (model X.prog X.w) X.A.in1.in1 (truthy (.ref a)) (fun b s' => ∃ H', Inv X pins σ H' s' ∧ Q (.bl b) H') X.xe s) ∧ TP := ⟨_, id, ht⟩
  clear ht
  generalize hTR : truthy = TR at hTP ⊢
  clear hTR
  obtain ⟨hp, gg, d, tk, os⟩ := s
  repeat (any_goals (first | assumption | (with_reducible refine wpAny_mono (hTP tp) ?_ ?_) | wp_step))
  · intro b s' h
    obtain ⟨H', I', q⟩ := h
    exact wpAny_pure ⟨rfl, .bl b, H', I', rfl, q⟩
  · intro e s' h
    exact h
/-- sets of texts, tracked -/
def SetT (P : Program) (w : World) (a : Addr) (ks : List Str) : HO := .ext fun h => SKs (strKind P w) h a ks
theorem setT_ok {P : Program} {w : World} {H : Hp} {h : Heap} {a : Addr} {ks : List Str} (R : SKs (strKind P w) h a ks) : ObjOk P w H h a (SetT P w a ks) :=
  ⟨R, let ⟨o, _, _, _, _, e, _⟩ := R; ⟨o, e⟩, fun _ _ r k => r.at k⟩
/-- set(xs), xs a list or a tuple of texts -/
def rSetS (K : PySem.W.Frag) (P : Program) (w : World) : List V → Hp → VK → Prop := fun vs H Q => ∃ (a : Addr) (xs : List Str), vs = [.ref a] ∧ (SqL K H a (xs.map V.str) ∨ SqT K H a (xs.map V.str)) ∧ xs.length ≤ 1000 ∧
  ∀ p, H p = none → Q (.ref p) (upd H p (SetT P w p (dd xs)))
theorem call_setS (hc : X.calm = true) : CallR X (.type "set") (rSetS X.K X.prog X.w) := by
  intro pins s σ H xs us Q I r h
  obtain ⟨a, xs, rfl, hs, hl, q⟩ := h
  obtain rfl := Vals.ref1 r
  have hb : xs.length + 1 < scanBound := Nat.lt_of_le_of_lt (Nat.succ_le_succ hl) (by decide)
  have fin : ∀ {T : String} {items : Array Value}, IsSq s.heap a items T → StrsAre items.toList xs → wpAny (model X.prog X.w) X.A (call (.type "set") [.ref a]) (EP X pins σ Q) X.xe s := fun h1 h2 => by
    refine call_set_sq xs (I.ok.hd hc) h1 h2 hb fun h' tk R k => ?_
    exact ⟨.ref _, _, I.laid (t' := tk) k (Nat.le_refl _) (setT_ok R), rfl, q _ (I.hok.fresh (Nat.le_refl _))⟩
  rcases hs with hs | hs
  · obtain ⟨its, rv, pl, hz⟩ := I.list hs
    exact fin (.inl ⟨rfl, pl.isList⟩) rv.strs
  · obtain ⟨its, rv, pl, hz⟩ := I.tuple hs
    exact fin (.inr ⟨rfl, pl⟩) rv.strs
/-- sorted(such a set) -/
def rSortedS' (P : Program) (w : World) : List V → Hp → VK → Prop := fun vs H Q => ∃ (a : Addr) (ks : List Str), vs = [.ref a] ∧ H a = some (SetT P w a ks) ∧ ks.length < 64 ∧
  ∀ (ys : List Str) (p : Addr), ys.Perm ks → sortedS ys = true → H p = none → Q (.ref p) (upd H p (.lst (ys.map V.str)))
theorem call_sortedS (hc : X.calm = true) : CallR X (.builtin "sorted") (rSortedS' X.prog X.w) := by
  intro pins s σ H xs us Q I r h
  obtain ⟨a, ks, rfl, ha, h64, q⟩ := h
  obtain rfl := Vals.ref1 r
  have R : SKs (strKind X.prog X.w) s.heap a ks := (I.hok a _ ha).1
  refine call_sorted_sks R (I.ok.hd hc) h64 fun s' p out c ys k g o hp hg hi h1 h2 => ?_
  have hlen : (ys.map V.str).length ≤ sizeLine := by rw [List.length_map, h1.length_eq, sizeLine_eq]; omega
  have hn : H p = none := I.hok.fresh hp
  have J : Inv X pins σ (upd H p (.lst (ys.map V.str))) { s with heap := s'.heap, gens := s'.gens, drawn := s'.drawn, toks := s'.toks } :=
    I.call (ch := []) (Un.laid k hp hn) (I.hok.laid k hp ⟨hlen, out.toList, c, vals_of_strs hi, hg⟩) (by rw [g]; exact I.bare) (fun _ z => nomatch z)
  have e : s' = { s with heap := s'.heap, gens := s'.gens, drawn := s'.drawn, toks := s'.toks } := by cases s'; cases s; cases o; rfl
  rw [e]
  exact ⟨.ref p, _, J, rfl, q ys p h1 h2 hn⟩
end
end Ax

/-! The head by facts: any list of Bool facts of the written part, any list of defs told by a path. -/
namespace Ax
open PySem PySem.Spec PyProof.Rows L2 He
abbrev Fr' := PySem.W.Frag
/-- a def of the text: the path to it, what it is -/
structure DfX where
  ad : Fr' → Addr
  name : Str
  qual : Str
  params : Arguments
  body : List Stmt
  scope : Scope
  dfl : List Dv := []
  kwd : List (Str × Dv) := []
  exc : Bool := false
/-- an exception's __init__: a def with the cell __class__ -/
def fnE (K : Fr') (a : Addr) : FnW := match K.lookup a with
  | some ⟨_, _, .func fd, _⟩ => (match fd.closure with
    | [(n, _)] => if n = ("__class__" : Str) then some (fd.name, fd.qualname, fd.params, fd.body, fd.scope, fd.globals, [], fd.builtins) else none
    | _ => none)
  | _ => none
def fnX (K : Fr') (a : Addr) : FnW := match K.lookup a with
  | some ⟨_, _, .func fd, _⟩ => some (fd.name, fd.qualname, fd.params, fd.body, fd.scope, fd.globals, fd.closure, fd.builtins)
  | _ => none
def DfX.val (d : DfX) : FnW := some (d.name, d.qual, d.params, .stmts d.body, d.scope, mainGlobals, [], builtinsNs)
def DfX.see (K : Fr') (d : DfX) : FnW := if d.exc = true then fnE K (d.ad K) else fnX K (d.ad K)
def DfX.dvs (K : Fr') (d : DfX) : List V := d.dfl.map (Dv.v K)
def DfX.kws (K : Fr') (d : DfX) : List (Str × V) := d.kwd.map fun q => (q.1, q.2.v K)
def DfX.ok (K : Fr') (d : DfX) : Bool := PySem.W.keepIn K (.ref (d.ad K)) && match K.lookup (d.ad K) with
  | some ⟨_, _, .func fd, _⟩ => PySem.W.codeIn K fd.code d.qual && (dflB K fd.defaults (d.dvs K) && kwdB K fd.kwdefaults (d.kws K))
  | _ => false
theorem DfX.funD {K : Fr'} {d : DfX} (e : fnX K (d.ad K) = d.val) (c : d.ok K = true) : ∃ fd, FunD K d.name d.qual d.params d.body d.scope (d.dvs K) (d.kws K) (d.ad K) fd := by
  obtain ⟨kp, c2⟩ := ba c
  unfold fnX at e
  cases q : K.lookup (d.ad K) with
  | none => rw [q] at c2; cases c2
  | some o =>
    obtain ⟨oc, od, dt, osl⟩ := o
    rw [q] at c2 e
    cases dt with
    | func fd =>
      obtain ⟨n1, n2, n3, n4, n5, n6, n7, n8, n9, n10, n11, n12, n13, n14, n15⟩ := fd
      have e2 : (some (n1, n2, n3, n4, n5, n6, n7, n15) : FnW) = some (d.name, d.qual, d.params, .stmts d.body, d.scope, mainGlobals, [], builtinsNs) := e
      simp only [Option.some.injEq, Prod.mk.injEq] at e2
      obtain ⟨h1, h2, h3, h4, h5, h6, h7, h8⟩ := e2
      subst h1 h2 h3 h4 h5 h6 h7 h8
      obtain ⟨k1, k2⟩ := ba (show (PySem.W.codeIn K n13 d.qual && (dflB K n8 (d.dvs K) && kwdB K n9 (d.kws K))) = true from c2)
      obtain ⟨k3, k4⟩ := ba k2
      exact ⟨_, ⟨oc, od, n8, n9, n10, n11, n12, n13, n14, osl, rfl, q, k1, dflB_ok k3, kwdB_ok k4⟩, kp⟩
    | _ => cases c2
def cellsG (g : Addr → Option Obj) (as : List Addr) : List Addr := as ++ as.flatMap fun a => match g a with
  | some ⟨_, _, .func fd, _⟩ => fd.closure.map (·.2)
  | _ => []
def obsX (fs : List (Fr' → Bool)) (fn : List DfX) (K : Fr') : AlD := ((fs.all fun f => f K) && fn.all fun d => d.ok K, fn.map fun d => d.see K)
def valX (fn : List DfX) : AlD := (true, fn.map DfX.val)
def SaysX (fs : List (Fr' → Bool)) (fn : List DfX) (K : Fr') : Prop := obsX fs fn K = valX fn
def obsXG (n : Nat) (fs : List (Fr' → Bool)) (fn : List DfX) (g : Addr → Option Obj) : AlD := obsX fs fn (frG g (cellsG g (cStatics :: asD g n)))
def hookX (n : Nat) (fs : List (Fr' → Bool)) (fn : List DfX) : PySem.W.Hook where
  α := AlD
  obs := fun s => obsXG n fs fn s.heap.get?
  val := fun _ => valX fn
  says := fun _ h => ∃ K : Fr', K.In h ∧ SaysX fs fn K
  of := fun _ _ e => ⟨_, frG_in, e⟩
  keeps := fun _ _ _ ⟨K, hK, c⟩ k => ⟨K, PySem.W.Frag.In.keeps hK k, c⟩
theorem obsXG_eq {n : Nat} {fs : List (Fr' → Bool)} {fn : List DfX} {g : Addr → Option Obj} {s : Shared} (h : ∀ a, g a = s.heap.get? a) : obsXG n fs fn g = (hookX n fs fn).obs s := by
  have e : g = s.heap.get? := funext h
  rw [e] <;> rfl
section
variable {fs : List (Fr' → Bool)} {fn : List DfX} {K : Fr'}
theorem SaysX.fact (c : SaysX fs fn K) {f : Fr' → Bool} (i : Nat) (h : fs[i]? = some f) : f K = true := by
  have c1 := (ba (show ((fs.all fun f => f K) && fn.all fun d => d.ok K) = true from congrArg (fun z : AlD => z.1) c)).1
  exact List.all_eq_true.mp c1 f (List.mem_of_getElem? h)
theorem SaysX.see_ (c : SaysX fs fn K) {d : DfX} (i : Nat) (h : fn[i]? = some d) : d.see K = d.val ∧ d.ok K = true := by
  have c2 := (ba (show ((fs.all fun f => f K) && fn.all fun d => d.ok K) = true from congrArg (fun z : AlD => z.1) c)).2
  have e : fn.map (fun d => d.see K) = fn.map DfX.val := congrArg (fun z : AlD => z.2) c
  have e2 : (fn.map fun d => d.see K)[i]? = (fn.map DfX.val)[i]? := by rw [e]
  rw [List.getElem?_map, List.getElem?_map, h] at e2
  exact ⟨Option.some.inj e2, List.all_eq_true.mp c2 d (List.mem_of_getElem? h)⟩
theorem SaysX.def_ (c : SaysX fs fn K) {d : DfX} (i : Nat) (h : fn[i]? = some d) (hx : d.exc = false := by rfl) : ∃ fd, FunD K d.name d.qual d.params d.body d.scope (d.dvs K) (d.kws K) (d.ad K) fd := by
  obtain ⟨e, k⟩ := c.see_ i h
  refine DfX.funD ?_ k
  rw [← e]
  unfold DfX.see
  rw [hx]
  rfl
end
/-- the end of a law: the written part K is told by the hook, the bits of the script too -/
theorem walk_ofX {l : PySem.W.OpenLaw} {n k : Nat} {q : Program} {loose : List Str} {XP : (Str → Option Value) → Heap → Prop} {YP : World → Heap → Prop} {d : DefRec} {x : Str}
    (hn : l.most = some n) (hn2 : n ≤ sizeLine) (hdf : d.params.defaults = []) (hr : Room k callerA)
    (F : ∀ (w : World) (mg : Str → Option Value) (fa : Addr) (h : Heap), YP w h → h.Ns mainGlobals mg → mg d.name = some (.ref fa) →
      ∃ (K : PySem.W.Frag) (fd : FuncData) (sp : Sp), K.In h ∧ (∀ (s : Shared) (u : Value), BindsTo s fd ⟨[u], []⟩ [(x, u)]) ∧
        (∀ (H : Hp) (a : Addr) (ns : List Int), ns.length ≤ n → (∀ z ∈ ns, Builtin.Int.intBits z ≤ 1048576) → Only H → SqL K H a (ns.map V.int) → sp [.ref a] H (fun v _ => v = .bl true) fun _ _ _ => False) ∧
        ∀ base : Heap, K.In base → base.Ns mainGlobals mg → FnOk l.prog w K mg base (L2.CX l.prog w) k fa fd [x] sp) :
    PySem.W.WalkO q loose XP YP l.row.toRowW d [] (fun f vs => PySem.call f vs) := by
  refine Att.attach_callB hn hdf fun w s₀ s₁ mg mb fa o pm cd doc a vs ns G Y ho hd hcd hmg hobj hints hlen hbits hg => ?_
  obtain ⟨K, fd, sp, KX, hb, hsp, hF⟩ := F w mg fa _ Y G.T.g hmg
  refine law_call KX G.T.g G.T.b G.T.builtins G.T.nolimit hg hobj hints (Nat.le_trans hlen hn2) hr hF hb (fun H hO hS => hsp H a ns hlen hbits hO hS) fun H e s' z => ?_
  obtain ⟨_, _, _, _, _, _, _, _, _, _, _, _, z⟩ := z
  exact z
/-- the function object of d stands at f; no defaults -/
def FunX (K : Fr') (d : DfX) (f : Addr) : Prop := ∃ fd, FunD K d.name d.qual d.params d.body d.scope [] [] f fd
theorem FunX.kp {K : Fr'} {d : DfX} {f : Addr} (F : FunX K d f) : PySem.W.keepIn K (.ref f) = true := let ⟨_, F⟩ := F; F.kp
/-- a def's promise by positional values; no defaults -/
theorem fnR_of {P : Program} {w : World} {K : PySem.W.Frag} {mg : Str → Option Value} {base : Heap} {d : DfX} {f : Addr} {N ps : List Str} {k : Nat} {sp : Sp} (F : FunX K d f) (S : FnScope N ps d.scope)
    (hb : ∀ (kV doc pm : Value) (an : Option Addr) (cdv ct : Value) (us : List Value), us.length = ps.length → bindArgs (PySem.W.fnOf d.name d.qual d.params d.body d.scope .none kV doc pm an cdv ct) ⟨us, []⟩ = pure (ps.zip us))
    (len : ∀ vs H Q E, sp vs H Q E → vs.length = ps.length)
    (hbody : ∀ (cdv : Value) (A : Around) (outer : List Env) (s : Shared) (H : Hp) (vs : List V) (Q : VK) (E : XK), Room k (A.deeper (envOfC d.qual d.scope s.heap.objs.size f cdv)) → sp vs H Q E →
      ∃ t, PSs (cxOf (L2.CX P w) P w K mg base N d.qual d.scope f cdv A outer s H E) d.body t ∧ t { nx := fun _ H' => Q .non H', rt := Q } (start N vs) H) : FnR P w K mg base (L2.CX P w) (k + 1) f sp := by
  obtain ⟨fd, F⟩ := F
  exact ((F.ok S len hbody).raw (F.bindsN hb) .nil).imp fun vs H Q E h => by rw [List.append_nil]; exact h
/-- .. with *pv behind the parameters -/
theorem fnS_of {P : Program} {w : World} {K : PySem.W.Frag} {mg : Str → Option Value} {base : Heap} {d : DfX} {f : Addr} {N ps : List Str} {pv : Str} {k : Nat} {sp : Sp} (F : FunX K d f) (S : FnScope N (ps ++ [pv]) d.scope)
    (hb : ∀ (kV doc pm : Value) (an : Option Addr) (cdv ct : Value) (us rest : List Value), us.length = ps.length →
      bindArgs (PySem.W.fnOf d.name d.qual d.params d.body d.scope .none kV doc pm an cdv ct) ⟨us ++ rest, []⟩ = (newTuple rest >>= fun t => pure (ps.zip us ++ [(pv, t)])))
    (hbody : ∀ (cdv : Value) (A : Around) (outer : List Env) (s : Shared) (H : Hp) (vs : List V) (Q : VK) (E : XK), Room k (A.deeper (envOfC d.qual d.scope s.heap.objs.size f cdv)) → sp vs H Q E →
      ∃ t, PSs (cxOf (L2.CX P w) P w K mg base N d.qual d.scope f cdv A outer s H E) d.body t ∧ t { nx := fun _ H' => Q .non H', rt := Q } (start N vs) H) :
    FnR P w K mg base (L2.CX P w) (k + 1) f (fun vs H Q E => ∃ ws rest, vs = ws ++ rest ∧ ws.length = ps.length ∧ rest.length ≤ sizeLine ∧ ∀ p, H p = Option.none → sp (ws ++ [V.ref p]) (upd H p (.tup rest)) Q E) := by
  obtain ⟨fd, oc, od, dV, kV, doc, pm, an, cdv, ct, osl, rfl, lk, hcd, hD, hK⟩ := (show ∃ fd, _ from let ⟨fd, F⟩ := F; ⟨fd, F.ex⟩)
  obtain rfl : dV = .none := by
    rcases hD with ⟨_, e⟩ | ⟨e, _⟩
    · exact e
    · exact absurd rfl e
  exact StX.fn_star lk hcd S StX.cxUp (hb _ _ _ _ _ _) fun A outer s H vs Q E hr hsp => hbody _ A outer s H vs Q E hr hsp
theorem spX_len {α : Type} {A : α → List V → Hp → Prop} {R : α → V → Hp → Prop} {X : α → Value → Option Addr → Hp → Prop} {n : Nat} (h : ∀ a vs G, A a vs G → vs.length = n) : ∀ vs H Q E, spX A R X vs H Q E → vs.length = n :=
  fun vs H Q E ⟨a, G, _, ha, _⟩ => h a vs G ha
/-! facts of one's own -/
def cmX (K : Fr') (x m : Str) : Option (Addr × Addr) := match PySem.W.findCls K (.ref (ga K x)) (.type "type") m with
  | some (.get _ (.ref p) _ _) => (match PySem.W.recIn K p "classmethod" with
    | some (.ref g :: _) => some (p, g)
    | _ => none)
  | _ => none
def cmP (K : Fr') (x m : Str) : Addr := ((cmX K x m).getD (0, 0)).1
def cmG (K : Fr') (x m : Str) : Addr := ((cmX K x m).getD (0, 0)).2
def cmB (x m : Str) (K : Fr') : Bool := (match PySem.W.findCls K (.ref (ga K x)) (.type "type") m with
    | some (.get (.builtin s) (.ref p) .none (.ref C)) => decide (s = "classmethod.__get__") && (decide (p = cmP K x m) && decide (C = ga K x))
    | _ => false) &&
  ((match PySem.W.recIn K (cmP K x m) "classmethod" with
    | some (.ref g :: _) => decide (g = cmG K x m)
    | _ => false) && PySem.W.fnIn K (cmG K x m))
theorem cmB_ok {K : Fr'} {x m : Str} (h : cmB x m K = true) : ClX.CMet K (ga K x) (.type "type") m (cmP K x m) (cmG K x m) := by
  obtain ⟨h1, h2⟩ := ba h
  obtain ⟨h2, h3⟩ := ba h2
  refine ⟨?_, ?_, h3⟩
  · split at h1
    · rename_i e
      obtain ⟨q1, q2⟩ := ba h1
      obtain ⟨q2, q3⟩ := ba q2
      rw [e, of_decide_eq_true q1, of_decide_eq_true q2, of_decide_eq_true q3]
    · cases h1
  cases e : PySem.W.recIn K (cmP K x m) "classmethod" with
  | none => rw [e] at h2; cases h2
  | some l =>
    rw [e] at h2
    cases l with
    | nil => cases h2
    | cons v r => cases v with
      | ref g => exact ⟨r, by rw [show g = cmG K x m from of_decide_eq_true h2]⟩
      | _ => cases h2
def crB (x : Str) (K : Fr') : Bool := PySem.W.readsIn K (ga K x) (.type "type") && eqO (PySem.W.specialIn K (.ref (ga K x)) "__getattribute__") (some (some (.builtin "type.__getattribute__")))
theorem crB_ok {K : Fr'} {x : Str} (h : crB x K = true) : ClX.CRead K (ga K x) (.type "type") := let ⟨h1, h2⟩ := ba h; ⟨h1, eqO_ok h2⟩
def sfB (x : Str) (K : Fr') : Bool := PySem.W.selfFirst K (ga K x)
def nfB (x y : Str) (K : Fr') : Bool := PySem.W.notFirst K (ga K x) (.ref (ga K y))
def isB (x y : Str) (b : Bool) (K : Fr') : Bool := decide (PySem.W.kitOne K (.ref (ga K x)) (.ref (ga K y)) = some b)
def isT (x : Str) (y : String) (b : Bool) (K : Fr') : Bool := decide (PySem.W.kitOne K (.ref (ga K x)) (.type y) = some b)
def itB (x : String) (y : Str) (b : Bool) (K : Fr') : Bool := decide (PySem.W.kitOne K (.type x) (.ref (ga K y)) = some b)
def tyB (x : Str) (K : Fr') : Bool := eqO (PySem.W.findIn K (.ref (ga K x)) "__class__") (some (some (.builtin "object.__class__"))) && (eqO (PySem.W.specialIn K (.builtin "object.__class__") "__get__") (some (some (.builtin "getset_descriptor.__get__"))) &&
  (decide (PySem.W.takesIn K (.builtin "object.__class__") = some true) && decide (PySem.W.mroIn K (ga K x) (.type "object") = some true)))
/-- an instance of C is told by its type -/
def TyI (K : Fr') (C : Addr) : Prop := ∀ {H : Hp} {a dx : Addr} {fs : List (Str × V)}, H a = some (.ins C dx fs) → TyX K H (.ref a) (.ref C)
theorem tyB_ok {K : Fr'} {x : Str} (c : Cls K (ga K x)) (h : tyB x K = true) : TyI K (ga K x) := fun e => by
  obtain ⟨h1, h2⟩ := ba h
  obtain ⟨h2, h3⟩ := ba h2
  obtain ⟨h3, h4⟩ := ba h3
  exact .base (.ins e c (eqO_ok h1) (eqO_ok h2) (of_decide_eq_true h3) (of_decide_eq_true h4))
end Ax

/-! One rule for each operator, whatever the kinds of its sides; the steps at the leaves. -/
namespace Ax
open PySem PySem.Spec PyProof.Rows L2 SlX StX
section
variable {X : Cx}
/-! ### the operators -/
def AddR (K : PySem.W.Frag) : R2 := fun x y H Q => rI0 (fun i j => .int (i + j)) x y H Q ∨ (∃ i j, x = .str i ∧ y = .str j ∧ i.length + j.length ≤ sizeLine ∧ Q (.str (i ++ j)) H) ∨ rCat x y H Q ∨ rCatA K x y H Q
theorem op_addU : OpR X (binaryOp .Add) (AddR X.K) := op_add.or (op_add_str.or (op_cat.or op_catA))
def MulR : R2 := fun x y H Q => rI CMul (fun i j => .int (i * j)) x y H Q ∨ rRep x y H Q
theorem op_mulU : OpR X (binaryOp .Mult) MulR := op_mul.or op_rep
/-- v holds x -/
abbrev Da (K : PySem.W.Frag) (G : Hp) {α : Type} [DecidableEq α] [PySem.W.Datum α] (v : V) (x : α) : Prop := Dp K G v (PySem.W.Datum.toD x)
def rEqT (K : PySem.W.Frag) : R2 := fun x y H Q => ∃ (α : Type) (_ : DecidableEq α) (_ : PySem.W.Datum α) (a b : α), Da K H x a ∧ Da K H y b ∧ PySem.W.Datum.depth α ≤ 60 ∧ Q (.bl (decide (a = b))) H
def rNeT (K : PySem.W.Frag) : R2 := fun x y H Q => ∃ (α : Type) (_ : DecidableEq α) (_ : PySem.W.Datum α) (a b : α), Da K H x a ∧ Da K H y b ∧ PySem.W.Datum.depth α ≤ 60 ∧ Q (.bl (decide (a ≠ b))) H
theorem op_eqT (hu : X.A.units + 64 < cLine) : OpR X (compareOp .Eq) (rEqT X.K) := by
  intro pins s σ H x y v u Q I rx ry h
  obtain ⟨α, _, _, a, b, ha, hb, hd, q⟩ := h
  obtain ⟨as, r1⟩ := Dp.reads I _ x v ha rx
  obtain ⟨bs, r2⟩ := Dp.reads I _ y u hb ry
  exact PySem.W.eq_datum ⟨as, r1⟩ ⟨bs, r2⟩ (by omega) ⟨.bl _, H, I, rfl, q⟩
theorem op_neT (hu : X.A.units + 64 < cLine) : OpR X (compareOp .NotEq) (rNeT X.K) := by
  intro pins s σ H x y v u Q I rx ry h
  obtain ⟨α, _, _, a, b, ha, hb, hd, q⟩ := h
  obtain ⟨as, r1⟩ := Dp.reads I _ x v ha rx
  obtain ⟨bs, r2⟩ := Dp.reads I _ y u hb ry
  exact PySem.W.ne_datum ⟨as, r1⟩ ⟨bs, r2⟩ (by omega) ⟨.bl _, H, I, rfl, q⟩
def EqR (K : PySem.W.Frag) : R2 := fun x y H Q => rEq x y H Q ∨ rEqT K x y H Q
theorem op_eqU (hu : X.A.units + 64 < cLine) : OpR X (compareOp .Eq) (EqR X.K) := op_eq.or (op_eqT hu)
def NeR (K : PySem.W.Frag) : R2 := fun x y H Q => rNe x y H Q ∨ rNeT K x y H Q
theorem op_neU (hu : X.A.units + 64 < cLine) : OpR X (compareOp .NotEq) (NeR X.K) := op_ne.or (op_neT hu)
/-- y is a list or a tuple of items of one type -/
def DaSeq (K : PySem.W.Frag) (G : Hp) {α : Type} [DecidableEq α] [PySem.W.Datum α] (v : V) (xs : List α) : Prop := ∃ p vs, v = .ref p ∧ (SqL K G p vs ∨ SqT K G p vs) ∧ DpAll K G vs (xs.map PySem.W.Datum.toD)
def rInT (K : PySem.W.Frag) (neg : Bool) : R2 := fun x y H Q => ∃ (α : Type) (_ : DecidableEq α) (_ : PySem.W.Datum α) (a : α) (xs : List α), Da K H x a ∧ DaSeq K H y xs ∧ PySem.W.Datum.depth α ≤ 60 ∧ Q (.bl (if neg then decide (a ∉ xs) else decide (a ∈ xs))) H
theorem op_inT (hu : X.A.units + 64 < cLine) : OpR X (compareOp .In) (rInT X.K false) := by
  intro pins s σ H x y v u Q I rx ry h
  obtain ⟨α, _, _, a, xs, ha, ⟨p, vs, rfl, hq, hv⟩, hd, q⟩ := h
  obtain ⟨as, r1⟩ := Dp.reads I _ x v ha rx
  cases (show u = Value.ref p from ry)
  rcases hq with hq | hq
  · obtain ⟨its, r, pl, hz⟩ := I.list hq
    obtain ⟨bs, r2⟩ := Dp.readsAll I _ vs its hv r
    exact PySem.W.in_list_datum pl.isList ⟨bs, r2⟩ ⟨as, r1⟩ (by omega) ⟨.bl _, H, I, rfl, q⟩
  · obtain ⟨its, r, pl, hz⟩ := I.tuple hq
    obtain ⟨bs, r2⟩ := Dp.readsAll I _ vs its hv r
    exact PySem.W.in_tuple_datum pl ⟨bs, r2⟩ ⟨as, r1⟩ (by omega) ⟨.bl _, H, I, rfl, q⟩
theorem op_niT (hu : X.A.units + 64 < cLine) : OpR X (compareOp .NotIn) (rInT X.K true) := by
  intro pins s σ H x y v u Q I rx ry h
  obtain ⟨α, _, _, a, xs, ha, ⟨p, vs, rfl, hq, hv⟩, hd, q⟩ := h
  obtain ⟨as, r1⟩ := Dp.reads I _ x v ha rx
  cases (show u = Value.ref p from ry)
  rcases hq with hq | hq
  · obtain ⟨its, r, pl, hz⟩ := I.list hq
    obtain ⟨bs, r2⟩ := Dp.readsAll I _ vs its hv r
    exact PySem.W.notIn_list_datum pl.isList ⟨bs, r2⟩ ⟨as, r1⟩ (by omega) ⟨.bl _, H, I, rfl, q⟩
  · obtain ⟨its, r, pl, hz⟩ := I.tuple hq
    obtain ⟨bs, r2⟩ := Dp.readsAll I _ vs its hv r
    exact PySem.W.notIn_tuple_datum pl ⟨bs, r2⟩ ⟨as, r1⟩ (by omega) ⟨.bl _, H, I, rfl, q⟩
def InR (K : PySem.W.Frag) : R2 := fun x y H Q => rInT K false x y H Q ∨ ∃ (c : Nat) (z : Str), x = .str ⟨#[c]⟩ ∧ y = .str z ∧ Q (.bl (decide (c ∈ z.cps.toList))) H
theorem op_inU (hu : X.A.units + 64 < cLine) : OpR X (compareOp .In) (InR X.K) := (op_inT hu).or op_in_sign
def NiR (K : PySem.W.Frag) : R2 := fun x y H Q => rInT K true x y H Q ∨ ∃ (c : Nat) (z : Str), x = .str ⟨#[c]⟩ ∧ y = .str z ∧ Q (.bl (!decide (c ∈ z.cps.toList))) H
theorem op_niU (hu : X.A.units + 64 < cLine) : OpR X (compareOp .NotIn) (NiR X.K) := (op_niT hu).or op_notIn_sign
def LenU (K : PySem.W.Frag) : List V → Hp → VK → Prop := fun xs H Q => ∃ x n, xs = [x] ∧ LenV K x H n ∧ Q (.int n) H
theorem call_lenU : CallR X (.builtin "len") (LenU X.K) := call_len
theorem pe_gc {x : Str} {z : Str} {pos : Pos} (hg : Gl X x) (hm : ∃ t, X.mg x = some (.str z t)) (hd : (x == ("__debug__" : Str)) = false := by decide) : PE X (.Name x pos) (tC (.str z)) := by
  obtain ⟨t, h⟩ := hm
  exact pe_glob hg h ⟨t, rfl⟩ hd
theorem pe_gi {x : Str} {z : Int} {pos : Pos} (hg : Gl X x) (hm : ∃ t, X.mg x = some (.int z t)) (hd : (x == ("__debug__" : Str)) = false := by decide) : PE X (.Name x pos) (tC (.int z)) := by
  obtain ⟨t, h⟩ := hm
  exact pe_glob hg h ⟨t, rfl⟩ hd
end
section
variable {X : Cx} {CX : CXT} {k : Nat} {f : Addr} {sp : Sp} {E : XK} {x : Str} {e : Expr} {es : List Expr} {t : TA} {p pos : Pos}
/-- f(e, ..), plain, by a positional promise -/
theorem pe_callR (F : FnR X.prog X.w X.K X.mg X.base CX k f sp) (hr : Room k X.A) (hk : PySem.W.keepIn X.K (.ref f) = true) (hg : Gl X x) (hm : X.mg x = some (.ref f)) (hx : Passes CX X E) (ha : PA X (e :: es) t) (hd : (x == ("__debug__" : Str)) = false := by decide)
    (he : starEach (e :: es) X.env = (false, eval e X.env) :: starEach es X.env := by rfl) (hpl : (backTo pos (starEach es X.env)).any (·.1) = false := by rfl) : PE X (.Call (.Name x p) (e :: es) [] pos) (tCB (fun vs H Q => sp vs H Q E) t) := by
  refine ⟨fun pins s σ H Q I h => wpAny_Call_Name_kw (ld_glob I hg hm ?_ hd)⟩
  exact PySem.W.callWith_K (h₀ := X.base) I.ok.mod.kin hk (thn (ha.run pos pins s σ H _ I h) fun us s1 ⟨vs, H1, I1, r, q⟩ => ⟨I1.kIn, wpAny_call (run_fnR F hr hx I1 r q)⟩) he hpl
theorem pe_callR0 (F : FnR X.prog X.w X.K X.mg X.base CX k f sp) (hr : Room k X.A) (hk : PySem.W.keepIn X.K (.ref f) = true) (hg : Gl X x) (hm : X.mg x = some (.ref f)) (hx : Passes CX X E) (hd : (x == ("__debug__" : Str)) = false := by decide) :
    PE X (.Call (.Name x p) [] [] pos) (tCB (fun vs H Q => sp vs H Q E) tNil) := by
  refine ⟨fun pins s σ H Q I h => wpAny_Call_Name_kw (ld_glob I hg hm ?_ hd)⟩
  exact PySem.W.callWith_K0 I.kIn hk (wpAny_call (run_fnR (us := []) F hr hx I .nil h))
end

/-! ### the leaves -/
section
variable {K : PySem.W.Frag} {G0 H0 G H : Hp} {Q : VK} {σ : L2.St}
theorem add_i {i j : Int} (q : Q (.int (i + j)) H) : AddR K (.int i) (.int j) H Q := .inl ⟨_, _, rfl, rfl, q⟩
theorem add_s {i j : Str} (h : i.length + j.length ≤ 100000) (q : Q (.str (i ++ j)) H) : AddR K (.str i) (.str j) H Q := .inr (.inl ⟨_, _, rfl, rfl, sz h, q⟩)
theorem add_l {a b : Addr} {xs ys : List V} (N : Nx G0 H0 G H) (ha : G a = some (.lst xs)) (hb : G b = some (.lst ys)) (h : xs.length + ys.length ≤ 100000)
    (k : ∀ p G' H', Nx G0 H0 G' H' → Nx G H G' H' → G' p = some (.lst (xs ++ ys)) → Q (.ref p) H') : AddR K (.ref a) (.ref b) H Q :=
  .inr (.inr (.inl ⟨a, b, xs, ys, rfl, rfl, N.h _ _ ha, N.h _ _ hb, sz h, nw N k⟩))
theorem add_t {a b : Addr} {xs ys : List V} (N : Nx G0 H0 G H) (ha : G a = some (.tup xs)) (hb : G b = some (.tup ys)) (h : xs.length + ys.length ≤ 100000)
    (k : ∀ p G' H', Nx G0 H0 G' H' → Nx G H G' H' → G' p = some (.tup (xs ++ ys)) → Q (.ref p) H') : AddR K (.ref a) (.ref b) H Q :=
  .inr (.inr (.inr ⟨a, b, xs, ys, rfl, rfl, sqT (N.h _ _ ha), sqT (N.h _ _ hb), sz h,
    fun e => by subst e; exact k b G H N (Nx.refl N.h) hb, fun _ e => by subst e; exact k a G H N (Nx.refl N.h) (by rw [List.append_nil]; exact ha), fun _ _ => nw N k⟩))
theorem mul_i {i j : Int} (h : CMul i j) (q : Q (.int (i * j)) H) : MulR (.int i) (.int j) H Q := .inl ⟨_, _, rfl, rfl, h, q⟩
theorem eq_v {x y : V} (h : scal x y = true) (q : Q (.bl (decide (x = y))) H) : EqR K x y H Q := .inl ⟨h, q⟩
theorem ne_v {x y : V} (h : scal x y = true) (q : Q (.bl (!decide (x = y))) H) : NeR K x y H Q := .inl ⟨h, q⟩
theorem eq_s {x y : Str} (q : Q (.bl (decide (x = y))) H) : EqR K (.str x) (.str y) H Q := eq_v rfl (by
  have e : decide (V.str x = V.str y) = decide (x = y) := by rw [Bool.eq_iff_iff]; simp
  rw [e]; exact q)
theorem eq_i {x y : Int} (q : Q (.bl (decide (x = y))) H) : EqR K (.int x) (.int y) H Q := eq_v rfl (by
  have e : decide (V.int x = V.int y) = decide (x = y) := by rw [Bool.eq_iff_iff]; simp
  rw [e]; exact q)
theorem eq_b {x y : Bool} (q : Q (.bl (decide (x = y))) H) : EqR K (.bl x) (.bl y) H Q := eq_v rfl (by
  have e : decide (V.bl x = V.bl y) = decide (x = y) := by rw [Bool.eq_iff_iff]; simp
  rw [e]; exact q)
theorem ne_s {x y : Str} (q : Q (.bl (!decide (x = y))) H) : NeR K (.str x) (.str y) H Q := ne_v rfl (by
  have e : decide (V.str x = V.str y) = decide (x = y) := by rw [Bool.eq_iff_iff]; simp
  rw [e]; exact q)
theorem ne_i {x y : Int} (q : Q (.bl (!decide (x = y))) H) : NeR K (.int x) (.int y) H Q := ne_v rfl (by
  have e : decide (V.int x = V.int y) = decide (x = y) := by rw [Bool.eq_iff_iff]; simp
  rw [e]; exact q)
theorem ne_b {x y : Bool} (q : Q (.bl (!decide (x = y))) H) : NeR K (.bl x) (.bl y) H Q := ne_v rfl (by
  have e : decide (V.bl x = V.bl y) = decide (x = y) := by rw [Bool.eq_iff_iff]; simp
  rw [e]; exact q)
/-! data -/
section
variable {α : Type} [DecidableEq α] [PySem.W.Datum α] {v : V} {x y : α}
theorem eq_d {u : V} (ha : Da K H v x) (hb : Da K H u y) (q : Q (.bl (decide (x = y))) H) (hd : PySem.W.Datum.depth α ≤ 60 := by decide) : EqR K v u H Q := .inr ⟨α, _, _, x, y, ha, hb, hd, q⟩
theorem ne_d {u : V} (ha : Da K H v x) (hb : Da K H u y) (q : Q (.bl (decide (x ≠ y))) H) (hd : PySem.W.Datum.depth α ≤ 60 := by decide) : NeR K v u H Q := .inr ⟨α, _, _, x, y, ha, hb, hd, q⟩
theorem in_d {u : V} {xs : List α} (ha : Da K H v x) (hb : DaSeq K H u xs) (q : Q (.bl (decide (x ∈ xs))) H) (hd : PySem.W.Datum.depth α ≤ 60 := by decide) : InR K v u H Q := .inl ⟨α, _, _, x, xs, ha, hb, hd, q⟩
theorem ni_d {u : V} {xs : List α} (ha : Da K H v x) (hb : DaSeq K H u xs) (q : Q (.bl (decide (x ∉ xs))) H) (hd : PySem.W.Datum.depth α ≤ 60 := by decide) : NiR K v u H Q := .inl ⟨α, _, _, x, xs, ha, hb, hd, q⟩
end
mutual
theorem dp_up {G G' : Hp} (s : Same G G') : ∀ (v : V) (d : PyData), Dp K G v d → Dp K G' v d
  | _, _, .non => .non
  | _, _, .bl b => .bl b
  | _, _, .int i => .int i
  | _, _, .str x => .str x
  | _, _, .lst h t => .lst (Same.seqL s h) (dpAll_up s _ _ t)
  | _, _, .tup h t => .tup (Same.seqT s h) (dpAll_up s _ _ t)
theorem dpAll_up {G G' : Hp} (s : Same G G') : ∀ (v : List V) (d : List PyData), DpAll K G v d → DpAll K G' v d
  | _, _, .nil => .nil
  | _, _, .cons h t => .cons (dp_up s _ _ h) (dpAll_up s _ _ t)
end
theorem dpAll_map {α : Type} {f : α → V} {g : α → PyData} (h : ∀ x, Dp K H (f x) (g x)) : ∀ xs : List α, DpAll K H (xs.map f) (xs.map g)
  | [] => .nil
  | x :: xs => .cons (h x) (dpAll_map h xs)
theorem da_s {x : Str} : Da K H (.str x) x := .str x
theorem da_i {x : Int} : Da K H (.int x) x := .int x
theorem da_b {x : Bool} : Da K H (.bl x) x := .bl x
theorem da_ls {a : Addr} {xs : List Str} (h : SqL K H a (xs.map V.str)) : Da K H (.ref a) xs := .lst h (dpAll_map (fun x => Dp.str x) xs)
theorem da_li {a : Addr} {xs : List Int} (h : SqL K H a (xs.map V.int)) : Da K H (.ref a) xs := .lst h (dpAll_map (fun x => Dp.int x) xs)
theorem da_lb {a : Addr} {xs : List Bool} (h : SqL K H a (xs.map V.bl)) : Da K H (.ref a) xs := .lst h (dpAll_map (fun x => Dp.bl x) xs)
theorem da_ts {a : Addr} {xs : List Str} (h : SqT K H a (xs.map V.str)) : Da K H (.ref a) (PySem.W.Tup.mk xs) := .tup h (dpAll_map (fun x => Dp.str x) xs)
theorem ds_ls {a : Addr} {xs : List Str} (h : SqL K H a (xs.map V.str)) : DaSeq K H (.ref a) xs := ⟨a, _, rfl, .inl h, dpAll_map (fun x => Dp.str x) xs⟩
theorem ds_ts {a : Addr} {xs : List Str} (h : SqT K H a (xs.map V.str)) : DaSeq K H (.ref a) xs := ⟨a, _, rfl, .inr h, dpAll_map (fun x => Dp.str x) xs⟩
/-! signs in a text, lengths, items, slices -/
theorem in_c {c : Nat} {z : Str} (q : Q (.bl (decide (c ∈ z.cps.toList))) H) : InR K (.str ⟨#[c]⟩) (.str z) H Q := .inr ⟨c, z, rfl, rfl, q⟩
theorem ni_c {c : Nat} {z : Str} (q : Q (.bl (!decide (c ∈ z.cps.toList))) H) : NiR K (.str ⟨#[c]⟩) (.str z) H Q := .inr ⟨c, z, rfl, rfl, q⟩
theorem len_s {z : Str} (h : z.length ≤ 100000) (q : Q (.int z.length) H) : LenU K [.str z] H Q := ⟨.str z, z.length, rfl, ⟨sz h, rfl⟩, q⟩
theorem len_l {a : Addr} {xs : List V} (h : SqL K H a xs) (q : Q (.int xs.length) H) : LenU K [.ref a] H Q := ⟨.ref a, _, rfl, .inl ⟨xs, h, rfl⟩, q⟩
theorem len_t {a : Addr} {xs : List V} (h : SqT K H a xs) (q : Q (.int xs.length) H) : LenU K [.ref a] H Q := ⟨.ref a, _, rfl, .inr ⟨xs, h, rfl⟩, q⟩
theorem atI_nat {α : Type} {xs : List α} {i : Nat} {x : α} (h : xs[i]? = some x) : atI xs (i : Int) = some x := by
  have hl : i < xs.length := (List.getElem?_eq_some_iff.mp h).1
  unfold atI ixN
  rw [if_pos (by omega), if_pos (by omega)]
  simpa using h
theorem ix_l {a : Addr} {xs : List V} {i : Int} {v : V} (h : SqL K H a xs) (e : atI xs i = some v) (q : Q v H) : rIx K (.ref a) (.int i) H Q := .inl ⟨a, xs, i, v, rfl, rfl, h, e, q⟩
theorem ix_t {a : Addr} {xs : List V} {i : Int} {v : V} (h : SqT K H a xs) (e : atI xs i = some v) (q : Q v H) : rIx K (.ref a) (.int i) H Q := .inr (.inl ⟨a, xs, i, v, rfl, rfl, h, e, q⟩)
theorem ix_s {z : Str} {i : Int} {c : Nat} (h : z.length ≤ 100000) (e : atI z.cps.toList i = some c) (q : Q (.str ⟨#[c]⟩) H) : rIx K (.str z) (.int i) H Q := .inr (.inr ⟨z, i, c, rfl, rfl, sz h, e, q⟩)
end
end Ax

/-! The law's pool of numbers: one list of ints, whatever stands in it. -/
namespace Ax
open PySem PySem.Spec PyProof.Rows L2 SlX StX
def poolAt (p : Addr) (h : Heap) : Prop := ∃ (ns : List Int) (its : List Value) (n : Nat), ns.length ≤ sizeLine ∧ Vals (ns.map V.int) its ∧ h.get? p = some { cls := .type "list", data := .seq its.toArray n }
def Pool (p : Addr) : HO := .ext (poolAt p)
section
variable {P : Program} {w : World} {K : PySem.W.Frag} {mg : Str → Option Value} {base : Heap} {k : Nat} {f : Addr}
theorem pool_ok {H : Hp} {h : Heap} {p : Addr} (x : poolAt p h) : ObjOk P w H h p (Pool p) :=
  ⟨x, let ⟨_, _, _, _, _, e⟩ := x; ⟨_, e⟩, fun h1 h2 ⟨ns, its, n, a, b, e⟩ k => ⟨ns, its, n, a, b, k _ e⟩⟩
theorem upd_self {H : Hp} {p : Addr} {o : HO} (h : H p = some o) : upd H p o = H := by
  funext b
  unfold upd
  split
  · rename_i e; rw [e, h]
  · rfl
/-- what a draw does, with the list told -/
def spDrawL : Sp := fun vs H Q E => ∃ (p : Addr) (ns : List Int) (m : Int) (G Hm : Hp), vs = [.ref p, .int m] ∧ H p = some (.lst (ns.map V.int)) ∧ Hm p = none ∧ G p = none ∧ Nx G Hm G H ∧ 0 < m ∧
  ∀ (r : Int) (ns' : List Int) (G' H' : Hp), Nx G Hm G' H' → H' p = some (.lst (ns'.map V.int)) → G' p = none → 0 ≤ r → r < m → Q (.int r) H'
/-- .. and not told -/
abbrev spDraw : Sp := spX (fun (a : Addr × Int) vs G => vs = [.ref a.1, .int a.2] ∧ G a.1 = some (Pool a.1) ∧ 0 < a.2) (fun a v _ => ∃ r : Int, v = .int r ∧ 0 ≤ r ∧ r < a.2) NoX
theorem pool_draw (F : FnR P w K mg base (L2.CX P w) k f spDrawL) : FnR P w K mg base (L2.CX P w) k f spDraw := by
  rintro A outer s H us vs Q E hr e0 r ⟨⟨p, m⟩, G, hG, ⟨rfl, gp, hm⟩, hQ, _⟩
  have hp : H p = some (Pool p) := hG _ _ gp
  obtain ⟨ns, its, n, hl, rv, ho⟩ := (show ObjOk P w H s.heap p (Pool p) from e0.hok p _ hp).1
  have mu : Mut (H p) := by rw [hp]; exact True.intro
  have hok1 : HOk P w (upd H p (.lst (ns.map V.int))) s.heap := e0.hok.write mu (.inl rfl) (fun _ _ _ e => e) ⟨_, ho⟩ ⟨by rw [List.length_map]; exact hl, its, n, rv, ho⟩
  have e1 : Env0 P w K mg base A outer s (upd H p (.lst (ns.map V.int))) :=
    ⟨e0.frames, e0.mod, fun b o e => ⟨(e0.bs b o e).1, by rw [upd_ne (ne_nn' (e0.bs b o e).2 hp)]; exact (e0.bs b o e).2⟩, e0.bsz, e0.funs, fun b hb => by rw [upd_ne (ne_nn' (e0.frf b hb) hp)]; exact e0.frf b hb, hok1, e0.bare⟩
  let Gm : Hp := fun b => if b = p then none else G b
  let Hm : Hp := fun b => if b = p then none else H b
  have gm : ∀ b, b ≠ p → Gm b = G b := fun b hb => if_neg hb
  have hmm : ∀ b, b ≠ p → Hm b = H b := fun b hb => if_neg hb
  have gp0 : Gm p = none := if_pos rfl
  have hp0 : Hm p = none := if_pos rfl
  have N0 : Nx Gm Hm Gm (upd H p (.lst (ns.map V.int))) := ⟨Same.refl _, fun b o e => by
      by_cases hb : b = p
      · subst hb; rw [gp0] at e; cases e
      · rw [gm b hb] at e; rw [upd_ne hb]; exact hG _ _ e, fun b o e => by
      by_cases hb : b = p
      · subst hb; rw [hp0] at e; cases e
      · rw [hmm b hb] at e; rw [upd_ne hb]; exact e, fun _ x => .inl x⟩
  refine codeAny_mono (F A outer s (upd H p (.lst (ns.map V.int))) us _ (fun v H' => ∃ (r : Int) (ns' : List Int) (G' : Hp), Nx Gm Hm G' H' ∧ H' p = some (.lst (ns'.map V.int)) ∧ G' p = none ∧ 0 ≤ r ∧ r < m ∧ v = .int r) E0 hr e1 r
    ⟨p, ns, m, Gm, Hm, rfl, upd_same, hp0, gp0, N0, hm, fun r ns' G' H' n h1 h2 h3 h4 => ⟨r, ns', G', n, h1, h2, h3, h4, rfl⟩⟩) fun r s' z => ?_
  cases r with
  | error e =>
    obtain ⟨_, _, _, _, _, _, _, _, _, _, _, _, z⟩ := z
    exact z.elim
  | ok fl =>
    cases fl with
    | ret u =>
      obtain ⟨v, H', os, bare, un, hok, rvv, r, ns', G', n, h1, h2, h3, h4, rfl⟩ := z
      have x := hok p _ h1
      obtain ⟨hl', its', n', rv', ho'⟩ := (show ObjOk P w H' s'.heap p (.lst (ns'.map V.int)) from x)
      have mu' : Mut (H' p) := by rw [h1]; exact True.intro
      have hok2 := hok.write (o' := Pool p) mu' (.inl rfl) (fun _ _ _ e => e) ⟨_, ho'⟩ (pool_ok ⟨ns', its', n', by rw [List.length_map] at hl'; exact hl', rv', ho'⟩)
      refine ⟨.int r, upd H' p (Pool p), os, bare, ⟨fun b o q n hb hx => un.keep b o q (by rw [upd_ne (ne_nn' n hp)]; exact n) hb hx, fun b o q n hb hx => un.slot b o q (by rw [upd_ne (ne_nn' n hp)]; exact n) hb hx,
        fun b o q n hx => by rw [upd_ne (ne_nn' n hp)]; exact un.free b o q (by rw [upd_ne (ne_nn' n hp)]; exact n) hx, un.there,
        fun b xs q => ?_, fun b o u q => ?_, fun b ps q => ?_⟩, hok2, rvv, hQ _ (upd G' p (Pool p)) _ ⟨fun b o e => ?_, fun b o e => ?_, fun b o e => ?_, fun b e => ?_⟩ ⟨r, rfl, h3, h4⟩⟩
      · have hb : b ≠ p := fun e => by rw [e, hp] at q; cases q
        rw [upd_ne hb]; exact un.tups b xs (by rw [upd_ne hb]; exact q)
      · have hb : b ≠ p := fun e => by rw [e, hp] at q; cases q
        rw [upd_ne hb]; exact un.frzs b o u (by rw [upd_ne hb]; exact q)
      · have hb : b ≠ p := fun e => by rw [e, hp] at q; cases q
        rw [upd_ne hb]; exact un.tbls b ps (by rw [upd_ne hb]; exact q)
      · by_cases hb : b = p
        · subst hb; rw [gp] at e; cases e; exact upd_same
        · rw [upd_ne hb]; exact n.g _ _ (by rw [gm b hb]; exact e)
      · by_cases hb : b = p
        · subst hb; rw [upd_same] at e ⊢; exact e
        · rw [upd_ne hb] at e ⊢; exact n.h _ _ e
      · by_cases hb : b = p
        · subst hb; rw [hp] at e; cases e; exact upd_same
        · rw [upd_ne hb]; exact n.e _ _ (by rw [hmm b hb]; exact e)
      · by_cases hb : b = p
        · subst hb; exact .inl (by rw [gp]; exact fun z => nomatch z)
        · rw [upd_ne hb] at e
          rcases n.n b e with z | z
          · rw [gm b hb] at z; exact .inl z
          · rw [hmm b hb] at z; exact .inr z
    | next => exact z.elim
    | brk => exact z.elim
    | cont => exact z.elim
where ne_nn' {H : Hp} {a b : Addr} {o : HO} (h : H a = none) (h' : H b = some o) : a ≠ b := fun e => by rw [e, h'] at h; cases h
/-- the pool is made: the list is told -/
def spPoolL (B : Addr → List Int → Prop) : Sp := fun vs H Q E => ∃ (a : Addr) (ns : List Int) (G : Hp), Same G H ∧ vs = [.ref a] ∧ SqL K G a (ns.map V.int) ∧ B a ns ∧
  ∀ p G' H' (ms : List Int), Nx G H G' H' → H' p = some (.lst (ms.map V.int)) → G' p = none → H p = none → Q (.ref p) H'
abbrev spPool (B : Addr → List Int → Prop) : Sp := spX (fun (a : Addr × List Int) vs G => vs = [.ref a.1] ∧ SqL K G a.1 (a.2.map V.int) ∧ B a.1 a.2) (fun _ v G => ∃ p, v = .ref p ∧ G p = some (Pool p)) NoX
theorem pool_make {B : Addr → List Int → Prop} (F : FnR P w K mg base (L2.CX P w) k f (spPoolL (K := K) B)) : FnR P w K mg base (L2.CX P w) k f (spPool (K := K) B) := by
  rintro A outer s H us vs Q E hr e0 r ⟨⟨a, ns⟩, G, hG, ⟨rfl, ga, hB⟩, hQ, _⟩
  refine codeAny_mono (F A outer s H us _ (fun v H' => ∃ (p : Addr) (G' : Hp) (ms : List Int), v = .ref p ∧ Nx G H G' H' ∧ H' p = some (.lst (ms.map V.int)) ∧ G' p = none ∧ H p = none) E0 hr e0 r
    ⟨a, ns, G, hG, rfl, ga, hB, fun p G' H' ms n h1 h2 h3 => ⟨p, G', ms, rfl, n, h1, h2, h3⟩⟩) fun r s' z => ?_
  cases r with
  | error e =>
    obtain ⟨_, _, _, _, _, _, _, _, _, _, _, _, z⟩ := z
    exact z.elim
  | ok fl =>
    cases fl with
    | ret u =>
      obtain ⟨v, H', os, bare, un, hok, rvv, p, G', ms, rfl, n, h1, h2, h3⟩ := z
      have x := hok p _ h1
      obtain ⟨hl', its', n', rv', ho'⟩ := (show ObjOk P w H' s'.heap p (.lst (ms.map V.int)) from x)
      have mu' : Mut (H' p) := by rw [h1]; exact True.intro
      have hok2 := hok.write (o' := Pool p) mu' (.inl rfl) (fun _ _ _ e => e) ⟨_, ho'⟩ (pool_ok ⟨ms, its', n', by rw [List.length_map] at hl'; exact hl', rv', ho'⟩)
      have hne : ∀ b o, s.heap.get? b = some o → b ≠ p := fun b o q e => by
        subst e
        have := un.free b o q h3 (by simp)
        rw [h1] at this
        cases this
      refine ⟨.ref p, upd H' p (Pool p), os, bare, ⟨un.keep, un.slot, fun b o q n hx => ?_, un.there, fun b xs q => ?_, fun b o u q => ?_, fun b ps q => ?_⟩, hok2, rvv,
        hQ _ (upd G' p (Pool p)) _ ((n.mut h3 h2 (o := Pool p)).fz upd_same h3 h2) ⟨p, rfl, upd_same⟩⟩
      · rw [upd_ne (hne b o q)]; exact un.free b o q n hx
      · rw [upd_ne (fun e => by rw [e, h3] at q; cases q)]; exact un.tups b xs q
      · rw [upd_ne (fun e => by rw [e, h3] at q; cases q)]; exact un.frzs b o u q
      · rw [upd_ne (fun e => by rw [e, h3] at q; cases q)]; exact un.tbls b ps q
    | next => exact z.elim
    | brk => exact z.elim
    | cont => exact z.elim
/-- a display of written ints -/
def tInts (ks : List Int) : TA := ks.foldr (fun k t => tCons (tC (.int k)) t) tNil
theorem w_ints {σ : L2.St} {H : Hp} : ∀ {ks : List Int} {Q : List V → Hp → Prop}, Q (ks.map V.int) H → tInts ks σ H Q
  | [], _, q => q
  | k :: ks, Q, q => w_ints (ks := ks) (Q := fun xs H2 => Q (V.int k :: xs) H2) q
/-- the pool grows by written ints -/
theorem pool_ext {σ : L2.St} {p : Addr} {ms : List Int} {H G H0 G0 : Hp} {Q : VK} {m : Nat} (hp : H p = some (.lst (ms.map V.int))) (N : Nx G0 H0 G H) (gp : G p = none) (h0 : H0 p = none) (hl : ms.length ≤ m) {t : TA} (ks : List Int)
    (ht : t = tInts ks) (hk : m + ks.length ≤ 90000) (q : ∀ (ms' : List Int) (G' H' : Hp), Nx G0 H0 G' H' → H' p = some (.lst (ms'.map V.int)) → G' p = none → ms'.length ≤ m + ks.length → Q .non H') :
    (fun (x : V) (H1 : Hp) => tyV K "list" x H1 ∧ tCons (tLst t) tNil σ H1 fun xs H2 => rExtend x xs H2 Q) (.ref p) H := by
  refine ⟨.inl ⟨rfl, _, sqL hp⟩, ?_⟩
  subst ht
  refine w_cons ?_
  show tInts ks σ H (fun xs H1 => xs.length ≤ sizeLine ∧ ∀ q, H1 q = none → tNil σ (upd H1 q (.lst xs)) fun ys H2 => rExtend (.ref p) (V.ref q :: ys) H2 Q)
  refine w_ints ⟨by rw [List.length_map]; exact sz (by omega), fun b hb => ?_⟩
  have N1 := N.newk (o := .lst (ks.map V.int)) hb
  have n1 := (Nx.refl N.h).newk (o := .lst (ks.map V.int)) hb
  have hp1 := n1.e _ _ hp
  have gp1 := n1.hid hp gp
  refine w_nil ⟨p, b, ms.map V.int, ks.map V.int, rfl, rfl, hp1, upd_same, by rw [List.length_map, List.length_map]; exact sz (by omega), ?_⟩
  refine q (ms ++ ks) _ _ (N1.mut (o := .lst (ms.map V.int ++ ks.map V.int)) h0 gp1) (by rw [List.map_append]; exact upd_same) gp1 (by rw [List.length_append]; omega)
end
theorem dr {p : Addr} {m : Int} {G0 H0 G H : Hp} {Q : VK} {E : XK} (N : Nx G0 H0 G H) (hp : G p = some (Pool p)) (hm : 0 < m) (k : ∀ r G' H', Nx G0 H0 G' H' → Nx G H G' H' → 0 ≤ r → r < m → Q (.int r) H') : spDraw [.ref p, .int m] H Q E :=
  cl0 N (p, m) ⟨rfl, hp, hm⟩ fun v G' H' N' n ⟨r, e, h1, h2⟩ => by subst e; exact k r G' H' N' n h1 h2
end Ax

/-! The law's own def; small things for the steps. -/
namespace Ax
open PySem PySem.Spec PyProof.Rows L2 SlX StX
abbrev spLaw (K : PySem.W.Frag) : Sp := spX (fun (a : Addr × List Int) vs G => vs = [.ref a.1] ∧ SqL K G a.1 (a.2.map V.int) ∧ a.2.length ≤ 63 ∧ ∀ z ∈ a.2, Builtin.Int.intBits z ≤ 1048576) (fun _ v _ => v = .bl true) NoX
theorem law_sp {K : PySem.W.Frag} {H : Hp} {a : Addr} {ns : List Int} (hl : ns.length ≤ 63) (hb : ∀ z ∈ ns, Builtin.Int.intBits z ≤ 1048576) (hS : SqL K H a (ns.map V.int)) : spLaw K [.ref a] H (fun v _ => v = .bl true) fun _ _ _ => False :=
  ⟨(a, ns), H, Same.refl _, ⟨rfl, hS, hl, hb⟩, fun _ _ _ _ h => h, fun _ _ _ _ _ h => h.elim⟩
theorem len_nil {i : Nat} {α : Type} : ([] : List α)[i]? = none := by simp
theorem t_if {c : Bool} {p q : Prop} (h1 : c = true → p) (h2 : c = false → q) : if c = true then p else q := by
  cases c with
  | true => exact iteT (h1 rfl)
  | false => exact iteF (h2 rfl)
/-- a new object, known from now on -/
theorem nobj {G0 H0 G H : Hp} {p : Addr} (N : Nx G0 H0 G H) (hp : H p = none) (o : HO) : ∃ G' H', upd H p o = H' ∧ Nx G0 H0 G' H' ∧ Nx G H G' H' ∧ G' p = some o :=
  ⟨upd G p o, _, rfl, N.newk hp, (Nx.refl N.h).newk hp, upd_same⟩
/-- a new object of the def's own, that may change -/
theorem nobjm {G0 H0 G H : Hp} {p : Addr} (N : Nx G0 H0 G H) (hp : H p = none) (o : HO) : ∃ H', upd H p o = H' ∧ Nx G0 H0 G H' ∧ Nx G H G H' ∧ H' p = some o ∧ G p = none ∧ H0 p = none :=
  ⟨_, rfl, N.more (same_new hp), (Nx.refl N.h).more (same_new hp), upd_same, N.h.free hp, N.e.free hp⟩
/-- .. is changed -/
theorem mobj {G0 H0 G H : Hp} {p : Addr} (N : Nx G0 H0 G H) (h0 : H0 p = none) (hg : G p = none) (o : HO) : ∃ H', upd H p o = H' ∧ Nx G0 H0 G H' ∧ H' p = some o :=
  ⟨_, rfl, N.mut h0 hg, upd_same⟩
section
variable {K : PySem.W.Frag} {σ : L2.St} {H G0 H0 G : Hp} {Q : VK}
theorem w_bm0 {T : String} {r : V → List V → Hp → VK → Prop} {to : TE} (q : to σ H fun x H1 => tyV K T x H1 ∧ r x [] H1 Q) : tBM0 K T r to σ H Q := q
theorem w_bm {T : String} {r : V → List V → Hp → VK → Prop} {to : TE} {t : TA} (q : to σ H fun x H1 => tyV K T x H1 ∧ t σ H1 fun xs H2 => r x xs H2 Q) : tBM K T r to t σ H Q := q
theorem ty_l {l : Addr} {xs : List V} (h : H l = some (.lst xs)) : tyV K "list" (.ref l) H := .inl ⟨rfl, xs, sqL h⟩
theorem pop_l {l : Addr} {xs : List V} {y : V} (h : H l = some (.lst (xs ++ [y]))) (q : Q y (upd H l (.lst xs))) : rPop (.ref l) [] H Q := ⟨l, xs ++ [y], y, rfl, rfl, h, by simp, by rw [List.dropLast_concat]; exact q⟩
theorem app_l {l : Addr} {xs : List V} {y : V} (h : H l = some (.lst xs)) (hl : xs.length < 100000) (q : Q .non (upd H l (.lst (xs ++ [y])))) : rAppend (.ref l) [y] H Q := ⟨l, xs, y, rfl, rfl, h, szl hl, q⟩
theorem ext_l {l b : Addr} {xs zs : List V} (h : H l = some (.lst xs)) (hb : H b = some (.lst zs)) (hl : xs.length + zs.length ≤ 100000) (q : Q .non (upd H l (.lst (xs ++ zs)))) : rExtend (.ref l) [.ref b] H Q := ⟨l, b, xs, zs, rfl, rfl, h, hb, sz hl, q⟩
theorem rev_l {l : Addr} {xs : List V} (h : H l = some (.lst xs)) (q : Q .non (upd H l (.lst xs.reverse))) : rReverse (.ref l) [] H Q := ⟨l, xs, rfl, rfl, h, q⟩
theorem int_i {i : Int} (q : Q (.int i) H) : (fun xs H Q => (∃ i, xs = [V.int i] ∧ Q (.int i) H) ∨ ∃ k, xs = [V.bl k] ∧ Q (.int (if k then 1 else 0)) H : List V → Hp → VK → Prop) [.int i] H Q := .inl ⟨i, rfl, q⟩
theorem abs_i {i : Int} (q : Q (.int (if i < 0 then -i else i)) H) : (fun xs H Q => ∃ i, xs = [V.int i] ∧ Q (.int (if i < 0 then -i else i)) H : List V → Hp → VK → Prop) [.int i] H Q := ⟨i, rfl, q⟩
theorem mod_i {i j : Int} (h : 0 < j) (q : Q (.int (i % j)) H) : rI (fun _ j => 0 < j) (fun i j => .int (i % j)) (.int i) (.int j) H Q := ⟨i, j, rfl, rfl, h, q⟩
theorem snoc_of {α : Type} {xs : List α} (h : xs ≠ []) : ∃ ys y, xs = ys ++ [y] := ⟨xs.dropLast, xs.getLast h, (List.dropLast_concat_getLast h).symm⟩
end
/-! loops -/
theorem src_rngL {G : Hp} {lo : Int} {j n : Nat} (h : j = n) : Src (Itr lo j) G n (fun i x _ => x = .int (lo + i)) := by subst h; exact src_range
theorem src_rng {G : Hp} {j n : Nat} (h : j = n) : Src (Itr 0 j) G n (fun i x _ => x = .int (i : Nat)) := by
  have z := src_rngL (G := G) (lo := 0) h
  have e : (fun (i : Nat) (x : V) (_ : Hp) => x = .int (0 + (i : Int))) = fun i x _ => x = .int (i : Nat) := by funext i x _; rw [Int.zero_add]
  rw [e] at z
  exact z
def FrB (g : TG) (tb : TS) (D : Ends) (σ : L2.St) (J : It) (H1 : Hp) : Prop := ∃ W : Nat → Nat → L2.St → Hp → Prop, (∃ m, W 0 m σ H1) ∧ ∀ i m σ H, W i m σ H →
  (J.stop i H ∧ D.nx σ H) ∨ (J.go i H ∧ ∃ N : L2.St → Hp → Prop, (∀ σ' H', N σ' H' → ∃ m', m' < m ∧ W (i + 1) m' σ' H') ∧ ∀ x H', J.yld i H x H' → g x σ H' fun σ2 H2 => tb { D with nx := N, ct := N, bk := D.nx } σ2 H2)
def LcB (g : TG) (tt : TT) (te : TE) (vs : List Nat) (σ : L2.St) (Q : VK) (J : It) (H1 : Hp) : Prop := ∀ D, H1 D = none → ∃ W : Nat → Nat → Hp → Prop, (∃ m, W 0 m (upd H1 D (.lst []))) ∧ ∀ i m H, W i m H →
      (J.stop i H ∧ Q (.ref D) H) ∨ (J.go i H ∧ ∃ Nx : Hp → Prop, (∀ H', Nx H' → ∃ m', m' < m ∧ W (i + 1) m' H') ∧ ∀ x H', J.yld i H x H' → g x (wipe σ vs) H' fun σ2 H2 => wipe σ2 vs = wipe σ vs ∧ tt σ2 H2 fun b H3 =>
        if b = true then te σ2 H3 fun y H4 => ∃ acc, H4 D = some (.lst acc) ∧ acc.length < sizeLine ∧ Nx (upd H4 D (.lst (acc ++ [y]))) else Nx H3)
section
variable {K : PySem.W.Frag} {σ : L2.St} {H G0 H0 G : Hp} {D : Ends} {g : TG} {tb : TS} {J : It} {R : It → Hp → Prop}
theorem w_forS {wi : TI} (q : wi σ H fun J H1 => FrB g tb D σ J H1) : tFor wi g tb D σ H := q
theorem w_lcS {wi : TI} {tt : TT} {te : TE} {vs : List Nat} {Q : VK} (q : wi σ H fun J H1 => LcB g tt te vs σ Q J H1) : tLc wi g tt te vs σ H Q := q
theorem w_lst {t : TA} {Q : VK} (q : t σ H fun xs H1 => xs.length ≤ sizeLine ∧ ∀ p, H1 p = none → Q (.ref p) (upd H1 p (.lst xs))) : tLst t σ H Q := q
theorem w_tup {t : TA} {Q : VK} (q : t σ H fun xs H1 => xs.length ≤ sizeLine ∧ ∀ p, H1 p = none → Q (.ref p) (upd H1 p (.tup xs))) : tTup t σ H Q := q
theorem w_gn {i : Nat} {x : V} {Q : L2.St → Hp → Prop} (q : Q (σ.set i (some x)) H) : gName i x σ H Q := q
theorem w_rng1 {ta : TA} (q : ta σ H fun vs H1 => ∃ j : Int, vs = [.int j] ∧ -(2 ^ 62) ≤ j ∧ j < 2 ^ 62 ∧ R (Itr 0 j.toNat) H1) : iRng1 ta σ H R := q
theorem w_rng2 {ta : TA} (q : ta σ H fun vs H1 => ∃ i j : Int, vs = [.int i, .int j] ∧ (-(2 ^ 62) ≤ i ∧ i < 2 ^ 62 ∧ -(2 ^ 62) ≤ j ∧ j < 2 ^ 62) ∧ R (Itr i (j - i).toNat) H1) : iRng2 ta σ H R := q
theorem w_il {tl : TE} (q : tl σ H fun x H1 => ∃ a, x = .ref a ∧ (∃ xs, SqL K H1 a xs) ∧ R (Itl K a) H1) : iList K tl σ H R := q
theorem w_it {tl : TE} (q : tl σ H fun x H1 => ∃ a, x = .ref a ∧ (∃ xs, SqT K H1 a xs) ∧ R (Itt K a) H1) : iTup K tl σ H R := q
theorem w_is {tl : TE} (q : tl σ H fun v H1 => ∃ x, v = .str x ∧ R (Its x) H1) : iStr tl σ H R := q
theorem frb {n : Nat} {Y : Nat → V → Hp → Prop} (S : Src J G n Y) (N : Nx G0 H0 G H) (I : Nat → L2.St → Hp → Hp → Prop) (h0 : I 0 σ G H)
    (hs : ∀ i x σ' G' H' G'' H'', i < n → I i σ' G' H' → Nx G0 H0 G'' H'' → Same G G'' → Nx G' H' G'' H'' → Y i x G'' → g x σ' H'' fun σ2 H2 => tb { D with nx := LI G0 H0 G I (i + 1), ct := LI G0 H0 G I (i + 1), bk := D.nx } σ2 H2)
    (hd : ∀ σ' G' H', I n σ' G' H' → Nx G0 H0 G' H' → Same G G' → D.nx σ' H') : FrB g tb D σ J H := w_for S N I h0 hs hd
theorem lcb {α : Type} {tt : TT} {te : TE} {vs : List Nat} {Q : VK} {n : Nat} {Y : Nat → V → Hp → Prop} (S : Src J G n Y) (N : Nx G0 H0 G H)
    (zs : List α) (p : α → Bool) (R : α → V → Hp → Prop) (hn : zs.length = n) (hz : n ≤ 90000) (up : ∀ z v G G', Same G G' → R z v G → R z v G')
    (hs : ∀ i z x G' H', zs[i]? = some z → Same G G' → Same G' H' → Y i x G' → ∃ σ2, (∀ Q : L2.St → Hp → Prop, Q σ2 H' → g x (wipe σ vs) H' Q) ∧ wipe σ2 vs = wipe σ vs ∧ Gt tt σ2 G' H' (p z) ∧
      (p z = true → ∀ G2 H2, Same G' G2 → Same G2 H2 → Gv te σ2 G2 H2 (R z)))
    (k : ∀ D L G' H', Nx G0 H0 G' H' → Nx G H G' H' → H' D = some (.lst L) → G' D = none → H0 D = none → All2 R G' (zs.filter p) L → Q (.ref D) H') : LcB g tt te vs σ Q J H := w_lc S N zs p R hn hz up hs k
end
/-! the rules with the written part named (a comprehension's block must not name its own) -/
section
variable {X : Cx} {K : PySem.W.Frag} (hK : X.K = K)
include hK
theorem op_addK : OpR X (binaryOp .Add) (AddR K) := hK ▸ op_addU
theorem op_eqK (hu : X.A.units + 64 < cLine) : OpR X (compareOp .Eq) (EqR K) := hK ▸ op_eqU hu
theorem op_neK (hu : X.A.units + 64 < cLine) : OpR X (compareOp .NotEq) (NeR K) := hK ▸ op_neU hu
theorem op_inK (hu : X.A.units + 64 < cLine) : OpR X (compareOp .In) (InR K) := hK ▸ op_inU hu
theorem op_niK (hu : X.A.units + 64 < cLine) : OpR X (compareOp .NotIn) (NiR K) := hK ▸ op_niU hu
theorem call_lenK : CallR X (.builtin "len") (LenU K) := hK ▸ call_lenU
theorem ix_K : IxR X (rIx K) := hK ▸ ix_seq
theorem sl_listK : SlR X (rSlL K) := hK ▸ sl_list
theorem call_isiK' : CallR X (.builtin "isinstance") (rIsi K) := hK ▸ call_isi
theorem cr_allK (hc : X.calm = true) : CallR X (.builtin "all") (rAll K) := hK ▸ cr_all hc
theorem cr_anyK (hc : X.calm = true) : CallR X (.builtin "any") (rAny K) := hK ▸ cr_any hc
theorem call_setK {P : Program} {w : World} (hP : X.prog = P) (hw : X.w = w) (hc : X.calm = true) : CallR X (.type "set") (rSetS K P w) := by subst hK; subst hP; subst hw; exact call_setS hc
theorem call_listK : CallR X (.type "list") (fun xs H Q => ∃ p ys, xs = [.ref p] ∧ (SqL K H p ys ∨ SqT K H p ys) ∧ ∀ l, H l = none → Q (.ref l) (upd H l (.lst ys))) := hK ▸ call_list_of
theorem call_tupleK : CallR X (.type "tuple") (fun xs H Q => ∃ p ys, xs = [.ref p] ∧ ((SqL K H p ys ∧ ∀ l, H l = none → Q (.ref l) (upd H l (.tup ys))) ∨ (SqT K H p ys ∧ Q (.ref p) H))) := hK ▸ call_tuple_of
theorem pe_fldK {e : Expr} {f : Str} {pos : Pos} {ta : TE} (he : PE X e ta) (hb : attributeBase e f X.env (eval e X.env) = eval e X.env := by rfl) : PE X (.Attribute e f pos) (tFld K ta f) := hK ▸ pe_fld he hb
theorem pi_listK {tg l : Expr} {tl : TE} (hl : PE X l tl) : PI X tg l (iList K tl) := hK ▸ pi_list hl
theorem pi_tupK {tg l : Expr} {tl : TE} (hl : PE X l tl) : PI X tg l (iTup K tl) := hK ▸ pi_tup hl
theorem pe_revK {e : Expr} {te : TE} {k : Nat} {p1 p2 p3 pos : Pos} (he : PE X e te) : PE X (.Subscript e (.Slice none none (some (.UnaryOp .USub (.Constant (.int 1) k p1) p2)) p3) pos) (tRevL K te) := hK ▸ pe_revL he
end
theorem call_sortedK {X : Cx} {P : Program} {w : World} (hP : X.prog = P) (hw : X.w = w) (hc : X.calm = true) : CallR X (.builtin "sorted") (rSortedS' P w) := by subst hP; subst hw; exact call_sortedS hc
theorem flt_true {α : Type} {l : List α} : l.filter (fun _ => true) = l := List.filter_eq_self.mpr fun _ _ => rfl
theorem nlow {a : Bool} (h : (!a) = true) : a = false := by cases a with | false => rfl | true => cases h
theorem nlow' {a : Bool} (h : (!a) = false) : a = true := by cases a with | true => rfl | false => cases h
section
variable {K : PySem.W.Frag} {σ : L2.St} {H : Hp} {D : Ends}
theorem w_sfld {ta tv : TE} {f : Str} (q : tv σ H fun y H1 => ta σ H1 fun x H2 => ∃ a C dx fs, x = .ref a ∧ H2 a = some (.ins C dx fs) ∧ Cls K C ∧ NoAttr K C f ∧ fs.length < 1000 ∧ D.nx σ (upd H2 a (.ins C dx (putF f y fs)))) : sFld K ta tv f D σ H := q
theorem ty_s {z : Str} {Q : VK} {r : V → List V → Hp → VK → Prop} (q : r (.str z) [] H Q) : (∃ a, V.str z = .str a) ∧ r (.str z) [] H Q := ⟨⟨z, rfl⟩, q⟩
theorem w_m1 {r : V → List V → Hp → VK → Prop} {to te : TE} {Q : VK} (q : to σ H fun x H1 => (∃ a, x = .str a) ∧ te σ H1 fun y H2 => r x [y] H2 Q) : tM1 r to te σ H Q := q
theorem w_sl {r : V → Option Int → Option Int → Hp → VK → Prop} {te : TE} {tl th : TO} {Q : VK} (q : te σ H fun x H1 => tl σ H1 fun l H2 => th σ H2 fun u H3 => r x l u H3 Q) : tSl r te tl th σ H Q := q
theorem w_np {Q : Option Int → Hp → Prop} (q : Q none H) : tNoPart σ H Q := q
theorem w_meth {C : Addr} {m : Str} {sp : Sp} {E : XK} {ta : TE} {t : TA} {Q : VK} (q : ta σ H fun x H1 => ∃ a dx fs, x = .ref a ∧ H1 a = some (.ins C dx fs) ∧ fs.lookup m = none ∧ t σ H1 fun vs H2 => sp (x :: vs) H2 Q E) : tMethR C m sp E ta t σ H Q := q
theorem w_cmeth {C : Addr} {sp : Sp} {E : XK} {ta : TE} {t : TA} {Q : VK} (q : ta σ H fun x H1 => x = .ref C ∧ t σ H1 fun vs H2 => sp (.ref C :: vs) H2 Q E) : ClX.tCMeth C sp E ta t σ H Q := q
end
theorem w_part {t : TE} {σ : L2.St} {H : Hp} {Q : Option Int → Hp → Prop} (q : t σ H fun x H1 => ∃ i, x = .int i ∧ Q (some i) H1) : tPart t σ H Q := q
theorem w_pi {i : Int} {P : Int → Prop} (q : P i) : ∃ j, V.int i = .int j ∧ P j := ⟨i, rfl, q⟩
/-- what stands between two statements -/
theorem w_seqK {t u : TS} {D : Ends} {σ : L2.St} {H : Hp} (I : L2.St → Hp → Prop) (h2 : ∀ σ' H', I σ' H' → u D σ' H') (h1 : ∀ R : L2.St → Hp → Prop, (∀ σ' H', I σ' H' → R σ' H') → t { D with nx := R } σ H) : tSeq t u D σ H := h1 _ h2
/-- texts out of S -/
theorem all2_strs {α : Type} {S : Str → Prop} {G : Hp} : ∀ {zs : List α} {L : List V}, All2 (fun _ v _ => ∃ x, S x ∧ v = .str x) G zs L → ∃ row : List Str, L = row.map V.str ∧ row.length = zs.length ∧ ∀ x ∈ row, S x
  | _, _, .nil => ⟨[], rfl, rfl, fun _ h => by cases h⟩
  | _, _, .cons ⟨x, hx, e⟩ t => by
    obtain ⟨row, e2, l, h⟩ := all2_strs (G := G) t
    refine ⟨x :: row, by rw [e, e2]; rfl, by simp [l], fun y hy => ?_⟩
    rcases List.mem_cons.mp hy with z | z
    · subst z; exact hx
    · exact h y z
theorem w_rev {K : PySem.W.Frag} {te : TE} {σ : L2.St} {H : Hp} {Q : VK} (q : te σ H fun x H1 => ∃ a xs, x = .ref a ∧ SqL K H1 a xs ∧ ∀ p, H1 p = none → Q (.ref p) (upd H1 p (.lst xs.reverse))) : tRevL K te σ H Q := q
theorem iteF' {c : Bool} {A B : Prop} (hc : c = false) (h : B) : if c = true then A else B := by subst hc; exact iteF h
theorem len_two {α : Type} : ∀ {l : List α}, l.length = 2 → ∃ x y, l = [x, y]
  | [x, y], _ => ⟨x, y, rfl⟩
theorem len_three {α : Type} : ∀ {l : List α}, l.length = 3 → ∃ x y z, l = [x, y, z]
  | [x, y, z], _ => ⟨x, y, z, rfl⟩
theorem log_small {i : Nat} (h : i < 1000) : (i : Int).natAbs.log2 < 1920 := Nat.lt_of_le_of_lt (Nat.log2_le_self _) (by rw [Int.natAbs_natCast]; omega)
/-- a comprehension whose list is not changed any more -/
theorem lcbK {α : Type} {g : TG} {tt : TT} {te : TE} {vs : List Nat} {σ : L2.St} {H G0 H0 G : Hp} {J : It} {Q : VK} {n : Nat} {Y : Nat → V → Hp → Prop} (S : Src J G n Y) (N : Nx G0 H0 G H)
    (zs : List α) (p : α → Bool) (R : α → V → Hp → Prop) (hn : zs.length = n) (hz : n ≤ 90000) (up : ∀ z v G G', Same G G' → R z v G → R z v G')
    (hs : ∀ i z x G' H', zs[i]? = some z → Same G G' → Same G' H' → Y i x G' → ∃ σ2, (∀ Q : L2.St → Hp → Prop, Q σ2 H' → g x (wipe σ vs) H' Q) ∧ wipe σ2 vs = wipe σ vs ∧ Gt tt σ2 G' H' (p z) ∧
      (p z = true → ∀ G2 H2, Same G' G2 → Same G2 H2 → Gv te σ2 G2 H2 (R z)))
    (k : ∀ D L G' H', Nx G0 H0 G' H' → Same G G' → G' D = some (.lst L) → All2 R G' (zs.filter p) L → Q (.ref D) H') : LcB g tt te vs σ Q J H :=
  lcb S N zs p R hn hz up hs fun D L G' H' N' n' hD gD h0 hA => k D L _ H' (N'.fz hD h0 gD) (n'.g.trans (same_new gD)) upd_same (All2.mono (fun z v r => up z v _ _ (same_new gD) r) hA)
/-- y = [..], whichever way the store goes -/
theorem ps_lcU {X : Cx} {i : Nat} {y : Str} {py : Pos} {elt tg iter : Expr} {ifs : List Expr} {scope : Scope} {own : List (Str × Nat)} {pos spos : Pos} {wi : TI} {g : TG} {tt : TT} {te : TE} (hc : X.calm = true) (hN : X.N.Nodup) (hy : X.N[i]? = some y) 
    (hsw : (X.env.scope.names.lookup y = some .local ∧ swapsWith (.ListComp elt [⟨tg, iter, ifs, 0⟩] scope pos) (some (.Name y py)) spos.line X.env = pure true) ∨
      (Loc X.env.scope y ∧ swapsWith (.ListComp elt [⟨tg, iter, ifs, 0⟩] scope pos) (some (.Name y py)) spos.line X.env = pure false ∧ (X.fn y = true ∨ X.env.scope.names.lookup y = some .local)))
    (hi : PI X tg iter wi) (ok : BlkOk X.N X.env.scope scope own)
    (hg : ∀ (s : Shared) (H : Hp) (C : Addr) (cl : List (Str × Addr)) (fp : List Addr), PG (X.blk s H scope (compEnvC scope cl C X.env) fp) tg g) (ht : ∀ (s : Shared) (H : Hp) (C : Addr) (cl : List (Str × Addr)) (fp : List Addr), PTs (X.blk s H scope (compEnvC scope cl C X.env) fp) ifs tt)
    (he : ∀ (s : Shared) (H : Hp) (C : Addr) (cl : List (Str × Addr)) (fp : List Addr), PE (X.blk s H scope (compEnvC scope cl C X.env) fp) elt te) (hs : ∀ x, foldedSetIterable iter X.env x = pure x := by intro _; rfl) :
    PS X (.Assign [.Name y py] (.ListComp elt [⟨tg, iter, ifs, 0⟩] scope pos) spos) (tAsg (tLc wi g tt te (own.map (·.2))) (gName i)) := by
  rcases hsw with ⟨hyl, q⟩ | ⟨hl, q, hf⟩
  · exact ps_setLc hc hN hy hyl q hi ok hg ht he hs
  · exact ps_set hN hy hl (pe_lc hc hN hi ok hg ht he hs) q hf
/-- [x for x in xs if q x], xs texts -/
theorem flt_strs {K : PySem.W.Frag} {G0 H0 G H : Hp} {Q : VK} {σ : L2.St} {g : TG} {tt : TT} {te : TE} {vs : List Nat} {c : Addr} {xs : List Str} (q : Str → Bool) (N : Nx G0 H0 G H) (hc : G c = some (.lst (xs.map V.str))) (hl : xs.length ≤ 1000)
    (hs : ∀ (i : Nat) (z : Str) (G' H' : Hp), xs[i]? = some z → Same G G' → Same G' H' → ∃ σ2, (∀ Q : L2.St → Hp → Prop, Q σ2 H' → g (.str z) (wipe σ vs) H' Q) ∧ wipe σ2 vs = wipe σ vs ∧ Gt tt σ2 G' H' (q z) ∧
      (q z = true → ∀ G2 H2, Same G' G2 → Same G2 H2 → Gv te σ2 G2 H2 (fun v _ => v = .str z)))
    (k : ∀ D G' H', Nx G0 H0 G' H' → Same G G' → G' D = some (.lst ((xs.filter q).map V.str)) → Q (.ref D) H') : LcB g tt te vs σ Q (Itl K c) H := by
  refine lcbK (src_list (sqL hc)) N xs q (fun x v _ => v = .str x) (by rw [List.length_map]) (by rw [List.length_map]; omega) (fun _ _ _ _ _ h => h) (fun i z v G' H' hz s1 s2 hv => ?_) fun D L G' H' N' s hD hA => ?_
  · rw [List.getElem?_map, hz] at hv
    cases Option.some.inj hv
    exact hs i z G' H' hz s1 s2
  · rw [All2.eq hA] at hD
    exact k D G' H' N' s hD
theorem w_rU {g : Int → V} {i : Int} {H : Hp} {Q : VK} (q : Q (g i) H) : rU g (.int i) H Q := ⟨i, rfl, q⟩
theorem call_isiTK {X : Cx} {K : PySem.W.Frag} (hK : X.K = K) : CallR X (.builtin "isinstance") (rIsiT K) := hK ▸ call_isiT
end Ax

/-! A comprehension whose test is drawn: some of the turns. -/
namespace Ax
open PySem PySem.Spec PyProof.Rows L2
/-- a test gives some bool -/
def GtN (tt : TT) (σ : L2.St) (G H : Hp) : Prop := ∀ Q : Bool → Hp → Prop, (∀ b G' H', Nx G H G' H' → Q b H') → tt σ H Q
theorem lcbN {α : Type} {g : TG} {tt : TT} {te : TE} {vs : List Nat} {σ : L2.St} {H G0 H0 G : Hp} {J : It} {Q : VK} {n : Nat} {Y : Nat → V → Hp → Prop} (S : Src J G n Y) (N : Nx G0 H0 G H)
    (zs : List α) (R : α → V → Hp → Prop) (hn : zs.length = n) (hz : n ≤ 90000) (up : ∀ z v G G', Same G G' → R z v G → R z v G')
    (hs : ∀ i z x G' H', zs[i]? = some z → Same G G' → Same G' H' → Y i x G' → ∃ σ2, (∀ Q : L2.St → Hp → Prop, Q σ2 H' → g x (wipe σ vs) H' Q) ∧ wipe σ2 vs = wipe σ vs ∧ GtN tt σ2 G' H' ∧
      (∀ G2 H2, Same G' G2 → Same G2 H2 → Gv te σ2 G2 H2 (R z)))
    (k : ∀ D L ys G' H', Nx G0 H0 G' H' → Same G G' → G' D = some (.lst L) → ys.Sublist zs → All2 R G' ys L → Q (.ref D) H') : LcB g tt te vs σ Q J H := by
  intro D hD
  have gD0 : G D = none := N.h.free hD
  let I : Nat → Hp → Prop := fun i H' => ∃ G' L ys, Nx G H G' H' ∧ H' D = some (.lst L) ∧ G' D = none ∧ L.length ≤ i ∧ ys.Sublist (zs.take i) ∧ All2 R G' ys L
  refine ⟨fun i m H' => m = n - i ∧ i ≤ n ∧ I i H', ⟨n, by simp, Nat.zero_le _, G, [], [], (Nx.refl N.h).more (same_new hD), upd_same, gD0, Nat.le_refl _, List.nil_sublist _, .nil⟩, ?_⟩
  rintro i m H' ⟨rfl, hi, G', L, ys, n', hL, gD, hl, hsub, hA⟩
  rcases Nat.lt_or_ge i n with hlt | hge
  · refine .inr ⟨S.go i H' hlt (n'.g.trans n'.h), I (i + 1), fun H2 p2 => ⟨n - (i + 1), by omega, rfl, hlt, p2⟩, fun x H'' y => ?_⟩
    obtain ⟨G'', n1, hy⟩ := S.yld i x G' H' H'' hlt n'.g n'.h y
    have hzi : zs[i]? = some (zs[i]'(by omega)) := List.getElem?_eq_getElem (by omega)
    obtain ⟨σ2, hg, hw, ht, he⟩ := hs i _ x G'' H'' hzi (n'.g.trans n1.g) n1.h hy
    refine hg _ ⟨hw, ht _ fun b G2 H2 n2 => ?_⟩
    have n3 := n1.trans n2
    have tk := take_succ' hzi
    cases b with
    | false => exact iteF ⟨G2, L, ys, n'.trans n3, n3.e _ _ hL, n3.hid hL gD, by omega, by rw [tk]; exact hsub.trans (List.sublist_append_left _ _), All2.mono (fun z v r => up z v _ _ n3.g r) hA⟩
    | true =>
      refine iteT (he G2 H2 n2.g n2.h _ fun v G3 H3 n4 r => ?_)
      have n5 := n3.trans n4
      have hx : ys ++ [zs[i]'(by omega)] = ys ++ [zs[i]'(by omega)] := rfl
      refine ⟨L, n5.e _ _ hL, szl (by omega), G3, L ++ [v], ys ++ [zs[i]'(by omega)], (n'.trans n5).mut hD (n5.hid hL gD), upd_same, n5.hid hL gD, by simp; omega, by rw [tk]; exact hsub.append (List.Sublist.refl _), ?_⟩
      exact Paired.snoc (All2.mono (fun z v r => up z v _ _ n5.g r) hA) r
  · have e : i = n := by omega
    subst e
    rw [← hn, List.take_length] at hsub
    exact .inl ⟨S.stop i H' (Nat.le_refl _) (n'.g.trans n'.h), k D L ys _ H' (N.trans (n'.fz hL hD gD)) (n'.g.trans (same_new gD)) upd_same hsub (All2.mono (fun z v r => up z v _ _ (same_new gD) r) hA)⟩
end Ax

/-! Names: the plain law. -/
namespace Ax
open PySem PySem.Spec PyProof.Rows L2
abbrev sLet : Str := "abcdefghijklmnopqrstuvwxyz"
abbrev sDig : Str := "0123456789"
def lowB (c : Nat) : Bool := decide (c ∈ sLet.cps.toList)
def alnB (c : Nat) : Bool := decide (c ∈ sLet.cps.toList) || decide (c ∈ sDig.cps.toList)
/-- what is_name answers -/
def isNm (x : Str) : Bool := match x.cps.toList with
  | [] => false
  | c :: r => decide (r.length < 8) && (lowB c && (c :: r).all alnB)
/-- all signs are letters or digits -/
def An (x : Str) : Prop := ∀ c ∈ x.cps.toList, alnB c = true
theorem An.app {x y : Str} (a : An x) (b : An y) : An (x ++ y) := fun c h => by
  rw [Str.cps_append, Array.toList_append] at h
  rcases List.mem_append.mp h with h | h
  · exact a c h
  · exact b c h
theorem An.cut {x : Str} (a : An x) (lo hi : Option Int) : An (cutS x lo hi) := fun c h => a c (List.mem_of_mem_drop (List.mem_of_mem_take h))
theorem An.one {c : Nat} (h : alnB c = true) : An ⟨#[c]⟩ := fun d hd => by
  have e : d = c := by simpa using hd
  rw [e]; exact h
theorem low_aln {c : Nat} (h : lowB c = true) : alnB c = true := by
  unfold alnB
  rw [show decide (c ∈ sLet.cps.toList) = true from h]; rfl
/-- the first sign is a letter -/
def Hd (x : Str) : Prop := ∃ c r, x.cps.toList = c :: r ∧ lowB c = true
theorem Hd.app {x y : Str} (h : Hd x) : Hd (x ++ y) := by
  obtain ⟨c, r, e, l⟩ := h
  exact ⟨c, r ++ y.cps.toList, by rw [Str.cps_append, Array.toList_append, e]; rfl, l⟩
theorem Hd.one {c : Nat} (h : lowB c = true) : Hd ⟨#[c]⟩ := ⟨c, [], rfl, h⟩
theorem Hd.ne {x : Str} (h : Hd x) : 1 ≤ x.length := by
  obtain ⟨c, r, e, _⟩ := h
  have : x.length = x.cps.toList.length := by simp [Str.length]
  rw [this, e]; simp
theorem toList_len (x : Str) : x.cps.toList.length = x.length := by simp [Str.length]
theorem isNm_of {x : Str} (h : Hd x) (a : An x) (l : x.length ≤ 8) : isNm x = true := by
  obtain ⟨c, r, e, hl⟩ := h
  have h1 := toList_len x
  rw [e] at h1
  simp only [List.length_cons] at h1
  unfold isNm
  rw [e]
  show (decide (r.length < 8) && (lowB c && (c :: r).all alnB)) = true
  rw [hl, decide_eq_true (by omega), Bool.true_and, Bool.true_and, List.all_eq_true]
  intro d hd
  exact a d (by rw [e]; exact hd)
theorem isNm_iff {x : Str} (h : isNm x = true) : Hd x ∧ An x ∧ 1 ≤ x.length ∧ x.length ≤ 8 := by
  unfold isNm at h
  split at h
  · cases h
  · rename_i c r e
    obtain ⟨h1, h2⟩ := Bool.and_eq_true_iff.mp h
    obtain ⟨h2, h3⟩ := Bool.and_eq_true_iff.mp h2
    have h1 := of_decide_eq_true h1
    have h4 := toList_len x
    rw [e] at h4
    simp only [List.length_cons] at h4
    exact ⟨⟨c, r, e, h2⟩, fun d hd => List.all_eq_true.mp h3 d (by rw [← e]; exact hd), by omega, by omega⟩
theorem cut_take (x : Str) (k : Nat) : (cutS x none (some (k : Int))).cps.toList = x.cps.toList.take k := by
  show ((x.cps.toList.drop (HT.sIx x.length 0 none)).take (HT.sIx x.length x.length (some (k : Int)) - HT.sIx x.length 0 none)) = _
  rw [HT.sIx_none, HT.sIx_nat, List.drop_zero, Nat.sub_zero, ← toList_len x, Nat.min_comm]
  rw [List.take_eq_take_iff]
  omega
theorem cut_drop (x : Str) (k : Nat) : (cutS x (some (k : Int)) none).cps.toList = x.cps.toList.drop k := by
  show ((x.cps.toList.drop (HT.sIx x.length 0 (some (k : Int)))).take (HT.sIx x.length x.length none - HT.sIx x.length 0 (some (k : Int)))) = _
  rw [HT.sIx_none, HT.sIx_nat, ← toList_len x]
  by_cases h : k ≤ x.cps.toList.length
  · rw [Nat.min_eq_left h, List.take_of_length_le (by rw [List.length_drop]; omega)]
  · rw [Nat.min_eq_right (by omega), List.drop_eq_nil_of_le (Nat.le_refl _), List.drop_eq_nil_of_le (by omega), List.take_nil]
theorem cut_len_le (x : Str) (lo hi : Option Int) : (cutS x lo hi).length ≤ x.length := cutS_length x lo hi
theorem cut_len_take (x : Str) (k : Nat) : (cutS x none (some (k : Int))).length ≤ k := by
  rw [← toList_len, cut_take, List.length_take]; omega
theorem len_app (a b : Str) : (a ++ b).length = a.length + b.length := Str.length_append a b
theorem len_one (c : Nat) : (⟨#[c]⟩ : Str).length = 1 := rfl
/-- word[:k] + sign + word[k:] -/
theorem nm_ins {w : Str} {c : Nat} {k : Nat} (hw : Hd w) (aw : An w) (lw : w.length ≤ 7) (hc : lowB c = true) : isNm (cutS w none (some (k : Int)) ++ ⟨#[c]⟩ ++ cutS w (some (k : Int)) none) = true := by
  refine isNm_of ?_ (((aw.cut _ _).app (.one (low_aln hc))).app (aw.cut _ _)) ?_
  · cases k with
    | zero => exact Hd.app ⟨c, [], by rw [Str.cps_append, Array.toList_append, cut_take]; rfl, hc⟩
    | succ k =>
      obtain ⟨d, r, e, hd⟩ := hw
      exact Hd.app (Hd.app ⟨d, r.take k, by rw [cut_take, e]; rfl, hd⟩)
  · rw [len_app, len_app, len_one, ← toList_len, ← toList_len, cut_take, cut_drop, List.length_take, List.length_drop, toList_len]
    omega
theorem nm_sign {w : Str} {c : Nat} {lo hi : Option Int} (aw : An w) (lw : w.length ≤ 7) (hc : lowB c = true) : isNm (⟨#[c]⟩ ++ cutS w lo hi) = true := by
  refine isNm_of (Hd.app (.one hc)) ((An.one (low_aln hc)).app (aw.cut _ _)) ?_
  have := cut_len_le w lo hi
  rw [len_app, len_one]
  omega
theorem nm_one {c : Nat} (hc : lowB c = true) : isNm ⟨#[c]⟩ = true := isNm_of (.one hc) (.one (low_aln hc)) (by rw [len_one]; omega)
theorem hd_take {w : Str} {k : Nat} (hw : Hd w) : Hd (cutS w none (some ((1 + k : Nat) : Int))) := by
  obtain ⟨d, r, e, hd⟩ := hw
  exact ⟨d, r.take k, by rw [cut_take, e, Nat.add_comm]; rfl, hd⟩
theorem low_at {i : Nat} {c : Nat} (h : sLet.cps.toList[i]? = some c) : lowB c = true := decide_eq_true (List.mem_of_getElem? h)
theorem let_at {i : Int} (h0 : 0 ≤ i) (h1 : i < 26) : ∃ c, atI sLet.cps.toList i = some c ∧ lowB c = true := by
  obtain ⟨k, rfl⟩ := Int.eq_ofNat_of_zero_le h0
  have hk : k < sLet.cps.toList.length := by
    have : sLet.cps.toList.length = 26 := by decide +kernel
    omega
  have e : sLet.cps.toList[k]? = some _ := List.getElem?_eq_getElem hk
  exact ⟨_, atI_nat e, low_at e⟩
theorem aln_at {i : Int} (h0 : 0 ≤ i) (h1 : i < 36) : ∃ c, atI (sDig ++ sLet).cps.toList i = some c ∧ alnB c = true := by
  obtain ⟨k, rfl⟩ := Int.eq_ofNat_of_zero_le h0
  have hk : k < (sDig ++ sLet).cps.toList.length := by
    have : (sDig ++ sLet).cps.toList.length = 36 := by decide +kernel
    omega
  obtain ⟨c, e⟩ : ∃ c, (sDig ++ sLet).cps.toList[k]? = some c := ⟨_, List.getElem?_eq_getElem hk⟩
  refine ⟨c, atI_nat e, ?_⟩
  have m := List.mem_of_getElem? e
  rw [Str.cps_append, Array.toList_append] at m
  unfold alnB
  rcases List.mem_append.mp m with m | m
  · rw [decide_eq_true m, Bool.or_true]
  · rw [decide_eq_true m, Bool.true_or]
/-- the digits of a small number -/
theorem an_num : ∀ k : Nat, k < 100 → (∀ c ∈ (toString (k : Int) : Str).cps.toList, alnB c = true) ∧ (toString (k : Int) : Str).length ≤ 2 := by
  intro k hk
  have h : ∀ k : Fin 100, ((toString ((k : Nat) : Int) : Str).cps.toList.all alnB && decide ((toString ((k : Nat) : Int) : Str).length ≤ 2)) = true := by decide +kernel
  have := Bool.and_eq_true_iff.mp (h ⟨k, hk⟩)
  exact ⟨List.all_eq_true.mp this.1, of_decide_eq_true this.2⟩
end Ax

/-! The drawn names differ: the plain law. -/
namespace Ax
open PySem PySem.Spec PyProof.Rows L2
def stepsL : List Int := [1, 3, 5, 7, 9, 11, 15, 17, 19, 21, 23, 25]
def TagN (kd : Int) (pn : Nat) (st sp : Int) (wd : Str) (j : Nat) (x : Str) : Prop :=
  (kd = 0 ∧ ∃ c, atI sLet.cps.toList ((st + (j : Int) * sp) % 26) = some c ∧ x = cutS wd none (some (pn : Int)) ++ ⟨#[c]⟩ ++ cutS wd (some (pn : Int)) none) ∨
  ((kd = 1 ∨ kd = 2) ∧ ∃ c t, atI sLet.cps.toList ((st + (j : Int) * sp) % 26) = some c ∧ x.cps.toList = c :: t) ∨
  (kd = 3 ∧ ∃ c, atI sLet.cps.toList ((st + (j : Int) % 2 * sp) % 26) = some c ∧ x = ⟨#[c]⟩ ++ cutS wd none (some (7 - (j : Int) / 2))) ∨
  ((kd ≠ 0 ∧ kd ≠ 1 ∧ kd ≠ 2 ∧ kd ≠ 3) ∧ x = cutS wd none (some ((1 + pn / 2 : Nat) : Int)) ++ cutS (toString (j : Int) : Str) none (some (j : Int)))
theorem let_inj {a b : Int} {c : Nat} (ha : 0 ≤ a) (ha' : a < 26) (hb : 0 ≤ b) (hb' : b < 26) (h1 : atI sLet.cps.toList a = some c) (h2 : atI sLet.cps.toList b = some c) : a = b := by
  obtain ⟨i, rfl⟩ := Int.eq_ofNat_of_zero_le ha
  obtain ⟨j, rfl⟩ := Int.eq_ofNat_of_zero_le hb
  have h : ∀ i j : Fin 26, atI sLet.cps.toList ((i : Nat) : Int) = atI sLet.cps.toList ((j : Nat) : Int) → i = j := by decide +kernel
  have := h ⟨i, by omega⟩ ⟨j, by omega⟩ (h1.trans h2.symm)
  have e : i = j := congrArg Fin.val this
  rw [e]
theorem sg_inj {st sp : Int} (hs : sp ∈ stepsL) {i j : Nat} (hi : i < 26) (hj : j < 26) (h : (st + (i : Int) * sp) % 26 = (st + (j : Int) * sp) % 26) : i = j := by
  simp only [stepsL, List.mem_cons, List.not_mem_nil, or_false] at hs
  rcases hs with e | e | e | e | e | e | e | e | e | e | e | e <;> subst e <;> omega
theorem sgc_inj {st sp : Int} (hs : sp ∈ stepsL) {i j : Nat} {c : Nat} (hi : i < 26) (hj : j < 26) (h1 : atI sLet.cps.toList ((st + (i : Int) * sp) % 26) = some c) (h2 : atI sLet.cps.toList ((st + (j : Int) * sp) % 26) = some c) : i = j :=
  sg_inj hs hi hj (let_inj (Int.emod_nonneg _ (by decide)) (Int.emod_lt_of_pos _ (by decide)) (Int.emod_nonneg _ (by decide)) (Int.emod_lt_of_pos _ (by decide)) h1 h2)
theorem app_cps (a b : Str) : (a ++ b).cps.toList = a.cps.toList ++ b.cps.toList := by rw [Str.cps_append, Array.toList_append]
theorem tag_inj {kd : Int} {pn : Nat} {st sp : Int} {wd x : Str} {i j : Nat} (hs : sp ∈ stepsL) (hw : wd.length = 7) (hi : i < 16) (hj : j < 16) (h1 : TagN kd pn st sp wd i x) (h2 : TagN kd pn st sp wd j x) : i = j := by
  rcases h1 with ⟨k1, c, hc, e⟩ | ⟨k1, c, t, hc, e⟩ | ⟨k1, c, hc, e⟩ | ⟨k1, e⟩
  · rcases h2 with ⟨_, d, hd, e'⟩ | ⟨k2, _⟩ | ⟨k2, _⟩ | ⟨k2, _⟩
    · have q := congrArg (fun z : Str => z.cps.toList) (e.symm.trans e')
      simp only [app_cps] at q
      have q2 := (List.append_inj q (by simp)).1
      have q3 : [c] = [d] := (List.append_inj q2 rfl).2
      injection q3 with q4
      subst q4
      exact sgc_inj hs (by omega) (by omega) hc hd
    · omega
    · omega
    · exact absurd k1 k2.1
  · rcases h2 with ⟨k2, _⟩ | ⟨k2, d, u, hd, e'⟩ | ⟨k2, _⟩ | ⟨k2, _⟩
    · omega
    · have q := e.symm.trans e'
      injection q with q4
      subst q4
      exact sgc_inj hs (by omega) (by omega) hc hd
    · omega
    · rcases k1 with k1 | k1
      · exact absurd k1 k2.2.1
      · exact absurd k1 k2.2.2.1
  · rcases h2 with ⟨k2, _⟩ | ⟨k2, _⟩ | ⟨_, d, hd, e'⟩ | ⟨k2, _⟩
    · omega
    · omega
    · have q := congrArg (fun z : Str => z.cps.toList) (e.symm.trans e')
      have n1 : (7 - (i : Int) / 2) = ((7 - i / 2 : Nat) : Int) := by omega
      have n2 : (7 - (j : Int) / 2) = ((7 - j / 2 : Nat) : Int) := by omega
      rw [n1, n2] at q
      simp only [app_cps, cut_take] at q
      have q' : c :: wd.cps.toList.take (7 - i / 2) = d :: wd.cps.toList.take (7 - j / 2) := q
      injection q' with q4 q5
      subst q4
      have l := congrArg List.length q5
      rw [List.length_take, List.length_take, Ax.toList_len, hw] at l
      have p : i % 2 = j % 2 := sgc_inj hs (i := i % 2) (j := j % 2) (by omega) (by omega) (by rw [show ((i % 2 : Nat) : Int) = (i : Int) % 2 by omega]; exact hc) (by rw [show ((j % 2 : Nat) : Int) = (j : Int) % 2 by omega]; exact hd)
      omega
    · exact absurd k1 k2.2.2.2
  · rcases h2 with ⟨k2, _⟩ | ⟨k2, _⟩ | ⟨k2, _⟩ | ⟨k2, e'⟩
    · exact absurd k2 k1.1
    · rcases k2 with k2 | k2
      · exact absurd k2 k1.2.1
      · exact absurd k2 k1.2.2.1
    · exact absurd k2 k1.2.2.2
    · have q := congrArg (fun z : Str => z.cps.toList) (e.symm.trans e')
      simp only [app_cps] at q
      have q2 := List.append_cancel_left q
      have h : ∀ i j : Fin 16, (cutS (toString ((i : Nat) : Int) : Str) none (some ((i : Nat) : Int))).cps.toList = (cutS (toString ((j : Nat) : Int) : Str) none (some ((j : Nat) : Int))).cps.toList → i = j := by decide +kernel
      exact congrArg Fin.val (h ⟨i, hi⟩ ⟨j, hj⟩ q2)
theorem tag_nodup {kd : Int} {pn : Nat} {st sp : Int} {wd : Str} {ns : List Str} (hs : sp ∈ stepsL) (hw : wd.length = 7) (hl : ns.length ≤ 16) (h : ∀ j x, ns[j]? = some x → TagN kd pn st sp wd j x) : ns.Nodup := by
  refine List.pairwise_iff_getElem.mpr fun i j hi hj hij e => ?_
  have h1 := h i _ (List.getElem?_eq_getElem hi)
  have h2 := h j _ (List.getElem?_eq_getElem hj)
  rw [← e] at h2
  have := tag_inj hs hw (by omega) (by omega) h1 h2
  omega
end Ax

/-! Sets of names in order: the plain law. -/
namespace Ax
open PySem PySem.Spec PyProof.Rows L2
def sLt (a b : Str) : Prop := a.cps.toList < b.cps.toList
instance : DecidableRel sLt := fun a b => inferInstanceAs (Decidable (a.cps.toList < b.cps.toList))
theorem str_eq {a b : Str} (h : a.cps.toList = b.cps.toList) : a = b := by
  cases a; cases b; exact congrArg Str.mk (Array.toList_inj.mp h)
theorem sLt_irr (a : Str) : ¬ sLt a a := List.lt_irrefl _
theorem sLt_tr {a b c : Str} (h : sLt a b) (h' : sLt b c) : sLt a c := List.lt_trans h h'
theorem sLt_tri {a b : Str} (h : ¬ sLt a b) (h' : a ≠ b) : sLt b a := by
  apply Decidable.byContradiction
  intro q
  exact h' (str_eq (List.le_antisymm (List.not_lt.mp q) (List.not_lt.mp h)))
abbrev Ss (l : List Str) : Prop := l.Pairwise sLt
def insS (x : Str) : List Str → List Str
  | [] => [x]
  | y :: l => if sLt x y then x :: y :: l else if x = y then y :: l else y :: insS x l
/-- the names, each once, in order -/
def cset (xs : List Str) : List Str := xs.foldr insS []
theorem insS_mem {x z : Str} : ∀ {l : List Str}, z ∈ insS x l ↔ z = x ∨ z ∈ l
  | [] => by simp [insS]
  | y :: l => by
    unfold insS
    split
    · simp
    · split
      · rename_i _ e; subst e; simp
      · rw [List.mem_cons, insS_mem, List.mem_cons]
        constructor
        · rintro (h | h | h)
          · exact .inr (.inl h)
          · exact .inl h
          · exact .inr (.inr h)
        · rintro (h | h | h)
          · exact .inr (.inl h)
          · exact .inl h
          · exact .inr (.inr h)
theorem insS_ss {x : Str} : ∀ {l : List Str}, Ss l → Ss (insS x l)
  | [], _ => by simp [insS]
  | y :: l, h => by
    obtain ⟨h1, h2⟩ := List.pairwise_cons.mp h
    unfold insS
    split
    · rename_i q
      exact List.pairwise_cons.mpr ⟨fun z hz => by
        rcases List.mem_cons.mp hz with e | e
        · subst e; exact q
        · exact sLt_tr q (h1 z e), h⟩
    · rename_i q
      split
      · exact h
      · rename_i q2
        refine List.pairwise_cons.mpr ⟨fun z hz => ?_, insS_ss h2⟩
        rcases insS_mem.mp hz with e | e
        · subst e; exact sLt_tri q q2
        · exact h1 z e
theorem insS_len {x : Str} : ∀ {l : List Str}, (insS x l).length ≤ l.length + 1
  | [] => by simp [insS]
  | y :: l => by
    unfold insS
    split
    · simp
    · split
      · simp
      · have := insS_len (x := x) (l := l)
        simp only [List.length_cons]; omega
theorem cset_mem {x : Str} : ∀ {xs : List Str}, x ∈ cset xs ↔ x ∈ xs
  | [] => by simp [cset]
  | y :: xs => by
    show x ∈ insS y (cset xs) ↔ _
    rw [insS_mem, cset_mem, List.mem_cons]
theorem cset_ss : ∀ (xs : List Str), Ss (cset xs)
  | [] => List.Pairwise.nil
  | y :: xs => insS_ss (cset_ss xs)
theorem cset_len : ∀ (xs : List Str), (cset xs).length ≤ xs.length
  | [] => Nat.le_refl _
  | y :: xs => Nat.le_trans insS_len (Nat.succ_le_succ (cset_len xs))
theorem ss_eq : ∀ {l m : List Str}, Ss l → Ss m → (∀ x, x ∈ l ↔ x ∈ m) → l = m
  | [], [], _, _, _ => rfl
  | [], y :: m, _, _, h => absurd ((h y).mpr List.mem_cons_self) (by simp)
  | x :: l, [], _, _, h => absurd ((h x).mp List.mem_cons_self) (by simp)
  | x :: l, y :: m, hl, hm, h => by
    obtain ⟨a1, a2⟩ := List.pairwise_cons.mp hl
    obtain ⟨b1, b2⟩ := List.pairwise_cons.mp hm
    have e : x = y := by
      rcases List.mem_cons.mp ((h x).mp List.mem_cons_self) with e | e
      · exact e
      · rcases List.mem_cons.mp ((h y).mpr List.mem_cons_self) with e' | e'
        · exact e'.symm
        · exact absurd (sLt_tr (b1 x e) (a1 y e')) (sLt_irr _)
    subst e
    congr 1
    refine ss_eq a2 b2 fun z => ⟨fun hz => ?_, fun hz => ?_⟩
    · rcases List.mem_cons.mp ((h z).mp (List.mem_cons_of_mem _ hz)) with e | e
      · subst e; exact absurd (a1 z hz) (sLt_irr _)
      · exact e
    · rcases List.mem_cons.mp ((h z).mpr (List.mem_cons_of_mem _ hz)) with e | e
      · subst e; exact absurd (b1 z hz) (sLt_irr _)
      · exact e
theorem cset_ext {xs ys : List Str} (h : ∀ x, x ∈ xs ↔ x ∈ ys) : cset xs = cset ys := ss_eq (cset_ss _) (cset_ss _) fun x => by rw [cset_mem, cset_mem]; exact h x
theorem cset_iff {xs ys : List Str} : cset xs = cset ys ↔ ∀ x, x ∈ xs ↔ x ∈ ys := ⟨fun e x => by rw [← cset_mem, e, cset_mem], cset_ext⟩
theorem cset_id {xs : List Str} (h : Ss xs) : cset xs = xs := ss_eq (cset_ss _) h fun x => cset_mem
theorem cset_cset (xs : List Str) : cset (cset xs) = cset xs := cset_id (cset_ss xs)
theorem cset_nil : cset [] = [] := rfl
theorem cset_eq_nil {xs : List Str} : cset xs = [] ↔ xs = [] := by
  constructor
  · intro e
    cases xs with
    | nil => rfl
    | cons x r =>
      have : x ∈ cset (x :: r) := cset_mem.mpr List.mem_cons_self
      rw [e] at this; cases this
  · intro e; subst e; rfl
theorem ss_nodup {l : List Str} (h : Ss l) : l.Nodup := h.imp fun {a b} q e => by subst e; exact sLt_irr _ q
theorem ss_of : ∀ {ys : List Str}, sortedS ys = true → ys.Nodup → Ss ys
  | [], _, _ => List.Pairwise.nil
  | [x], _, _ => List.pairwise_singleton _ _
  | x :: y :: r, h, nd => by
    obtain ⟨h1, h2⟩ := Bool.and_eq_true_iff.mp (show (!ltCps y.cps.toList x.cps.toList && risingS y r) = true from h)
    obtain ⟨n1, n2⟩ := List.nodup_cons.mp nd
    have ih : Ss (y :: r) := ss_of (ys := y :: r) h2 n2
    have hxy : sLt x y := by
      rw [ltCps_eq] at h1
      refine sLt_tri (fun q => ?_) (fun e => n1 (by rw [e]; exact List.mem_cons_self))
      rw [decide_eq_true (show y.cps.toList < x.cps.toList from q)] at h1
      cases h1
    refine List.pairwise_cons.mpr ⟨fun z hz => ?_, ih⟩
    rcases List.mem_cons.mp hz with e | e
    · subst e; exact hxy
    · exact sLt_tr hxy ((List.pairwise_cons.mp ih).1 z e)
theorem cset_dd {xs ys : List Str} (p : ys.Perm (dd xs)) (s : sortedS ys = true) : ys = cset xs :=
  ss_eq (ss_of s (p.nodup_iff.mpr (dd_nodup xs))) (cset_ss _) fun x => by rw [p.mem_iff, dd_mem, cset_mem]
theorem dd_cset_len (xs : List Str) : (dd xs).length = (cset xs).length := by
  have p : (dd xs).Perm (cset xs) := (List.perm_ext_iff_of_nodup (dd_nodup xs) (ss_nodup (cset_ss _))).mpr fun x => by rw [dd_mem, cset_mem]
  exact p.length_eq
theorem nd_len {α : Type} [DecidableEq α] : ∀ {l m : List α}, l.Nodup → (∀ x ∈ l, x ∈ m) → l.length ≤ m.length
  | [], _, _, _ => Nat.zero_le _
  | x :: l, m, nd, h => by
    obtain ⟨n1, n2⟩ := List.nodup_cons.mp nd
    have hx := h x List.mem_cons_self
    have ih := nd_len (l := l) (m := m.erase x) n2 fun y hy => (List.mem_erase_of_ne fun e => n1 (by rw [← e]; exact hy)).mpr (h y (List.mem_cons_of_mem _ hy))
    rw [List.length_erase_of_mem hx] at ih
    have : 0 < m.length := List.length_pos_of_mem hx
    simp only [List.length_cons]
    omega
theorem cset_sub_len {ms ns : List Str} (s : ∀ x ∈ ms, x ∈ ns) : (cset ms).length ≤ (cset ns).length := nd_len (ss_nodup (cset_ss _)) fun x hx => cset_mem.mpr (s x (cset_mem.mp hx))
/-- names that may make a column set -/
structure Nms (ns : List Str) : Prop where
  ok : ∀ x ∈ ns, isNm x = true
  n : ns.length ≤ 1000
  c : (cset ns).length < 64
abbrev colsF (t : Addr) : List (Str × V) := [("names", .ref t)]
/-- a column set stands at a -/
structure ColsAt (C : Addr) (G : Hp) (a : Addr) (ns : List Str) : Prop where
  at_ : ∃ dx t, G a = some (.ins C dx (colsF t)) ∧ G t = some (.tup (ns.map V.str))
  ss : Ss ns
  ok : ∀ x ∈ ns, isNm x = true
  n : ns.length < 64
theorem ColsAt.up {C : Addr} {G G' : Hp} {a : Addr} {ns : List Str} (s : Same G G') (h : ColsAt C G a ns) : ColsAt C G' a ns :=
  ⟨let ⟨dx, t, h1, h2⟩ := h.at_; ⟨dx, t, s _ _ h1, s _ _ h2⟩, h.ss, h.ok, h.n⟩
theorem ColsAt.nms {C : Addr} {G : Hp} {a : Addr} {ns : List Str} (h : ColsAt C G a ns) : Nms ns := ⟨h.ok, by have := h.n; omega, Nat.lt_of_le_of_lt (cset_len _) h.n⟩
theorem ColsAt.id {C : Addr} {G : Hp} {a : Addr} {ns : List Str} (h : ColsAt C G a ns) : cset ns = ns := cset_id h.ss
theorem Nms.of_subset {ns ms : List Str} (h : Nms ns) (s : ∀ x ∈ ms, x ∈ ns) (l : ms.length ≤ 1000) : Nms ms := ⟨fun x hx => h.ok x (s x hx), l, Nat.lt_of_le_of_lt (cset_sub_len s) h.c⟩
theorem Nms.sub {ns ms : List Str} (h : Nms ns) (s : ms.Sublist ns) : Nms ms := h.of_subset (fun _ hx => s.subset hx) (Nat.le_trans s.length_le h.n)
theorem Nms.filter {ns : List Str} (h : Nms ns) (p : Str → Bool) : Nms (ns.filter p) := h.sub List.filter_sublist
theorem Nms.app {xs ys : List Str} (a : Nms xs) (b : Nms ys) (h : xs.length + ys.length < 64) : Nms (xs ++ ys) :=
  ⟨fun x hx => (List.mem_append.mp hx).elim (a.ok x) (b.ok x), by rw [List.length_append]; omega, Nat.lt_of_le_of_lt (cset_len _) (by rw [List.length_append]; omega)⟩
/-! two rows of names -/
section
variable {a b : List Str}
theorem m_or : cset (cset a ++ cset b) = cset (a ++ b) := cset_ext fun x => by simp [cset_mem]
theorem m_and : cset ((cset a).filter fun x => decide (x ∈ cset b)) = cset (a.filter fun x => decide (x ∈ b)) := cset_ext fun x => by simp [List.mem_filter, cset_mem]
theorem m_sub : cset ((cset a).filter fun x => decide (x ∉ cset b)) = cset (a.filter fun x => decide (x ∉ b)) := cset_ext fun x => by simp [List.mem_filter, cset_mem]
theorem m_xor : cset ((cset a ++ cset b).filter fun x => !decide (decide (x ∈ cset a) = decide (x ∈ cset b))) = cset ((a.filter fun x => decide (x ∉ b)) ++ b.filter fun x => decide (x ∉ a)) := cset_ext fun x => by
  by_cases h1 : x ∈ a <;> by_cases h2 : x ∈ b <;> simp [List.mem_filter, cset_mem, h1, h2]
theorem m_le : ((cset a).all fun x => decide (x ∈ cset b)) = decide ((a.filter fun x => decide (x ∉ b)) = []) := by
  rw [Bool.eq_iff_iff]
  simp [List.all_eq_true, cset_mem, List.filter_eq_nil_iff]
theorem m_eq : decide (cset a = cset b) = (decide ((a.filter fun x => decide (x ∉ b)) = []) && decide ((b.filter fun x => decide (x ∉ a)) = [])) := by
  rw [Bool.eq_iff_iff]
  simp only [decide_eq_true_eq, cset_iff, Bool.and_eq_true, List.filter_eq_nil_iff, Decidable.not_not]
  exact ⟨fun h => ⟨fun x hx => (h x).mp hx, fun x hx => (h x).mpr hx⟩, fun h x => ⟨h.1 x, h.2 x⟩⟩
end
end Ax

/-! Texts joined by a sign and split at it. -/
namespace Ax
open PySem PySem.Spec PyProof.Rows L2
theorem jn_len {S : List Nat} : ∀ ps : List (List Nat), (TL.joinL S ps).length ≤ (ps.map fun p => p.length + S.length).sum
  | [] => Nat.zero_le _
  | [p] => by simp [TL.joinL]
  | p :: q :: r => by
    have := jn_len (S := S) (q :: r)
    simp only [TL.joinL, List.length_append, List.map_cons, List.sum_cons] at this ⊢
    omega
theorem sum_le {α : Type} {f : α → Nat} {m : Nat} : ∀ {l : List α}, (∀ x ∈ l, f x ≤ m) → (l.map f).sum ≤ l.length * m
  | [], _ => by simp
  | x :: l, h => by
    have h1 := h x List.mem_cons_self
    have h2 := sum_le (f := f) (m := m) (l := l) fun y hy => h y (List.mem_cons_of_mem _ hy)
    simp only [List.map_cons, List.sum_cons, List.length_cons, Nat.succ_mul]
    omega
theorem join_tl (y : Str) (ns : List Str) : (Txt.join y ns).cps.toList = TL.joinL y.cps.toList (ns.map fun x => x.cps.toList) := by
  rw [TL.join_eq]; exact TL.tl_join y ns
theorem join_len {y : Str} {m : Nat} {ns : List Str} (h : ∀ x ∈ ns, x.length ≤ m) : (Txt.join y ns).length ≤ ns.length * (m + y.length) := by
  rw [← toList_len, join_tl]
  refine Nat.le_trans (jn_len _) ?_
  rw [List.map_map]
  exact sum_le fun x hx => by show x.cps.toList.length + y.cps.toList.length ≤ _; rw [Ax.toList_len, Ax.toList_len]; have := h x hx; omega
theorem join_fit {a : Str} {m k : Nat} {ns : List Str} (h : ∀ x ∈ ns, x.length ≤ m) (hk : ns.length ≤ k) (hb : k * m + k * a.length ≤ 16777216) : (ns.map (·.length)).sum + ns.length * a.length ≤ 16777216 := by
  have h1 := sum_le (f := fun x : Str => x.length) h
  have h2 : ns.length * m ≤ k * m := Nat.mul_le_mul_right _ hk
  have h3 : ns.length * a.length ≤ k * a.length := Nat.mul_le_mul_right _ hk
  omega
theorem join_ne {y : Str} {ns : List Str} (h : ∀ x ∈ ns, 1 ≤ x.length) (e : Txt.join y ns = "") : ns = [] := by
  cases ns with
  | nil => rfl
  | cons x r =>
    have h1 := congrArg (fun z : Str => z.cps.toList) e
    simp only [join_tl] at h1
    have h2 := h x List.mem_cons_self
    rw [← Ax.toList_len] at h2
    cases r with
    | nil =>
      have h3 : x.cps.toList = [] := h1
      rw [h3] at h2; simp at h2
    | cons z r =>
      have h3 : x.cps.toList ++ (y.cps.toList ++ TL.joinL y.cps.toList ((z :: r).map fun x => x.cps.toList)) = [] := h1
      have h4 : x.cps.toList = [] := (List.append_eq_nil_iff.mp h3).1
      rw [h4] at h2; simp at h2
theorem nm_free {x : Str} (h : isNm x = true) {c : Nat} (hc : alnB c = false) : c ∉ x.cps.toList := fun m => by
  have := (isNm_iff h).2.1 c m
  rw [hc] at this; cases this
theorem join_le {ns : List Str} (h : ∀ x ∈ ns, isNm x = true) (hl : ns.length ≤ 1000) : (ns.map (·.length)).sum + ns.length * (" " : Str).length ≤ 16777216 :=
  join_fit (m := 8) (k := 1000) (fun x hx => (isNm_iff (h x hx)).2.2.2) hl (by decide +kernel)
theorem read_split {ns : List Str} (h : ∀ x ∈ ns, isNm x = true) (hn : ns ≠ []) : Txt.split (Txt.join " " ns) " " = ns :=
  TL.split_join (y := " ") (s := 32) (S := []) (by decide +kernel) (by decide +kernel) hn fun x hx => nm_free (h x hx) (by decide +kernel)
theorem read_ne {ns : List Str} (h : ∀ x ∈ ns, isNm x = true) (e : Txt.join " " ns = "") : ns = [] := join_ne (fun x hx => (isNm_iff (h x hx)).2.2.1) e
theorem read_len {ns : List Str} (h : ∀ x ∈ ns, isNm x = true) (hl : ns.length ≤ 1000) : (Txt.join " " ns).length ≤ 9000 := by
  have h1 := join_len (y := " ") (m := 8) fun x hx => (isNm_iff (h x hx)).2.2.2
  have h2 : ns.length * (8 + (" " : Str).length) ≤ 1000 * 9 := Nat.mul_le_mul hl (by decide +kernel)
  omega
end Ax

/-! What an __init__ promises; a class called. -/
namespace Ax
open PySem PySem.Spec PyProof.Rows L2 SlX StX
/-- self is the def's own, its class at C; A: the arguments, R: the fields -/
def spInitX {α : Type} (C : Addr) (A : α → List V → Hp → Prop) (R : α → List (Str × V) → Hp → Prop) (X : α → Value → Option Addr → Hp → Prop) : Sp := fun vs H Q E =>
  ∃ (x : α) (a dx : Addr) (args : List V) (G Hm : Hp), vs = .ref a :: args ∧ A x args G ∧ H a = some (.ins C dx []) ∧ Hm a = none ∧ G a = none ∧ Nx G Hm G H ∧
    (∀ fs G' H', Nx G Hm G' H' → H' a = some (.ins C dx fs) → G' a = none → R x fs G' → Q .non H') ∧ ∀ c d G' H', Nx G Hm G' H' → X x c d G' → E c d H'
section
variable {α : Type} {C : Addr} {A : α → List V → Hp → Prop} {R : α → List (Str × V) → Hp → Prop} {X : α → Value → Option Addr → Hp → Prop}
theorem mk_x (up : ∀ x fs G G', Same G G' → R x fs G → R x fs G') {G0 H0 G H : Hp} {args : List V} {Q : VK} {E : XK} (N : Nx G0 H0 G H) (x : α) (ha : A x args G)
    (k : ∀ p dx fs G' H', Nx G0 H0 G' H' → Nx G H G' H' → G' p = some (.ins C dx fs) → R x fs G' → Q (.ref p) H') (kx : ∀ c d G' H', Nx G0 H0 G' H' → Nx G H G' H' → X x c d G' → E c d H') : rMk C (spInitX C A R X) E args H Q := by
  intro y dy hy hdy hne
  have s1 : Same H (upd (upd H dy (.own y)) y (.ins C dy [])) := (same_new hdy).trans (same_new (by rw [upd_ne (Ne.symm hne)]; exact hy))
  have n1 : Nx G H G (upd (upd H dy (.own y)) y (.ins C dy [])) := (Nx.refl N.h).more s1
  refine ⟨x, y, dy, args, G, H, rfl, ha, upd_same, hy, N.h.free hy, n1, fun fs G' H' n h1 h2 r => ?_, fun c d G' H' n z => kx c d G' H' (N.trans n) n z⟩
  have n2 : Nx G H (upd G' y (.ins C dy fs)) H' := n.fz h1 hy h2
  exact ⟨rfl, k y dy fs _ H' (N.trans n2) n2 upd_same (up x fs _ _ (same_new h2) r)⟩
theorem mk_x0 (up : ∀ x fs G G', Same G G' → R x fs G → R x fs G') {G0 H0 G H : Hp} {args : List V} {Q : VK} {E : XK} (N : Nx G0 H0 G H) (x : α) (ha : A x args G)
    (k : ∀ p dx fs G' H', Nx G0 H0 G' H' → Nx G H G' H' → G' p = some (.ins C dx fs) → R x fs G' → Q (.ref p) H') : rMk C (spInitX C A R NoX) E args H Q :=
  mk_x up N x ha k fun _ _ _ _ _ _ z => z.elim
variable {P : Program} {w : World} {K : PySem.W.Frag} {mg : Str → Option Value} {base : Heap} {k : Nat} {f : Addr}
/-- __init__(self, *v) -/
theorem init_star (upA : ∀ x vs G G', Same G G' → A x vs G → A x vs G') (len : ∀ x vs G, A x vs G → vs.length ≤ sizeLine)
    (F : FnR P w K mg base (L2.CX P w) k f (fun vs H Q E => ∃ ws rest, vs = ws ++ rest ∧ ws.length = 1 ∧ rest.length ≤ sizeLine ∧ ∀ p, H p = Option.none →
      spInitX C (fun x args G => ∃ t rest, args = [.ref t] ∧ G t = some (.tup rest) ∧ A x rest G) R X (ws ++ [V.ref p]) (upd H p (.tup rest)) Q E)) : FnR P w K mg base (L2.CX P w) k f (spInitX C A R X) :=
  F.imp fun vs H Q E ⟨x, a, dx, args, G, Hm, e, ha, h1, h2, h3, n, q, e'⟩ => by
    subst e
    refine ⟨[.ref a], args, rfl, rfl, len x args G ha, fun p hp => ⟨x, a, dx, [.ref p], upd G p (.tup args), Hm, rfl, ⟨p, args, rfl, upd_same, upA x args _ _ (same_new (n.h.free hp)) ha⟩, ?_, h2, ?_, ?_, fun fs G' H' n' => q fs G' H' ?_, fun c d G' H' n' => e' c d G' H' ?_⟩⟩
    · rw [upd_ne (ne_of_none h1 hp)]; exact h1
    · rw [upd_ne (ne_of_none h1 hp)]; exact h3
    · have z := n.newk (o := .tup args) hp
      exact ⟨Same.refl _, z.h, z.e, fun b hb => .inl hb⟩
    · exact back n hp n'
    · exact back n hp n'
where back {G Hm H G' H' : Hp} {p : Addr} {o : HO} (n : Nx G Hm G H) (hp : H p = none) (n' : Nx (upd G p o) Hm G' H') : Nx G Hm G' H' :=
  ⟨(same_new (n.h.free hp)).trans n'.g, n'.h, n'.e, fun b hb => by
    by_cases e : b = p
    · subst e; exact .inr (n.e.free hp)
    · rcases n'.n b hb with z | z
      · rw [upd_ne e] at z; exact .inl z
      · exact .inr z⟩
end
abbrev spColsInit (C : Addr) : Sp := spInitX C (fun (ns : List Str) vs _ => vs = ns.map V.str ∧ Nms ns) (fun ns fs G => ∃ t, fs = colsF t ∧ G t = some (.tup ((cset ns).map V.str))) NoX
theorem Nms.cset {ns : List Str} (h : Nms ns) : Nms (cset ns) := h.of_subset (fun _ hx => cset_mem.mp hx) (Nat.le_trans (cset_len _) h.n)
section
variable {K : PySem.W.Frag} {C : Addr} {G0 H0 G H : Hp} {Q : VK} {E : XK}
theorem mk_cols (N : Nx G0 H0 G H) (ns : List Str) (hn : Nms ns) (k : ∀ p G' H', Nx G0 H0 G' H' → Nx G H G' H' → ColsAt C G' p (cset ns) → Q (.ref p) H') : rMk C (spColsInit C) E (ns.map V.str) H Q :=
  mk_x0 (fun _ _ _ _ s ⟨t, h1, h2⟩ => ⟨t, h1, s _ _ h2⟩) N ns ⟨rfl, hn⟩ fun p dx fs G' H' N' n' hp ⟨t, h1, h2⟩ => by
    subst h1
    exact k p G' H' N' n' ⟨⟨dx, t, hp, h2⟩, cset_ss _, hn.cset.ok, hn.c⟩
theorem mk_colsT (N : Nx G0 H0 G H) {t : Addr} (ns : List Str) (ht : G t = some (.tup (ns.map V.str))) (hn : Nms ns) (k : ∀ p G' H', Nx G0 H0 G' H' → Nx G H G' H' → ColsAt C G' p (cset ns) → Q (.ref p) H') :
    ∃ a xs, V.ref t = V.ref a ∧ (SqT K H a xs ∨ SqL K H a xs) ∧ rMk C (spColsInit C) E xs H Q := ⟨t, _, rfl, .inl (sqT (N.h _ _ ht)), mk_cols N ns hn k⟩
theorem mk_colsL (N : Nx G0 H0 G H) {t : Addr} (ns : List Str) (ht : H t = some (.lst (ns.map V.str))) (hn : Nms ns) (k : ∀ p G' H', Nx G0 H0 G' H' → Nx G H G' H' → ColsAt C G' p (cset ns) → Q (.ref p) H') :
    ∃ a xs, V.ref t = V.ref a ∧ (SqT K H a xs ∨ SqL K H a xs) ∧ rMk C (spColsInit C) E xs H Q := ⟨t, _, rfl, .inr (sqL ht), mk_cols N ns hn k⟩
theorem fld_names {a : Addr} {ns : List Str} (c : Cls K C) (na : NoAttr K C "names") (h : ColsAt C G a ns) (s : Same G H) (q : ∀ t, G t = some (.tup (ns.map V.str)) → Q (.ref t) H) :
    ∃ a' C dx fs v, V.ref a = .ref a' ∧ H a' = some (.ins C dx fs) ∧ Cls K C ∧ NoAttr K C "names" ∧ fs.lookup ("names" : Str) = some v ∧ Q v H := by
  obtain ⟨dx, t, h1, h2⟩ := h.at_
  exact ⟨a, C, dx, colsF t, .ref t, rfl, s _ _ h1, c, na, rfl, q t h2⟩
theorem fld_v {σ : L2.St} {i : Nat} {a : Addr} {ns : List Str} (hσ : σ[i]? = some (some (V.ref a))) (c : Cls K C) (na : NoAttr K C "names") (h : ColsAt C G a ns) (s : Same G H) (q : ∀ t, G t = some (.tup (ns.map V.str)) → Q (.ref t) H) :
    tFld K (tVar i) "names" σ H Q := w_fld (w_var hσ (fld_names c na h s q))
theorem cols_ins {a : Addr} {ns : List Str} (h : ColsAt C G a ns) (s : Same G H) : Ins H a C := let ⟨dx, t, h1, _⟩ := h.at_; ⟨dx, _, s _ _ h1⟩
/-- two column sets -/
abbrev ACols2 (C : Addr) : ((Addr × List Str) × Addr × List Str) → List V → Hp → Prop := fun d vs G => vs = [.ref d.1.1, .ref d.2.1] ∧ ColsAt C G d.1.1 d.1.2 ∧ ColsAt C G d.2.1 d.2.2
abbrev ACols (C : Addr) : (Addr × List Str) → List V → Hp → Prop := fun d vs G => vs = [.ref d.1] ∧ ColsAt C G d.1 d.2
abbrev RCols (C : Addr) {α : Type} (f : α → List Str) : α → V → Hp → Prop := fun d v G => ∃ p, v = .ref p ∧ ColsAt C G p (f d)
abbrev RBool {α : Type} (f : α → Bool) : α → V → Hp → Prop := fun d v _ => v = .bl (f d)
theorem bnot_ne {α : Type} [DecidableEq α] {x y : α} : (!decide (x = y)) = decide (x ≠ y) := by by_cases h : x = y <;> simp [h]
theorem rb_t {α : Type} {f : α → Bool} {d : α} {v : V} {G : Hp} (r : RBool f d v G) (h : f d = true) : v = .bl true := (show v = .bl (f d) from r).trans (by rw [h])
abbrev spColsOr (C : Addr) : Sp := spX (fun d vs G => ACols2 C d vs G ∧ Nms (d.1.2 ++ d.2.2)) (RCols C fun d => cset (d.1.2 ++ d.2.2)) NoX
abbrev spColsAnd (C : Addr) : Sp := spX (ACols2 C) (RCols C fun d => cset (d.1.2.filter fun x => decide (x ∈ d.2.2))) NoX
abbrev spColsSub (C : Addr) : Sp := spX (ACols2 C) (RCols C fun d => cset (d.1.2.filter fun x => decide (x ∉ d.2.2))) NoX
abbrev spColsXor (C : Addr) : Sp := spX (fun d vs G => ACols2 C d vs G ∧ Nms (d.1.2 ++ d.2.2)) (RCols C fun d => cset ((d.1.2 ++ d.2.2).filter fun x => !decide (decide (x ∈ d.1.2) = decide (x ∈ d.2.2)))) NoX
abbrev spColsEq (C : Addr) : Sp := spX (ACols2 C) (RBool fun d => decide (d.1.2 = d.2.2)) NoX
abbrev spColsLe (C : Addr) : Sp := spX (ACols2 C) (RBool fun d => d.1.2.all fun x => decide (x ∈ d.2.2)) NoX
abbrev spColsLt (C : Addr) : Sp := spX (ACols2 C) (RBool fun d => !decide (d.1.2 = d.2.2) && d.1.2.all fun x => decide (x ∈ d.2.2)) NoX
abbrev spColsContains (C : Addr) : Sp := spX (fun (d : (Addr × List Str) × Str) vs G => vs = [.ref d.1.1, .str d.2] ∧ ColsAt C G d.1.1 d.1.2) (RBool fun d => decide (d.2 ∈ d.1.2)) NoX
abbrev spColsLen (C : Addr) : Sp := spX (ACols C) (fun d v _ => v = .int d.2.length) NoX
abbrev spColsText (C : Addr) : Sp := spX (ACols C) (fun d v _ => v = .str (Txt.join " " d.2)) NoX
abbrev spColsRead (C : Addr) : Sp := spX (fun (ns : List Str) vs _ => vs = [.ref C, .str (Txt.join " " ns)] ∧ Nms ns) (RCols C fun ns => cset ns) NoX
end
end Ax

/-! Own instances that are walked: __iter__ gives a tuple's iterator. -/
namespace Ax
open PySem PySem.Spec PyProof.Rows L2 SlX StX ItX
abbrev titObj (t : Addr) : Obj := { cls := .type "tuple_iterator", data := .fields #[.ref t, .int 0 0] }
/-- a fresh iterator of the tuple at t -/
def TIt (t it : Addr) : HO := .ext fun h => h.get? it = some (titObj t)
theorem tit_ok {P : Program} {w : World} {H : Hp} {h : Heap} {t it : Addr} (e : h.get? it = some (titObj t)) : ObjOk P w H h it (TIt t it) := ⟨e, ⟨_, e⟩, fun _ _ a k => k _ a⟩
/-! ### iter(t) -/
def rIterT (K : PySem.W.Frag) (n : Nat) : List V → Hp → VK → Prop := fun xs H Q => ∃ (t : Addr) (zs : List V), xs = [.ref t] ∧ SqT K H t zs ∧ ∀ it, n ≤ it → H it = none → Q (.ref it) (upd H it (TIt t it))
theorem call_iterT {X : Cx} {K : PySem.W.Frag} {n : Nat} (hK : X.K = K) (hn : X.s_0.heap.objs.size = n) : CallR X (.builtin "iter") (rIterT K n) := by
  subst hK
  subst hn
  intro pins s σ H xs us Q I r h
  obtain ⟨t, zs, rfl, hq, q⟩ := h
  obtain ⟨u, rfl, ru⟩ := vals1 r
  cases ru
  obtain ⟨its, rv, pl, hz⟩ := I.tuple hq
  refine Calls.call_function_entry (by decide +kernel) (by decide +kernel) PySem.W.kdk_entry_iter (PySem.W.kdk_args_iter _) ?_
  unfold Builtin.«iter»
  refine wpAny_bind (m := someArgs "iter" 1 2 _) (wpAny_of_eq (a := [Value.ref t]) (by first | rfl | kernel_rfl!) ?_)
  show wpAny _ _ (pyIter (.ref t) >>= _) _ _ _
  refine wpAny_bind (wpAny_pyIter_tuple (show s.heap.IsTuple t its.toArray from pl) ?_)
  exact wpAny_pure ⟨_, rfl, .ref s.heap.objs.size, _, I.laid (t' := s.toks) (fun b u e => Heap.get?_push_of_some _ e) (Nat.le_refl _) (tit_ok (Heap.get?_push_size _ rfl)), rfl, q _ I.sz (I.hok.fresh (Nat.le_refl _))⟩
/-- an __iter__ that gives an iterator of the tuple t -/
def FnIt (P : Program) (w : World) (K : PySem.W.Frag) (mg : Str → Option Value) (base : Heap) (CX : CXT) (k : Nat) (f : Addr) (A : Addr → Hp → Addr → Prop) : Prop :=
  ∀ (Ar : Around) (outer : List Env) (s : Shared) (H : Hp) (a t : Addr) (Q : VK) (E : XK), Room k Ar → Env0 P w K mg base Ar outer s H → A a H t → (∀ it, s.heap.objs.size ≤ it → H it = none → Q (.ref it) (upd H it (TIt t it))) →
    codeAny (model P w) Ar (.call (.ref f) ⟨[.ref a], []⟩) (CR CX outer P w H s Q E) s
theorem FnIt.mono {P : Program} {w : World} {K : PySem.W.Frag} {mg : Str → Option Value} {base : Heap} {CX : CXT} {j k : Nat} {f : Addr} {A : Addr → Hp → Addr → Prop} (F : FnIt P w K mg base CX j f A) (h : j ≤ k) : FnIt P w K mg base CX k f A :=
  fun Ar outer s H a t Q E hr => F Ar outer s H a t Q E (hr.mono h)
theorem fnIt_of {P : Program} {w : World} {K : PySem.W.Frag} {mg : Str → Option Value} {base : Heap} {d : DfX} {f : Addr} {N : List Str} {p1 : Str} {k : Nat} {A : Addr → Hp → Addr → Prop} (F : FunX K d f) (S : FnScope N [p1] d.scope)
    (hb : ∀ (kV doc pm : Value) (an : Option Addr) (cdv ct : Value) (us : List Value), us.length = [p1].length → bindArgs (PySem.W.fnOf d.name d.qual d.params d.body d.scope .none kV doc pm an cdv ct) ⟨us, []⟩ = pure ([p1].zip us))
    (hbody : ∀ (cdv : Value) (Ar : Around) (outer : List Env) (s : Shared) (H : Hp) (a t : Addr) (Q : VK) (E : XK), Room k (Ar.deeper (envOfC d.qual d.scope s.heap.objs.size f cdv)) → A a H t → (∀ it, s.heap.objs.size ≤ it → H it = none → Q (.ref it) (upd H it (TIt t it))) →
      ∃ t, PSs (cxOf (L2.CX P w) P w K mg base N d.qual d.scope f cdv Ar outer s H E) d.body t ∧ t { nx := fun _ H' => Q .non H', rt := Q } (start N [.ref a]) H) : FnIt P w K mg base (L2.CX P w) (k + 1) f A := by
  obtain ⟨fd, oc, od, dV, kV, doc, pm, an, cdv, ct, osl, rfl, lk, hcd, hD, hK⟩ := (show ∃ fd, _ from let ⟨fd, F⟩ := F; ⟨fd, F.ex⟩)
  obtain rfl : dV = .none := by
    rcases hD with ⟨_, e⟩ | ⟨e, _⟩
    · exact e
    · exact absurd rfl e
  intro Ar outer s H a t Q E hr e0 hA hQ
  have KX : K.In s.heap := e0.mod.kin.keeps fun b o e => (e0.bs b o e).1
  have bd := hb kV doc pm an cdv ct [.ref a] rfl
  have r1 : Vals [V.ref a] [Value.ref a] := .cons rfl .nil
  refine codeAny_call_function hr.depth (KX _ _ lk) rfl S.co S.gen rfl (PySem.W.codeRec_of KX hcd) ?_
  rw [bd]
  refine wpAny_pure (wpAny_newFunctionEnv_cells S.kind (fun y hy => ?_) fun env he s1 x => ?_)
  · rcases S.par y.1 (List.of_mem_zip hy).1 with q | q
    · exact .inl q
    · exact .inr ⟨q, PySem.W.cellsFrom_some _ _ _ (.inl q)⟩
  subst he
  refine ⟨(e0.mod.nolimit.keeps fun b o e => (e0.bs b o e).1).keeps x.toInCall.keep, codeAny_func ?_⟩
  obtain ⟨rd, hd, hq⟩ := hbody cdv Ar outer s H a t Q E (hr.deeper _) hA hQ
  refine wpAny_mono (hd.run [] s1 _ H _ (inv_start S hr.hd e0 rfl r1 x) hq) (fun fl s' hs => ?_) fun e s' hs => hs
  cases fl with
  | ret u =>
    obtain ⟨v, σ', H', J, rv, q⟩ := hs
    exact ⟨v, H', J.os, J.bare, J.base, J.hok, rv, q⟩
  | next =>
    obtain ⟨σ', H', J, q⟩ := hs
    exact ⟨.non, H', J.os, J.bare, J.base, J.hok, rfl, q⟩
  | brk =>
    obtain ⟨_, _, _, q⟩ := hs
    exact q.elim
  | cont =>
    obtain ⟨_, _, _, q⟩ := hs
    exact q.elim
section
variable {X : Cx} {CX : CXT} {k : Nat} {C gi gl : Addr} {A : Addr → Hp → Addr → Prop} {sp : Sp} {E : XK} {K : PySem.W.Frag}
/-- pyIter of an own instance: the iterator stands, untracked -/
theorem own_iter {pins : List (Addr × Obj)} {σ : L2.St} {H : Hp} {s : Shared} {A1 : Around} {a t : Addr} {Q : Value → Shared → Prop} (hs : PySem.W.findIn X.K (.ref C) "__iter__" = some (some (.ref gi))) (hf : PySem.W.isFn X.K (.ref gi) = true)
    (F : FnIt X.prog X.w X.K X.mg X.base (L2.CX X.prog X.w) k gi A) (hr : Room k A1) (hfr : A1.frames = X.A.frames) (I : Inv X pins σ H s) (ha : Ins H a C) (hA : A a H t)
    (q : ∀ it s2, Inv X pins σ H s2 → s2.heap.get? it = some (titObj t) → FpOk X pins H it → s.heap.objs.size ≤ it → Q (.ref it) s2) : wpAny (model X.prog X.w) A1 (pyIter (.ref a)) Q X.xe s := by
  obtain ⟨_, _, J⟩ := ins_at I ha
  obtain ⟨m, hF⟩ := I.fr
  refine PySem.W.owit_iter hF I.ok.mod.kin J hs hf ?_
  have e0 : Env0 X.prog X.w X.K X.mg X.base A1 X.stack s H := by
    have e := I.env0
    exact ⟨by rw [hfr]; exact e.frames, e.mod, e.bs, e.bsz, e.funs, e.frf, e.hok, e.bare⟩
  refine wpAny_call (codeAny_mono (F A1 X.stack s H a t (fun v H' => ∃ it, v = .ref it ∧ s.heap.objs.size ≤ it ∧ H it = none ∧ H' = upd H it (TIt t it)) E0 hr e0 hA fun it h1 h2 => ⟨it, rfl, h1, h2, rfl⟩) fun r s' hq => ?_)
  cases r with
  | error e =>
    obtain ⟨_, _, _, _, _, _, _, _, _, _, _, _, z⟩ := hq
    exact z.elim
  | ok fl =>
    cases fl with
    | ret u =>
      obtain ⟨v, H', I', rv, it, rfl, h1, h2, rfl⟩ := I.after hq
      cases (show u = Value.ref it from rv)
      have eo : s'.heap.get? it = some (titObj t) := (I'.hok it _ upd_same).1
      have hT : s'.TypeIs (.ref it) "tuple_iterator" := ⟨_, eo, rfl⟩
      have I2 := inv_drop I' (a := it) (φ := fun h => h.get? it = some (titObj t)) upd_same
      have fp := inv_fp I' (a := it) (u := TIt t it) upd_same (Nat.le_trans I.sz h1)
      rw [dropH_upd h2] at I2 fp
      show wpAny _ _ (specialOf (.ref it) "__next__") _ _ _
      exact wpAny_specialOf hT PySem.F.slot_tuple_iterator_next.lookup (q it s' I2 eo fp h1)
    | next => exact hq.elim
    | brk => exact hq.elim
    | cont => exact hq.elim
/-- for x in o -/
def iOwn (C : Addr) (A : Addr → Hp → Addr → Prop) (K : PySem.W.Frag) (te : TE) : TI := fun σ H R => te σ H fun v H1 => ∃ a t, v = .ref a ∧ Ins H1 a C ∧ A a H1 t ∧ R (Itt K t) H1
theorem pi_own {tg e : Expr} {te : TE} (hK : X.K = K) (hs : Meth K C "__iter__" gi) (F : FnIt X.prog X.w K X.mg X.base (L2.CX X.prog X.w) k gi A) (hr : Room k X.A) (he : PE X e te) : PI X tg e (iOwn C A K te) := by
  subst hK
  refine ⟨fun pins s σ H R I h => ?_⟩
  refine thn (he.run pins s σ H _ I h) fun v s1 ⟨x, H1, I1, r1, a, t, ex, ha, hA, q⟩ => ?_
  subst ex
  cases r1
  refine own_iter hs.at_ hs.fn F hr rfl I1 ha hA fun it s2 I2 eo fp _ => ?_
  refine ⟨it, [it], _, _, H1, rfl, I2, turn_tuple t it, ⟨_, eo, rfl, rfl⟩, fun b hb => ?_, q⟩
  have e : b = it := by simpa using hb
  rw [e]; exact fp
theorem items_eq {xs : List Value} {acc : Array Value} (h : ItemsOf (fun i v => xs.toArray[i]? = some v) acc xs.toArray.size) : acc = xs.toArray := by
  obtain ⟨h1, h2⟩ := h
  refine Array.ext h1 fun i hi hj => ?_
  have e : acc[i]? = some acc[i] := Array.getElem?_eq_getElem hi
  have : xs.toArray[i]? = some acc[i] := h2 i _ e
  rw [Array.getElem?_eq_getElem hj] at this
  exact (Option.some.inj this).symm
/-- the loop at its end: the list q is filled, the iterator is forgotten -/
theorem loop_done {pins : List (Addr × Obj)} {σ : L2.St} {H : Hp} {s s' : Shared} {q it : Addr} {zs : List V} {its : List Value} {c0 c : Nat} {old : List Value} {ys : List V} (I : Inv X pins σ H s) (hq : H q = some (.lst ys)) (fp : FpOk X pins H it) (rv : Vals zs its) (hz : zs.length ≤ sizeLine)
    (hqs : s.heap.get? q = some { cls := .type "list", data := .seq old.toArray c0 }) (m : Moved [q, it] (fun a b => b = a) s s') (hq' : s'.heap.get? q = some { cls := .type "list", dict := none, data := .seq its.toArray c, slots := #[] }) : Inv X pins σ (upd H q (.lst zs)) s' := by
  have hne : q ≠ it := fun e => by rw [e, fp.1] at hq; cases hq
  obtain ⟨h', g', d', tk', os'⟩ := s'
  have eg : g' = s.gens := m.gens
  have eo : os' = s.os := m.os
  subst eg eo
  let hm := h'.update q (fun _ => { cls := .type "list", data := .seq old.toArray c0 })
  have hm1 : hm.get? q = some { cls := .type "list", data := .seq old.toArray c0 } := Heap.get?_update_self (fun _ => { cls := .type "list", data := .seq old.toArray c0 }) hq' rfl
  have J : Inv X pins σ H { s with heap := hm, toks := tk' } := I.turned (it := it) (fun b o nb e => by
    by_cases hb : b = q
    · subst hb; rw [hqs] at e; cases e; exact hm1
    · exact (Heap.get?_update_other _ _ (Ne.symm hb)).trans (m.heap b o (by simp [hb, nb]) e)) fp.1 fp.2.1 fp.2.2.2.1 fp.2.2.2.2.1 fp.2.2.2.2.2
  have mu : Mut (H q) := by rw [hq]; exact True.intro
  have J2 := J.write (x := q) (e := q) (o := .lst zs) (h' := h') (t' := tk') mu (.inl rfl) (fun b o nb e => by
    have := (Heap.get?_update_other h' (fun _ => ({ cls := .type "list", data := .seq old.toArray c0 } : Obj)) (Ne.symm nb)).symm.trans e
    exact this) ⟨_, hq'⟩ ⟨hz, its, c, rv, hq'⟩
  have ed : d' = s.drawn := m.drawn
  subst ed
  exact J2
/-- behind the hint -/
theorem ext_loop {pins : List (Addr × Obj)} {σ : L2.St} {H : Hp} {s : Shared} {A1 : Around} {q it t : Addr} {zs : List V} {its : List Value} {c0 : Nat} {Q : VK} (I : Inv X pins σ H s) (hq : H q = some (.lst [])) (fp : FpOk X pins H it) (eo : s.heap.get? it = some (titObj t))
    (rz : Vals zs its) (pl : IsTup s.heap t its.toArray) (hz : zs.length ≤ sizeLine) (eq0 : s.heap.get? q = some { cls := .type "list", data := .seq #[] c0 }) (hti : t ≠ it) (hh : A1.in1.handled = none) (hQ : Q (.ref q) (upd H q (.lst zs))) :
    codeAny (model X.prog X.w) A1 (.builtin "list.extend.loop" ⟨[.ref q, .ref it, .none], []⟩) (wants (fun r s₂ => r = .none ∧ EP X pins σ Q (.ref q) s₂) X.xe) s := by
  have hsz : its.toArray.size ≤ sizeLine := by rw [List.size_toArray, ← rz.length]; exact hz
  have hqt : q ∉ [it, t] := by
    have h1 : q ≠ it := fun e => by rw [e, fp.1] at hq; cases hq
    have h2 : q ≠ t := fun e => by
      obtain ⟨o, ho, hc, _⟩ := pl
      rw [← e, eq0] at ho
      cases Option.some.inj ho
      have z : (Value.type "list") = Value.type "tuple" := hc
      injection z with z
      exact absurd z (by decide)
    simp [h1, h2]
  refine codeAny_extend_loopS (Walks.tuple (prog := X.prog) (w := X.w) (A := A1.in1) hh it t hti its.toArray).toS hsz q hqt .none _ 0 s #[] c0 rfl (Nat.zero_le _) ⟨⟨_, eo, rfl, rfl⟩, pl⟩ eq0 (ItemsOf.nil _) fun s' acc c hm hs' hacc => ?_
  obtain rfl := items_eq hacc
  exact ⟨rfl, .ref q, _, loop_done (old := []) I hq fp rz hz eq0 hm hs', rfl, hQ⟩
theorem ext_own {pins : List (Addr × Obj)} {σ : L2.St} {H : Hp} {s : Shared} {A1 : Around} {a q t : Addr} {zs : List V} {Q : VK} (hs : Meth X.K C "__iter__" gi) (F : FnIt X.prog X.w X.K X.mg X.base (L2.CX X.prog X.w) k gi A) (hl : Meth X.K C "__len__" gl)
    (FL : FnR X.prog X.w X.K X.mg X.base (L2.CX X.prog X.w) k gl sp) (hr : Room (k + 1) A1.in1) (hfr : A1.in1.frames = X.A.frames) (I : Inv X pins σ H s) (hq : H q = some (.lst [])) (ha : Ins H a C) (hA : A a H t) (hzl : zs.length ≤ 100000)
    (hsp : sp [.ref a] H (fun r H2 => ∃ n : Nat, r = .int n ∧ n < 2 ^ 63 ∧ ∃ m : Nat, V.int n = .int m ∧ m ≤ 100000 ∧ H2 q = some (.lst []) ∧ SqT X.K H2 t zs ∧ Q (.ref q) (upd H2 q (.lst zs))) E0) :
    wpAny (model X.prog X.w) A1.in1 (Builtin.List.listExtendWith (.ref q) (.ref a) .none)
      (fun fin s' => match fin with | .done f => wants (fun r s₂ => r = .none ∧ EP X pins σ Q (.ref q) s₂) X.xe (.ok f) s' | .again c' => c'.quiet = true ∧ codeAny (model X.prog X.w) A1 c' (wants (fun r s₂ => r = .none ∧ EP X pins σ Q (.ref q) s₂) X.xe) s')
      (fun e s' => wants (fun r s₂ => r = .none ∧ EP X pins σ Q (.ref q) s₂) X.xe (.error e) s') s := by
  have hne : q ≠ a := by
    obtain ⟨dx, fs, e⟩ := ha
    intro z
    rw [z, e] at hq; cases hq
  obtain ⟨_, _, J⟩ := ins_at I ha
  unfold Builtin.List.listExtendWith
  refine wpAny_bind (J.type.here ?_)
  have h1 : Builtin.List.listSameRef (.ref q) (.ref a) = false := by simp [Builtin.List.listSameRef, hne]
  have h2 : (Value.ref C == Value.type "list") = false := rfl
  have h3 : (Value.ref C == Value.type "tuple") = false := rfl
  simp only [h1, h2, h3, Bool.or_false, Bool.false_eq_true, if_false]
  refine wpAny_bind (own_iter hs.at_ hs.fn F (hr.mono (Nat.le_succ _)) hfr I ha hA fun it s2 I2 eo fp hge => ?_)
  have Ip : Inv X ((it, titObj t) :: pins) σ H s2 := I2.pins_of fun p hp => by
    rcases List.mem_cons.mp hp with e | e
    · subst e; exact ⟨eo, fp.1, fp.2.1, fp.2.2.1, fun v z => nomatch z⟩
    · exact I2.pin p (List.mem_append_right _ e)
  obtain ⟨_, _, J2⟩ := ins_at Ip ha
  refine wpAny_bind (wpAny_holding ?_)
  unfold Builtin.List.listLengthHint
  refine wpAny_bind (wpAny_bind (J2.type.here ((PySem.W.looks_findIn Ip.kIn hl.at_).here ?_)))
  refine PySem.W.KFB.if_not rfl ?_
  refine PySem.W.KFB.if_so rfl ?_
  refine wpAny_bind (wpAny_rule ?_)
  let X' : Cx := X.tr (X.pn ++ ((it, titObj t) :: pins)) fun _ _ => False
  have It : Inv X' [] σ H s2 := Ip.toTry _
  have e0 : Env0 X'.prog X'.w X'.K X'.mg X'.base A1.in1.in1 X'.stack s2 H := by
    have e := Ip.env0
    exact ⟨by
      show A1.in1.in1.frames = _
      rw [show A1.in1.in1.frames = A1.in1.frames from rfl, hfr]; exact e.frames, e.mod, e.bs, e.bsz, e.funs, e.frf, e.hok, e.bare⟩
  have hlen := len_at (X := X') (A := A1.in1) (CX := L2.CX X.prog X.w) (E := E0) (Q := fun v H2 => ∃ m : Nat, v = .int m ∧ m ≤ 100000 ∧ H2 q = some (.lst []) ∧ SqT X.K H2 t zs ∧ Q (.ref q) (upd H2 q (.lst zs))) hl.at_ hl.fn FL hr.in1 e0 passL It ha hsp
  refine wpAny_bind (wpAny_attempt (wpAny_mono hlen (fun u s4 hz => ?_) fun e s4 hz => hz.elim))
  obtain ⟨v, H4, I4, rv, m, rfl, hm, hq4, ht4, hQ⟩ := hz
  obtain ⟨tk, rfl⟩ := (show ∃ t, u = Value.int (m : Int) t from rv)
  have I4 := I4.ofTry I.ok
  have z4 := I4.pin (it, titObj t) (List.mem_append_right _ List.mem_cons_self)
  have eo4 : s4.heap.get? it = some (titObj t) := z4.1
  have I5 := ClX.unpin I4
  have fp4 : FpOk X pins H4 it := ⟨z4.2.1, fp.2.1, fp.2.2.1, fp.2.2.2.1, fp.2.2.2.2.1, fp.2.2.2.2.2⟩
  obtain ⟨its, rz, pl, hz'⟩ := I5.tuple ht4
  obtain ⟨z4, its0, c0, r0, hl0, eq0⟩ := I5.lstM hq4
  cases r0
  show wpAny _ _ (asInt? (Value.int (m : Int) tk) >>= _) _ _ _
  refine wpAny_bind (wpAny_pure ?_)
  refine PySem.W.KFB.if_not (by
    unfold Builtin.List.listTooLong
    rw [Int.toNat_natCast]
    exact decide_eq_false (by have := sz hm; omega)) ?_
  refine wpAny_pure ?_
  have hti : t ≠ it := fun e => by
    obtain ⟨o, ho, hc, _⟩ := pl
    rw [e, eo4] at ho
    cases Option.some.inj ho
    have z : (Value.type "tuple_iterator") = Value.type "tuple" := hc
    injection z with z
    exact absurd z (by decide)
  refine wpAny_ite_split (fun _ => ?_) (fun _ => wpAny_pure ⟨plainId_quiet PySem.F.plain_extend_loop _, ext_loop I5 hq4 fp4 eo4 rz pl hz' eq0 hti hr.hd hQ⟩)
  refine wpAny_bind (wpAny_rule ?_)
  refine wpAny_bind ?_
  show wpAny _ _ (updateSeq q (·.push .none) >>= fun _ => updateSeq q (·.pop)) _ _ _
  have I6 := I5.lset (f := (·.push Value.none)) (its' := [Value.none]) (ys := [.non]) (t' := s4.toks) hq4 eq0 (by simp) (.cons rfl .nil) (by rw [List.length_singleton, sizeLine_eq]; decide)
  obtain ⟨z6, its6, k6, r6, hl6, e6⟩ := I6.lstM upd_same
  obtain ⟨u6, rfl, ru6⟩ := r6.one
  have I7 := I6.lset (f := (·.pop)) (its := [u6]) (its' := []) (ys := []) (t' := s4.toks) upd_same e6 (by rfl) .nil (Nat.zero_le _)
  rw [upd_upd, upd_self hq4] at I7
  obtain ⟨z7, its7, k7, r7, hl7, e7⟩ := I7.lstM hq4
  cases r7
  have oth : ∀ b o, b ≠ q → s4.heap.get? b = some o → ((s4.heap.update q (Obj.mapSeq (·.push Value.none))).update q (Obj.mapSeq (·.pop))).get? b = some o :=
    fun b o hb e => (Heap.get?_update_other _ _ (Ne.symm hb)).trans ((Heap.get?_update_other _ _ (Ne.symm hb)).trans e)
  have hqi : it ≠ q := fun e => by rw [← e, fp4.1] at hq4; cases hq4
  have hqt : t ≠ q := fun e => by
    obtain ⟨o, ho, hc, _⟩ := pl
    rw [e, eq0] at ho
    cases Option.some.inj ho
    have z : (Value.type "list") = Value.type "tuple" := hc
    injection z with z
    exact absurd z (by decide)
  have fin := ext_loop (A1 := A1) (Q := Q) I7 hq4 fp4 (oth _ _ hqi eo4) rz (let ⟨o, ho, r⟩ := pl; ⟨o, oth _ _ hqt ho, r⟩) hz' e7 hti hr.hd hQ
  refine wpAny_bind (wpAny_updateSeq eq0 rfl ?_)
  exact wpAny_updateSeq e6 rfl (wpAny_pure ⟨plainId_quiet PySem.F.plain_extend_loop _, fin⟩) (by show 1 ≤ sizeLine; rw [sizeLine_eq]; decide) (by show 0 ≤ sizeLine + 1; exact Nat.zero_le _)
/-- list(o), o with __len__ -/
def rListO (C : Addr) (A : Addr → Hp → Addr → Prop) (K : PySem.W.Frag) (sp : Sp) : List V → Hp → VK → Prop := fun xs H Q => ∃ a, xs = [.ref a] ∧ Ins H a C ∧
  ∀ q, H q = none → ∃ t zs, A a (upd H q (.lst [])) t ∧ zs.length ≤ 100000 ∧ sp [.ref a] (upd H q (.lst [])) (fun r H2 => ∃ n : Nat, r = .int n ∧ n < 2 ^ 63 ∧ ∃ m : Nat, V.int n = .int m ∧ m ≤ 100000 ∧ H2 q = some (.lst []) ∧ SqT K H2 t zs ∧ Q (.ref q) (upd H2 q (.lst zs))) E0
theorem call_listO (hK : X.K = K) (hs : Meth K C "__iter__" gi) (F : FnIt X.prog X.w K X.mg X.base (L2.CX X.prog X.w) k gi A) (hl : Meth K C "__len__" gl) (FL : FnR X.prog X.w K X.mg X.base (L2.CX X.prog X.w) k gl sp) (hr : Room (k + 3) X.A) :
    CallR X (.type "list") (rListO C A K sp) := by
  subst hK
  intro pins s σ H xs us Q I rv h
  obtain ⟨a, rfl, ha, hq⟩ := h
  obtain ⟨u, rfl, ru⟩ := rv.one
  cases ru
  refine callType_codes (Q₁ := fun obj s₁ => obj = .ref s.heap.objs.size ∧ s₁ = { s with heap := s.heap.push { cls := .type "list", data := .seq #[] } }) PySem.F.called_list (PySem.F.typeCall_list_1 _) PySem.F.entry_list_init
    (code_list_new _ ⟨rfl, rfl⟩) fun obj s₁ h₁ => ?_
  obtain ⟨rfl, rfl⟩ := h₁
  have hS : (s.heap.push { cls := .type "list", data := .seq #[] }).get? s.heap.objs.size = some { cls := .type "list", data := .seq #[] } := Heap.get?_push_size _ rfl
  refine ⟨⟨_, hS, rfl⟩, PySem.F.args_list_init_2 _ _, ?_⟩
  have fr : H s.heap.objs.size = none := I.hok.fresh (Nat.le_refl _)
  obtain ⟨t, zs, hA, hzl, hsp⟩ := hq _ fr
  have I1 : Inv X pins σ (upd H s.heap.objs.size (.lst [])) { s with heap := s.heap.push { cls := .type "list", data := .seq #[] } } := I.lnew (its := []) (t' := s.toks) .nil (Nat.zero_le _)
  show wpAny _ _ (do let old ← Builtin.List.listItems (.ref s.heap.objs.size); Builtin.List.listUpdate (.ref s.heap.objs.size) (fun _ => #[]); letGo old.toList.reverse; Builtin.List.listExtendWith (.ref s.heap.objs.size) (.ref a) .none) _ _ _
  refine wpAny_bind ?_
  unfold Builtin.List.listItems
  refine wpAny_bind (wpAny_seqItems hS rfl (wpAny_pure ?_))
  show wpAny _ _ (updateSeq s.heap.objs.size (fun _ => #[]) >>= fun _ => letGo (#[] : Array Value).toList.reverse >>= fun _ => Builtin.List.listExtendWith (.ref s.heap.objs.size) (.ref a) .none) _ _ _
  refine wpAny_bind (wpAny_updateSeq hS rfl ?_)
  have I2 := I1.lset (f := fun _ => #[]) (its := []) (its' := []) (ys := []) (t' := s.toks) upd_same hS rfl .nil (Nat.zero_le _)
  rw [upd_upd] at I2
  refine wpAny_bind (wpAny_letGo ?_)
  have hne : s.heap.objs.size ≠ a := by
    obtain ⟨dx, fs, e⟩ := ha
    intro z
    rw [z, e] at fr; cases fr
  have ha2 : Ins (upd H s.heap.objs.size (.lst [])) a C := by
    obtain ⟨dx, fs, e⟩ := ha
    exact ⟨dx, fs, by rw [upd_ne (Ne.symm hne)]; exact e⟩
  refine ext_own (A1 := X.A.in1) hs F hl FL hr.in1.in1 rfl I2 upd_same ha2 hA hzl hsp
end
/-- the names' tuple of a column set -/
abbrev ItCols (C : Addr) : Addr → Hp → Addr → Prop := fun a H t => ∃ dx zs, H a = some (.ins C dx (colsF t)) ∧ H t = some (.tup zs)
theorem ins_of {H : Hp} {a C dx : Addr} {fs : List (Str × V)} (h : H a = some (.ins C dx fs)) : Ins H a C := ⟨dx, fs, h⟩
/-- list(a column set) -/
theorem list_cols {K : PySem.W.Frag} {C a : Addr} {ns : List Str} {G0 H0 G H : Hp} {Q : VK} (N : Nx G0 H0 G H) (h : ColsAt C G a ns) (k : ∀ p G' H', Nx G0 H0 G' H' → Nx G H G' H' → G' p = some (.lst (ns.map V.str)) → Q (.ref p) H') :
    rListO C (ItCols C) K (spColsLen C) [.ref a] H Q := by
  obtain ⟨dx, t, h1, h2⟩ := h.at_
  refine ⟨a, rfl, ins_of (N.h _ _ h1), fun q hq => ?_⟩
  obtain ⟨H1, e, N1, n1, hq1, gq, h0⟩ := nobjm N hq (.lst [])
  rw [e]; clear e
  refine ⟨t, ns.map V.str, ⟨dx, _, N1.h _ _ h1, N1.h _ _ h2⟩, by rw [List.length_map]; have := h.n; omega, ?_⟩
  refine cl0 N1 (a, ns) ⟨rfl, h⟩ fun v G2 H2 N2 n2 r => ?_
  obtain rfl : v = .int ns.length := r
  have hn := h.n
  refine ⟨ns.length, rfl, by omega, ns.length, rfl, by omega, n2.e _ _ hq1, sqT (N2.h _ _ (n2.g _ _ h2)), ?_⟩
  have gq2 := n2.hid hq1 gq
  have N3 := (N2.mut h0 gq2 (o := .lst (ns.map V.str))).fz upd_same h0 gq2
  have n3 := ((n1.trans n2).mut (o := .lst (ns.map V.str)) hq gq2).fz upd_same hq gq2
  exact k q _ _ N3 n3 upd_same
end Ax

/-! Typed readings: what a value stands for, what a def computes (Mir), what its names hold (Env). -/
namespace Ax
open PySem PySem.Spec PyProof.Rows L2
structure Tbl where
  name : Str
  names : List Str
  cols : List Str
  keys : List (List Str)
structure Sch where
  tables : List Tbl
  names : List Str
  cols : List Str
structure Part where
  schema : Sch
  start : Str
  broken : Str
  key : List Str
  column : Str
  used : List Str
/-- an error, told by its class and its data -/
inductive Err where
  | iName (n : Str)
  | iTable (n : Str)
  | iSchema (k : Int)
  | uTable (n : Str)
  | uColumn (n : Str)
  | iRow (n : Str)
  | taken (n : Str) (r : List Int)
  | noRow (n : Str)
  | misfit (t : List (Int × Int × Str × Int × Str))
  | notInd (p : Part)
  | refused (k : Int)
/-- what a def computes: with every drawing, every error -/
structure Mir (α : Type) where
  run : (α → Prop) → (Err → Prop) → Prop
  mono : ∀ {Q Q' : α → Prop} {E E' : Err → Prop}, (∀ a, Q a → Q' a) → (∀ e, E e → E' e) → run Q E → run Q' E'
namespace Mir
variable {α β γ : Type}
def ret (a : α) : Mir α := ⟨fun Q _ => Q a, fun h _ q => h a q⟩
def bind (m : Mir α) (f : α → Mir β) : Mir β := ⟨fun Q E => m.run (fun a => (f a).run Q E) E, fun h h' q => m.mono (fun a => (f a).mono h h') h' q⟩
def lt (a : α) (f : α → Mir β) : Mir β := f a
def raise (e : Err) : Mir α := ⟨fun _ E => E e, fun _ h q => h e q⟩
def chk (p : Prop) (m : Mir α) : Mir α := ⟨fun Q E => p ∧ m.run Q E, fun h h' q => ⟨q.1, m.mono h h' q.2⟩⟩
def get (xs : List α) (i : Int) : Mir α := ⟨fun Q _ => ∃ x, atI xs i = some x ∧ Q x, fun h _ ⟨x, e, q⟩ => ⟨x, e, h x q⟩⟩
def draw (k : Int) : Mir Int := ⟨fun Q _ => 0 < k ∧ ∀ r, 0 ≤ r → r < k → Q r, fun h _ q => ⟨q.1, fun r a b => h r (q.2 r a b)⟩⟩
def nox (m : Mir α) : Mir α := ⟨fun Q _ => m.run Q fun _ => False, fun h _ q => m.mono h (fun _ z => z) q⟩
/-- any one of the values with p -/
def any (p : α → Prop) : Mir α := ⟨fun Q _ => ∀ a, p a → Q a, fun h _ q a pa => h a (q a pa)⟩
theorem ext {m n : Mir α} (h : ∀ Q E, m.run Q E = n.run Q E) : m = n := by
  cases m; cases n
  congr 1
  funext Q E; exact h Q E
@[simp] theorem ret_bind (a : α) (f : α → Mir β) : (ret a).bind f = f a := rfl
@[simp] theorem bind_bind (m : Mir α) (f : α → Mir β) (g : β → Mir γ) : (m.bind f).bind g = m.bind fun a => (f a).bind g := rfl
@[simp] theorem bind_ret (m : Mir α) : m.bind ret = m := rfl
@[simp] theorem raise_bind (e : Err) (f : α → Mir β) : (raise e).bind f = raise e := rfl
@[simp] theorem chk_bind (p : Prop) (m : Mir α) (f : α → Mir β) : (chk p m).bind f = chk p (m.bind f) := rfl
@[simp] theorem lt_eq (a : α) (f : α → Mir β) : lt a f = f a := rfl
@[simp] theorem run_ret (a : α) (Q : α → Prop) (E : Err → Prop) : (ret a).run Q E = Q a := rfl
@[simp] theorem run_bind (m : Mir α) (f : α → Mir β) (Q : β → Prop) (E : Err → Prop) : (m.bind f).run Q E = m.run (fun a => (f a).run Q E) E := rfl
@[simp] theorem run_chk (p : Prop) (m : Mir α) (Q : α → Prop) (E : Err → Prop) : (chk p m).run Q E = (p ∧ m.run Q E) := rfl
@[simp] theorem run_raise (e : Err) (Q : α → Prop) (E : Err → Prop) : (raise e).run Q E = E e := rfl
@[simp] theorem run_draw (k : Int) (Q : Int → Prop) (E : Err → Prop) : (draw k).run Q E = (0 < k ∧ ∀ r, 0 ≤ r → r < k → Q r) := rfl
@[simp] theorem run_get (xs : List α) (i : Int) (Q : α → Prop) (E : Err → Prop) : (get xs i).run Q E = ∃ x, atI xs i = some x ∧ Q x := rfl
@[simp] theorem run_nox (m : Mir α) (Q : α → Prop) (E : Err → Prop) : (nox m).run Q E = m.run Q fun _ => False := rfl
@[simp] theorem run_any (p : α → Prop) (Q : α → Prop) (E : Err → Prop) : (any p).run Q E = ∀ a, p a → Q a := rfl
@[simp] theorem nox_ret (a : α) : nox (ret a) = ret a := rfl
theorem chk_t {p : Prop} (h : p) (m : Mir α) : chk p m = m := ext fun Q E => by
  show (p ∧ m.run Q E) = m.run Q E
  exact propext ⟨fun z => z.2, fun z => ⟨h, z⟩⟩
theorem get_t {xs : List α} {i : Int} {x : α} (h : atI xs i = some x) : get xs i = ret x := ext fun Q E => propext ⟨fun ⟨y, e, q⟩ => by rw [h] at e; cases e; exact q, fun q => ⟨x, h, q⟩⟩
end Mir
/-- how a suite ends: on to what follows, or with a value -/
inductive Out (β ρ : Type) where
  | nx (b : β)
  | rt (r : ρ)
namespace Mir
variable {α β γ ρ : Type}
def bindO (m : Mir (Out β ρ)) (f : β → Mir (Out γ ρ)) : Mir (Out γ ρ) := m.bind fun
  | .nx b => f b
  | .rt r => ret (.rt r)
def ifB (b : Bool) (m n : Mir α) : Mir α := if b = true then m else n
def forL : List α → β → (β → α → Mir (Out β ρ)) → Mir (Out β ρ)
  | [], s, _ => ret (.nx s)
  | x :: xs, s, f => (f s x).bindO fun s' => forL xs s' f
/-- [e for x in xs if t] -/
def comp : List α → (α → Mir Bool) → (α → Mir β) → Mir (List β)
  | [], _, _ => ret []
  | x :: xs, t, e => (t x).bind fun b => ifB b ((e x).bind fun y => (comp xs t e).bind fun ys => ret (y :: ys)) (comp xs t e)
/-- the def's end -/
def exit (m : Mir (Out β ρ)) : Mir ρ := ⟨fun Q E => m.run (fun | .nx _ => False | .rt r => Q r) E, fun h h' q => m.mono (fun o z => match o, z with | .rt r, z => h r z) h' q⟩
/-- .. where it may end without a value -/
def exitN (m : Mir (Out β Unit)) : Mir Unit := m.bind fun _ => ret ()
def whileF (c : β → Mir Bool) (f : β → Mir (Out β ρ)) : Nat → β → Mir (Out β ρ)
  | 0, _ => ⟨fun _ _ => False, fun _ _ q => q⟩
  | n + 1, s => (c s).bind fun b => ifB b ((f s).bindO fun s' => whileF c f n s') (ret (.nx s))
def whileM (c : β → Mir Bool) (f : β → Mir (Out β ρ)) (s : β) : Mir (Out β ρ) := ⟨fun Q E => ∃ n, (whileF c f n s).run Q E, fun h h' ⟨n, q⟩ => ⟨n, (whileF c f n s).mono h h' q⟩⟩
@[simp] theorem ifB_t (m n : Mir α) : ifB true m n = m := rfl
@[simp] theorem ifB_f (m n : Mir α) : ifB false m n = n := rfl
@[simp] theorem exit_ret (r : ρ) : exit (ret (.rt r) : Mir (Out β ρ)) = ret r := rfl
@[simp] theorem run_exit (m : Mir (Out β ρ)) (Q : ρ → Prop) (E : Err → Prop) : (exit m).run Q E = m.run (fun o => match o with | .nx _ => False | .rt r => Q r) E := rfl
@[simp] theorem ret_bindO_nx (b : β) (f : β → Mir (Out γ ρ)) : (ret (.nx b)).bindO f = f b := rfl
@[simp] theorem ret_bindO_rt (r : ρ) (f : β → Mir (Out γ ρ)) : (ret (.rt r)).bindO f = ret (.rt r) := rfl
@[simp] theorem bind_bindO (m : Mir α) (f : α → Mir (Out β ρ)) (g : β → Mir (Out γ ρ)) : (m.bind f).bindO g = m.bind fun a => (f a).bindO g := rfl
@[simp] theorem forL_nil (s : β) (f : β → α → Mir (Out β ρ)) : forL [] s f = ret (.nx s) := rfl
theorem forL_cons (x : α) (xs : List α) (s : β) (f : β → α → Mir (Out β ρ)) : forL (x :: xs) s f = (f s x).bindO fun s' => forL xs s' f := rfl
end Mir

/-! ### types -/
structure Ty (α : Type) where
  rep : α → V → Hp → Prop
  up : ∀ {x v G G'}, Same G G' → rep x v G → rep x v G'
abbrev Reps {α : Type} (t : Ty α) (G : Hp) (xs : List α) (vs : List V) : Prop := Paired (fun x v => t.rep x v G) xs vs
theorem Reps.up {α : Type} {t : Ty α} {G G' : Hp} (s : Same G G') {xs : List α} {vs : List V} (h : Reps t G xs vs) : Reps t G' xs vs := Paired.mapP h fun _ _ r => t.up s r
theorem Reps.len {α : Type} {t : Ty α} {G : Hp} : ∀ {xs : List α} {vs : List V}, Reps t G xs vs → xs.length = vs.length
  | _, _, .nil => rfl
  | _, _, .cons _ h => congrArg (· + 1) (Reps.len h)
theorem Reps.app {α : Type} {t : Ty α} {G : Hp} : ∀ {xs ys : List α} {vs ws : List V}, Reps t G xs vs → Reps t G ys ws → Reps t G (xs ++ ys) (vs ++ ws)
  | _, _, _, _, .nil, h => h
  | _, _, _, _, .cons r t, h => .cons r (Reps.app t h)
theorem Reps.get {α : Type} {t : Ty α} {G : Hp} : ∀ {xs : List α} {vs : List V} {i : Nat} {x : α}, Reps t G xs vs → xs[i]? = some x → ∃ v, vs[i]? = some v ∧ t.rep x v G
  | _, _, _, _, .nil, h => by simp at h
  | _, _, 0, _, .cons r _, h => by simp at h; subst h; exact ⟨_, rfl, r⟩
  | _, _, i + 1, _, .cons _ t, h => by
    obtain ⟨v, h1, h2⟩ := Reps.get (i := i) t (by simpa using h)
    exact ⟨v, by simpa using h1, h2⟩
theorem Reps.get' {α : Type} {t : Ty α} {G : Hp} : ∀ {xs : List α} {vs : List V} {i : Nat} {v : V}, Reps t G xs vs → vs[i]? = some v → ∃ x, xs[i]? = some x ∧ t.rep x v G
  | _, _, _, _, .nil, h => by simp at h
  | _, _, 0, _, .cons r _, h => by simp at h; subst h; exact ⟨_, rfl, r⟩
  | _, _, i + 1, _, .cons _ t, h => by
    obtain ⟨v, h1, h2⟩ := Reps.get' (i := i) t (by simpa using h)
    exact ⟨v, by simpa using h1, h2⟩
theorem Reps.rev {α : Type} {t : Ty α} {G : Hp} : ∀ {xs : List α} {vs : List V}, Reps t G xs vs → Reps t G xs.reverse vs.reverse
  | _, _, .nil => .nil
  | _, _, .cons r t => by rw [List.reverse_cons, List.reverse_cons]; exact Reps.app (Reps.rev t) (.cons r .nil)
theorem Reps.take {α : Type} {t : Ty α} {G : Hp} : ∀ {xs : List α} {vs : List V} (n : Nat), Reps t G xs vs → Reps t G (xs.take n) (vs.take n)
  | _, _, 0, _ => by simp; exact .nil
  | _, _, _ + 1, .nil => by simp; exact .nil
  | _, _, n + 1, .cons r t => by simp; exact .cons r (Reps.take n t)
theorem Reps.drop {α : Type} {t : Ty α} {G : Hp} : ∀ {xs : List α} {vs : List V} (n : Nat), Reps t G xs vs → Reps t G (xs.drop n) (vs.drop n)
  | _, _, 0, h => by simpa using h
  | _, _, _ + 1, .nil => by simp; exact .nil
  | _, _, n + 1, .cons _ t => by simp; exact Reps.drop n t
theorem Reps.set {α : Type} {t : Ty α} {G : Hp} {x : α} {v : V} (hv : t.rep x v G) : ∀ {xs : List α} {vs : List V} (n : Nat), Reps t G xs vs → Reps t G (xs.set n x) (vs.set n v)
  | _, _, _, .nil => by simp; exact .nil
  | _, _, 0, .cons _ t => by simp; exact .cons hv t
  | _, _, n + 1, .cons r t => by simp; exact .cons r (Reps.set hv n t)
theorem Reps.map {α β : Type} {t : Ty α} {u : Ty β} {G : Hp} {f : α → β} (h : ∀ x v, t.rep x v G → u.rep (f x) v G) : ∀ {xs : List α} {vs : List V}, Reps t G xs vs → Reps u G (xs.map f) vs
  | _, _, .nil => .nil
  | _, _, .cons r s => .cons (h _ _ r) (Reps.map h s)
abbrev mxL : Nat := 90000
def tInt : Ty Int := ⟨fun i v _ => v = .int i, fun _ h => h⟩
def tBool : Ty Bool := ⟨fun i v _ => v = .bl i, fun _ h => h⟩
def tStr : Ty Str := ⟨fun i v _ => v = .str i ∧ i.length ≤ mxL, fun _ h => h⟩
def tUnit : Ty Unit := ⟨fun _ v _ => v = .non, fun _ h => h⟩
def tPool : Ty Unit := ⟨fun _ v G => ∃ p, v = .ref p ∧ G p = some (Pool p), fun s ⟨p, e, h⟩ => ⟨p, e, s _ _ h⟩⟩
def tOpt {α : Type} (t : Ty α) : Ty (Option α) := ⟨fun x v G => match x with | none => v = .non | some y => t.rep y v G ∧ v ≠ .non, fun {x} {v} {G} {G'} s h => by
  cases x with
  | none => exact h
  | some y => exact ⟨t.up s h.1, h.2⟩⟩
def tList {α : Type} (t : Ty α) : Ty (List α) := ⟨fun xs v G => ∃ a vs, v = .ref a ∧ G a = some (.lst vs) ∧ xs.length ≤ mxL ∧ Reps t G xs vs, fun s ⟨a, vs, e, h, l, r⟩ => ⟨a, vs, e, s _ _ h, l, r.up s⟩⟩
def tTpl {α : Type} (t : Ty α) : Ty (List α) := ⟨fun xs v G => ∃ a vs, v = .ref a ∧ G a = some (.tup vs) ∧ xs.length ≤ mxL ∧ Reps t G xs vs, fun s ⟨a, vs, e, h, l, r⟩ => ⟨a, vs, e, s _ _ h, l, r.up s⟩⟩
/-- some values side by side -/
structure TyL (α : Type) where
  rep : α → List V → Hp → Prop
  up : ∀ {x v G G'}, Same G G' → rep x v G → rep x v G'
def TyL.nil : TyL Unit := ⟨fun _ vs _ => vs = [], fun _ h => h⟩
def TyL.one {α : Type} (t : Ty α) : TyL α := ⟨fun x vs G => ∃ v, vs = [v] ∧ t.rep x v G, fun s ⟨v, e, h⟩ => ⟨v, e, t.up s h⟩⟩
def TyL.cons {α β : Type} (t : Ty α) (u : TyL β) : TyL (α × β) := ⟨fun x vs G => ∃ v r, vs = v :: r ∧ t.rep x.1 v G ∧ u.rep x.2 r G, fun s ⟨v, r, e, h, h'⟩ => ⟨v, r, e, t.up s h, u.up s h'⟩⟩
/-- a list used as a record, a tuple as well -/
def tRecL {α : Type} (l : TyL α) : Ty α := ⟨fun x v G => ∃ a vs, v = .ref a ∧ G a = some (.lst vs) ∧ l.rep x vs G, fun s ⟨a, vs, e, h, r⟩ => ⟨a, vs, e, s _ _ h, l.up s r⟩⟩
def tRecT {α : Type} (l : TyL α) : Ty α := ⟨fun x v G => ∃ a vs, v = .ref a ∧ G a = some (.tup vs) ∧ l.rep x vs G, fun s ⟨a, vs, e, h, r⟩ => ⟨a, vs, e, s _ _ h, l.up s r⟩⟩
def tCols (C : Addr) : Ty (List Str) := ⟨fun ns v G => ∃ a, v = .ref a ∧ ColsAt C G a ns, fun s ⟨a, e, h⟩ => ⟨a, e, h.up s⟩⟩

/-! ### what the names hold -/
/-- what an object of the def's own holds -/
structure OwT (α : Type) where
  rep : α → Addr → HO → Hp → Prop
  up : ∀ {x l o G G'}, Same G G' → rep x l o G → rep x l o G'
def oList {α : Type} (t : Ty α) : OwT (List α) := ⟨fun xs _ o G => ∃ vs, o = .lst vs ∧ xs.length ≤ mxL ∧ Reps t G xs vs, fun s ⟨vs, e, l, r⟩ => ⟨vs, e, l, r.up s⟩⟩
/-- a kind of value, told over what is known and what is tracked -/
structure TyH (α : Type) where
  rep : α → V → Hp → Hp → Prop
  up : ∀ {x v G G' H H'}, Same G G' → Same H H' → rep x v G H → rep x v G' H'
/-- a tree of the def's own: its value, the addresses that it stands at, what is known, what is tracked -/
structure OT (α : Type) where
  rep : α → V → List Addr → Hp → Hp → Prop
  up : ∀ {x v fp G G' H H'}, Same G G' → (∀ a ∈ fp, ∀ c, H a = some c → H' a = some c) → rep x v fp G H → rep x v fp G' H'
inductive Sl where
  | any
  | bot
  | fz {α : Type} (t : Ty α) (x : α)
  | ow {α : Type} (O : OwT α) (x : α)
  | bor {α : Type} (t : Ty α) (xs : List α)
  | brw {α : Type} (T : TyH α) (x : α)
  | tr {α : Type} (T : OT α) (x : α)
  | al (j : Nat) (c : HO → Option V)
abbrev Sl.own {α : Type} (t : Ty α) (xs : List α) : Sl := .ow (oList t) xs
/-- a slot that tells nothing of the def's own objects -/
def Sl.plain : Sl → Bool
  | .ow _ _ => false
  | .tr _ _ => false
  | .al _ _ => false
  | _ => true
/-- which slot an own object belongs to (true: to its tree); where the trees stand -/
structure Own where
  ow : Addr → Option (Nat × Bool)
  rt : Nat → V
def SlOk (W : Own) (H0 G H : Hp) (i : Nat) (o : Option V) : Sl → Prop
  | .any => True
  | .bot => False
  | .fz t x => ∃ v, o = some v ∧ t.rep x v G
  | .ow O x => ∃ l c, o = some (.ref l) ∧ H l = some c ∧ W.ow l = some (i, false) ∧ O.rep x l c G
  | .bor t xs => ∃ l vs, o = some (.ref l) ∧ H0 l = some (.lst vs) ∧ xs.length ≤ mxL ∧ Reps t G xs vs
  | .brw T x => ∃ v, o = some v ∧ T.rep x v G H0
  | .tr T x => ∃ fp, o = some (W.rt i) ∧ T.rep x (W.rt i) fp G H ∧ fp.Nodup ∧ ∀ a ∈ fp, W.ow a = some (i, true)
  | .al j c => ∃ l u v, W.rt j = .ref l ∧ o = some v ∧ H l = some u ∧ W.ow l = some (j, true) ∧ c u = some v
def OwnOk (W : Own) (H0 G H : Hp) : Prop := ∀ a p, W.ow a = some p → G a = none ∧ H0 a = none ∧ ∃ c, H a = some c
structure EnvW (W : Own) (H0 G H : Hp) (Γ : List Sl) (σ : L2.St) : Prop where
  len : σ.length = Γ.length
  ok : OwnOk W H0 G H
  at_ : ∀ i s, Γ[i]? = some s → ∃ o, σ[i]? = some o ∧ SlOk W H0 G H i o s
def Env (H0 G H : Hp) (Γ : List Sl) (σ : L2.St) : Prop := ∃ W, EnvW W H0 G H Γ σ
/-- plain slots alone, one by one -/
def SlP (H0 G : Hp) (o : Option V) : Sl → Prop
  | .any => True
  | .fz t x => ∃ v, o = some v ∧ t.rep x v G
  | .bor t xs => ∃ l vs, o = some (.ref l) ∧ H0 l = some (.lst vs) ∧ xs.length ≤ mxL ∧ Reps t G xs vs
  | .brw T x => ∃ v, o = some v ∧ T.rep x v G H0
  | _ => False
def EnvP (H0 G : Hp) : List Sl → L2.St → Prop
  | [], [] => True
  | s :: Γ, o :: σ => SlP H0 G o s ∧ EnvP H0 G Γ σ
  | _, _ => False
section
variable {H0 G H G' H' : Hp} {W : Own}
theorem EnvP.len : ∀ {Γ : List Sl} {σ : L2.St}, EnvP H0 G Γ σ → σ.length = Γ.length
  | [], [], _ => rfl
  | _ :: _, _ :: _, h => congrArg (· + 1) (EnvP.len h.2)
theorem EnvP.at_ {i0 : Nat} : ∀ {Γ : List Sl} {σ : L2.St}, EnvP H0 G Γ σ → ∀ i s, Γ[i]? = some s → ∃ o, σ[i]? = some o ∧ ∀ W H, SlOk W H0 G H (i0 + i) o s
  | [], [], _, _, _, h => by simp at h
  | s' :: Γ, o :: σ, ⟨a, b⟩, 0, s, h => by
    cases (show some s' = some s from h)
    refine ⟨o, rfl, fun W H => ?_⟩
    cases s' with
    | any => exact a
    | fz t x => exact a
    | bor t x => exact a
    | brw T x => exact a
    | bot => exact a.elim
    | ow O x => exact a.elim
    | tr T x => exact a.elim
    | al j k => exact a.elim
  | _ :: Γ, _ :: σ, ⟨_, b⟩, i + 1, s, h => by
    obtain ⟨o, h1, h2⟩ := EnvP.at_ (i0 := i0 + 1) b i s (by simpa using h)
    exact ⟨o, by simpa using h1, fun W H => by rw [show i0 + (i + 1) = i0 + 1 + i by omega]; exact h2 W H⟩
def Own.nil : Own := ⟨fun _ => none, fun _ => .non⟩
theorem Env.of {Γ : List Sl} {σ : L2.St} (h : EnvP H0 G Γ σ) : Env H0 G H Γ σ := by
  refine ⟨Own.nil, h.len, fun a p e => (by cases e), fun i s hs => ?_⟩
  obtain ⟨o, h1, h2⟩ := h.at_ (i0 := 0) i s hs
  have z := h2 Own.nil H
  rw [Nat.zero_add] at z
  exact ⟨o, h1, z⟩
theorem SlOk.up (ok : OwnOk W H0 G H) (n : Nx G H G' H') {i : Nat} {o : Option V} : ∀ {s : Sl}, SlOk W H0 G H i o s → SlOk W H0 G' H' i o s
  | .any, h => h
  | .bot, h => h
  | .fz t x, ⟨v, e, h⟩ => ⟨v, e, t.up n.g h⟩
  | .ow O x, ⟨l, c, e, h1, h2, h3⟩ => ⟨l, c, e, n.e _ _ h1, h2, O.up n.g h3⟩
  | .bor t xs, ⟨l, vs, e, h1, h2, h3⟩ => ⟨l, vs, e, h1, h2, h3.up n.g⟩
  | .brw T x, ⟨v, e, h⟩ => ⟨v, e, T.up n.g (Same.refl _) h⟩
  | .tr T x, ⟨fp, e, h, h2, h3⟩ => ⟨fp, e, T.up n.g (fun a _ c => n.e a c) h, h2, h3⟩
  | .al j k, ⟨l, u, v, r, e, h1, h2, h3⟩ => ⟨l, u, v, r, e, n.e _ _ h1, h2, h3⟩
theorem EnvW.up (n : Nx G H G' H') {Γ : List Sl} {σ : L2.St} (e : EnvW W H0 G H Γ σ) : EnvW W H0 G' H' Γ σ :=
  ⟨e.len, fun a p h => let ⟨h1, h2, c, h3⟩ := e.ok a p h; ⟨n.hid h3 h1, h2, c, n.e _ _ h3⟩, fun i s hs => let ⟨o, h1, h2⟩ := e.at_ i s hs; ⟨o, h1, h2.up e.ok n⟩⟩
theorem Env.up (n : Nx G H G' H') {Γ : List Sl} {σ : L2.St} (e : Env H0 G H Γ σ) : Env H0 G' H' Γ σ := let ⟨W, e⟩ := e; ⟨W, e.up n⟩
theorem Env.len {Γ : List Sl} {σ : L2.St} (e : Env H0 G H Γ σ) : σ.length = Γ.length := let ⟨_, e⟩ := e; e.len
theorem Env.fz {α : Type} {t : Ty α} {x : α} {Γ : List Sl} {σ : L2.St} {i : Nat} (e : Env H0 G H Γ σ) (h : Γ[i]? = some (.fz t x)) : ∃ v, σ[i]? = some (some v) ∧ t.rep x v G := by
  obtain ⟨W, e⟩ := e
  obtain ⟨o, h1, v, h2, h3⟩ := e.at_ i _ h
  exact ⟨v, by rw [h1, h2], h3⟩
theorem Env.brw {α : Type} {T : TyH α} {x : α} {Γ : List Sl} {σ : L2.St} {i : Nat} (e : Env H0 G H Γ σ) (h : Γ[i]? = some (.brw T x)) : ∃ v, σ[i]? = some (some v) ∧ T.rep x v G H0 := by
  obtain ⟨W, e⟩ := e
  obtain ⟨o, h1, v, h2, h3⟩ := e.at_ i _ h
  exact ⟨v, by rw [h1, h2], h3⟩
/-- a slot is stored: what it owned stays as it is -/
theorem EnvW.set {W' : Own} {s : Sl} {o : Option V} {Γ : List Sl} {σ : L2.St} (i : Nat) (e : EnvW W H0 G H Γ σ) (ok : OwnOk W' H0 G' H') (hs : SlOk W' H0 G' H' i o s)
    (ho : ∀ j s' o', j ≠ i → Γ[j]? = some s' → SlOk W H0 G H j o' s' → SlOk W' H0 G' H' j o' s') : EnvW W' H0 G' H' (Γ.set i s) (σ.set i o) :=
  ⟨by rw [List.length_set, List.length_set]; exact e.len, ok, fun j s' hj => by
    by_cases hij : i = j
    · subst hij
      rw [List.getElem?_set] at hj
      rw [if_pos rfl] at hj
      split at hj
      · rename_i hl
        cases hj
        exact ⟨o, by rw [List.getElem?_set, if_pos rfl, if_pos (by rw [e.len]; exact hl)], hs⟩
      · cases hj
    · rw [List.getElem?_set_ne hij] at hj
      obtain ⟨o', h1, h2⟩ := e.at_ j s' hj
      exact ⟨o', by rw [List.getElem?_set_ne hij]; exact h1, ho j s' o' (Ne.symm hij) hj h2⟩⟩
theorem Env.setP {s : Sl} {o : Option V} (_ : s.plain = true) (ho : ∀ W i, SlOk W H0 G H i o s) {Γ : List Sl} {σ : L2.St} (i : Nat) (e : Env H0 G H Γ σ) : Env H0 G H (Γ.set i s) (σ.set i o) :=
  let ⟨W, e⟩ := e
  ⟨W, e.set i e.ok (ho W i) fun _ _ _ _ _ h => h⟩
theorem Env.setFz {α : Type} {t : Ty α} {x : α} {v : V} (r : t.rep x v G) {Γ : List Sl} {σ : L2.St} (i : Nat) (h : Env H0 G H Γ σ) : Env H0 G H (Γ.set i (.fz t x)) (σ.set i (some v)) :=
  Env.setP (s := .fz t x) (o := some v) rfl (fun _ _ => (⟨v, rfl, r⟩ : ∃ v', some v = some v' ∧ t.rep x v' G)) i h
/-- a new object of the def's own -/
def Own.new (W : Own) (l : Addr) (p : Nat × Bool) : Own := ⟨fun a => if a = l then some p else W.ow a, W.rt⟩
theorem Own.new_ok {l : Addr} {c : HO} {p : Nat × Bool} (n : Nx G H G' H') (ok : OwnOk W H0 G H) (h1 : H' l = some c) (h2 : G' l = none) (h3 : H0 l = none) : OwnOk (W.new l p) H0 G' H' := fun a q e => by
  unfold Own.new at e
  dsimp only at e
  split at e
  · rename_i z; subst z; exact ⟨h2, h3, c, h1⟩
  · obtain ⟨g1, g2, c', g3⟩ := ok a q e
    exact ⟨n.hid g3 g1, g2, c', n.e _ _ g3⟩
theorem Own.new_sl {l : Addr} {p : Nat × Bool} (ok : OwnOk W H0 G H) (n : Nx G H G' H') (hl : H l = none) {j : Nat} {o : Option V} : ∀ {s : Sl}, SlOk W H0 G H j o s → SlOk (W.new l p) H0 G' H' j o s
  | .any, h => h
  | .bot, h => h
  | .fz t x, ⟨v, e, h⟩ => ⟨v, e, t.up n.g h⟩
  | .ow O x, ⟨l2, c, e, h1, h2, h3⟩ => ⟨l2, c, e, n.e _ _ h1, (if_neg (fun z => by rw [z, hl] at h1; cases h1)).trans h2, O.up n.g h3⟩
  | .bor t xs, ⟨l, vs, e, h1, h2, h3⟩ => ⟨l, vs, e, h1, h2, h3.up n.g⟩
  | .brw T x, ⟨v, e, h⟩ => ⟨v, e, T.up n.g (Same.refl _) h⟩
  | .tr T x, ⟨fp, e, h, h2, h3⟩ => ⟨fp, e, T.up n.g (fun a _ c => n.e a c) h, h2, fun a ha => (if_neg (fun z => by
      obtain ⟨_, _, c, hc⟩ := ok a _ (h3 a ha)
      rw [z, hl] at hc; cases hc)).trans (h3 a ha)⟩
  | .al i k, ⟨l2, u, v, r, e, h1, h2, h3⟩ => ⟨l2, u, v, r, e, n.e _ _ h1, (if_neg (fun z => by rw [z, hl] at h1; cases h1)).trans h2, h3⟩
theorem Env.newOw {α : Type} {O : OwT α} {x : α} {l : Addr} {c : HO} (n : Nx G H G' H') (hl : H l = none) (h1 : H' l = some c) (h2 : G' l = none) (h3 : H0 l = none) (h5 : O.rep x l c G') {Γ : List Sl} {σ : L2.St} (i : Nat) (e : Env H0 G H Γ σ) :
    Env H0 G' H' (Γ.set i (.ow O x)) (σ.set i (some (.ref l))) :=
  let ⟨W, e⟩ := e
  ⟨W.new l (i, false), e.set i (Own.new_ok n e.ok h1 h2 h3) ⟨l, c, rfl, h1, if_pos rfl, h5⟩ fun _ _ _ _ _ h => Own.new_sl e.ok n hl h⟩
theorem Env.newOwn {α : Type} {t : Ty α} {xs : List α} {l : Addr} {vs : List V} (n : Nx G H G' H') (hl : H l = none) (h1 : H' l = some (.lst vs)) (h2 : G' l = none) (h3 : H0 l = none) (h4 : xs.length ≤ mxL) (h5 : Reps t G' xs vs) {Γ : List Sl} {σ : L2.St} (i : Nat) (e : Env H0 G H Γ σ) :
    Env H0 G' H' (Γ.set i (.own t xs)) (σ.set i (some (.ref l))) := Env.newOw (O := oList t) n hl h1 h2 h3 ⟨vs, rfl, h4, h5⟩ i e
/-- an own object, to be changed -/
theorem Env.ow {α : Type} {O : OwT α} {x : α} {Γ : List Sl} {σ : L2.St} {i : Nat} (e : Env H0 G H Γ σ) (h : Γ[i]? = some (.ow O x)) :
    ∃ l c, σ[i]? = some (some (.ref l)) ∧ H l = some c ∧ G l = none ∧ H0 l = none ∧ O.rep x l c G := by
  obtain ⟨W, e⟩ := e
  obtain ⟨o, h1, l, c, h2, h3, h4, h5⟩ := e.at_ i _ h
  obtain ⟨g1, g2, _⟩ := e.ok l _ h4
  exact ⟨l, c, by rw [h1, h2], h3, g1, g2, h5⟩
theorem Env.own {α : Type} {t : Ty α} {xs : List α} {Γ : List Sl} {σ : L2.St} {i : Nat} (e : Env H0 G H Γ σ) (h : Γ[i]? = some (.own t xs)) :
    ∃ l vs, σ[i]? = some (some (.ref l)) ∧ H l = some (.lst vs) ∧ G l = none ∧ H0 l = none ∧ xs.length ≤ mxL ∧ Reps t G xs vs := by
  obtain ⟨l, c, e1, h1, h2, h3, vs, ec, h4, h5⟩ := Env.ow e h
  subst ec
  exact ⟨l, vs, e1, h1, h2, h3, h4, h5⟩
theorem set_self {σ : L2.St} {i : Nat} {o : Option V} (e' : σ[i]? = some o) : σ.set i o = σ := by
  apply List.ext_getElem?
  intro j
  rw [List.getElem?_set]
  by_cases hj : i = j
  · subst hj; rw [if_pos rfl, e']
    have := (List.getElem?_eq_some_iff.mp e').1
    rw [if_pos this]
  · rw [if_neg hj]
/-- the heap changes at an own object that is not j's -/
theorem SlOk.oth {l : Addr} {c : HO} {p : Nat × Bool} (hl : W.ow l = some p) {j : Nat} {o : Option V} : ∀ {s : Sl}, (p ≠ (j, false)) → (p ≠ (j, true)) → (∀ a b, s = .al a b → p ≠ (a, true)) → SlOk W H0 G H j o s → SlOk W H0 G (upd H l c) j o s
  | .any, _, _, _, h => h
  | .bot, _, _, _, h => h
  | .fz t x, _, _, _, h => h
  | .bor t x, _, _, _, h => h
  | .brw t x, _, _, _, h => h
  | .ow O x, n, _, _, ⟨l2, c2, e, h1, h2, h3⟩ => ⟨l2, c2, e, (upd_ne (fun z => n (by rw [z, hl] at h2; exact Option.some.inj h2))).trans h1, h2, h3⟩
  | .tr T x, _, n, _, ⟨fp, e, h, h2, h3⟩ => ⟨fp, e, T.up (Same.refl _) (fun a ha c' hc => (upd_ne (fun z => n (by
      have := h3 a ha
      rw [z, hl] at this
      exact Option.some.inj this))).trans hc) h, h2, h3⟩
  | .al a k, _, _, n, ⟨l2, u, v, r, e, h1, h2, h3⟩ => ⟨l2, u, v, r, e, (upd_ne (fun z => n a k rfl (by rw [z, hl] at h2; exact Option.some.inj h2))).trans h1, h2, h3⟩
theorem OwnOk.upd {l : Addr} {c : HO} (ok : OwnOk W H0 G H) : OwnOk W H0 G (upd H l c) := fun a p e => by
  obtain ⟨h1, h2, c', h3⟩ := ok a p e
  refine ⟨h1, h2, ?_⟩
  by_cases h : a = l
  · subst h; exact ⟨c, upd_same⟩
  · exact ⟨c', (upd_ne h).trans h3⟩
theorem Env.mutO {α β : Type} {O : OwT α} {x : α} {O' : OwT β} {y : β} {l : Addr} {c : HO} (_ : H0 l = none) (h5 : O'.rep y l c G) {Γ : List Sl} {σ : L2.St} {i : Nat} (e : Env H0 G H Γ σ) (h : Γ[i]? = some (.ow O x))
    (hi : σ[i]? = some (some (.ref l))) : Env H0 G (upd H l c) (Γ.set i (.ow O' y)) σ := by
  obtain ⟨W, e⟩ := e
  obtain ⟨o, h1, l', c', h2, h3, h4, _⟩ := e.at_ i _ h
  rw [hi] at h1
  cases h1
  cases h2
  have z := e.set (W' := W) (s := .ow O' y) (o := some (.ref l)) (G' := G) (H' := upd H l c) i e.ok.upd ⟨l, c, rfl, upd_same, h4, h5⟩ fun j s' o' hj _ hs =>
    hs.oth h4 (fun z => hj (by cases z; rfl)) (fun z => by cases z) fun a b _ z => by cases z
  rw [set_self hi] at z
  exact ⟨W, z⟩
theorem Env.mut {α : Type} {t : Ty α} {xs ys : List α} {l : Addr} {ws : List V} (h3 : H0 l = none) (h4 : ys.length ≤ mxL) (h5 : Reps t G ys ws) {Γ : List Sl} {σ : L2.St} {i : Nat} (e : Env H0 G H Γ σ) (h : Γ[i]? = some (.own t xs))
    (e1 : σ[i]? = some (some (.ref l))) : Env H0 G (upd H l (.lst ws)) (Γ.set i (.own t ys)) σ := Env.mutO (O := oList t) (O' := oList t) h3 ⟨ws, rfl, h4, h5⟩ e h e1
/-- an own object is not changed any more -/
def Own.drop (W : Own) (l : Addr) : Own := ⟨fun a => if a = l then none else W.ow a, W.rt⟩
theorem SlOk.drop {l : Addr} {c : HO} {i : Nat} (ok : OwnOk W H0 G H) (hl : W.ow l = some (i, false)) {j : Nat} (hj : j ≠ i) {o : Option V} : ∀ {s : Sl}, SlOk W H0 G H j o s → SlOk (W.drop l) H0 (upd G l c) H j o s
  | .any, h => h
  | .bot, h => h
  | .fz t x, ⟨v, e, h⟩ => ⟨v, e, t.up (same_new (ok l _ hl).1) h⟩
  | .bor t x, ⟨a, vs, e, h1, h2, h3⟩ => ⟨a, vs, e, h1, h2, h3.up (same_new (ok l _ hl).1)⟩
  | .brw T x, ⟨v, e, h⟩ => ⟨v, e, T.up (same_new (ok l _ hl).1) (Same.refl _) h⟩
  | .ow O x, ⟨l2, c2, e, h1, h2, h3⟩ => ⟨l2, c2, e, h1, (if_neg (fun z => hj (by rw [z, hl] at h2; cases h2; rfl))).trans h2, O.up (same_new (ok l _ hl).1) h3⟩
  | .tr T x, ⟨fp, e, h, h2, h3⟩ => ⟨fp, e, T.up (same_new (ok l _ hl).1) (fun _ _ _ h => h) h, h2, fun a ha => (if_neg (fun z => by
      have := h3 a ha
      rw [z, hl] at this; cases this)).trans (h3 a ha)⟩
  | .al a k, ⟨l2, u, v, r, e, h1, h2, h3⟩ => ⟨l2, u, v, r, e, h1, (if_neg (fun z => by rw [z, hl] at h2; cases h2)).trans h2, h3⟩
theorem Env.freezeO {α β : Type} {O : OwT α} {x : α} {t : Ty β} {y : β} (hf : ∀ {l c G}, O.rep x l c G → G l = none → t.rep y (.ref l) (upd G l c)) {Γ : List Sl} {σ : L2.St} {i : Nat} (e : Env H0 G H Γ σ) (h : Γ[i]? = some (.ow O x)) :
    ∃ l c, σ[i]? = some (some (.ref l)) ∧ H l = some c ∧ G l = none ∧ H0 l = none ∧ O.rep x l c G ∧ Env H0 (upd G l c) H (Γ.set i (.fz t y)) σ := by
  obtain ⟨W, e⟩ := e
  obtain ⟨o, h1, l, c, h2, h3, h4, h5⟩ := e.at_ i _ h
  subst h2
  obtain ⟨g1, g2, _⟩ := e.ok l _ h4
  have z := e.set (W' := W.drop l) (s := .fz t y) (o := some (.ref l)) (G' := upd G l c) (H' := H) i (fun a p q => by
    have ne : a ≠ l := fun z => by rw [show (W.drop l).ow a = none from if_pos z] at q; cases q
    obtain ⟨k1, k2⟩ := e.ok a p ((if_neg ne).symm.trans q)
    exact ⟨(upd_ne ne).trans k1, k2⟩) ⟨.ref l, rfl, hf h5 g1⟩ fun j s' o' hj _ hs => hs.drop e.ok h4 hj
  rw [set_self h1] at z
  exact ⟨l, c, h1, h3, g1, g2, h5, W.drop l, z⟩
theorem Env.freeze {α : Type} {t : Ty α} {xs : List α} {Γ : List Sl} {σ : L2.St} {i : Nat} (e : Env H0 G H Γ σ) (h : Γ[i]? = some (.own t xs)) :
    ∃ l vs, σ[i]? = some (some (.ref l)) ∧ H l = some (.lst vs) ∧ G l = none ∧ H0 l = none ∧ Reps t G xs vs ∧ xs.length ≤ mxL ∧ Env H0 (upd G l (.lst vs)) H (Γ.set i (.fz (tList t) xs)) σ := by
  obtain ⟨l, c, e1, h1, h2, h3, ⟨vs, ec, h4, h5⟩, h6⟩ := Env.freezeO (O := oList t) (t := tList t) (y := xs) (fun ⟨vs, e, l, r⟩ h2 => by subst e; exact ⟨_, vs, rfl, upd_same, l, r.up (same_new h2)⟩) e h
  subst ec
  exact ⟨l, vs, e1, h1, h2, h3, h5, h4, h6⟩
theorem Env.bor {α : Type} {t : Ty α} {xs : List α} {Γ : List Sl} {σ : L2.St} {i : Nat} (e : Env H0 G H Γ σ) (h : Γ[i]? = some (.bor t xs)) :
    ∃ l vs, σ[i]? = some (some (.ref l)) ∧ H0 l = some (.lst vs) ∧ xs.length ≤ mxL ∧ Reps t G xs vs := by
  obtain ⟨W, e⟩ := e
  obtain ⟨o, h1, l, vs, h2, h3, h4, h5⟩ := e.at_ i _ h
  exact ⟨l, vs, by rw [h1, h2], h3, h4, h5⟩
end
/-- less is said -/
def Weak : List Sl → List Sl → Prop
  | [], [] => True
  | a :: Γ, b :: Γ' => (b = .any ∨ a = b) ∧ Weak Γ Γ'
  | _, _ => False
theorem Weak.rfl' : ∀ {Γ : List Sl}, Weak Γ Γ
  | [] => True.intro
  | _ :: _ => ⟨.inr rfl, Weak.rfl'⟩
theorem Weak.len : ∀ {Γ Γ' : List Sl}, Weak Γ Γ' → Γ.length = Γ'.length
  | [], [], _ => rfl
  | _ :: _, _ :: _, h => congrArg (· + 1) (Weak.len h.2)
theorem Weak.at_ : ∀ {Γ Γ' : List Sl}, Weak Γ Γ' → ∀ (i : Nat) (s : Sl), Γ'[i]? = some s → s = Sl.any ∧ (∃ s', Γ[i]? = some s') ∨ Γ[i]? = some s
  | [], [], _, _, _, h => by simp at h
  | a :: Γ, b :: Γ', ⟨h, _⟩, 0, s, hs => by
    cases (show some b = some s from hs)
    rcases h with h | h
    · exact .inl ⟨h, a, rfl⟩
    · subst h; exact .inr rfl
  | a :: Γ, b :: Γ', ⟨_, w⟩, i + 1, s, hs => by
    have z := Weak.at_ w i s (by simpa using hs)
    simpa using z
theorem Env.weak {H0 G H : Hp} {Γ Γ' : List Sl} {σ : L2.St} (w : Weak Γ Γ') (e : Env H0 G H Γ σ) : Env H0 G H Γ' σ := by
  obtain ⟨W, e⟩ := e
  refine ⟨W, by rw [← w.len]; exact e.len, e.ok, fun i s hs => ?_⟩
  rcases w.at_ i s hs with ⟨h1, s', h2⟩ | h
  · obtain ⟨o, g1, _⟩ := e.at_ i s' h2
    subst h1
    exact ⟨o, g1, True.intro⟩
  · exact e.at_ i s h
end Ax

/-! The judgements: a reading gives what the mirror says. -/
namespace Ax
open PySem PySem.Spec PyProof.Rows L2
def Ty.h {α : Type} (t : Ty α) : TyH α := ⟨fun x v G _ => t.rep x v G, fun s _ h => t.up s h⟩
/-- a list that is not changed for now -/
def tBo {α : Type} (t : Ty α) : TyH (List α) := ⟨fun xs v G H => ∃ l vs, v = .ref l ∧ H l = some (.lst vs) ∧ xs.length ≤ mxL ∧ Reps t G xs vs, fun s s' ⟨l, vs, e, h1, h2, h3⟩ => ⟨l, vs, e, s' _ _ h1, h2, h3.up s⟩⟩
abbrev RXT := Err → Value → Option Addr → Hp → Prop
/-- what is wanted of an error -/
def ErK (RX : RXT) (E : XK) (G H : Hp) : Err → Prop := fun e => ∀ c d G' H', Nx G H G' H' → RX e c d G' → E c d H'
theorem ErK.to {RX : RXT} {E : XK} {G H G' H' : Hp} (n : Nx G H G' H') {e : Err} (h : ErK RX E G H e) : ErK RX E G' H' e := fun c d G2 H2 n2 r => h c d G2 H2 (n.trans n2) r
/-- what is wanted of a value -/
def VlK {α : Type} (t : TyH α) (Q : VK) (G H : Hp) : α → Prop := fun a => ∀ v G' H', Nx G H G' H' → t.rep a v G' H' → Q v H'
theorem VlK.to {α : Type} {t : TyH α} {Q : VK} {G H G' H' : Hp} (n : Nx G H G' H') {a : α} (h : VlK t Q G H a) : VlK t Q G' H' a := fun v G2 H2 n2 r => h v G2 H2 (n.trans n2) r
/-- .. of a new list -/
def LsK {α : Type} (t : Ty α) (Q : VK) (G H : Hp) : List α → Prop := fun xs => ∀ l vs G' H', Nx G H G' H' → H' l = some (.lst vs) → G' l = none → H l = none → xs.length ≤ mxL → Reps t G' xs vs → Q (.ref l) H'
theorem LsK.to {α : Type} {t : Ty α} {Q : VK} {G H G' H' : Hp} (n : Nx G H G' H') {a : List α} (h : LsK t Q G H a) : LsK t Q G' H' a := fun l vs G2 H2 n2 h1 h2 h3 h4 r => h l vs G2 H2 (n.trans n2) h1 h2 (n.e.free h3) h4 r
/-- the arguments of a call -/
structure TyA (α : Type) where
  rep : α → List V → Hp → Hp → Prop
  up : ∀ {x v G G' H H'}, Same G G' → Same H H' → rep x v G H → rep x v G' H'
def TyA.nil : TyA Unit := ⟨fun _ vs _ _ => vs = [], fun _ _ h => h⟩
def TyA.one {α : Type} (t : TyH α) : TyA α := ⟨fun x vs G H => ∃ v, vs = [v] ∧ t.rep x v G H, fun s s' ⟨v, e, h⟩ => ⟨v, e, t.up s s' h⟩⟩
def TyA.cons {α β : Type} (t : TyH α) (u : TyA β) : TyA (α × β) := ⟨fun x vs G H => ∃ v r, vs = v :: r ∧ t.rep x.1 v G H ∧ u.rep x.2 r G H, fun s s' ⟨v, r, e, h, h'⟩ => ⟨v, r, e, t.up s s' h, u.up s s' h'⟩⟩
def TyA.of {α : Type} (l : TyL α) : TyA α := ⟨fun x vs G _ => l.rep x vs G, fun s _ h => l.up s h⟩
def TyA.lst {α : Type} (t : Ty α) : TyA (List α) := ⟨fun x vs G _ => Reps t G x vs, fun s _ h => h.up s⟩
def ArK {α : Type} (A : TyA α) (Q : List V → Hp → Prop) (G H : Hp) : α → Prop := fun a => ∀ vs G' H', Nx G H G' H' → A.rep a vs G' H' → Q vs H'

section
variable (RX : RXT) (E : XK) (Γ : List Sl)
def PJ {α : Type} (te : TE) (t : TyH α) (a : α) : Prop := ∀ ⦃H0 G H : Hp⦄ ⦃σ : L2.St⦄ ⦃Q : VK⦄, Same G H → Same H0 H → Env H0 G H Γ σ → VlK t Q G H a → te σ H Q
def EJ {α : Type} (te : TE) (t : TyH α) (m : Mir α) : Prop := ∀ ⦃H0 G H : Hp⦄ ⦃σ : L2.St⦄ ⦃Q : VK⦄, Same G H → Same H0 H → Env H0 G H Γ σ → m.run (VlK t Q G H) (ErK RX E G H) → te σ H Q
def LP {α : Type} (te : TE) (t : Ty α) (a : List α) : Prop := ∀ ⦃H0 G H : Hp⦄ ⦃σ : L2.St⦄ ⦃Q : VK⦄, Same G H → Same H0 H → Env H0 G H Γ σ → LsK t Q G H a → te σ H Q
def LJ {α : Type} (te : TE) (t : Ty α) (m : Mir (List α)) : Prop := ∀ ⦃H0 G H : Hp⦄ ⦃σ : L2.St⦄ ⦃Q : VK⦄, Same G H → Same H0 H → Env H0 G H Γ σ → m.run (LsK t Q G H) (ErK RX E G H) → te σ H Q
def TP (tt : TT) (b : Bool) : Prop := ∀ ⦃H0 G H : Hp⦄ ⦃σ : L2.St⦄ ⦃Q : Bool → Hp → Prop⦄, Same G H → Same H0 H → Env H0 G H Γ σ → (∀ G' H', Nx G H G' H' → Q b H') → tt σ H Q
def TJ (tt : TT) (m : Mir Bool) : Prop := ∀ ⦃H0 G H : Hp⦄ ⦃σ : L2.St⦄ ⦃Q : Bool → Hp → Prop⦄, Same G H → Same H0 H → Env H0 G H Γ σ → m.run (fun b => ∀ G' H', Nx G H G' H' → Q b H') (ErK RX E G H) → tt σ H Q
def AP {α : Type} (ta : TA) (A : TyA α) (a : α) : Prop := ∀ ⦃H0 G H : Hp⦄ ⦃σ : L2.St⦄ ⦃Q : List V → Hp → Prop⦄, Same G H → Same H0 H → Env H0 G H Γ σ → ArK A Q G H a → ta σ H Q
def AJ {α : Type} (ta : TA) (A : TyA α) (m : Mir α) : Prop := ∀ ⦃H0 G H : Hp⦄ ⦃σ : L2.St⦄ ⦃Q : List V → Hp → Prop⦄, Same G H → Same H0 H → Env H0 G H Γ σ → m.run (ArK A Q G H) (ErK RX E G H) → ta σ H Q
/-- operators -/
def OpM {α β γ : Type} (r : R2) (t1 : TyH α) (t2 : TyH β) (t3 : TyH γ) (f : α → β → Mir γ) : Prop := ∀ ⦃G H : Hp⦄ ⦃x y : V⦄ ⦃a : α⦄ ⦃b : β⦄ ⦃Q : VK⦄, Same G H → t1.rep a x G H → t2.rep b y G H → (f a b).run (VlK t3 Q G H) (ErK RX E G H) → r x y H Q
def OpP {α β γ : Type} (r : R2) (t1 : TyH α) (t2 : TyH β) (t3 : TyH γ) (f : α → β → γ) : Prop := ∀ ⦃G H : Hp⦄ ⦃x y : V⦄ ⦃a : α⦄ ⦃b : β⦄ ⦃Q : VK⦄, Same G H → t1.rep a x G H → t2.rep b y G H → VlK t3 Q G H (f a b) → r x y H Q
def OpL {α β γ : Type} (r : R2) (t1 : TyH α) (t2 : TyH β) (t3 : Ty γ) (f : α → β → Mir (List γ)) : Prop := ∀ ⦃G H : Hp⦄ ⦃x y : V⦄ ⦃a : α⦄ ⦃b : β⦄ ⦃Q : VK⦄, Same G H → t1.rep a x G H → t2.rep b y G H → (f a b).run (LsK t3 Q G H) (ErK RX E G H) → r x y H Q
/-- calls -/
def CM {α β : Type} (r : List V → Hp → VK → Prop) (A : TyA α) (t : TyH β) (f : α → Mir β) : Prop := ∀ ⦃G H : Hp⦄ ⦃vs : List V⦄ ⦃a : α⦄ ⦃Q : VK⦄, Same G H → A.rep a vs G H → (f a).run (VlK t Q G H) (ErK RX E G H) → r vs H Q
def CP {α β : Type} (r : List V → Hp → VK → Prop) (A : TyA α) (t : TyH β) (f : α → β) : Prop := ∀ ⦃G H : Hp⦄ ⦃vs : List V⦄ ⦃a : α⦄ ⦃Q : VK⦄, Same G H → A.rep a vs G H → VlK t Q G H (f a) → r vs H Q
def CL {α β : Type} (r : List V → Hp → VK → Prop) (A : TyA α) (t : Ty β) (f : α → Mir (List β)) : Prop := ∀ ⦃G H : Hp⦄ ⦃vs : List V⦄ ⦃a : α⦄ ⦃Q : VK⦄, Same G H → A.rep a vs G H → (f a).run (LsK t Q G H) (ErK RX E G H) → r vs H Q
end
section
variable {RX : RXT} {E : XK} {Γ : List Sl} {α β γ : Type} {t : TyH α} {u : TyH β} {t3 : TyH γ} {s : Ty α} {s3 : Ty γ} {te ta tb : TE} {r : R2}
theorem PJ.e {a : α} (h : PJ Γ te t a) : EJ RX E Γ te t (.ret a) := fun H0 G H σ Q s s0 e q => h s s0 e q
theorem LP.e {a : List α} (h : LP Γ te s a) : LJ RX E Γ te s (.ret a) := fun H0 G H σ Q s s0 e q => h s s0 e q
theorem TP.e {b : Bool} {tt : TT} (h : TP Γ tt b) : TJ RX E Γ tt (.ret b) := fun H0 G H σ Q s s0 e q => h s s0 e q
theorem AP.e {a : α} {A : TyA α} {ta : TA} (h : AP Γ ta A a) : AJ RX E Γ ta A (.ret a) := fun H0 G H σ Q s s0 e q => h s s0 e q
theorem fzL {G H : Hp} {Q : VK} {xs : List α} (q : VlK (tList s).h Q G H xs) : LsK s Q G H xs := fun l vs G' H' n h1 h2 h3 h4 r =>
  q (.ref l) (upd G' l (.lst vs)) H' (n.fz h1 h3 h2) ⟨l, vs, rfl, upd_same, h4, r.up (same_new h2)⟩
theorem boL {G H : Hp} {Q : VK} {xs : List α} (q : VlK (tBo s) Q G H xs) : LsK s Q G H xs := fun l vs G' H' n h1 h2 h3 h4 r =>
  q (.ref l) G' H' n ⟨l, vs, rfl, h1, h4, r⟩
theorem LP.fz {a : List α} (h : LP Γ te s a) : PJ Γ te (tList s).h a := fun H0 G H σ Q s s0 e q => h s s0 e (fzL q)
theorem LJ.fz {m : Mir (List α)} (h : LJ RX E Γ te s m) : EJ RX E Γ te (tList s).h m := fun H0 G H σ Q s s0 e q => h s s0 e (m.mono (fun _ => fzL) (fun _ z => z) q)
theorem LP.bo {a : List α} (h : LP Γ te s a) : PJ Γ te (tBo s) a := fun H0 G H σ Q s s0 e q => h s s0 e (boL q)
theorem LJ.bo {m : Mir (List α)} (h : LJ RX E Γ te s m) : EJ RX E Γ te (tBo s) m := fun H0 G H σ Q s s0 e q => h s s0 e (m.mono (fun _ => boL) (fun _ z => z) q)
theorem fzB {v : V} {G H : Hp} {xs : List α} (s' : Same G H) (h : (tList s).rep xs v G) : (tBo s).rep xs v G H := let ⟨l, vs, e, h1, h2, h3⟩ := h; ⟨l, vs, e, s' _ _ h1, h2, h3⟩
theorem PJ.bo {a : List α} (h : PJ Γ te (tList s).h a) : PJ Γ te (tBo s) a := fun H0 G H σ Q s s0 e q => h s s0 e fun v G1 H1 n r => q v G1 H1 n (fzB n.h r)
theorem EJ.bo {m : Mir (List α)} (h : EJ RX E Γ te (tList s).h m) : EJ RX E Γ te (tBo s) m := fun H0 G H σ Q s s0 e q => h s s0 e (m.mono (fun _ z v G1 H1 n r => z v G1 H1 n (fzB n.h r)) (fun _ z => z) q)
theorem PJ.var {i : Nat} {a : α} (h : Γ[i]? = some (.fz s a)) : PJ Γ (tVar i) s.h a := fun H0 G H σ Q s s0 e q => by
  obtain ⟨v, hv, r⟩ := e.fz h
  exact ⟨v, hv, q v G H (Nx.refl s) r⟩
theorem PJ.varB {i : Nat} {xs : List α} (h : Γ[i]? = some (.own s xs) ∨ Γ[i]? = some (.bor s xs)) : PJ Γ (tVar i) (tBo s) xs := fun H0 G H σ Q s s0 e q => by
  rcases h with h | h
  · obtain ⟨l, vs, e1, h1, h2, h3, h4, h5⟩ := e.own h
    exact ⟨.ref l, e1, q _ G H (Nx.refl s) ⟨l, vs, rfl, h1, h4, h5⟩⟩
  · obtain ⟨l, vs, e1, h1, h4, h5⟩ := e.bor h
    exact ⟨.ref l, e1, q _ G H (Nx.refl s) ⟨l, vs, rfl, s0 _ _ h1, h4, h5⟩⟩
theorem PJ.c {a : α} {v : V} (h : ∀ G, s.rep a v G) : PJ Γ (tC v) s.h a := fun H0 G H σ Q s s0 e q => q v G H (Nx.refl s) (h G)
theorem PJ.int {i : Int} : PJ Γ (tC (.int i)) tInt.h i := PJ.c fun _ => rfl
theorem PJ.bl {i : Bool} : PJ Γ (tC (.bl i)) tBool.h i := PJ.c fun _ => rfl
theorem PJ.str {i : Str} (h : i.length ≤ mxL := by decide +kernel) : PJ Γ (tC (.str i)) tStr.h i := PJ.c fun _ => ⟨rfl, h⟩
theorem PJ.non : PJ Γ (tC .non) tUnit.h () := PJ.c fun _ => rfl
theorem PJ.nonO : PJ Γ (tC .non) (tOpt s).h none := PJ.c fun _ => rfl
/-- a kind of value that is not None -/
def Ty.nn (s : Ty α) : Prop := ∀ a v G, s.rep a v G → v ≠ .non
theorem PJ.some (nn : s.nn) {a : α} (h : PJ Γ te s.h a) : PJ Γ te (tOpt s).h (some a) := fun H0 G H σ Q s s0 e q => h s s0 e fun v G1 H1 n r => q v G1 H1 n ⟨r, nn _ _ _ r⟩
theorem EJ.some (nn : s.nn) {m : Mir α} (h : EJ RX E Γ te s.h m) : EJ RX E Γ te (tOpt s).h (m.bind fun a => .ret (some a)) := fun H0 G H σ Q s s0 e q => h s s0 e (m.mono (fun a z v G1 H1 n r => z v G1 H1 n ⟨r, nn _ _ _ r⟩) (fun _ z => z) q)
theorem PJ.op {f : α → β → γ} (o : OpP r t u t3 f) {a : α} {b : β} (ha : PJ Γ ta t a) (hb : PJ Γ tb u b) : PJ Γ (tOp r ta tb) t3 (f a b) := fun H0 G H σ Q s s0 e q =>
  ha s s0 e fun x G1 H1 n1 rx => hb n1.h (s0.trans n1.e) (e.up n1) fun y G2 H2 n2 ry => o n2.h (t.up n2.g n2.e rx) ry (q.to (n1.trans n2))
theorem EJ.opP {f : α → β → Mir γ} (o : OpM RX E r t u t3 f) {a : α} {b : β} (ha : PJ Γ ta t a) (hb : PJ Γ tb u b) : EJ RX E Γ (tOp r ta tb) t3 (f a b) := fun H0 G H σ Q s s0 e q =>
  ha s s0 e fun x G1 H1 n1 rx => hb n1.h (s0.trans n1.e) (e.up n1) fun y G2 H2 n2 ry => o n2.h (t.up n2.g n2.e rx) ry ((f a b).mono (fun _ z => z.to (n1.trans n2)) (fun _ z => z.to (n1.trans n2)) q)
theorem EJ.op {f : α → β → Mir γ} (o : OpM RX E r t u t3 f) {ma : Mir α} {mb : Mir β} (ha : EJ RX E Γ ta t ma) (hb : EJ RX E Γ tb u mb) : EJ RX E Γ (tOp r ta tb) t3 (ma.bind fun a => mb.bind fun b => f a b) := fun H0 G H σ Q s s0 e q =>
  ha s s0 e (ma.mono (fun a z x G1 H1 n1 rx => hb n1.h (s0.trans n1.e) (e.up n1) (mb.mono (fun b z y G2 H2 n2 ry => o n2.h (t.up n2.g n2.e rx) ry ((f a b).mono (fun _ z => z.to (n1.trans n2)) (fun _ z => z.to (n1.trans n2)) z)) (fun _ z => z.to n1) z)) (fun _ z => z) q)
theorem LJ.opP {f : α → β → Mir (List γ)} (o : OpL RX E r t u s3 f) {a : α} {b : β} (ha : PJ Γ ta t a) (hb : PJ Γ tb u b) : LJ RX E Γ (tOp r ta tb) s3 (f a b) := fun H0 G H σ Q s s0 e q =>
  ha s s0 e fun x G1 H1 n1 rx => hb n1.h (s0.trans n1.e) (e.up n1) fun y G2 H2 n2 ry => o n2.h (t.up n2.g n2.e rx) ry ((f a b).mono (fun _ z => z.to (n1.trans n2)) (fun _ z => z.to (n1.trans n2)) q)
theorem LJ.op {f : α → β → Mir (List γ)} (o : OpL RX E r t u s3 f) {ma : Mir α} {mb : Mir β} (ha : EJ RX E Γ ta t ma) (hb : EJ RX E Γ tb u mb) : LJ RX E Γ (tOp r ta tb) s3 (ma.bind fun a => mb.bind fun b => f a b) := fun H0 G H σ Q s s0 e q =>
  ha s s0 e (ma.mono (fun a z x G1 H1 n1 rx => hb n1.h (s0.trans n1.e) (e.up n1) (mb.mono (fun b z y G2 H2 n2 ry => o n2.h (t.up n2.g n2.e rx) ry ((f a b).mono (fun _ z => z.to (n1.trans n2)) (fun _ z => z.to (n1.trans n2)) z)) (fun _ z => z.to n1) z)) (fun _ z => z) q)
theorem OpP.m {f : α → β → γ} (o : OpP r t u t3 f) : OpM RX E r t u t3 fun a b => .ret (f a b) := fun G H x y a b Q s h1 h2 q => o s h1 h2 q
/-! arguments -/
variable {A : TyA α} {B : TyA β} {tl : TA} {rc : List V → Hp → VK → Prop}
theorem AP.nil : AP Γ tNil TyA.nil () := fun H0 G H σ Q s s0 e q => q [] G H (Nx.refl s) rfl
theorem AP.one {a : α} (h : PJ Γ te t a) : AP Γ (tCons te tNil) (TyA.one t) a := fun H0 G H σ Q s s0 e q => h s s0 e fun v G1 H1 n1 r => q [v] G1 H1 n1 ⟨v, rfl, r⟩
theorem AP.cons {a : α} {b : β} (h : PJ Γ te t a) (h' : AP Γ tl B b) : AP Γ (tCons te tl) (TyA.cons t B) (a, b) := fun H0 G H σ Q s s0 e q => h s s0 e fun v G1 H1 n1 r =>
  h' n1.h (s0.trans n1.e) (e.up n1) fun vs G2 H2 n2 rs => q (v :: vs) G2 H2 (n1.trans n2) ⟨v, vs, rfl, t.up n2.g n2.e r, rs⟩
theorem AP.rone {a : α} (h : PJ Γ te s.h a) : AP Γ (tCons te tNil) (TyA.of (TyL.one s)) a := fun H0 G H σ Q s1 s0 e q => h s1 s0 e fun v G1 H1 n1 r => q [v] G1 H1 n1 ⟨v, rfl, r⟩
theorem AP.rcons {l : TyL β} {a : α} {b : β} (h : PJ Γ te s.h a) (h' : AP Γ tl (TyA.of l) b) : AP Γ (tCons te tl) (TyA.of (TyL.cons s l)) (a, b) := fun H0 G H σ Q s1 s0 e q => h s1 s0 e fun v G1 H1 n1 r =>
  h' n1.h (s0.trans n1.e) (e.up n1) fun vs G2 H2 n2 rs => q (v :: vs) G2 H2 (n1.trans n2) ⟨v, vs, rfl, s.up n2.g r, rs⟩
theorem AP.lnil : AP Γ tNil (TyA.lst s) [] := fun H0 G H σ Q s1 s0 e q => q [] G H (Nx.refl s1) .nil
theorem AP.lcons {a : α} {b : List α} (h : PJ Γ te s.h a) (h' : AP Γ tl (TyA.lst s) b) : AP Γ (tCons te tl) (TyA.lst s) (a :: b) := fun H0 G H σ Q s1 s0 e q => h s1 s0 e fun v G1 H1 n1 r =>
  h' n1.h (s0.trans n1.e) (e.up n1) fun vs G2 H2 n2 rs => q (v :: vs) G2 H2 (n1.trans n2) (.cons (s.up n2.g r) rs)
theorem AJ.one {m : Mir α} (h : EJ RX E Γ te t m) : AJ RX E Γ (tCons te tNil) (TyA.one t) m := fun H0 G H σ Q s s0 e q => h s s0 e (m.mono (fun a z v G1 H1 n1 r => z [v] G1 H1 n1 ⟨v, rfl, r⟩) (fun _ z => z) q)
theorem AJ.cons {ma : Mir α} {mb : Mir β} (h : EJ RX E Γ te t ma) (h' : AJ RX E Γ tl B mb) : AJ RX E Γ (tCons te tl) (TyA.cons t B) (ma.bind fun a => mb.bind fun b => .ret (a, b)) := fun H0 G H σ Q s s0 e q =>
  h s s0 e (ma.mono (fun a z v G1 H1 n1 r => h' n1.h (s0.trans n1.e) (e.up n1) (mb.mono (fun b z vs G2 H2 n2 rs => z (v :: vs) G2 H2 (n1.trans n2) ⟨v, vs, rfl, t.up n2.g n2.e r, rs⟩) (fun _ z => z.to n1) z)) (fun _ z => z) q)
theorem AJ.rone {m : Mir α} (h : EJ RX E Γ te s.h m) : AJ RX E Γ (tCons te tNil) (TyA.of (TyL.one s)) m := fun H0 G H σ Q s1 s0 e q => h s1 s0 e (m.mono (fun a z v G1 H1 n1 r => z [v] G1 H1 n1 ⟨v, rfl, r⟩) (fun _ z => z) q)
theorem AJ.rcons {l : TyL β} {ma : Mir α} {mb : Mir β} (h : EJ RX E Γ te s.h ma) (h' : AJ RX E Γ tl (TyA.of l) mb) : AJ RX E Γ (tCons te tl) (TyA.of (TyL.cons s l)) (ma.bind fun a => mb.bind fun b => .ret (a, b)) := fun H0 G H σ Q s1 s0 e q =>
  h s1 s0 e (ma.mono (fun a z v G1 H1 n1 r => h' n1.h (s0.trans n1.e) (e.up n1) (mb.mono (fun b z vs G2 H2 n2 rs => z (v :: vs) G2 H2 (n1.trans n2) ⟨v, vs, rfl, s.up n2.g r, rs⟩) (fun _ z => z.to n1) z)) (fun _ z => z) q)
theorem AJ.lcons {ma : Mir α} {mb : Mir (List α)} (h : EJ RX E Γ te s.h ma) (h' : AJ RX E Γ tl (TyA.lst s) mb) : AJ RX E Γ (tCons te tl) (TyA.lst s) (ma.bind fun a => mb.bind fun b => .ret (a :: b)) := fun H0 G H σ Q s1 s0 e q =>
  h s1 s0 e (ma.mono (fun a z v G1 H1 n1 r => h' n1.h (s0.trans n1.e) (e.up n1) (mb.mono (fun b z vs G2 H2 n2 rs => z (v :: vs) G2 H2 (n1.trans n2) (.cons (s.up n2.g r) rs)) (fun _ z => z.to n1) z)) (fun _ z => z) q)
/-! calls -/
theorem PJ.call {f : α → β} (o : CP rc A u f) {a : α} (ha : AP Γ tl A a) : PJ Γ (tCB rc tl) u (f a) := fun H0 G H σ Q s s0 e q => ha s s0 e fun vs G1 H1 n1 rv => o n1.h rv (q.to n1)
theorem EJ.callP {f : α → Mir β} (o : CM RX E rc A u f) {a : α} (ha : AP Γ tl A a) : EJ RX E Γ (tCB rc tl) u (f a) := fun H0 G H σ Q s s0 e q => ha s s0 e fun vs G1 H1 n1 rv => o n1.h rv ((f a).mono (fun _ z => z.to n1) (fun _ z => z.to n1) q)
theorem EJ.call {f : α → Mir β} (o : CM RX E rc A u f) {m : Mir α} (ha : AJ RX E Γ tl A m) : EJ RX E Γ (tCB rc tl) u (m.bind f) := fun H0 G H σ Q s s0 e q =>
  ha s s0 e (m.mono (fun a z vs G1 H1 n1 rv => o n1.h rv ((f a).mono (fun _ z => z.to n1) (fun _ z => z.to n1) z)) (fun _ z => z) q)
theorem LJ.callP {s2 : Ty β} {f : α → Mir (List β)} (o : CL RX E rc A s2 f) {a : α} (ha : AP Γ tl A a) : LJ RX E Γ (tCB rc tl) s2 (f a) := fun H0 G H σ Q s s0 e q => ha s s0 e fun vs G1 H1 n1 rv => o n1.h rv ((f a).mono (fun _ z => z.to n1) (fun _ z => z.to n1) q)
theorem LJ.call {s2 : Ty β} {f : α → Mir (List β)} (o : CL RX E rc A s2 f) {m : Mir α} (ha : AJ RX E Γ tl A m) : LJ RX E Γ (tCB rc tl) s2 (m.bind f) := fun H0 G H σ Q s s0 e q =>
  ha s s0 e (m.mono (fun a z vs G1 H1 n1 rv => o n1.h rv ((f a).mono (fun _ z => z.to n1) (fun _ z => z.to n1) z)) (fun _ z => z) q)
theorem CP.m {f : α → β} (o : CP rc A u f) : CM RX E rc A u fun a => .ret (f a) := fun G H vs a Q s h q => o s h q
/-! tests -/
variable {tt tu : TT} {b c : Bool} {m n : Mir Bool}
theorem TP.test (h : PJ Γ te tBool.h b) : TP Γ (tTest te) b := fun H0 G H σ Q s s0 e q => h s s0 e fun v G1 H1 n1 r => ⟨b, r, q G1 H1 n1⟩
theorem TP.val (h : PJ Γ te tBool.h b) : TP Γ (tB te) b := fun H0 G H σ Q s s0 e q => h s s0 e fun v G1 H1 n1 r => ⟨b, r, q G1 H1 n1⟩
theorem TJ.test (h : EJ RX E Γ te tBool.h m) : TJ RX E Γ (tTest te) m := fun H0 G H σ Q s s0 e q => h s s0 e (m.mono (fun b z v G1 H1 n1 r => ⟨b, r, z G1 H1 n1⟩) (fun _ z => z) q)
theorem TJ.val (h : EJ RX E Γ te tBool.h m) : TJ RX E Γ (tB te) m := fun H0 G H σ Q s s0 e q => h s s0 e (m.mono (fun b z v G1 H1 n1 r => ⟨b, r, z G1 H1 n1⟩) (fun _ z => z) q)
theorem TP.not (h : TP Γ tt b) : TP Γ (tNot tt) (!b) := fun H0 G H σ Q s s0 e q => h s s0 e fun G1 H1 n1 => q G1 H1 n1
theorem TJ.not (h : TJ RX E Γ tt m) : TJ RX E Γ (tNot tt) (m.bind fun b => .ret (!b)) := fun H0 G H σ Q s s0 e q => h s s0 e q
theorem TP.and (h : TP Γ tt b) (h' : TP Γ tu c) : TP Γ (tAnd tt tu) (b && c) := fun H0 G H σ Q s s0 e q => h s s0 e fun G1 H1 n1 => by
  cases b with
  | false => exact iteF (q G1 H1 n1)
  | true => exact iteT (h' n1.h (s0.trans n1.e) (e.up n1) fun G2 H2 n2 => q G2 H2 (n1.trans n2))
theorem TP.or (h : TP Γ tt b) (h' : TP Γ tu c) : TP Γ (tOr tt tu) (b || c) := fun H0 G H σ Q s s0 e q => h s s0 e fun G1 H1 n1 => by
  cases b with
  | true => exact iteT (q G1 H1 n1)
  | false => exact iteF (h' n1.h (s0.trans n1.e) (e.up n1) fun G2 H2 n2 => q G2 H2 (n1.trans n2))
theorem ifB_run {α : Type} {b : Bool} {m n : Mir α} {Q : α → Prop} {E : Err → Prop} (q : (Mir.ifB b m n).run Q E) : if b = true then m.run Q E else n.run Q E := by
  cases b with
  | true => exact iteT q
  | false => exact iteF q
theorem TJ.and (h : TJ RX E Γ tt m) (h' : TJ RX E Γ tu n) : TJ RX E Γ (tAnd tt tu) (m.bind fun b => .ifB b n (.ret false)) := fun H0 G H σ Q s s0 e q => h s s0 e (m.mono (fun b z G1 H1 n1 => by
  cases b with
  | false => exact iteF (z G1 H1 n1)
  | true => exact iteT (h' n1.h (s0.trans n1.e) (e.up n1) (n.mono (fun c z G2 H2 n2 => z G2 H2 (n1.trans n2)) (fun _ z => z.to n1) z))) (fun _ z => z) q)
theorem TJ.or (h : TJ RX E Γ tt m) (h' : TJ RX E Γ tu n) : TJ RX E Γ (tOr tt tu) (m.bind fun b => .ifB b (.ret true) n) := fun H0 G H σ Q s s0 e q => h s s0 e (m.mono (fun b z G1 H1 n1 => by
  cases b with
  | true => exact iteT (z G1 H1 n1)
  | false => exact iteF (h' n1.h (s0.trans n1.e) (e.up n1) (n.mono (fun c z G2 H2 n2 => z G2 H2 (n1.trans n2)) (fun _ z => z.to n1) z))) (fun _ z => z) q)
/-! .. as values -/
theorem PJ.not (h : PJ Γ te tBool.h b) : PJ Γ (tNotV te) tBool.h (!b) := fun H0 G H σ Q s s0 e q => h s s0 e fun v G1 H1 n1 r => ⟨b, r, q _ G1 H1 n1 rfl⟩
theorem EJ.not (h : EJ RX E Γ te tBool.h m) : EJ RX E Γ (tNotV te) tBool.h (m.bind fun b => .ret (!b)) := fun H0 G H σ Q s s0 e q => h s s0 e (m.mono (fun b z v G1 H1 n1 r => ⟨b, r, z _ G1 H1 n1 rfl⟩) (fun _ z => z) q)
theorem PJ.and (h : PJ Γ ta tBool.h b) (h' : PJ Γ tb tBool.h c) : PJ Γ (tAndV ta tb) tBool.h (b && c) := fun H0 G H σ Q s s0 e q => h s s0 e fun v G1 H1 n1 r => ⟨b, r, by
  cases b with
  | false => exact iteF (q _ G1 H1 n1 rfl)
  | true => exact iteT (h' n1.h (s0.trans n1.e) (e.up n1) fun v G2 H2 n2 r2 => q _ G2 H2 (n1.trans n2) r2)⟩
theorem PJ.or (h : PJ Γ ta tBool.h b) (h' : PJ Γ tb tBool.h c) : PJ Γ (tOrV ta tb) tBool.h (b || c) := fun H0 G H σ Q s s0 e q => h s s0 e fun v G1 H1 n1 r => ⟨b, r, by
  cases b with
  | true => exact iteT (q _ G1 H1 n1 rfl)
  | false => exact iteF (h' n1.h (s0.trans n1.e) (e.up n1) fun v G2 H2 n2 r2 => q _ G2 H2 (n1.trans n2) r2)⟩
theorem EJ.and (h : EJ RX E Γ ta tBool.h m) (h' : EJ RX E Γ tb tBool.h n) : EJ RX E Γ (tAndV ta tb) tBool.h (m.bind fun b => .ifB b n (.ret false)) := fun H0 G H σ Q s s0 e q => h s s0 e (m.mono (fun b z v G1 H1 n1 r => ⟨b, r, by
  cases b with
  | false => exact iteF (z _ G1 H1 n1 rfl)
  | true => exact iteT (h' n1.h (s0.trans n1.e) (e.up n1) (n.mono (fun c z v G2 H2 n2 r2 => z v G2 H2 (n1.trans n2) r2) (fun _ z => z.to n1) z))⟩) (fun _ z => z) q)
theorem EJ.or (h : EJ RX E Γ ta tBool.h m) (h' : EJ RX E Γ tb tBool.h n) : EJ RX E Γ (tOrV ta tb) tBool.h (m.bind fun b => .ifB b (.ret true) n) := fun H0 G H σ Q s s0 e q => h s s0 e (m.mono (fun b z v G1 H1 n1 r => ⟨b, r, by
  cases b with
  | true => exact iteT (z _ G1 H1 n1 rfl)
  | false => exact iteF (h' n1.h (s0.trans n1.e) (e.up n1) (n.mono (fun c z v G2 H2 n2 r2 => z v G2 H2 (n1.trans n2) r2) (fun _ z => z.to n1) z))⟩) (fun _ z => z) q)
theorem PJ.ifE {x y : α} (h : TP Γ tt b) (h1 : PJ Γ ta t x) (h2 : PJ Γ tb t y) : PJ Γ (tIf tt ta tb) t (if b = true then x else y) := fun H0 G H σ Q s s0 e q => h s s0 e fun G1 H1 n1 => by
  cases b with
  | true => exact iteT (h1 n1.h (s0.trans n1.e) (e.up n1) (q.to n1))
  | false => exact iteF (h2 n1.h (s0.trans n1.e) (e.up n1) (q.to n1))
end
end Ax

/-! The leaves: operators, built-ins, methods of lists and texts, in judgements. -/
namespace Ax
open PySem PySem.Spec PyProof.Rows L2 StX
/-! ### data that == compares -/
structure EqD {α : Type} [DecidableEq α] (K : PySem.W.Frag) (t : Ty α) where
  toD : α → PyData
  plain : ∀ a, (toD a).plain = true
  eqv : ∀ a b, PyData.eqv (toD a) (toD b) = decide (a = b)
  depth : Nat
  depth_le : ∀ a, (toD a).depth ≤ depth
  dp : ∀ {x v G}, t.rep x v G → Dp K G v (toD x)
def EqD.dat {α : Type} [DecidableEq α] {K : PySem.W.Frag} {t : Ty α} (e : EqD K t) : PySem.W.Datum α := ⟨e.toD, e.plain, e.eqv, e.depth, e.depth_le⟩
structure EqL {α : Type} [DecidableEq α] (K : PySem.W.Frag) (t : TyL α) where
  toD : α → List PyData
  plain : ∀ a, PyData.plainAll (toD a) = true
  eqv : ∀ a b, PyData.eqvAll (toD a) (toD b) = decide (a = b)
  depth : Nat
  depth_le : ∀ a, PyData.depthAll (toD a) ≤ depth
  dp : ∀ {x vs G}, t.rep x vs G → DpAll K G vs (toD x)
section
variable {K : PySem.W.Frag} {α β : Type} [DecidableEq α] [DecidableEq β] {t : Ty α} {l : TyL β}
def EqD.int : EqD K tInt := ⟨.int, fun _ => rfl, fun a b => by simp only [PyData.eqv]; exact PySem.W.beq_decide a b, 0, fun _ => Nat.le_refl _, fun h => by cases h; exact .int _⟩
def EqD.bool : EqD K tBool := ⟨.bool, fun _ => rfl, fun a b => by simp only [PyData.eqv]; exact PySem.W.beq_decide a b, 0, fun _ => Nat.le_refl _, fun h => by cases h; exact .bl _⟩
def EqD.str : EqD K tStr := ⟨.str, fun _ => rfl, fun a b => by simp only [PyData.eqv]; exact PySem.W.beq_decide a b, 0, fun _ => Nat.le_refl _, fun h => by obtain ⟨h, _⟩ := h; cases h; exact .str _⟩
theorem EqD.plainAll (e : EqD K t) : ∀ xs : List α, PyData.plainAll (xs.map e.toD) = true
  | [] => rfl
  | x :: xs => by rw [List.map_cons, PyData.plainAll, e.plain x, e.plainAll xs]; rfl
theorem EqD.depthAll (e : EqD K t) : ∀ xs : List α, PyData.depthAll (xs.map e.toD) ≤ e.depth
  | [] => Nat.zero_le _
  | x :: xs => by rw [List.map_cons, PyData.depthAll]; exact Nat.max_le.mpr ⟨e.depth_le x, e.depthAll xs⟩
theorem EqD.eqvAll (e : EqD K t) : ∀ xs ys : List α, PyData.eqvAll (xs.map e.toD) (ys.map e.toD) = decide (xs = ys)
  | [], [] => by simp only [List.map_nil, PyData.eqvAll, decide_true]
  | [], _ :: _ => by simp [PyData.eqvAll]
  | _ :: _, [] => by simp [PyData.eqvAll]
  | x :: xs, y :: ys => by
    rw [List.map_cons, List.map_cons, PyData.eqvAll, e.eqv x y, e.eqvAll xs ys, ← Bool.decide_and]
    exact decide_eq_decide.mpr (by rw [List.cons.injEq])
theorem EqD.dpAll (e : EqD K t) {G : Hp} : ∀ {xs : List α} {vs : List V}, Reps t G xs vs → DpAll K G vs (xs.map e.toD)
  | _, _, .nil => .nil
  | _, _, .cons r h => .cons (e.dp r) (e.dpAll h)
def EqD.list (e : EqD K t) : EqD K (tList t) := ⟨fun xs => .list (xs.map e.toD), fun xs => by simp only [PyData.plain]; exact e.plainAll xs, fun xs ys => by simp only [PyData.eqv]; exact e.eqvAll xs ys, e.depth + 1,
  fun xs => by simp only [PyData.depth]; exact Nat.succ_le_succ (e.depthAll xs), fun {xs v G} h => by
    obtain ⟨a, vs, rfl, h1, _, h2⟩ := h
    exact .lst (sqL h1) (e.dpAll h2)⟩
def EqD.tup (e : EqD K t) : EqD K (tTpl t) := ⟨fun xs => .tuple (xs.map e.toD), fun xs => by simp only [PyData.plain]; exact e.plainAll xs, fun xs ys => by simp only [PyData.eqv]; exact e.eqvAll xs ys, e.depth + 1,
  fun xs => by simp only [PyData.depth]; exact Nat.succ_le_succ (e.depthAll xs), fun {xs v G} h => by
    obtain ⟨a, vs, rfl, h1, _, h2⟩ := h
    exact .tup (sqT h1) (e.dpAll h2)⟩
def EqL.one (e : EqD K t) : EqL K (TyL.one t) := ⟨fun x => [e.toD x], fun a => by simp [PyData.plainAll, e.plain], fun a b => by simp [PyData.eqvAll, e.eqv], e.depth, fun a => by simp only [PyData.depthAll]; exact Nat.max_le.mpr ⟨e.depth_le a, Nat.zero_le _⟩,
  fun {x vs G} h => by obtain ⟨v, rfl, h⟩ := h; exact .cons (e.dp h) .nil⟩
def EqL.cons (e : EqD K t) (f : EqL K l) : EqL K (TyL.cons t l) := ⟨fun x => e.toD x.1 :: f.toD x.2, fun a => by simp [PyData.plainAll, e.plain, f.plain], fun a b => by
    simp only [PyData.eqvAll, e.eqv, f.eqv]
    rw [← Bool.decide_and]
    exact decide_eq_decide.mpr ⟨fun h => Prod.ext h.1 h.2, fun h => by rw [h]; exact ⟨rfl, rfl⟩⟩, max e.depth f.depth, fun a => by
    simp only [PyData.depthAll]; exact Nat.max_le.mpr ⟨Nat.le_trans (e.depth_le _) (Nat.le_max_left _ _), Nat.le_trans (f.depth_le _) (Nat.le_max_right _ _)⟩,
  fun {x vs G} h => by obtain ⟨v, r, rfl, h, h'⟩ := h; exact .cons (e.dp h) (f.dp h')⟩
def EqD.recL (f : EqL K l) : EqD K (tRecL l) := ⟨fun x => .list (f.toD x), fun a => by simp only [PyData.plain]; exact f.plain a, fun a b => by simp only [PyData.eqv]; exact f.eqv a b, f.depth + 1, fun a => by simp only [PyData.depth]; exact Nat.succ_le_succ (f.depth_le a),
  fun {x v G} h => by obtain ⟨a, vs, rfl, h1, h2⟩ := h; exact .lst (sqL h1) (f.dp h2)⟩
def EqD.recT (f : EqL K l) : EqD K (tRecT l) := ⟨fun x => .tuple (f.toD x), fun a => by simp only [PyData.plain]; exact f.plain a, fun a b => by simp only [PyData.eqv]; exact f.eqv a b, f.depth + 1, fun a => by simp only [PyData.depth]; exact Nat.succ_le_succ (f.depth_le a),
  fun {x v G} h => by obtain ⟨a, vs, rfl, h1, h2⟩ := h; exact .tup (sqT h1) (f.dp h2)⟩
/-- an option, whose values are no None -/
def EqD.opt (e : EqD K t) (h : ∀ a, PyData.eqv .none (e.toD a) = false ∧ PyData.eqv (e.toD a) .none = false) : EqD K (tOpt t) := ⟨fun x => match x with | none => .none | some a => e.toD a, fun x => by cases x <;> first | rfl | exact e.plain _, fun x y => by
    cases x <;> cases y
    · simp [PyData.eqv]
    · simp [(h _).1]
    · simp [(h _).2]
    · simp [e.eqv], e.depth, fun x => by cases x; · simp [PyData.depth]
                                         · exact e.depth_le _, fun {x v G} r => by
    cases x with
    | none => cases (show v = .non from r); exact .non
    | some a => exact e.dp r.1⟩
end
mutual
theorem dp_up' {K : PySem.W.Frag} {G G' : Hp} (s : Same G G') {v : V} {d : PyData} (h : Dp K G v d) : Dp K G' v d := dp_up s v d h
end
section
variable {K : PySem.W.Frag} {RX : RXT} {E : XK} {Γ : List Sl} {α β γ : Type} {t : Ty α} {u : Ty β} {te ta tb : TE}
/-! ### == != in -/
section
variable [DecidableEq α]
theorem OpP.eq (e : EqD K t) (hd : e.depth ≤ 60 := by decide) : OpP (EqR K) t.h t.h tBool.h fun a b => decide (a = b) := fun G H x y a b Q s r1 r2 q =>
  .inr ⟨α, _, e.dat, a, b, dp_up' s (e.dp r1), dp_up' s (e.dp r2), hd, q _ G H (Nx.refl s) rfl⟩
theorem OpP.ne (e : EqD K t) (hd : e.depth ≤ 60 := by decide) : OpP (NeR K) t.h t.h tBool.h fun a b => decide (a ≠ b) := fun G H x y a b Q s r1 r2 q =>
  .inr ⟨α, _, e.dat, a, b, dp_up' s (e.dp r1), dp_up' s (e.dp r2), hd, q _ G H (Nx.refl s) rfl⟩
theorem dpB (e : EqD K t) {G H : Hp} {v : V} {xs : List α} (s : Same G H) (r : (tBo t).rep xs v G H) : Dp K H v (e.list.toD xs) := by
  obtain ⟨l, vs, rfl, h1, _, h2⟩ := r
  exact .lst (sqL h1) (dpAll_up s _ _ (e.dpAll h2))
theorem OpP.eqB (e : EqD K t) (hd : e.list.depth ≤ 60 := by decide) : OpP (EqR K) (tBo t) (tBo t) tBool.h fun a b => decide (a = b) := fun G H x y a b Q s r1 r2 q =>
  .inr ⟨List α, _, e.list.dat, a, b, dpB e s r1, dpB e s r2, hd, q _ G H (Nx.refl s) rfl⟩
theorem OpP.neB (e : EqD K t) (hd : e.list.depth ≤ 60 := by decide) : OpP (NeR K) (tBo t) (tBo t) tBool.h fun a b => decide (a ≠ b) := fun G H x y a b Q s r1 r2 q =>
  .inr ⟨List α, _, e.list.dat, a, b, dpB e s r1, dpB e s r2, hd, q _ G H (Nx.refl s) rfl⟩
theorem OpP.inB (e : EqD K t) (hd : e.depth ≤ 60 := by decide) : OpP (InR K) t.h (tBo t) tBool.h fun a xs => decide (a ∈ xs) := fun G H x y a b Q s r1 r2 q => by
  obtain ⟨l, vs, rfl, h1, _, h2⟩ := r2
  exact .inl ⟨α, _, e.dat, a, b, dp_up' s (e.dp r1), ⟨l, vs, rfl, .inl (sqL h1), dpAll_up s _ _ (e.dpAll h2)⟩, hd, q _ G H (Nx.refl s) rfl⟩
theorem OpP.niB (e : EqD K t) (hd : e.depth ≤ 60 := by decide) : OpP (NiR K) t.h (tBo t) tBool.h fun a xs => decide (a ∉ xs) := fun G H x y a b Q s r1 r2 q => by
  obtain ⟨l, vs, rfl, h1, _, h2⟩ := r2
  exact .inl ⟨α, _, e.dat, a, b, dp_up' s (e.dp r1), ⟨l, vs, rfl, .inl (sqL h1), dpAll_up s _ _ (e.dpAll h2)⟩, hd, q _ G H (Nx.refl s) rfl⟩
theorem OpP.inT (e : EqD K t) (hd : e.depth ≤ 60 := by decide) : OpP (InR K) t.h (tTpl t).h tBool.h fun a xs => decide (a ∈ xs) := fun G H x y a b Q s r1 r2 q => by
  obtain ⟨l, vs, rfl, h1, _, h2⟩ := r2
  exact .inl ⟨α, _, e.dat, a, b, dp_up' s (e.dp r1), ⟨l, vs, rfl, .inr (sqT (s _ _ h1)), dpAll_up s _ _ (e.dpAll h2)⟩, hd, q _ G H (Nx.refl s) rfl⟩
theorem OpP.niT (e : EqD K t) (hd : e.depth ≤ 60 := by decide) : OpP (NiR K) t.h (tTpl t).h tBool.h fun a xs => decide (a ∉ xs) := fun G H x y a b Q s r1 r2 q => by
  obtain ⟨l, vs, rfl, h1, _, h2⟩ := r2
  exact .inl ⟨α, _, e.dat, a, b, dp_up' s (e.dp r1), ⟨l, vs, rfl, .inr (sqT (s _ _ h1)), dpAll_up s _ _ (e.dpAll h2)⟩, hd, q _ G H (Nx.refl s) rfl⟩
end
/-! ### ints -/
theorem OpP.lt : OpP (rI0 fun i j => .bl (decide (i < j))) tInt.h tInt.h tBool.h fun a b => decide (a < b) := fun G H x y a b Q s r1 r2 q => ⟨a, b, r1, r2, q _ G H (Nx.refl s) rfl⟩
theorem OpP.le : OpP (rI0 fun i j => .bl (decide (i ≤ j))) tInt.h tInt.h tBool.h fun a b => decide (a ≤ b) := fun G H x y a b Q s r1 r2 q => ⟨a, b, r1, r2, q _ G H (Nx.refl s) rfl⟩
theorem OpP.gt : OpP (rI0 fun i j => .bl (decide (j < i))) tInt.h tInt.h tBool.h fun a b => decide (b < a) := fun G H x y a b Q s r1 r2 q => ⟨a, b, r1, r2, q _ G H (Nx.refl s) rfl⟩
theorem OpP.ge : OpP (rI0 fun i j => .bl (decide (j ≤ i))) tInt.h tInt.h tBool.h fun a b => decide (b ≤ a) := fun G H x y a b Q s r1 r2 q => ⟨a, b, r1, r2, q _ G H (Nx.refl s) rfl⟩
theorem OpP.add : OpP (AddR K) tInt.h tInt.h tInt.h fun a b => a + b := fun G H x y a b Q s r1 r2 q => .inl ⟨a, b, r1, r2, q _ G H (Nx.refl s) rfl⟩
theorem OpP.sub : OpP (rI0 fun i j => .int (i - j)) tInt.h tInt.h tInt.h fun a b => a - b := fun G H x y a b Q s r1 r2 q => ⟨a, b, r1, r2, q _ G H (Nx.refl s) rfl⟩
theorem OpM.mul : OpM RX E MulR tInt.h tInt.h tInt.h fun a b => .chk (CMul a b) (.ret (a * b)) := fun G H x y a b Q s r1 r2 q => .inl ⟨a, b, r1, r2, q.1, q.2 _ G H (Nx.refl s) rfl⟩
theorem OpM.fdiv : OpM RX E (rI CDiv fun i j => .int (i / j)) tInt.h tInt.h tInt.h fun a b => .chk (CDiv a b) (.ret (a / b)) := fun G H x y a b Q s r1 r2 q => ⟨a, b, r1, r2, q.1, q.2 _ G H (Nx.refl s) rfl⟩
theorem OpM.mod : OpM RX E (rI (fun _ j => 0 < j) fun i j => .int (i % j)) tInt.h tInt.h tInt.h fun a b => .chk (0 < b) (.ret (a % b)) := fun G H x y a b Q s r1 r2 q => ⟨a, b, r1, r2, q.1, q.2 _ G H (Nx.refl s) rfl⟩
theorem OpM.pow : OpM RX E (rI CPow fun i j => .int (i ^ j.toNat)) tInt.h tInt.h tInt.h fun a b => .chk (CPow a b) (.ret (a ^ b.toNat)) := fun G H x y a b Q s r1 r2 q => ⟨a, b, r1, r2, q.1, q.2 _ G H (Nx.refl s) rfl⟩
theorem PJ.neg {a : Int} (h : PJ Γ te tInt.h a) : PJ Γ (tUn (rU fun i => .int (-i)) te) tInt.h (-a) := fun H0 G H σ Q s s0 e q => h s s0 e fun v G1 H1 n r => ⟨a, r, q _ G1 H1 n rfl⟩
theorem EJ.neg {m : Mir Int} (h : EJ RX E Γ te tInt.h m) : EJ RX E Γ (tUn (rU fun i => .int (-i)) te) tInt.h (m.bind fun a => .ret (-a)) := fun H0 G H σ Q s s0 e q => h s s0 e (m.mono (fun a z v G1 H1 n r => ⟨a, r, z _ G1 H1 n rfl⟩) (fun _ z => z) q)
/-! ### texts, lists, tuples joined -/
theorem OpM.adds : OpM RX E (AddR K) tStr.h tStr.h tStr.h fun a b => .chk (a.length + b.length ≤ mxL) (.ret (a ++ b)) := fun G H x y a b Q s r1 r2 q =>
  .inr (.inl ⟨a, b, r1.1, r2.1, Nat.le_trans q.1 (by decide), q.2 _ G H (Nx.refl s) ⟨rfl, by rw [Str.length_append]; exact q.1⟩⟩)
theorem OpL.cat : OpL RX E (AddR K) (tBo t) (tBo t) t fun a b => .chk (a.length + b.length ≤ mxL) (.ret (a ++ b)) := fun G H x y a b Q s r1 r2 q => by
  obtain ⟨l1, v1, rfl, h1, _, g1⟩ := r1
  obtain ⟨l2, v2, rfl, h2, _, g2⟩ := r2
  refine .inr (.inr (.inl ⟨l1, l2, v1, v2, rfl, rfl, h1, h2, sz (by rw [← g1.len, ← g2.len]; exact Nat.le_trans q.1 (by decide)), fun p hp => ?_⟩))
  exact q.2 p _ G _ ((Nx.refl s).more (same_new hp)) upd_same (s.free hp) hp (by rw [List.length_append]; exact q.1) (Reps.app g1 g2)
theorem OpM.catT : OpM RX E (AddR K) (tTpl t).h (tTpl t).h (tTpl t).h fun a b => .chk (a.length + b.length ≤ mxL) (.ret (a ++ b)) := fun G H x y a b Q s r1 r2 q => by
  obtain ⟨l1, v1, rfl, h1, z1, g1⟩ := r1
  obtain ⟨l2, v2, rfl, h2, z2, g2⟩ := r2
  have q2 := q.2
  refine .inr (.inr (.inr ⟨l1, l2, v1, v2, rfl, rfl, sqT (s _ _ h1), sqT (s _ _ h2), sz (by rw [← g1.len, ← g2.len]; exact Nat.le_trans q.1 (by decide)), fun e => ?_, fun _ e => ?_, fun _ _ p hp => ?_⟩))
  · subst e
    cases g1
    exact q2 _ G H (Nx.refl s) ⟨l2, v2, rfl, h2, z2, g2⟩
  · subst e
    cases g2
    exact q2 _ G H (Nx.refl s) ⟨l1, v1, rfl, h1, by rw [List.append_nil]; exact z1, by rw [List.append_nil]; exact g1⟩
  · exact q2 _ _ _ ((Nx.refl s).newk hp) ⟨p, _, rfl, upd_same, by rw [List.length_append]; exact q.1, (Reps.app g1 g2).up (same_new (s.free hp))⟩
/-! ### None, True, False -/
theorem OpP.isN : OpP (fun x y H Q => y = .non ∧ Q (.bl (decide (x = .non))) H) (tOpt t).h tUnit.h tBool.h fun a _ => a.isNone := fun G H x y a b Q s r1 r2 q => ⟨r2, by
  refine q _ G H (Nx.refl s) ?_
  cases a with
  | none => cases (show x = .non from r1); rfl
  | some a => show V.bl (decide (x = .non)) = V.bl false; rw [decide_eq_false r1.2]⟩
theorem OpP.notN : OpP (fun x y H Q => y = .non ∧ Q (.bl (!decide (x = .non))) H) (tOpt t).h tUnit.h tBool.h fun a _ => a.isSome := fun G H x y a b Q s r1 r2 q => ⟨r2, by
  refine q _ G H (Nx.refl s) ?_
  cases a with
  | none => cases (show x = .non from r1); rfl
  | some a => show V.bl (!decide (x = .non)) = V.bl true; rw [decide_eq_false r1.2]; rfl⟩
/-! ### an item, a slice -/
theorem ixR {t : Ty α} {G : Hp} {xs : List α} {vs : List V} (g : Reps t G xs vs) {i : Int} {z : α} (e : atI xs i = some z) : ∃ v, atI vs i = some v ∧ t.rep z v G := by
  unfold atI at e ⊢
  rw [← g.len]
  cases q : ixN xs.length i with
  | none => rw [q] at e; cases e
  | some j =>
    rw [q] at e
    exact Reps.get g e
theorem OpM.ixB : OpM RX E (rIx K) (tBo t) tInt.h t.h fun xs i => .get xs i := fun G H x y a b Q s r1 r2 q => by
  obtain ⟨l, vs, rfl, h1, _, g⟩ := r1
  cases (show y = V.int b from r2)
  obtain ⟨z, e, q⟩ := q
  obtain ⟨v, e2, r⟩ := ixR g e
  exact ix_l (sqL h1) e2 (q v G H (Nx.refl s) r)
theorem OpM.ixT : OpM RX E (rIx K) (tTpl t).h tInt.h t.h fun xs i => .get xs i := fun G H x y a b Q s r1 r2 q => by
  obtain ⟨l, vs, rfl, h1, _, g⟩ := r1
  cases (show y = V.int b from r2)
  obtain ⟨z, e, q⟩ := q
  obtain ⟨v, e2, r⟩ := ixR g e
  exact ix_t (sqT (s _ _ h1)) e2 (q v G H (Nx.refl s) r)
/-- a sign of a text -/
def sgn (c : Nat) : Str := ⟨#[c]⟩
theorem OpM.ixS : OpM RX E (rIx K) tStr.h tInt.h tStr.h fun z i => (Mir.get z.cps.toList i).bind fun c => .ret (sgn c) := fun G H x y a b Q s r1 r2 q => by
  obtain ⟨rfl, hl⟩ := r1
  cases (show y = V.int b from r2)
  obtain ⟨c, e, q⟩ := q
  exact ix_s (Nat.le_trans hl (by decide)) e (q _ G H (Nx.refl s) ⟨rfl, by show (1 : Nat) ≤ mxL; decide⟩)
/-- the i-th part of a record -/
def Sel {α β : Type} (l : TyL α) (i : Nat) (t : Ty β) (f : α → β) : Prop := ∀ {a vs G}, l.rep a vs G → ∃ v, vs[i]? = some v ∧ t.rep (f a) v G
theorem Sel.one : Sel (TyL.one t) 0 t id := fun ⟨v, e, r⟩ => ⟨v, by rw [e]; rfl, r⟩
theorem Sel.here {l : TyL β} : Sel (TyL.cons t l) 0 t Prod.fst := fun ⟨v, r, e, h, _⟩ => ⟨v, by rw [e]; rfl, h⟩
theorem Sel.there {l : TyL β} {i : Nat} {t3 : Ty γ} {f : β → γ} (h : Sel l i t3 f) : Sel (TyL.cons t l) (i + 1) t3 (fun x => f x.2) := fun ⟨v, r, e, _, h'⟩ => by
  obtain ⟨w, e2, r2⟩ := h h'
  exact ⟨w, by rw [e]; simpa using e2, r2⟩
theorem OpP.selL {l : TyL α} {i : Nat} {f : α → β} (h : Sel l i u f) {te : TE} {a : α} (hi : PJ Γ te (tRecL l).h a) {n : Int} (hn : n = (i : Nat)) : PJ Γ (tOp (rIx K) te (tC (.int n))) u.h (f a) := fun H0 G H σ Q s s0 e q => hi s s0 e fun v G1 H1 n1 r => by
  obtain ⟨p, vs, rfl, h1, g⟩ := r
  obtain ⟨w, e2, r2⟩ := h g
  rw [hn]
  exact ix_l (sqL (n1.h _ _ h1)) (atI_nat e2) (q w G1 H1 n1 r2)
theorem OpP.selT {l : TyL α} {i : Nat} {f : α → β} (h : Sel l i u f) {te : TE} {a : α} (hi : PJ Γ te (tRecT l).h a) {n : Int} (hn : n = (i : Nat)) : PJ Γ (tOp (rIx K) te (tC (.int n))) u.h (f a) := fun H0 G H σ Q s s0 e q => hi s s0 e fun v G1 H1 n1 r => by
  obtain ⟨p, vs, rfl, h1, g⟩ := r
  obtain ⟨w, e2, r2⟩ := h g
  rw [hn]
  exact ix_t (sqT (n1.h _ _ h1)) (atI_nat e2) (q w G1 H1 n1 r2)
theorem EJ.selL {l : TyL α} {i : Nat} {f : α → β} (h : Sel l i u f) {te : TE} {m : Mir α} (hi : EJ RX E Γ te (tRecL l).h m) {n : Int} (hn : n = (i : Nat)) : EJ RX E Γ (tOp (rIx K) te (tC (.int n))) u.h (m.bind fun a => .ret (f a)) := fun H0 G H σ Q s s0 e q => hi s s0 e (m.mono (fun a z v G1 H1 n1 r => by
  obtain ⟨p, vs, rfl, h1, g⟩ := r
  obtain ⟨w, e2, r2⟩ := h g
  rw [hn]
  exact ix_l (sqL (n1.h _ _ h1)) (atI_nat e2) (z w G1 H1 n1 r2)) (fun _ z => z) q)
theorem EJ.selT {l : TyL α} {i : Nat} {f : α → β} (h : Sel l i u f) {te : TE} {m : Mir α} (hi : EJ RX E Γ te (tRecT l).h m) {n : Int} (hn : n = (i : Nat)) : EJ RX E Γ (tOp (rIx K) te (tC (.int n))) u.h (m.bind fun a => .ret (f a)) := fun H0 G H σ Q s s0 e q => hi s s0 e (m.mono (fun a z v G1 H1 n1 r => by
  obtain ⟨p, vs, rfl, h1, g⟩ := r
  obtain ⟨w, e2, r2⟩ := h g
  rw [hn]
  exact ix_t (sqT (n1.h _ _ h1)) (atI_nat e2) (z w G1 H1 n1 r2)) (fun _ z => z) q)
/-- xs[lo:hi] -/
def cutL {α : Type} (xs : List α) (lo hi : Option Int) : List α := (xs.drop (HT.sIx xs.length 0 lo)).take (HT.sIx xs.length xs.length hi - HT.sIx xs.length 0 lo)
theorem cutR {t : Ty α} {G : Hp} {xs : List α} {vs : List V} (g : Reps t G xs vs) (lo hi : Option Int) : Reps t G (cutL xs lo hi) (cutV vs lo hi) := by
  unfold cutL cutV
  rw [g.len]
  exact (g.drop _).take _
theorem cutL_len (xs : List α) (lo hi : Option Int) : (cutL xs lo hi).length ≤ xs.length := by
  unfold cutL
  rw [List.length_take, List.length_drop]
  omega
/-- a bound of a slice -/
def BP (Γ : List Sl) (to : TO) (a : Option Int) : Prop := ∀ ⦃H0 G H : Hp⦄ ⦃σ : L2.St⦄ ⦃Q : Option Int → Hp → Prop⦄, Same G H → Same H0 H → Env H0 G H Γ σ → (∀ G' H', Nx G H G' H' → Q a H') → to σ H Q
def BE (RX : RXT) (E : XK) (Γ : List Sl) (to : TO) (m : Mir (Option Int)) : Prop := ∀ ⦃H0 G H : Hp⦄ ⦃σ : L2.St⦄ ⦃Q : Option Int → Hp → Prop⦄, Same G H → Same H0 H → Env H0 G H Γ σ → m.run (fun a => ∀ G' H', Nx G H G' H' → Q a H') (ErK RX E G H) → to σ H Q
theorem BP.none : BP Γ tNoPart none := fun H0 G H σ Q s s0 e q => q G H (Nx.refl s)
theorem BP.some {a : Int} (h : PJ Γ te tInt.h a) : BP Γ (tPart te) (some a) := fun H0 G H σ Q s s0 e q => h s s0 e fun v G1 H1 n r => ⟨a, r, q G1 H1 n⟩
theorem BP.e {a : Option Int} {to : TO} (h : BP Γ to a) : BE RX E Γ to (.ret a) := fun H0 G H σ Q s s0 e q => h s s0 e q
theorem BE.some {m : Mir Int} (h : EJ RX E Γ te tInt.h m) : BE RX E Γ (tPart te) (m.bind fun a => .ret (some a)) := fun H0 G H σ Q s s0 e q => h s s0 e (m.mono (fun a z v G1 H1 n r => ⟨a, r, z G1 H1 n⟩) (fun _ z => z) q)
variable {tl th : TO}
theorem LP.sl {xs : List α} {a b : Option Int} (h : PJ Γ te (tBo t) xs) (hl : BP Γ tl a) (hh : BP Γ th b) : LP Γ (tSl (rSlL K) te tl th) t (cutL xs a b) := fun H0 G H σ Q s s0 e q =>
  h s s0 e fun v G1 H1 n1 ⟨l, vs, ev, h1, h2, h3⟩ => hl n1.h (s0.trans n1.e) (e.up n1) fun G2 H2 n2 => hh n2.h ((s0.trans n1.e).trans n2.e) ((e.up n1).up n2) fun G3 H3 n3 =>
    ⟨l, vs, ev, sqL (n3.e _ _ (n2.e _ _ h1)), fun p hp => q p _ G3 _ (((n1.trans n2).trans n3).more (same_new hp)) upd_same (n3.h.free hp) (((n1.trans n2).trans n3).e.free hp) (Nat.le_trans (cutL_len _ _ _) h2) ((cutR h3 a b).up (n2.g.trans n3.g))⟩
theorem PJ.slS {z : Str} {a b : Option Int} (h : PJ Γ te tStr.h z) (hl : BP Γ tl a) (hh : BP Γ th b) : PJ Γ (tSl rSlS te tl th) tStr.h (cutS z a b) := fun H0 G H σ Q s s0 e q =>
  h s s0 e fun v G1 H1 n1 ⟨ev, hz⟩ => hl n1.h (s0.trans n1.e) (e.up n1) fun G2 H2 n2 => hh n2.h ((s0.trans n1.e).trans n2.e) ((e.up n1).up n2) fun G3 H3 n3 =>
    ⟨z, ev, sz (Nat.le_trans hz (by decide)), q _ G3 H3 ((n1.trans n2).trans n3) ⟨rfl, Nat.le_trans (cut_len_le _ _ _) hz⟩⟩
theorem EJ.slS {m : Mir Str} {a b : Mir (Option Int)} (h : EJ RX E Γ te tStr.h m) (hl : BE RX E Γ tl a) (hh : BE RX E Γ th b) : EJ RX E Γ (tSl rSlS te tl th) tStr.h (m.bind fun z => a.bind fun a => b.bind fun b => .ret (cutS z a b)) := fun H0 G H σ Q s s0 e q =>
  h s s0 e (m.mono (fun z q v G1 H1 n1 ⟨ev, hz⟩ => hl n1.h (s0.trans n1.e) (e.up n1) (a.mono (fun a q G2 H2 n2 => hh n2.h ((s0.trans n1.e).trans n2.e) ((e.up n1).up n2) (b.mono (fun b q G3 H3 n3 =>
    ⟨z, ev, sz (Nat.le_trans hz (by decide)), q _ G3 H3 ((n1.trans n2).trans n3) ⟨rfl, Nat.le_trans (cut_len_le _ _ _) hz⟩⟩) (fun _ z => z.to (n1.trans n2)) q)) (fun _ z => z.to n1) q)) (fun _ z => z) q)
theorem LP.rev {xs : List α} (h : PJ Γ te (tBo t) xs) : LP Γ (tRevL K te) t xs.reverse := fun H0 G H σ Q s s0 e q =>
  h s s0 e fun v G1 H1 n1 ⟨l, vs, ev, h1, h2, h3⟩ => ⟨l, vs, ev, sqL h1, fun p hp => q p _ G1 _ (n1.more (same_new hp)) upd_same (n1.h.free hp) (n1.e.free hp) (by rw [List.length_reverse]; exact h2) h3.rev⟩
theorem PJ.slT {xs : List α} {a b : Option Int} (h : PJ Γ te (tTpl t).h xs) (hl : BP Γ tl a) (hh : BP Γ th b) : PJ Γ (tSl (rSlA K) te tl th) (tTpl t).h (cutL xs a b) := fun H0 G H σ Q s s0 e q =>
  h s s0 e fun v G1 H1 n1 ⟨l, vs, ev, h1, h2, h3⟩ => hl n1.h (s0.trans n1.e) (e.up n1) fun G2 H2 n2 => hh n2.h ((s0.trans n1.e).trans n2.e) ((e.up n1).up n2) fun G3 H3 n3 =>
    ⟨l, vs, ev, sqT (n3.h _ _ (n3.g _ _ (n2.g _ _ h1))), fun hw => q _ G3 H3 ((n1.trans n2).trans n3) ⟨l, vs, rfl, n3.g _ _ (n2.g _ _ h1), Nat.le_trans (cutL_len _ _ _) h2, by
      have z := (h3.up (n2.g.trans n3.g))
      rw [← h3.len] at hw
      have e2 : cutL xs a b = xs := by unfold cutL; rw [hw.1, hw.2]; simp
      rw [e2]; exact z⟩, fun hw p hp => q _ _ _ (((n1.trans n2).trans n3).newk hp) ⟨p, _, rfl, upd_same, Nat.le_trans (cutL_len _ _ _) h2, ((cutR h3 a b).up (n2.g.trans n3.g)).up (same_new (n3.h.free hp))⟩⟩
/-! ### displays -/
variable {tg : TA}
theorem PJ.tup {a : List α} (h : AP Γ tg (TyA.lst t) a) (hl : a.length ≤ mxL := by decide) : PJ Γ (tTup tg) (tTpl t).h a := fun H0 G H σ Q s s0 e q => h s s0 e fun vs G1 H1 n1 r =>
  ⟨by rw [← Reps.len r]; exact sz (Nat.le_trans hl (by decide)), fun p hp => q _ _ _ (n1.newk hp) ⟨p, vs, rfl, upd_same, hl, Reps.up (same_new (n1.h.free hp)) r⟩⟩
theorem LP.lst {a : List α} (h : AP Γ tg (TyA.lst t) a) (hl : a.length ≤ mxL) : LP Γ (tLst tg) t a := fun H0 G H σ Q s s0 e q => h s s0 e fun vs G1 H1 n1 r =>
  ⟨by rw [← Reps.len r]; exact sz (Nat.le_trans hl (by decide)), fun p hp => q p vs G1 _ (n1.more (same_new hp)) upd_same (n1.h.free hp) (n1.e.free hp) hl r⟩
theorem LJ.lst {m : Mir (List α)} (h : AJ RX E Γ tg (TyA.lst t) m) : LJ RX E Γ (tLst tg) t (m.bind fun a => .chk (a.length ≤ mxL) (.ret a)) := fun H0 G H σ Q s s0 e q => h s s0 e (m.mono (fun a z vs G1 H1 n1 r =>
  ⟨by rw [← Reps.len r]; exact sz (Nat.le_trans z.1 (by decide)), fun p hp => z.2 p vs G1 _ (n1.more (same_new hp)) upd_same (n1.h.free hp) (n1.e.free hp) z.1 r⟩) (fun _ z => z) q)
/-- how many parts a record has -/
def TyL.len {α : Type} (l : TyL α) (n : Nat) : Prop := ∀ {x vs G}, l.rep x vs G → vs.length = n
theorem TyL.len_one : (TyL.one t).len 1 := fun ⟨v, e, _⟩ => by rw [e]; rfl
theorem TyL.len_cons {l : TyL β} {n : Nat} (h : l.len n) : (TyL.cons t l).len (n + 1) := fun ⟨v, r, e, _, h'⟩ => by rw [e, List.length_cons, h h']
theorem PJ.recT {l : TyL α} {n : Nat} {a : α} (hn : l.len n) (h : AP Γ tg (TyA.of l) a) (hs : n ≤ 100 := by decide) : PJ Γ (tTup tg) (tRecT l).h a := fun H0 G H σ Q s s0 e q => h s s0 e fun vs G1 H1 n1 r =>
  ⟨by rw [hn r]; exact sz (Nat.le_trans hs (by decide)), fun p hp => q _ _ _ (n1.newk hp) ⟨p, vs, rfl, upd_same, l.up (same_new (n1.h.free hp)) r⟩⟩
theorem PJ.recL {l : TyL α} {n : Nat} {a : α} (hn : l.len n) (h : AP Γ tg (TyA.of l) a) (hs : n ≤ 100 := by decide) : PJ Γ (tLst tg) (tRecL l).h a := fun H0 G H σ Q s s0 e q => h s s0 e fun vs G1 H1 n1 r =>
  ⟨by rw [hn r]; exact sz (Nat.le_trans hs (by decide)), fun p hp => q _ _ _ (n1.newk hp) ⟨p, vs, rfl, upd_same, l.up (same_new (n1.h.free hp)) r⟩⟩
theorem EJ.recL {l : TyL α} {n : Nat} {m : Mir α} (hn : l.len n) (h : AJ RX E Γ tg (TyA.of l) m) (hs : n ≤ 100 := by decide) : EJ RX E Γ (tLst tg) (tRecL l).h m := fun H0 G H σ Q s s0 e q => h s s0 e (m.mono (fun a z vs G1 H1 n1 r =>
  ⟨by rw [hn r]; exact sz (Nat.le_trans hs (by decide)), fun p hp => z _ _ _ (n1.newk hp) ⟨p, vs, rfl, upd_same, l.up (same_new (n1.h.free hp)) r⟩⟩) (fun _ z => z) q)
theorem EJ.recT {l : TyL α} {n : Nat} {m : Mir α} (hn : l.len n) (h : AJ RX E Γ tg (TyA.of l) m) (hs : n ≤ 100 := by decide) : EJ RX E Γ (tTup tg) (tRecT l).h m := fun H0 G H σ Q s s0 e q => h s s0 e (m.mono (fun a z vs G1 H1 n1 r =>
  ⟨by rw [hn r]; exact sz (Nat.le_trans hs (by decide)), fun p hp => z _ _ _ (n1.newk hp) ⟨p, vs, rfl, upd_same, l.up (same_new (n1.h.free hp)) r⟩⟩) (fun _ z => z) q)
/-! ### built-ins -/
theorem CP.lenB : CP (LenU K) (TyA.one (tBo t)) tInt.h fun xs => (xs.length : Int) := fun G H vs a Q s ⟨v, e, l, ws, ev, h1, _, g⟩ q => by
  subst e; subst ev
  refine len_l (sqL h1) ?_
  rw [← g.len]
  exact q _ G H (Nx.refl s) rfl
theorem CP.lenT : CP (LenU K) (TyA.one (tTpl t).h) tInt.h fun xs => (xs.length : Int) := fun G H vs a Q s ⟨v, e, l, ws, ev, h1, _, g⟩ q => by
  subst e; subst ev
  refine len_t (sqT (s _ _ h1)) ?_
  rw [← g.len]
  exact q _ G H (Nx.refl s) rfl
theorem CP.lenS : CP (LenU K) (TyA.one tStr.h) tInt.h fun z => (z.length : Int) := fun G H vs a Q s ⟨v, e, ev, hz⟩ q => by
  subst e; subst ev
  exact len_s (Nat.le_trans hz (by decide)) (q _ G H (Nx.refl s) rfl)
theorem CP.all : CP (rAll K) (TyA.one (tBo tBool)) tBool.h fun bs => bs.all id := fun G H vs a Q s ⟨v, e, l, ws, ev, h1, _, g⟩ q => by
  subst e; subst ev
  exact ⟨l, a, rfl, sqL (by rw [← boolsR g]; exact h1), q _ G H (Nx.refl s) rfl⟩
where boolsR {G : Hp} : ∀ {bs : List Bool} {ws : List V}, Reps tBool G bs ws → ws = bs.map V.bl
  | _, _, .nil => rfl
  | _, _, .cons r t => by rw [List.map_cons, boolsR t]; cases r; rfl
theorem CP.any : CP (rAny K) (TyA.one (tBo tBool)) tBool.h fun bs => bs.any id := fun G H vs a Q s ⟨v, e, l, ws, ev, h1, _, g⟩ q => by
  subst e; subst ev
  exact ⟨l, a, rfl, sqL (by rw [← CP.all.boolsR g]; exact h1), q _ G H (Nx.refl s) rfl⟩
theorem intsR {G : Hp} : ∀ {bs : List Int} {ws : List V}, Reps tInt G bs ws → ws = bs.map V.int
  | _, _, .nil => rfl
  | _, _, .cons r t => by rw [List.map_cons, intsR t]; cases r; rfl
theorem strsR {G : Hp} : ∀ {bs : List Str} {ws : List V}, Reps tStr G bs ws → ws = bs.map V.str
  | _, _, .nil => rfl
  | _, _, .cons r t => by rw [List.map_cons, strsR t]; obtain ⟨r, _⟩ := r; cases r; rfl
theorem strsL {G : Hp} : ∀ {bs : List Str} {ws : List V}, Reps tStr G bs ws → ∀ x ∈ bs, x.length ≤ mxL
  | _, _, .nil, _, h => by cases h
  | _, _, .cons r t, x, h => by
    rcases List.mem_cons.mp h with e | e
    · subst e; exact r.2
    · exact strsL t x e
theorem repStrs {G : Hp} : ∀ {bs : List Str}, (∀ x ∈ bs, x.length ≤ mxL) → Reps tStr G bs (bs.map V.str)
  | [], _ => .nil
  | x :: xs, h => .cons ⟨rfl, h x List.mem_cons_self⟩ (repStrs fun y hy => h y (List.mem_cons_of_mem _ hy))
theorem repInts {G : Hp} : ∀ {bs : List Int}, Reps tInt G bs (bs.map V.int)
  | [] => .nil
  | x :: xs => .cons rfl repInts
theorem CP.sum : CP (rSum K) (TyA.one (tBo tInt)) tInt.h fun ns => ns.sum := fun G H vs a Q s ⟨v, e, l, ws, ev, h1, _, g⟩ q => by
  subst e; subst ev
  exact ⟨l, a, rfl, sqL (by rw [← intsR g]; exact h1), q _ G H (Nx.refl s) rfl⟩
abbrev rInt1 : List V → Hp → VK → Prop := fun xs H Q => (∃ i, xs = [V.int i] ∧ Q (.int i) H) ∨ ∃ k, xs = [V.bl k] ∧ Q (.int (if k then 1 else 0)) H
theorem CP.int : CP rInt1 (TyA.one tInt.h) tInt.h fun i => i := fun G H vs a Q s ⟨v, e, ev⟩ q => by
  subst e; subst ev
  exact .inl ⟨a, rfl, q _ G H (Nx.refl s) rfl⟩
theorem CP.intB : CP rInt1 (TyA.one tBool.h) tInt.h fun k => if k = true then 1 else 0 := fun G H vs a Q s ⟨v, e, ev⟩ q => by
  subst e; subst ev
  exact .inr ⟨a, rfl, q _ G H (Nx.refl s) (by cases a <;> rfl)⟩
abbrev rMin2 : List V → Hp → VK → Prop := fun xs H Q => ∃ i j, xs = [.int i, .int j] ∧ Q (.int (if j < i then j else i)) H
theorem CP.min2 : CP rMin2 (TyA.cons tInt.h (TyA.one tInt.h)) tInt.h fun p => if p.2 < p.1 then p.2 else p.1 := fun G H vs a Q s ⟨v, r, e, ev, w, e2, ew⟩ q => by
  subst e2; subst e; cases ev; cases ew
  exact ⟨a.1, a.2, rfl, q _ G H (Nx.refl s) rfl⟩
abbrev rStrI : List V → Hp → VK → Prop := fun xs H Q => ∃ i : Int, xs = [.int i] ∧ i.natAbs.log2 < 1920 ∧ Q (.str (toString i)) H
theorem CM.strI : CM RX E rStrI (TyA.one tInt.h) tStr.h fun i => .chk (i.natAbs.log2 < 1920 ∧ (toString i : Str).length ≤ mxL) (.ret (toString i)) := fun G H vs a Q s ⟨v, e, ev⟩ q => by
  subst e; cases ev
  exact ⟨a, rfl, q.1.1, q.2 _ G H (Nx.refl s) ⟨rfl, q.1.2⟩⟩
abbrev rListK (K : PySem.W.Frag) : List V → Hp → VK → Prop := fun xs H Q => ∃ p ys, xs = [.ref p] ∧ (SqL K H p ys ∨ SqT K H p ys) ∧ ∀ l, H l = none → Q (.ref l) (upd H l (.lst ys))
abbrev rTupK (K : PySem.W.Frag) : List V → Hp → VK → Prop := fun xs H Q => ∃ p ys, xs = [.ref p] ∧ ((SqL K H p ys ∧ ∀ l, H l = none → Q (.ref l) (upd H l (.tup ys))) ∨ (SqT K H p ys ∧ Q (.ref p) H))
theorem CL.list : CL RX E (rListK K) (TyA.one (tBo t)) t fun xs => .ret xs := fun G H vs a Q s ⟨v, e, l, ws, ev, h1, h2, g⟩ q => by
  subst e; subst ev
  exact ⟨l, ws, rfl, .inl (sqL h1), fun p hp => q p ws G _ ((Nx.refl s).more (same_new hp)) upd_same (s.free hp) hp h2 g⟩
theorem CL.listT : CL RX E (rListK K) (TyA.one (tTpl t).h) t fun xs => .ret xs := fun G H vs a Q s ⟨v, e, l, ws, ev, h1, h2, g⟩ q => by
  subst e; subst ev
  exact ⟨l, ws, rfl, .inr (sqT (s _ _ h1)), fun p hp => q p ws G _ ((Nx.refl s).more (same_new hp)) upd_same (s.free hp) hp h2 g⟩
theorem CP.tuple : CP (rTupK K) (TyA.one (tBo t)) (tTpl t).h fun xs => xs := fun G H vs a Q s ⟨v, e, l, ws, ev, h1, h2, g⟩ q => by
  subst e; subst ev
  exact ⟨l, ws, rfl, .inl ⟨sqL h1, fun p hp => q _ _ _ ((Nx.refl s).newk hp) ⟨p, ws, rfl, upd_same, h2, g.up (same_new (s.free hp))⟩⟩⟩
theorem CP.tupleT : CP (rTupK K) (TyA.one (tTpl t).h) (tTpl t).h fun xs => xs := fun G H vs a Q s ⟨v, e, l, ws, ev, h1, h2, g⟩ q => by
  subst e; subst ev
  exact ⟨l, ws, rfl, .inr ⟨sqT (s _ _ h1), q _ G H (Nx.refl s) ⟨l, ws, rfl, h1, h2, g⟩⟩⟩
/-! sorted texts -/
def insT (x : Str) : List Str → List Str
  | [] => [x]
  | y :: l => if sLt y x then y :: insT x l else x :: y :: l
def ssort : List Str → List Str
  | [] => []
  | x :: l => insT x (ssort l)
theorem insT_perm {x : Str} : ∀ {l : List Str}, (insT x l).Perm (x :: l)
  | [] => .refl _
  | y :: l => by
    unfold insT
    split
    · exact ((insT_perm (l := l)).cons y).trans (.swap x y l)
    · exact .refl _
theorem ssort_perm : ∀ {l : List Str}, (ssort l).Perm l
  | [] => .refl _
  | x :: l => insT_perm.trans (ssort_perm.cons x)
abbrev sLe (a b : Str) : Prop := ¬ sLt b a
theorem sLe_tr {a b c : Str} (h : sLe a b) (h' : sLe b c) : sLe a c := fun q => by
  by_cases e : b = c
  · subst e; exact h q
  · have := sLt_tri h' (Ne.symm e)
    exact h (sLt_tr this q)
theorem insT_srt {x : Str} : ∀ {l : List Str}, l.Pairwise sLe → (insT x l).Pairwise sLe
  | [], _ => List.pairwise_singleton _ _
  | y :: l, h => by
    obtain ⟨h1, h2⟩ := List.pairwise_cons.mp h
    unfold insT
    split
    · rename_i q
      refine List.pairwise_cons.mpr ⟨fun z hz => ?_, insT_srt h2⟩
      rcases List.mem_cons.mp (insT_perm.mem_iff.mp hz) with e | e
      · subst e; exact fun z => sLt_irr _ (sLt_tr q z)
      · exact h1 z e
    · rename_i q
      refine List.pairwise_cons.mpr ⟨fun z hz => ?_, h⟩
      rcases List.mem_cons.mp hz with e | e
      · subst e; exact q
      · exact sLe_tr q (h1 z e)
theorem ssort_srt : ∀ {l : List Str}, (ssort l).Pairwise sLe
  | [] => .nil
  | x :: l => insT_srt ssort_srt
theorem srt_uniq : ∀ {l m : List Str}, l.Pairwise sLe → m.Pairwise sLe → l.Perm m → l = m
  | [], m, _, _, p => (List.nil_perm.mp p).symm ▸ rfl
  | x :: l, [], _, _, p => by have := p.length_eq; simp at this
  | x :: l, y :: m, hl, hm, p => by
    obtain ⟨a1, a2⟩ := List.pairwise_cons.mp hl
    obtain ⟨b1, b2⟩ := List.pairwise_cons.mp hm
    have e : x = y := by
      rcases List.mem_cons.mp (p.mem_iff.mp List.mem_cons_self) with e | e
      · exact e
      · rcases List.mem_cons.mp (p.mem_iff.mpr List.mem_cons_self) with e' | e'
        · exact e'.symm
        · apply Decidable.byContradiction
          intro q
          exact b1 x e (sLt_tri (a1 y e') (Ne.symm q))
    subst e
    rw [srt_uniq a2 b2 (List.perm_cons x |>.mp p)]
theorem srt_of : ∀ {ys : List Str}, sortedS ys = true → ys.Pairwise sLe
  | [], _ => .nil
  | [x], _ => List.pairwise_singleton _ _
  | x :: y :: r, h => by
    obtain ⟨h1, h2⟩ := Bool.and_eq_true_iff.mp (show (!ltCps y.cps.toList x.cps.toList && risingS y r) = true from h)
    have ih : (y :: r).Pairwise sLe := srt_of (ys := y :: r) h2
    have hxy : sLe x y := by
      rw [ltCps_eq] at h1
      intro q
      rw [decide_eq_true (show y.cps.toList < x.cps.toList from q)] at h1
      cases h1
    refine List.pairwise_cons.mpr ⟨fun z hz => ?_, ih⟩
    rcases List.mem_cons.mp hz with e | e
    · subst e; exact hxy
    · exact sLe_tr hxy ((List.pairwise_cons.mp ih).1 z e)
theorem CL.sorted : CL RX E (rSortedS K) (TyA.one (tBo tStr)) tStr fun xs => .chk (xs.length < 64) (.ret (ssort xs)) := fun G H vs a Q s ⟨v, e, l, ws, ev, h1, h2, g⟩ q => by
  subst e; subst ev
  refine ⟨l, a, rfl, sqL (by rw [← strsR g]; exact h1), q.1, fun ys p hp hs hn => ?_⟩
  have e : ys = ssort a := srt_uniq (srt_of hs) ssort_srt (hp.trans ssort_perm.symm)
  subst e
  refine q.2 p _ G _ ((Nx.refl s).more (same_new hn)) upd_same (s.free hn) hn (by rw [ssort_perm.length_eq]; exact h2) (repStrs fun x hx => strsL g x (ssort_perm.mem_iff.mp hx))
/-! ### texts -/
abbrev rJoinK (K : PySem.W.Frag) : V → List V → Hp → VK → Prop := fun x xs H Q => ∃ a p, ∃ ys : List Str, x = .str a ∧ xs = [.ref p] ∧ (SqL K H p (ys.map V.str) ∨ SqT K H p (ys.map V.str)) ∧
      (ys.map (·.length)).sum + ys.length * a.length ≤ 16777216 ∧ Q (.str (Txt.join a ys)) H
def jnOk (a : Str) (ys : List Str) : Prop := (ys.map (·.length)).sum + ys.length * a.length ≤ 16777216 ∧ (Txt.join a ys).length ≤ mxL
theorem EJ.join {a : Str} {m : Mir (List Str)} (h1 : PJ Γ ta tStr.h a) (h2 : EJ RX E Γ tb (tBo tStr) m) : EJ RX E Γ (tM1 (rJoinK K) ta tb) tStr.h (m.bind fun ys => .chk (jnOk a ys) (.ret (Txt.join a ys))) := fun H0 G H σ Q s s0 e q =>
  h1 s s0 e fun v G1 H1 n1 ⟨ev, hz⟩ => ⟨⟨a, ev⟩, h2 n1.h (s0.trans n1.e) (e.up n1) (m.mono (fun ys z w G2 H2 n2 ⟨l, vs, ew, g1, g2, g3⟩ =>
    ⟨a, l, ys, ev, by rw [ew], .inl (sqL (by rw [← strsR g3]; exact g1)), z.1.1, z.2 _ G2 H2 (n1.trans n2) ⟨rfl, z.1.2⟩⟩) (fun _ z => z.to n1) q)⟩
theorem EJ.joinT {a : Str} {m : Mir (List Str)} (h1 : PJ Γ ta tStr.h a) (h2 : EJ RX E Γ tb (tTpl tStr).h m) : EJ RX E Γ (tM1 (rJoinK K) ta tb) tStr.h (m.bind fun ys => .chk (jnOk a ys) (.ret (Txt.join a ys))) := fun H0 G H σ Q s s0 e q =>
  h1 s s0 e fun v G1 H1 n1 ⟨ev, hz⟩ => ⟨⟨a, ev⟩, h2 n1.h (s0.trans n1.e) (e.up n1) (m.mono (fun ys z w G2 H2 n2 ⟨l, vs, ew, g1, g2, g3⟩ =>
    ⟨a, l, ys, ev, by rw [ew], .inr (sqT (n2.h _ _ (by rw [← strsR g3]; exact g1))), z.1.1, z.2 _ G2 H2 (n1.trans n2) ⟨rfl, z.1.2⟩⟩) (fun _ z => z.to n1) q)⟩
abbrev rSplitK : V → List V → Hp → VK → Prop := fun x xs H Q => ∃ a b, x = .str a ∧ xs = [.str b] ∧ (b.length == 0) = false ∧ a.length + 2 ≤ sizeLine ∧ rNewStrs (Txt.split a b) H Q
theorem LJ.split {m : Mir Str} {b : Str} (h1 : EJ RX E Γ ta tStr.h m) (h2 : PJ Γ tb tStr.h b) (hb : (b.length == 0) = false := by decide +kernel) : LJ RX E Γ (tM1 rSplitK ta tb) tStr (m.bind fun a => .chk ((Txt.split a b).length ≤ mxL ∧ ∀ x ∈ Txt.split a b, x.length ≤ mxL) (.ret (Txt.split a b))) := fun H0 G H σ Q s s0 e q =>
  h1 s s0 e (m.mono (fun a z v G1 H1 n1 ⟨ev, hz⟩ => ⟨⟨a, ev⟩, h2 n1.h (s0.trans n1.e) (e.up n1) fun w G2 H2 n2 ⟨ew, _⟩ =>
    ⟨a, b, ev, by rw [ew], hb, Nat.le_trans (Nat.add_le_add_right hz 2) (Nat.le_trans (show mxL + 2 ≤ 100000 by decide) (by decide)), fun p hp => z.2 p _ G2 _ ((n1.trans n2).more (same_new hp)) upd_same (n2.h.free hp) ((n1.trans n2).e.free hp) z.1.1 (repStrs z.1.2)⟩⟩) (fun _ z => z) q)
abbrev rPartK : V → List V → Hp → VK → Prop := fun x xs H Q => ∃ a b, x = .str a ∧ xs = [.str b] ∧ (b.length == 0) = false ∧ a.length ≤ sizeLine ∧
      ∀ p, H p = none → Q (.ref p) (upd H p (.tup [.str (Txt.partition a b).1, .str (Txt.partition a b).2.1, .str (Txt.partition a b).2.2]))
end
end Ax

/-! Statements, loops, comprehensions, calls by a mirror, in judgements. -/
namespace Ax
open PySem PySem.Spec PyProof.Rows L2 StX
abbrev Rt (ρ : Type) := ρ → V → Hp → Hp → Hp → Prop
def rtF {ρ : Type} (t : Ty ρ) : Rt ρ := fun r v _ G _ => t.rep r v G
def rtL {α : Type} (t : Ty α) : Rt (List α) := fun xs v H0 G H => ∃ l vs, v = .ref l ∧ H l = some (.lst vs) ∧ G l = none ∧ H0 l = none ∧ xs.length ≤ mxL ∧ Reps t G xs vs
def OtK {β ρ : Type} (post : β → List Sl) (rt : Rt ρ) (D : Ends) (G0 H0 G : Hp) : Out β ρ → Prop
  | .nx b => ∀ σ' G' H', Nx G0 H0 G' H' → Same G G' → Env H0 G' H' (post b) σ' → D.nx σ' H'
  | .rt r => ∀ v G' H', Nx G0 H0 G' H' → Same G G' → rt r v H0 G' H' → D.rt v H'
def ErS (RX : RXT) (E : XK) (G0 H0 G : Hp) : Err → Prop := fun e => ∀ c d G' H', Nx G0 H0 G' H' → Same G G' → RX e c d G' → E c d H'
theorem ErS.to {RX : RXT} {E : XK} {G0 H0 G G' : Hp} (s : Same G G') {e : Err} (h : ErS RX E G0 H0 G e) : ErS RX E G0 H0 G' e := fun c d G2 H2 n s2 r => h c d G2 H2 n (s.trans s2) r
theorem ErS.k {RX : RXT} {E : XK} {G0 H0 G H G' : Hp} (n : Nx G0 H0 G' H) (s : Same G G') {e : Err} (h : ErS RX E G0 H0 G e) : ErK RX E G' H e := fun c d G2 H2 n2 r => h c d G2 H2 (n.trans n2) (s.trans n2.g) r
theorem OtK.to {β ρ : Type} {post : β → List Sl} {rt : Rt ρ} {D : Ends} {G0 H0 G G' : Hp} (s : Same G G') : ∀ {o : Out β ρ}, OtK post rt D G0 H0 G o → OtK post rt D G0 H0 G' o
  | .nx b, h => fun σ' G2 H2 n s2 e => h σ' G2 H2 n (s.trans s2) e
  | .rt r, h => fun v G2 H2 n s2 e => h v G2 H2 n (s.trans s2) e
section
variable (RX : RXT) (E : XK) (Γ : List Sl)
def SJ {β ρ : Type} (ts : TS) (post : β → List Sl) (rt : Rt ρ) (m : Mir (Out β ρ)) : Prop := ∀ ⦃H0 G0 G H : Hp⦄ ⦃σ : L2.St⦄ ⦃D : Ends⦄, Nx G0 H0 G H → Env H0 G H Γ σ → m.run (OtK post rt D G0 H0 G) (ErS RX E G0 H0 G) → ts D σ H
end
/-- a suite that is always left -/
abbrev noP {β : Type} : β → List Sl := fun _ => [.bot]
theorem env_bot {H0 G H : Hp} {σ : L2.St} (e : Env H0 G H [.bot] σ) : False := by
  obtain ⟨W, e⟩ := e
  obtain ⟨o, _, h⟩ := e.at_ 0 .bot rfl
  exact h
section
variable {RX : RXT} {E : XK} {Γ : List Sl} {α β γ ρ : Type} {post : β → List Sl} {rt : Rt ρ} {te : TE} {ts tr tu : TS} {tt : TT} {t : Ty α}
theorem SJ.retP {t : Ty ρ} {a : ρ} (h : PJ Γ te t.h a) : SJ RX E Γ (tRet te) post (rtF t) (.ret (.rt a)) := fun H0 G0 G H σ D N e q =>
  h N.h N.e e fun v G1 H1 n r => q v G1 H1 (N.trans n) n.g r
theorem SJ.ret {t : Ty ρ} {m : Mir ρ} (h : EJ RX E Γ te t.h m) : SJ RX E Γ (tRet te) post (rtF t) (m.bind fun a => .ret (.rt a)) := fun H0 G0 G H σ D N e q =>
  h N.h N.e e (m.mono (fun a z v G1 H1 n r => z v G1 H1 (N.trans n) n.g r) (fun _ z => z.k N (Same.refl _)) q)
theorem SJ.retL {t : Ty α} {m : Mir (List α)} (h : LJ RX E Γ te t m) : SJ RX E Γ (tRet te) post (rtL t) (m.bind fun a => .ret (.rt a)) := fun H0 G0 G H σ D N e q =>
  h N.h N.e e (m.mono (fun a z l vs G1 H1 n h1 h2 h3 h4 r => z (.ref l) G1 H1 (N.trans n) n.g ⟨l, vs, rfl, h1, h2, N.e.free h3, h4, r⟩) (fun _ z => z.k N (Same.refl _)) q)
theorem SJ.retO {t : Ty α} {i : Nat} {xs : List α} (h : Γ[i]? = some (.own t xs)) : SJ RX E Γ (tRet (tVar i)) post (rtL t) (.ret (.rt xs)) := fun H0 G0 G H σ D N e q => by
  obtain ⟨l, vs, e1, h1, h2, h3, h4, h5⟩ := e.own h
  exact ⟨.ref l, e1, q (.ref l) G H N (Same.refl _) ⟨l, vs, rfl, h1, h2, h3, h4, h5⟩⟩
theorem SJ.frz {t : Ty α} {xs : List α} (i : Nat) {m : Mir (Out β ρ)} (h : Γ[i]? = some (.own t xs)) (k : SJ RX E (Γ.set i (.fz (tList t) xs)) ts post rt m) : SJ RX E Γ ts post rt m := fun H0 G0 G H σ D N e q => by
  obtain ⟨l, vs, e1, h1, h2, h3, h5, h4, e'⟩ := e.freeze h
  exact k (N.fz h1 h3 h2) e' (m.mono (fun _ z => z.to (same_new h2)) (fun _ z => z.to (same_new h2)) q)
theorem SJ.retN : SJ RX E Γ tRetN post (rtF tUnit) (.ret (.rt ())) := fun H0 G0 G H σ D N e q => q .non G H N (Same.refl _) rfl
theorem SJ.last {m : Mir (Out β ρ)} (h : SJ RX E Γ (tSeq ts tNext) post rt m) : SJ RX E Γ ts post rt m := fun H0 G0 G H σ D N e q => h N e q
theorem SJ.next {b : β} (h : Weak Γ (post b)) : SJ RX E Γ tNext post rt (.ret (.nx b)) := fun H0 G0 G H σ D N e q => q σ G H N (Same.refl _) (e.weak h)
/-- names -/
theorem SJ.asgP {a : α} {i : Nat} {f : α → Mir (Out β ρ)} (h : PJ Γ te t.h a) (k : ∀ x, SJ RX E (Γ.set i (.fz t x)) tr post rt (f x)) : SJ RX E Γ (tSeq (tAsg te (gName i)) tr) post rt (.lt a f) := fun H0 G0 G H σ D N e q =>
  h N.h N.e e fun v G1 H1 n r => k a (N.trans n) ((e.up n).setFz r i) ((f a).mono (fun _ z => z.to n.g) (fun _ z => z.to n.g) q)
theorem SJ.asg {m : Mir α} {i : Nat} {f : α → Mir (Out β ρ)} (h : EJ RX E Γ te t.h m) (k : ∀ x, SJ RX E (Γ.set i (.fz t x)) tr post rt (f x)) : SJ RX E Γ (tSeq (tAsg te (gName i)) tr) post rt (m.bind f) := fun H0 G0 G H σ D N e q =>
  h N.h N.e e (m.mono (fun a z v G1 H1 n r => k a (N.trans n) ((e.up n).setFz r i) ((f a).mono (fun _ z => z.to n.g) (fun _ z => z.to n.g) z)) (fun _ z => z.k N (Same.refl _)) q)
theorem SJ.asgL {m : Mir (List α)} {i : Nat} {f : List α → Mir (Out β ρ)} (h : LJ RX E Γ te t m) (k : ∀ x, SJ RX E (Γ.set i (.own t x)) tr post rt (f x)) : SJ RX E Γ (tSeq (tAsg te (gName i)) tr) post rt (m.bind f) := fun H0 G0 G H σ D N e q =>
  h N.h N.e e (m.mono (fun a z l vs G1 H1 n h1 h2 h3 h4 r => k a (N.trans n) (Env.newOwn n h3 h1 h2 (N.e.free h3) h4 r i e) ((f a).mono (fun _ z => z.to n.g) (fun _ z => z.to n.g) z)) (fun _ z => z.k N (Same.refl _)) q)
theorem SJ.asgLP {a : List α} {i : Nat} {f : List α → Mir (Out β ρ)} (h : LP Γ te t a) (k : ∀ x, SJ RX E (Γ.set i (.own t x)) tr post rt (f x)) : SJ RX E Γ (tSeq (tAsg te (gName i)) tr) post rt (.lt a f) := SJ.asgL (RX := RX) (E := E) h.e k
theorem SJ.drop {t : TyH α} {m : Mir α} {f : Mir (Out β ρ)} (h : EJ RX E Γ te t m) (k : SJ RX E Γ tr post rt f) : SJ RX E Γ (tSeq (tDrop te) tr) post rt (m.bind fun _ => f) := fun H0 G0 G H σ D N e q =>
  h N.h N.e e (m.mono (fun a z v G1 H1 n r => k (N.trans n) (e.up n) (f.mono (fun _ z => z.to n.g) (fun _ z => z.to n.g) z)) (fun _ z => z.k N (Same.refl _)) q)
/-! ifs -/
theorem SJ.if1 {m n : Mir (Out β ρ)} {b : Bool} (h : TP Γ tt b) (h1 : SJ RX E Γ ts post rt m) (h2 : SJ RX E Γ tu post rt n) : SJ RX E Γ (tIfS tt ts tu) post rt (.ifB b m n) := fun H0 G0 G H σ D N e q =>
  h N.h N.e e fun G1 H1 n1 => by
    cases b with
    | true => exact iteT (h1 (N.trans n1) (e.up n1) (m.mono (fun _ z => z.to n1.g) (fun _ z => z.to n1.g) q))
    | false => exact iteF (h2 (N.trans n1) (e.up n1) (n.mono (fun _ z => z.to n1.g) (fun _ z => z.to n1.g) q))
theorem SJ.if1m {m n : Mir (Out β ρ)} {b : Mir Bool} (h : TJ RX E Γ tt b) (h1 : SJ RX E Γ ts post rt m) (h2 : SJ RX E Γ tu post rt n) : SJ RX E Γ (tIfS tt ts tu) post rt (b.bind fun b => .ifB b m n) := fun H0 G0 G H σ D N e q =>
  h N.h N.e e (b.mono (fun b z G1 H1 n1 => by
    cases b with
    | true => exact iteT (h1 (N.trans n1) (e.up n1) (m.mono (fun _ z => z.to n1.g) (fun _ z => z.to n1.g) z))
    | false => exact iteF (h2 (N.trans n1) (e.up n1) (n.mono (fun _ z => z.to n1.g) (fun _ z => z.to n1.g) z))) (fun _ z => z.k N (Same.refl _)) q)
theorem leaveO {D : Ends} {nx' : L2.St → Hp → Prop} {G0 H0 G G' : Hp} (s : Same G G') (o : Out β ρ) (h : OtK post rt D G0 H0 G o) : OtK (β := β) noP rt { D with nx := nx' } G0 H0 G' o := by
  cases o with
  | nx b => exact fun σ' G2 H2 n s2 e => absurd e env_bot
  | rt r => exact fun v G2 H2 n s2 r => h v G2 H2 n (s.trans s2) r
/-- if c: .. (always left); the rest -/
theorem SJ.guard {m n : Mir (Out β ρ)} {b : Bool} (h : TP Γ tt b) (h1 : SJ RX E Γ ts noP rt m) (h2 : SJ RX E Γ tr post rt n) : SJ RX E Γ (tSeq (tIfS tt ts tNext) tr) post rt (.ifB b m n) := fun H0 G0 G H σ D N e q =>
  h N.h N.e e fun G1 H1 n1 => by
    cases b with
    | true => exact iteT (h1 (N.trans n1) (e.up n1) (m.mono (leaveO n1.g) (fun _ z => z.to n1.g) q))
    | false => exact iteF (h2 (N.trans n1) (e.up n1) (n.mono (fun _ z => z.to n1.g) (fun _ z => z.to n1.g) q))
theorem SJ.guardM {m n : Mir (Out β ρ)} {b : Mir Bool} (h : TJ RX E Γ tt b) (h1 : SJ RX E Γ ts noP rt m) (h2 : SJ RX E Γ tr post rt n) : SJ RX E Γ (tSeq (tIfS tt ts tNext) tr) post rt (b.bind fun b => .ifB b m n) := fun H0 G0 G H σ D N e q =>
  h N.h N.e e (b.mono (fun b z G1 H1 n1 => by
    cases b with
    | true => exact iteT (h1 (N.trans n1) (e.up n1) (m.mono (leaveO n1.g) (fun _ z => z.to n1.g) z))
    | false => exact iteF (h2 (N.trans n1) (e.up n1) (n.mono (fun _ z => z.to n1.g) (fun _ z => z.to n1.g) z))) (fun _ z => z.k N (Same.refl _)) q)
/-- a statement that may go on, and what follows -/
theorem SJ.seq {post1 : γ → List Sl} {m : Mir (Out γ ρ)} {f : γ → Mir (Out β ρ)} (h : SJ RX E Γ ts post1 rt m) (k : ∀ b, SJ RX E (post1 b) tr post rt (f b)) : SJ RX E Γ (tSeq ts tr) post rt (m.bindO f) := fun H0 G0 G H σ D N e q =>
  h N e (m.mono (fun o z => by
    cases o with
    | nx b => exact fun σ' G' H' n s e' => k b n e' ((f b).mono (fun _ z => z.to s) (fun _ z => z.to s) z)
    | rt r => exact fun v G' H' n s r => z v G' H' n s r) (fun _ z => z) q)
/-! ### an own list is changed -/
theorem own_at {H0 G H : Hp} {xs : List α} {σ : L2.St} {i : Nat} {t : Ty α} (e : Env H0 G H Γ σ) (h : Γ[i]? = some (.own t xs)) : ∃ l vs, σ[i]? = some (some (.ref l)) ∧ H l = some (.lst vs) ∧ G l = none ∧ H0 l = none ∧ xs.length ≤ mxL ∧ Reps t G xs vs := e.own h
/-- the step of a method that changes the list -/
theorem SJ.mut {K : PySem.W.Frag} {i : Nat} {xs : List α} {A : TyA γ} {a : Mir γ} {p : γ → Prop} {g : γ → List α} {r : V → List V → Hp → VK → Prop} {ta : TA} {f : List α → Mir (Out β ρ)} (h : Γ[i]? = some (.own t xs)) (ha : AJ RX E Γ ta A a)
    (hr : ∀ {G H l vs ws c Q}, H l = some (.lst vs) → xs.length ≤ mxL → Reps t G xs vs → A.rep c ws G H → p c → (∀ us, Reps t G (g c) us → (g c).length ≤ mxL → Q V.non (upd H l (.lst us))) → r (.ref l) ws H Q)
    (k : ∀ x, SJ RX E (Γ.set i (.own t x)) tr post rt (f x)) : SJ RX E Γ (tSeq (tDrop (tBM K "list" r (tVar i) ta)) tr) post rt (a.bind fun c => .chk (p c) (f (g c))) := fun H0 G0 G H σ D N e q => by
  obtain ⟨l, vs, e1, h1, h2, h3, h4, h5⟩ := e.own h
  refine ⟨.ref l, e1, .inl ⟨rfl, vs, sqL h1⟩, ha N.h N.e e (a.mono (fun c z ws G1 H1 n1 ra => ?_) (fun _ z => z.k N (Same.refl _)) q)⟩
  have N1 := N.trans n1
  refine hr (n1.e _ _ h1) h4 (h5.up n1.g) ra z.1 fun us ru hl => ?_
  have g1 := n1.hid h1 h2
  exact k _ (N1.mut h3 g1) (Env.mut h3 hl ru (e.up n1) h e1) ((f (g c)).mono (fun _ z => z.to n1.g) (fun _ z => z.to n1.g) z.2)
theorem SJ.append {K : PySem.W.Frag} {i : Nat} {xs : List α} {a : Mir α} {f : List α → Mir (Out β ρ)} (h : Γ[i]? = some (.own t xs)) (ha : EJ RX E Γ te t.h a) (k : ∀ x, SJ RX E (Γ.set i (.own t x)) tr post rt (f x)) :
    SJ RX E Γ (tSeq (tDrop (tBM K "list" rAppend (tVar i) (tCons te tNil))) tr) post rt (a.bind fun c => .chk (xs.length < mxL) (f (xs ++ [c]))) :=
  SJ.mut (A := TyA.one t.h) (p := fun _ => xs.length < mxL) (g := fun c => xs ++ [c]) h (AJ.one ha) (fun {G H l vs ws c Q} h1 h2 h3 ⟨v, ev, rv⟩ hp q => by
    subst ev
    exact ⟨l, vs, v, rfl, rfl, h1, szl (by rw [← h3.len]; exact Nat.lt_of_lt_of_le hp (by decide)), q _ (Reps.app h3 (.cons rv .nil)) (by rw [List.length_append]; exact hp)⟩) k
theorem SJ.appendP {K : PySem.W.Frag} {i : Nat} {xs : List α} {a : α} {f : List α → Mir (Out β ρ)} (h : Γ[i]? = some (.own t xs)) (ha : PJ Γ te t.h a) (k : ∀ x, SJ RX E (Γ.set i (.own t x)) tr post rt (f x)) :
    SJ RX E Γ (tSeq (tDrop (tBM K "list" rAppend (tVar i) (tCons te tNil))) tr) post rt (.chk (xs.length < mxL) (f (xs ++ [a]))) := SJ.append h ha.e k
theorem SJ.extend {K : PySem.W.Frag} {i : Nat} {xs : List α} {a : Mir (List α)} {f : List α → Mir (Out β ρ)} (h : Γ[i]? = some (.own t xs)) (ha : EJ RX E Γ te (tBo t) a) (k : ∀ x, SJ RX E (Γ.set i (.own t x)) tr post rt (f x)) :
    SJ RX E Γ (tSeq (tDrop (tBM K "list" rExtend (tVar i) (tCons te tNil))) tr) post rt (a.bind fun c => .chk (xs.length + c.length ≤ mxL) (f (xs ++ c))) :=
  SJ.mut (A := TyA.one (tBo t)) (p := fun c => xs.length + c.length ≤ mxL) (g := fun c => xs ++ c) h (AJ.one ha) (fun {G H l vs ws c Q} h1 h2 h3 ⟨v, ev, l2, us, ev2, g1, g2, g3⟩ hp q => by
    subst ev; subst ev2
    exact ⟨l, l2, vs, us, rfl, rfl, h1, g1, sz (by rw [← h3.len, ← g3.len]; exact Nat.le_trans hp (by decide)), q _ (Reps.app h3 g3) (by rw [List.length_append]; exact hp)⟩) k
abbrev rInsertK : V → List V → Hp → VK → Prop := fun x vs H Q => ∃ (l : Addr) (xs : List V) (i : Int) (y : V), x = .ref l ∧ vs = [.int i, y] ∧ H l = some (.lst xs) ∧ xs.length < sizeLine ∧ 0 ≤ i ∧ i < 2 ^ 63 ∧
    Q .non (upd H l (.lst (xs.take i.toNat ++ [y] ++ xs.drop i.toNat)))
def insAt {α : Type} (xs : List α) (i : Int) (y : α) : List α := xs.take i.toNat ++ [y] ++ xs.drop i.toNat
theorem SJ.insert {K : PySem.W.Frag} {i : Nat} {xs : List α} {ta : TA} {a : Mir (Int × α)} {f : List α → Mir (Out β ρ)} (h : Γ[i]? = some (.own t xs)) (ha : AJ RX E Γ ta (TyA.cons tInt.h (TyA.one t.h)) a) (k : ∀ x, SJ RX E (Γ.set i (.own t x)) tr post rt (f x)) :
    SJ RX E Γ (tSeq (tDrop (tBM K "list" rInsertK (tVar i) ta)) tr) post rt (a.bind fun c => .chk (xs.length < mxL ∧ 0 ≤ c.1 ∧ c.1 < 2 ^ 63) (f (insAt xs c.1 c.2))) :=
  SJ.mut (A := TyA.cons tInt.h (TyA.one t.h)) (p := fun c => xs.length < mxL ∧ 0 ≤ c.1 ∧ c.1 < 2 ^ 63) (g := fun c => insAt xs c.1 c.2) h ha (fun {G H l vs ws c Q} h1 h2 h3 ⟨v, r, ev, rv, w, ew, rw'⟩ hp q => by
    subst ew; subst ev
    cases (show v = V.int c.1 from rv)
    refine ⟨l, vs, c.1, w, rfl, rfl, h1, szl (by rw [← h3.len]; exact Nat.lt_of_lt_of_le hp.1 (by decide)), hp.2.1, hp.2.2, q _ (Reps.app (Reps.app (h3.take _) (.cons rw' .nil)) (h3.drop _)) ?_⟩
    unfold insAt
    rw [List.length_append, List.length_append, List.length_take, List.length_drop, List.length_singleton]
    have := hp.1
    omega) k
theorem SJ.reverse {K : PySem.W.Frag} {i : Nat} {xs : List α} {f : List α → Mir (Out β ρ)} (h : Γ[i]? = some (.own t xs)) (k : ∀ x, SJ RX E (Γ.set i (.own t x)) tr post rt (f x)) :
    SJ RX E Γ (tSeq (tDrop (tBM0 K "list" rReverse (tVar i))) tr) post rt (.lt xs.reverse f) := fun H0 G0 G H σ D N e q => by
  obtain ⟨l, vs, e1, h1, h2, h3, h4, h5⟩ := e.own h
  exact ⟨.ref l, e1, .inl ⟨rfl, vs, sqL h1⟩, l, vs, rfl, rfl, h1, k _ (N.mut h3 h2) (Env.mut h3 (by rw [List.length_reverse]; exact h4) h5.rev e h e1) q⟩
theorem SJ.clear {K : PySem.W.Frag} {i : Nat} {xs : List α} {f : List α → Mir (Out β ρ)} (h : Γ[i]? = some (.own t xs)) (k : ∀ x, SJ RX E (Γ.set i (.own t x)) tr post rt (f x)) :
    SJ RX E Γ (tSeq (tDrop (tBM0 K "list" rClear (tVar i))) tr) post rt (.lt [] f) := fun H0 G0 G H σ D N e q => by
  obtain ⟨l, vs, e1, h1, h2, h3, h4, h5⟩ := e.own h
  exact ⟨.ref l, e1, .inl ⟨rfl, vs, sqL h1⟩, l, vs, rfl, rfl, h1, k _ (N.mut h3 h2) (Env.mut h3 (Nat.zero_le _) .nil e h e1) q⟩
/-- xs[i] = v -/
theorem SJ.setAt {i : Nat} {ti : TE} {xs : List α} {a : α} {b : Int} {f : List α → Mir (Out β ρ)} (h : Γ[i]? = some (.own t xs)) (ha : PJ Γ te t.h a) (hb : PJ Γ ti tInt.h b) (k : ∀ x, SJ RX E (Γ.set i (.own t x)) tr post rt (f x)) :
    SJ RX E Γ (tSeq (tAsg te (gSub (tVar i) ti rSetL)) tr) post rt (.chk ((ixN xs.length b).isSome) (f (xs.set ((ixN xs.length b).getD 0) a))) := fun H0 G0 G H σ D N e q => by
  refine ha N.h N.e e fun v G1 H1 n1 rv => ?_
  have N1 := N.trans n1
  have e1 := e.up n1
  obtain ⟨l, vs, ev, h1, h2, h3, h4, h5⟩ := e1.own h
  refine ⟨.ref l, ev, hb N1.h N1.e e1 fun w G2 H2 n2 rw' => ?_⟩
  cases (show w = V.int b from rw')
  have N2 := N1.trans n2
  obtain ⟨j, hj⟩ := Option.isSome_iff_exists.mp q.1
  refine ⟨l, vs, b, j, rfl, rfl, n2.e _ _ h1, by rw [← h5.len]; exact hj, ?_⟩
  have q2 := q.2
  rw [hj] at q2
  exact k _ (N2.mut h3 (n2.hid h1 h2)) (Env.mut h3 (by rw [List.length_set]; exact h4) ((h5.up n2.g).set (t.up n2.g rv) j) (e1.up n2) h ev) ((f _).mono (fun _ z => z.to (n1.g.trans n2.g)) (fun _ z => z.to (n1.g.trans n2.g)) q2)
/-! ### targets -/
theorem wipe_set {σ : L2.St} {i : Nat} {o : Option V} : ∀ {vs : List Nat}, i ∈ vs → wipe (σ.set i o) vs = wipe σ vs
  | [], h => by cases h
  | v :: vs, h => by
    show (wipe (σ.set i o) vs).set v none = (wipe σ vs).set v none
    by_cases hv : i = v
    · subst hv
      by_cases hm : i ∈ vs
      · rw [wipe_set hm]
      · rw [wipe_comm hm, List.set_set]
    · rw [wipe_set (List.mem_of_ne_of_mem hv h)]
where wipe_comm {σ : L2.St} {i : Nat} {o : Option V} : ∀ {vs : List Nat}, i ∉ vs → wipe (σ.set i o) vs = (wipe σ vs).set i o
  | [], _ => rfl
  | v :: vs, h => by
    show (wipe (σ.set i o) vs).set v none = ((wipe σ vs).set v none).set i o
    rw [wipe_comm (fun z => h (List.mem_cons_of_mem _ z)), List.set_comm]
    exact fun z => h (by rw [z]; exact List.mem_cons_self)
theorem wipe_wipe {σ : L2.St} : ∀ {us vs : List Nat}, (∀ i ∈ us, i ∈ vs) → wipe (wipe σ us) vs = wipe σ vs
  | [], _, _ => rfl
  | u :: us, vs, h => by
    show wipe ((wipe σ us).set u none) vs = _
    rw [wipe_set (h u List.mem_cons_self), wipe_wipe fun i hi => h i (List.mem_cons_of_mem _ hi)]
/-- a target: the names at is get x -/
def GJ {α : Type} (Γ : List Sl) (g : TG) (t : Ty α) (x : α) (Γ' : List Sl) (is : List Nat) : Prop := ∀ ⦃H0 G H : Hp⦄ ⦃σ : L2.St⦄ ⦃v : V⦄ ⦃Q : L2.St → Hp → Prop⦄, Same G H → Env H0 G H Γ σ → t.rep x v G →
  (∀ σ', Env H0 G H Γ' σ' → (∀ vs, (∀ i ∈ is, i ∈ vs) → wipe σ' vs = wipe σ vs) → Q σ' H) → g v σ H Q
theorem GJ.name {i : Nat} {x : α} : GJ Γ (gName i) t x (Γ.set i (.fz t x)) [i] := fun H0 G H σ v Q s e r q => q _ (e.setFz r i) fun vs h => wipe_set (h i List.mem_cons_self)
def GJs {α : Type} (Γ : List Sl) (g : TGs) (l : TyL α) (x : α) (Γ' : List Sl) (is : List Nat) : Prop := ∀ ⦃H0 G H : Hp⦄ ⦃σ : L2.St⦄ ⦃vs : List V⦄ ⦃Q : L2.St → Hp → Prop⦄, Same G H → Env H0 G H Γ σ → l.rep x vs G →
  (∀ σ', Env H0 G H Γ' σ' → (∀ vs, (∀ i ∈ is, i ∈ vs) → wipe σ' vs = wipe σ vs) → Q σ' H) → g vs σ H Q
theorem GJs.one {g : TG} {x : α} {Γ' : List Sl} {is : List Nat} (h : GJ Γ g t x Γ' is) : GJs Γ (gCons g gNil) (TyL.one t) x Γ' is := fun H0 G H σ vs Q s e ⟨v, ev, r⟩ q => by
  subst ev
  exact ⟨v, [], rfl, h s e r fun σ' e' w => ⟨rfl, q σ' e' w⟩⟩
theorem GJs.cons {g : TG} {gs : TGs} {l : TyL γ} {x : α × γ} {Γ1 Γ' : List Sl} {is js : List Nat} (h : GJ Γ g t x.1 Γ1 is) (h' : GJs Γ1 gs l x.2 Γ' js) : GJs Γ (gCons g gs) (TyL.cons t l) x Γ' (is ++ js) := fun H0 G H σ vs Q s e ⟨v, r, ev, rv, rr⟩ q => by
  subst ev
  exact ⟨v, r, rfl, h s e rv fun σ' e' w => h' s e' rr fun σ2 e2 w2 => q σ2 e2 fun vs hv => (w2 vs fun i hi => hv i (List.mem_append_right _ hi)).trans (w vs fun i hi => hv i (List.mem_append_left _ hi))⟩
theorem GJ.tup {K : PySem.W.Frag} {gs : TGs} {l : TyL α} {n : Nat} {x : α} {Γ' : List Sl} {is : List Nat} (hn : l.len n) (h : GJs Γ gs l x Γ' is) : GJ Γ (gTup K n gs) (tRecT l) x Γ' is := fun H0 G H σ v Q s e ⟨a, vs, ev, h1, r⟩ q => by
  subst ev
  exact ⟨a, vs, rfl, sqT (s _ _ h1), hn r, h s e r q⟩
/-- a, b = e -/
theorem SJ.unpack {m : Mir α} {g : TG} {f : α → Mir (Out β ρ)} {Γ' : α → List Sl} {is : List Nat} (h : EJ RX E Γ te t.h m) (hg : ∀ x, GJ Γ g t x (Γ' x) is) (k : ∀ x, SJ RX E (Γ' x) tr post rt (f x)) : SJ RX E Γ (tSeq (tAsg te g) tr) post rt (m.bind f) := fun H0 G0 G H σ D N e q =>
  h N.h N.e e (m.mono (fun a z v G1 H1 n r => hg a n.h (e.up n) r fun σ' e' _ => k a (N.trans n) e' ((f a).mono (fun _ z => z.to n.g) (fun _ z => z.to n.g) z)) (fun _ z => z.k N (Same.refl _)) q)
/-! ### what a for walks -/
structure SrcP {α : Type} (J : It) (Ok : Hp → Prop) (G : Hp) (t : Ty α) (xs : List α) : Prop where
  go : ∀ i H', i < xs.length → Ok H' → J.go i H'
  stop : ∀ i H', xs.length ≤ i → Ok H' → J.stop i H'
  yld : ∀ i x v G' H' H'', xs[i]? = some x → Same G G' → Same G' H' → Ok H' → J.yld i H' v H'' → ∃ G'', Nx G' H' G'' H'' ∧ t.rep x v G''
  len : xs.length ≤ mxL
def IJf {α : Type} (RX : RXT) (E : XK) (Γ : List Sl) (wi : TI) (t : Ty α) (m : Mir (List α)) : Prop := ∀ ⦃H0 G H : Hp⦄ ⦃σ : L2.St⦄ ⦃R : It → Hp → Prop⦄, Same G H → Same H0 H → Env H0 G H Γ σ →
  m.run (fun xs => ∀ J G' H', Nx G H G' H' → SrcP J (fun H'' => Same G' H'' ∧ Same H0 H'') G' t xs → R J H') (ErK RX E G H) → wi σ H R
def IJb {α : Type} (RX : RXT) (E : XK) (Γ : List Sl) (wi : TI) (t : Ty α) (m : Mir (List α)) : Prop := ∀ ⦃H0 G H : Hp⦄ ⦃σ : L2.St⦄ ⦃R : It → Hp → Prop⦄, Same G H → Same H0 H → Env H0 G H Γ σ →
  m.run (fun xs => ∀ J G' H', Nx G H G' H' → SrcP J (fun H'' => Same H' H'') G' t xs → R J H') (ErK RX E G H) → wi σ H R
theorem IJf.b {wi : TI} {m : Mir (List α)} (h : IJf RX E Γ wi t m) : IJb RX E Γ wi t m := fun H0 G H σ R s s0 e q => h s s0 e (m.mono (fun xs z J G' H' n S => z J G' H' n
  ⟨fun i H2 hi ok => S.go i H2 hi ⟨n.h.trans ok, (s0.trans n.e).trans ok⟩, fun i H2 hi ok => S.stop i H2 hi ⟨n.h.trans ok, (s0.trans n.e).trans ok⟩, fun i x v G2 H2 H3 hx s1 s2 ok y => S.yld i x v G2 H2 H3 hx s1 s2 ⟨n.h.trans ok, (s0.trans n.e).trans ok⟩ y, S.len⟩) (fun _ z => z) q)
theorem srcP_of {Ok : Hp → Prop} {J : It} {G : Hp} {xs : List α} {vs : List V} {l : Addr} {K : PySem.W.Frag} (hJ : J = Itl K l) (ok : ∀ H', Ok H' → H' l = some (.lst vs)) (r : Reps t G xs vs) (hl : xs.length ≤ mxL) : SrcP J Ok G t xs := by
  subst hJ
  exact ⟨fun i H' hi o => ⟨vs, vs[i]'(by rw [← r.len]; exact hi), sqL (ok H' o), List.getElem?_eq_getElem (by rw [← r.len]; exact hi)⟩, fun i H' hi o => ⟨vs, sqL (ok H' o), by rw [← r.len]; exact hi⟩,
    fun i x v G' H' H'' hx s1 s2 o y => by
      obtain ⟨e, y⟩ := y
      subst e
      obtain ⟨w, hw, rw'⟩ := (r.up s1).get hx
      have := y vs (sqL (ok _ o))
      rw [hw] at this
      cases Option.some.inj this
      exact ⟨G', Nx.refl s2, rw'⟩, hl⟩
theorem IJb.list {K : PySem.W.Frag} {m : Mir (List α)} (h : EJ RX E Γ te (tBo t) m) : IJb RX E Γ (iList K te) t m := fun H0 G H σ R s s0 e q => h s s0 e (m.mono (fun xs z v G' H' n ⟨l, vs, ev, h1, h2, h3⟩ =>
  ⟨l, ev, ⟨vs, sqL h1⟩, z _ G' H' n (srcP_of rfl (fun H2 o => o _ _ h1) h3 h2)⟩) (fun _ z => z) q)
theorem IJf.list {K : PySem.W.Frag} {m : Mir (List α)} (h : EJ RX E Γ te (tList t).h m) : IJf RX E Γ (iList K te) t m := fun H0 G H σ R s s0 e q => h s s0 e (m.mono (fun xs z v G' H' n ⟨l, vs, ev, h1, h2, h3⟩ =>
  ⟨l, ev, ⟨vs, sqL (n.h _ _ h1)⟩, z _ G' H' n (srcP_of rfl (fun H2 o => o.1 _ _ h1) h3 h2)⟩) (fun _ z => z) q)
theorem IJf.bor {K : PySem.W.Frag} {i : Nat} {xs : List α} (h : Γ[i]? = some (.bor t xs)) : IJf RX E Γ (iList K (tVar i)) t (.ret xs) := fun H0 G H σ R s s0 e q => by
  obtain ⟨l, vs, e1, h1, h4, h5⟩ := e.bor h
  exact ⟨.ref l, e1, l, rfl, ⟨vs, sqL (s0 _ _ h1)⟩, q _ G H (Nx.refl s) (srcP_of rfl (fun H2 o => o.2 _ _ h1) h5 h4)⟩
theorem IJf.tup {K : PySem.W.Frag} {m : Mir (List α)} (h : EJ RX E Γ te (tTpl t).h m) : IJf RX E Γ (iTup K te) t m := fun H0 G H σ R s s0 e q => h s s0 e (m.mono (fun xs z v G' H' n ⟨l, vs, ev, h1, h2, r⟩ =>
  ⟨l, ev, ⟨vs, sqT (n.h _ _ h1)⟩, z _ G' H' n ⟨fun i H' hi o => ⟨vs, vs[i]'(by rw [← r.len]; exact hi), sqT (o.1 _ _ h1), List.getElem?_eq_getElem (by rw [← r.len]; exact hi)⟩, fun i H' hi o => ⟨vs, sqT (o.1 _ _ h1), by rw [← r.len]; exact hi⟩,
    fun i x v G' H' H'' hx s1 s2 o y => by
      obtain ⟨e, y⟩ := y
      subst e
      obtain ⟨w, hw, rw'⟩ := (r.up s1).get hx
      have := y vs (sqT (o.1 _ _ h1))
      rw [hw] at this
      cases Option.some.inj this
      exact ⟨G', Nx.refl s2, rw'⟩, h2⟩⟩) (fun _ z => z) q)
def rangeL (lo : Int) (n : Nat) : List Int := (List.range n).map fun (i : Nat) => lo + (i : Int)
theorem rangeL_len {lo : Int} {n : Nat} : (rangeL lo n).length = n := by simp [rangeL]
theorem src_rgP {lo : Int} {n : Nat} {Ok : Hp → Prop} {G : Hp} (hn : n ≤ mxL) : SrcP (Itr lo n) Ok G tInt (rangeL lo n) where
  go := fun i H' hi _ => by rw [rangeL_len] at hi; exact hi
  stop := fun i H' hi _ => by rw [rangeL_len] at hi; exact hi
  yld := fun i x v G' H' H'' hx s1 s2 _ y => by
    obtain ⟨e, y⟩ := y
    subst e
    refine ⟨G', Nx.refl s2, ?_⟩
    have hi : i < n := by
      have := (List.getElem?_eq_some_iff.mp hx).1
      rw [rangeL_len] at this; exact this
    have : (rangeL lo n)[i]? = some (lo + (i : Int)) := by simp [rangeL, hi]
    rw [hx] at this
    cases Option.some.inj this
    exact y
  len := by rw [rangeL_len]; exact hn
theorem IJf.rng1 {m : Mir Int} (h : EJ RX E Γ te tInt.h m) : IJf RX E Γ (iRng1 (tCons te tNil)) tInt (m.bind fun n => .chk (-(2 ^ 62) ≤ n ∧ n ≤ 90000) (.ret (rangeL 0 n.toNat))) := fun H0 G H σ R s s0 e q => h s s0 e (m.mono (fun n z v G' H' n1 r => by
  cases (show v = V.int n from r)
  exact ⟨n, rfl, z.1.1, by have := z.1.2; omega, z.2 _ G' H' n1 (src_rgP (by have := z.1.2; show n.toNat ≤ 90000; omega))⟩) (fun _ z => z) q)
/-- range(len(xs)) -/
theorem IJf.rngB {K : PySem.W.Frag} {m : Mir (List α)} (h : EJ RX E Γ te (tBo t) m) : IJf RX E Γ (iRng1 (tCons (tCB (LenU K) (tCons te tNil)) tNil)) tInt (m.bind fun xs => .ret (rangeL 0 xs.length)) := fun H0 G H σ R s s0 e q => h s s0 e (m.mono (fun xs z v G' H' n1 ⟨l, vs, ev, h1, h2, h3⟩ => by
  subst ev
  refine w_nil ?_
  refine len_l (sqL h1) ?_
  rw [← h3.len]
  exact ⟨_, rfl, by omega, by have : xs.length ≤ 90000 := h2; omega, by rw [Int.toNat_natCast]; exact z _ G' H' n1 (src_rgP h2)⟩) (fun _ z => z) q)
theorem IJf.rngT {K : PySem.W.Frag} {m : Mir (List α)} (h : EJ RX E Γ te (tTpl t).h m) : IJf RX E Γ (iRng1 (tCons (tCB (LenU K) (tCons te tNil)) tNil)) tInt (m.bind fun xs => .ret (rangeL 0 xs.length)) := fun H0 G H σ R s s0 e q => h s s0 e (m.mono (fun xs z v G' H' n1 ⟨l, vs, ev, h1, h2, h3⟩ => by
  subst ev
  refine w_nil ?_
  refine len_t (sqT (n1.h _ _ h1)) ?_
  rw [← h3.len]
  exact ⟨_, rfl, by omega, by have : xs.length ≤ 90000 := h2; omega, by rw [Int.toNat_natCast]; exact z _ G' H' n1 (src_rgP h2)⟩) (fun _ z => z) q)
theorem IJf.rngN {n : Nat} (hn : n ≤ mxL := by decide) : IJf RX E Γ (iRng1 (tCons (tC (.int (n : Int))) tNil)) tInt (.ret (rangeL 0 n)) := fun H0 G H σ R s s0 e q =>
  ⟨_, rfl, by omega, by have : n ≤ 90000 := hn; omega, by rw [Int.toNat_natCast]; exact q _ G H (Nx.refl s) (src_rgP hn)⟩
/-- enumerate -/
def enumL {α : Type} (xs : List α) : List (Int × α) := xs.zipIdx.map fun p => ((p.2 : Int), p.1)
theorem enumL_len {xs : List α} : (enumL xs).length = xs.length := by simp [enumL]
theorem enumL_get {xs : List α} {i : Nat} {p : Int × α} (h : (enumL xs)[i]? = some p) : p.1 = (i : Nat) ∧ xs[i]? = some p.2 := by
  unfold enumL at h
  rw [List.getElem?_map] at h
  obtain ⟨q, hq, e⟩ := Option.map_eq_some_iff.mp h
  rw [List.getElem?_zipIdx] at hq
  obtain ⟨a, ha, e2⟩ := Option.map_eq_some_iff.mp hq
  subst e2; subst e
  exact ⟨by simp, ha⟩
abbrev tEnum (t : Ty α) : Ty (Int × α) := tRecT (TyL.cons tInt (TyL.one t))
theorem enumP {Ok : Hp → Prop} {J : It} {G : Hp} {xs : List α} {vs : List V} {l : Addr} {K : PySem.W.Frag} (hJ : J = Ite K l) (ok : ∀ H', Ok H' → SqL K H' l vs) (r : Reps t G xs vs) (hl : xs.length ≤ mxL) : SrcP J Ok G (tEnum t) (enumL xs) := by
  subst hJ
  refine ⟨fun i H' hi o => ⟨vs, vs[i]'(by rw [enumL_len, r.len] at hi; exact hi), ok H' o, List.getElem?_eq_getElem (by rw [enumL_len, r.len] at hi; exact hi)⟩, fun i H' hi o => ⟨vs, ok H' o, by rw [enumL_len, r.len] at hi; exact hi⟩,
    fun i x v G' H' H'' hx s1 s2 o y => ?_, by rw [enumL_len]; exact hl⟩
  obtain ⟨T, y', e1, e2, e3, e4⟩ := y
  subst e3; subst e1
  obtain ⟨hx1, hx2⟩ := enumL_get hx
  obtain ⟨w, hw, rw'⟩ := (r.up s1).get hx2
  have := e4 vs (ok _ o)
  rw [hw] at this
  cases Option.some.inj this
  exact ⟨_, (Nx.refl s2).newk e2, T, _, rfl, upd_same, V.int x.1, [_], by rw [hx1], rfl, _, rfl, t.up (same_new (s2.free e2)) rw'⟩
theorem IJb.enum {K : PySem.W.Frag} {m : Mir (List α)} (h : EJ RX E Γ te (tBo t) m) : IJb RX E Γ (iEnum K (tCons te tNil)) (tEnum t) (m.bind fun xs => .ret (enumL xs)) := fun H0 G H σ R s s0 e q => h s s0 e (m.mono (fun xs z v G' H' n ⟨l, vs, ev, h1, h2, h3⟩ =>
  ⟨l, vs, by rw [ev], sqL h1, z _ G' H' n (enumP rfl (fun H2 o => sqL (o _ _ h1)) h3 h2)⟩) (fun _ z => z) q)
theorem IJf.enum {K : PySem.W.Frag} {m : Mir (List α)} (h : EJ RX E Γ te (tList t).h m) : IJf RX E Γ (iEnum K (tCons te tNil)) (tEnum t) (m.bind fun xs => .ret (enumL xs)) := fun H0 G H σ R s s0 e q => h s s0 e (m.mono (fun xs z v G' H' n ⟨l, vs, ev, h1, h2, h3⟩ =>
  ⟨l, vs, by rw [ev], sqL (n.h _ _ h1), z _ G' H' n (enumP rfl (fun H2 o => sqL (o.1 _ _ h1)) h3 h2)⟩) (fun _ z => z) q)
/-! ### for -/
theorem SJ.forL {post0 : γ → List Sl} {wi : TI} {g : TG} {tb : TS} {m : Mir (List α)} {s0 : γ} {f : γ → α → Mir (Out γ ρ)} {k : γ → Mir (Out β ρ)} {Γb : γ → α → List Sl} {is : List Nat} (hi : IJf RX E Γ wi t m) (h0 : Weak Γ (post0 s0))
    (hg : ∀ s x, GJ (post0 s) g t x (Γb s x) is) (hb : ∀ s x, SJ RX E (Γb s x) tb post0 rt (f s x)) (hk : ∀ s, SJ RX E (post0 s) tr post rt (k s)) : SJ RX E Γ (tSeq (tFor wi g tb) tr) post rt (m.bind fun xs => (Mir.forL xs s0 f).bindO k) := fun H0 G0 G H σ D N e q => by
  refine hi N.h N.e e (m.mono (fun xs q J G1 H1 n1 S => ?_) (fun _ z => z.k N (Same.refl _)) q)
  have N1 := N.trans n1
  refine ⟨fun i mm σ' H' => mm = xs.length - i ∧ i ≤ xs.length ∧ ∃ s G', Nx G0 H0 G' H' ∧ Same G1 G' ∧ Env H0 G' H' (post0 s) σ' ∧ ((Mir.forL (xs.drop i) s f).bindO k).run (OtK post rt D G0 H0 G) (ErS RX E G0 H0 G), ⟨xs.length, by simp, Nat.zero_le _, s0, G1, N1, Same.refl _, (e.up n1).weak h0, by rw [List.drop_zero]; exact q⟩, ?_⟩
  rintro i mm σ' H' ⟨rfl, hi, s, G', N', s', e', q'⟩
  rcases Nat.lt_or_ge i xs.length with hlt | hge
  · refine .inr ⟨S.go i H' hlt ⟨s'.trans N'.h, N'.e⟩, fun σ2 H2 => ∃ s G', Nx G0 H0 G' H2 ∧ Same G1 G' ∧ Env H0 G' H2 (post0 s) σ2 ∧ ((Mir.forL (xs.drop (i + 1)) s f).bindO k).run (OtK post rt D G0 H0 G) (ErS RX E G0 H0 G), fun σ2 H2 p2 => ⟨xs.length - (i + 1), by omega, rfl, hlt, p2⟩, fun v H'' y => ?_⟩
    have hx : xs[i]? = some (xs[i]) := List.getElem?_eq_getElem hlt
    obtain ⟨G2, n2, rv⟩ := S.yld i _ v G' H' H'' hx s' N'.h ⟨s'.trans N'.h, N'.e⟩ y
    have dr : xs.drop i = xs[i] :: xs.drop (i + 1) := List.drop_eq_getElem_cons hlt
    rw [dr] at q'
    refine hg s xs[i] n2.h (e'.up n2) rv fun σ2 e2 _ => hb s xs[i] (N'.trans n2) e2 ((f s xs[i]).mono (fun o z => ?_) (fun _ z => z.to ((n1.g.trans s').trans n2.g)) q')
    cases o with
    | nx b => exact fun σ3 G3 H3 n3 s3 e3 => ⟨b, G3, n3, (s'.trans n2.g).trans s3, e3, z⟩
    | rt r => exact fun v3 G3 H3 n3 s3 r3 => z v3 G3 H3 n3 (((n1.g.trans s').trans n2.g).trans s3) r3
  · have ei : i = xs.length := by omega
    subst ei
    rw [List.drop_length] at q'
    exact .inl ⟨S.stop _ H' (Nat.le_refl _) ⟨s'.trans N'.h, N'.e⟩, hk s N' e' ((k s).mono (fun _ z => z.to (n1.g.trans s')) (fun _ z => z.to (n1.g.trans s')) q')⟩
/-! ### while -/
theorem SJ.whileM {post0 : γ → List Sl} {tc : TT} {tb : TS} {s0 : γ} {c : γ → Mir Bool} {f : γ → Mir (Out γ ρ)} {k : γ → Mir (Out β ρ)} (h0 : Weak Γ (post0 s0)) (hc : ∀ s, TJ RX E (post0 s) tc (c s)) (hb : ∀ s, SJ RX E (post0 s) tb post0 rt (f s))
    (hk : ∀ s, SJ RX E (post0 s) tr post rt (k s)) : SJ RX E Γ (tSeq (tWhile tc tb) tr) post rt ((Mir.whileM c f s0).bindO k) := fun H0 G0 G H σ D N e q => by
  obtain ⟨n0, q⟩ := q
  let Q' : Out γ ρ → Prop := fun o => (match o with | .nx b => k b | .rt r => Mir.ret (.rt r) : Mir (Out β ρ)).run (OtK post rt D G0 H0 G) (ErS RX E G0 H0 G)
  refine ⟨fun mm σ' H' => ∃ s G', Nx G0 H0 G' H' ∧ Same G G' ∧ Env H0 G' H' (post0 s) σ' ∧ (Mir.whileF c f mm s).run Q' (ErS RX E G0 H0 G), ⟨n0, s0, G, N, Same.refl _, e.weak h0, q⟩, ?_⟩
  rintro mm σ' H' ⟨s, G', N', s', e', q'⟩
  cases mm with
  | zero => exact q'.elim
  | succ mm =>
    refine hc s N'.h N'.e e' ((c s).mono (fun b z G1 H1 n1 => ?_) (fun _ z => z.k N' s') q')
    cases b with
    | true =>
      refine iteT ⟨fun σ2 H2 => ∃ s G', Nx G0 H0 G' H2 ∧ Same G G' ∧ Env H0 G' H2 (post0 s) σ2 ∧ (Mir.whileF c f mm s).run Q' (ErS RX E G0 H0 G), fun σ2 H2 p => ⟨mm, Nat.lt_succ_self _, p⟩, hb s (N'.trans n1) (e'.up n1) ((f s).mono (fun o z => ?_) (fun _ z => z.to (s'.trans n1.g)) z)⟩
      cases o with
      | nx b => exact fun σ3 G3 H3 n3 s3 e3 => ⟨b, G3, n3, (s'.trans n1.g).trans s3, e3, z⟩
      | rt r => exact fun v3 G3 H3 n3 s3 r3 => z v3 G3 H3 n3 ((s'.trans n1.g).trans s3) r3
    | false => exact iteF (hk s (N'.trans n1) (e'.up n1) ((k s).mono (fun _ z => z.to (s'.trans n1.g)) (fun _ z => z.to (s'.trans n1.g)) z))
/-! ### comprehensions -/
def wipeS (Γ : List Sl) : List Nat → List Sl
  | [] => Γ
  | v :: vs => (wipeS Γ vs).set v .any
theorem Env.wipe {H0 G H : Hp} {σ : L2.St} (e : Env H0 G H Γ σ) : ∀ vs : List Nat, Env H0 G H (wipeS Γ vs) (L2.wipe σ vs)
  | [] => e
  | v :: vs => Env.setP (s := .any) (o := none) rfl (fun _ _ => True.intro) v (Env.wipe e vs)
theorem TP.yes : TP Γ tYes true := fun H0 G H σ Q s s0 e q => q G H (Nx.refl s)
theorem LJ.lc {u : Ty γ} {wi : TI} {g : TG} {tt : TT} {te : TE} {vs is : List Nat} {m : Mir (List α)} {p : α → Mir Bool} {f : α → Mir γ} {Γb : α → List Sl} (hi : IJb RX E Γ wi t m) (hg : ∀ x, GJ (wipeS Γ vs) g t x (Γb x) is) (his : ∀ i ∈ is, i ∈ vs)
    (hp : ∀ x, TJ RX E0 (Γb x) tt (p x)) (hf : ∀ x, EJ RX E0 (Γb x) te u.h (f x)) : LJ RX E Γ (tLc wi g tt te vs) u (m.bind fun xs => (Mir.comp xs p f).nox) := fun H0 G H σ Q s s0 e q => by
  refine hi s s0 e (m.mono (fun xs q J G1 H1 n1 S => ?_) (fun _ z => z) q)
  intro D hD
  have gD0 : G1 D = none := n1.h.free hD
  have hD0 : H D = none := n1.e.free hD
  let Fin : List γ → Prop := fun ys => LsK u Q G H ys
  have fal : ∀ {G' H' : Hp} (e : Err), False → ErK RX E0 G' H' e := fun _ z => z.elim
  refine ⟨fun i mm H' => mm = xs.length - i ∧ i ≤ xs.length ∧ ∃ G' L acc, Nx G1 H1 G' H' ∧ H' D = some (.lst L) ∧ G' D = none ∧ Reps u G' acc L ∧ acc.length ≤ i ∧ (Mir.comp (xs.drop i) p f).run (fun ys => Fin (acc ++ ys)) (fun _ => False),
    ⟨xs.length, by simp, Nat.zero_le _, G1, [], [], (Nx.refl n1.h).more (same_new hD), upd_same, gD0, .nil, Nat.le_refl _, by rw [List.drop_zero]; exact q⟩, ?_⟩
  rintro i mm H' ⟨rfl, hi', G', L, acc, n', hL, gD, rL, hacc, q'⟩
  rcases Nat.lt_or_ge i xs.length with hlt | hge
  · refine .inr ⟨S.go i H' hlt n'.e, fun H2 => ∃ G' L acc, Nx G1 H1 G' H2 ∧ H2 D = some (.lst L) ∧ G' D = none ∧ Reps u G' acc L ∧ acc.length ≤ i + 1 ∧ (Mir.comp (xs.drop (i + 1)) p f).run (fun ys => Fin (acc ++ ys)) (fun _ => False), fun H2 p2 => ⟨xs.length - (i + 1), by omega, rfl, hlt, p2⟩, fun v H'' y => ?_⟩
    have hx : xs[i]? = some (xs[i]) := List.getElem?_eq_getElem hlt
    obtain ⟨G2, n2, rv⟩ := S.yld i _ v G' H' H'' hx n'.g n'.h n'.e y
    have dr : xs.drop i = xs[i] :: xs.drop (i + 1) := List.drop_eq_getElem_cons hlt
    rw [dr] at q'
    have n12 := n'.trans n2
    have e2 : Env H0 G2 H'' (wipeS Γ vs) (L2.wipe σ vs) := (e.up (n1.trans n12)).wipe vs
    refine hg xs[i] n2.h e2 rv fun σ2 eb hw => ⟨by rw [hw vs his]; exact wipe_wipe fun i h => h, ?_⟩
    refine hp xs[i] n2.h (s0.trans (n1.e.trans n12.e)) eb ((p xs[i]).mono (fun b z G3 H3 n3 => ?_) fal q')
    have n13 := n12.trans n3
    cases b with
    | false => exact iteF ⟨G3, L, acc, n13, n3.e _ _ (n2.e _ _ hL), n3.hid (n2.e _ _ hL) (n2.hid hL gD), rL.up (n2.g.trans n3.g), by omega, z⟩
    | true =>
      refine iteT (hf xs[i] n3.h (s0.trans (n1.e.trans n13.e)) (eb.up n3) ((f xs[i]).mono (fun y z w G4 H4 n4 rw' => ?_) fal z))
      have n14 := n13.trans n4
      have hL4 := n4.e _ _ (n3.e _ _ (n2.e _ _ hL))
      have gD4 := n4.hid (n3.e _ _ (n2.e _ _ hL)) (n3.hid (n2.e _ _ hL) (n2.hid hL gD))
      refine ⟨L, hL4, szl (by rw [← rL.len]; have := S.len; show acc.length < 100000; have : xs.length ≤ 90000 := S.len; omega), G4, L ++ [w], acc ++ [y], n14.mut hD gD4, upd_same, gD4, Reps.app (rL.up ((n2.g.trans n3.g).trans n4.g)) (.cons rw' .nil), by rw [List.length_append]; simp; exact hacc, ?_⟩
      refine (Mir.comp (xs.drop (i + 1)) p f).mono (fun ys z => ?_) (fun _ z => z) z
      rw [List.append_assoc]
      exact z
  · have ei : i = xs.length := by omega
    subst ei
    rw [List.drop_length] at q'
    have q2 : Fin (acc ++ []) := q'
    rw [List.append_nil] at q2
    exact .inl ⟨S.stop _ H' (Nat.le_refl _) n'.e, q2 D L G' H' (n1.trans n') hL gD hD0 (Nat.le_trans hacc S.len) rL⟩
end
end Ax

/-! Promises told by a mirror; fields, methods, column sets. -/
namespace Ax
open PySem PySem.Spec PyProof.Rows L2 SlX StX
section
variable {α β γ ρ : Type}
def spM (RX : RXT) (A : TyA α) (rt : Rt ρ) (m : α → Mir ρ) : Sp := fun vs H Q E => ∃ (a : α) (G : Hp), Same G H ∧ A.rep a vs G H ∧ (m a).run (fun r => ∀ v G' H', Nx G H G' H' → rt r v H G' H' → Q v H') (ErK RX E G H)
variable {RX : RXT} {E : XK} {Γ : List Sl} {A : TyA α} {m : α → Mir ρ} {te ta : TE} {tl : TA}
theorem CM.fn {t : Ty ρ} : CM RX E (fun vs H Q => spM RX A (rtF t) m vs H Q E) A t.h m := fun G H vs a Q s r q => ⟨a, G, s, r, q⟩
theorem CL.fn {t : Ty γ} {m : α → Mir (List γ)} : CL RX E (fun vs H Q => spM RX A (rtL t) m vs H Q E) A t m := fun G H vs a Q s r q => ⟨a, G, s, r, (m a).mono (fun xs z v G' H' n ⟨l, vs', ev, h1, h2, h3, h4, h5⟩ => by subst ev; exact z l vs' G' H' n h1 h2 h3 h4 h5) (fun _ z => z) q⟩
theorem spM.imp {rt : Rt ρ} {m m' : α → Mir ρ} (h : ∀ a Q E, (m' a).run Q E → (m a).run Q E) {vs : List V} {H : Hp} {Q : VK} {E : XK} (q : spM RX A rt m' vs H Q E) : spM RX A rt m vs H Q E := let ⟨a, G, s, r, q⟩ := q; ⟨a, G, s, r, h a _ _ q⟩
variable {P : Program} {w : World} {K : PySem.W.Frag} {mg : Str → Option Value} {base : Heap} {d : DfX} {f : Addr} {N ps : List Str} {k : Nat}
/-- a def that raises nothing -/
theorem fnM {rt : Rt ρ} {Γ0 : α → List Sl} (F : FunX K d f) (S : FnScope N ps d.scope)
    (hb : ∀ (kV doc pm : Value) (an : Option Addr) (cdv ct : Value) (us : List Value), us.length = ps.length → bindArgs (PySem.W.fnOf d.name d.qual d.params d.body d.scope .none kV doc pm an cdv ct) ⟨us, []⟩ = pure (ps.zip us))
    (len : ∀ {a vs G H}, A.rep a vs G H → vs.length = ps.length) (henv : ∀ {a vs G H}, A.rep a vs G H → Env H G H (Γ0 a) (start N vs))
    (hbody : ∀ (cdv : Value) (Ar : Around) (outer : List PySem.Env) (s : Shared) (H : Hp) (E : XK), Room k (Ar.deeper (envOfC d.qual d.scope s.heap.objs.size f cdv)) →
      ∃ t, PSs (cxOf (L2.CX P w) P w K mg base N d.qual d.scope f cdv Ar outer s H E) d.body t ∧ ∀ a, ∃ M : Mir (Out β ρ), SJ RX E0 (Γ0 a) t noP rt M ∧ m a = M.exit.nox) : FnR P w K mg base (L2.CX P w) (k + 1) f (spM RX A rt m) :=
  fnR_of F S hb (fun vs H Q E ⟨a, G, s, r, q⟩ => len r) fun cdv Ar outer s H vs Q E hr ⟨a, G, hG, r, q⟩ => by
    obtain ⟨t, h1, h2⟩ := hbody cdv Ar outer s H E hr
    obtain ⟨M, h2, hm⟩ := h2 a
    refine ⟨t, h1, h2 (Nx.refl hG) (henv r) ?_⟩
    rw [hm] at q
    refine M.mono (fun o z => ?_) (fun _ z => z.elim) q
    cases o with
    | nx b => exact z.elim
    | rt r => exact fun v G' H' n s r => z v G' H' n r
end
end Ax

/-! Fields, methods; column sets, tables, schemas, in judgements. -/
namespace Ax
open PySem PySem.Spec PyProof.Rows L2 SlX StX
section
variable {RX : RXT} {E : XK} {Γ : List Sl} {α β γ ρ : Type} {K : PySem.W.Frag} {te ta tb : TE} {tl : TA} {tO : Ty α} {t : Ty β} {C : Addr}
def Fld (tO : Ty α) (C : Addr) (f : Str) (t : Ty β) (g : α → β) : Prop := ∀ {o v G}, tO.rep o v G → ∃ a dx fs w, v = .ref a ∧ G a = some (.ins C dx fs) ∧ fs.lookup f = some w ∧ t.rep (g o) w G
def NoF (tO : Ty α) (C : Addr) (m : Str) : Prop := ∀ {o v G}, tO.rep o v G → ∃ a dx fs, v = .ref a ∧ G a = some (.ins C dx fs) ∧ fs.lookup m = none
def InsT (tO : Ty α) (C : Addr) : Prop := ∀ {o v G}, tO.rep o v G → ∃ a dx fs, v = .ref a ∧ G a = some (.ins C dx fs)
theorem PJ.fld {f : Str} {g : α → β} (h : Fld tO C f t g) (c : Cls K C) (na : NoAttr K C f) {o : α} (ho : PJ Γ te tO.h o) : PJ Γ (tFld K te f) t.h (g o) := fun H0 G H σ Q s s0 e q => ho s s0 e fun v G1 H1 n r => by
  obtain ⟨a, dx, fs, w, ev, h1, h2, h3⟩ := h r
  exact ⟨a, C, dx, fs, w, ev, n.h _ _ h1, c, na, h2, q w G1 H1 n h3⟩
theorem EJ.fld {f : Str} {g : α → β} (h : Fld tO C f t g) (c : Cls K C) (na : NoAttr K C f) {m : Mir α} (ho : EJ RX E Γ te tO.h m) : EJ RX E Γ (tFld K te f) t.h (m.bind fun o => .ret (g o)) := fun H0 G H σ Q s s0 e q => ho s s0 e (m.mono (fun o z v G1 H1 n r => by
  obtain ⟨a, dx, fs, w, ev, h1, h2, h3⟩ := h r
  exact ⟨a, C, dx, fs, w, ev, n.h _ _ h1, c, na, h2, z w G1 H1 n h3⟩) (fun _ z => z) q)
/-- o.m(..), by a mirror -/
theorem EJ.meth {mn : Str} {A : TyA γ} {tr : Ty ρ} {mm : α × γ → Mir ρ} (nf : NoF tO C mn) {o : Mir α} {a : Mir γ} (ho : EJ RX E Γ ta tO.h o) (ha : AJ RX E Γ tl A a) :
    EJ RX E Γ (tMethR C mn (spM RX (TyA.cons tO.h A) (rtF tr) mm) E ta tl) tr.h (o.bind fun o => a.bind fun a => mm (o, a)) := fun H0 G H σ Q s s0 e q => ho s s0 e (o.mono (fun o z v G1 H1 n r => by
  obtain ⟨p, dx, fs, ev, h1, h2⟩ := nf r
  refine ⟨p, dx, fs, ev, n.h _ _ h1, h2, ha n.h (s0.trans n.e) (e.up n) (a.mono (fun a z vs G2 H2 n2 ra => ?_) (fun _ z => z.to n) z)⟩
  exact ⟨(o, a), G2, n2.h, ⟨v, vs, rfl, tO.up n2.g r, ra⟩, (mm (o, a)).mono (fun _ z v G3 H3 n3 r3 => z v G3 H3 ((n.trans n2).trans n3) r3) (fun _ z => z.to (n.trans n2)) z⟩) (fun _ z => z) q)
/-- o.m(), by a mirror of self alone -/
theorem EJ.meth0 {mn : Str} {tr : Ty ρ} {mm : α → Mir ρ} (nf : NoF tO C mn) {o : Mir α} (ho : EJ RX E Γ ta tO.h o) :
    EJ RX E Γ (tMethR C mn (spM RX (TyA.one tO.h) (rtF tr) mm) E ta tNil) tr.h (o.bind mm) := fun H0 G H σ Q s s0 e q => ho s s0 e (o.mono (fun o z v G1 H1 n r => by
  obtain ⟨p, dx, fs, ev, h1, h2⟩ := nf r
  exact ⟨p, dx, fs, ev, n.h _ _ h1, h2, o, G1, n.h, ⟨v, rfl, r⟩, (mm o).mono (fun _ z v G3 H3 n3 r3 => z v G3 H3 (n.trans n3) r3) (fun _ z => z.to n) z⟩) (fun _ z => z) q)
/-! ### column sets -/
variable {CC : Addr}
theorem cols_ok {C : Addr} {ns : List Str} {v : V} {G : Hp} (r : (tCols C).rep ns v G) : Ss ns ∧ (∀ x ∈ ns, isNm x = true) ∧ ns.length < 64 := let ⟨_, _, h⟩ := r; ⟨h.ss, h.ok, h.n⟩
theorem nm_len {x : Str} (h : isNm x = true) : x.length ≤ mxL := Nat.le_trans (isNm_iff h).2.2.2 (by decide)
theorem fldCols : Fld (tCols C) C "names" (tTpl tStr) id := fun ⟨a, ev, h⟩ => by
  obtain ⟨dx, u, h1, h2⟩ := h.at_
  exact ⟨a, dx, _, _, ev, h1, rfl, u, _, rfl, h2, Nat.le_trans (Nat.le_of_lt h.n) (by decide), repStrs fun x hx => nm_len (h.ok x hx)⟩
theorem insCols : InsT (tCols C) C := fun ⟨a, ev, h⟩ => let ⟨dx, u, h1, _⟩ := h.at_; ⟨a, dx, _, ev, h1⟩
theorem colsI {G H : Hp} {ns : List Str} {v : V} (s : Same G H) (r : (tCols C).rep ns v G) : ∃ a, v = .ref a ∧ ColsAt C G a ns ∧ Ins H a C := let ⟨a, ev, h⟩ := r; ⟨a, ev, h, cols_ins h s⟩
theorem OpP.colsLe : OpP (rOp C C (spColsLe C) E) (tCols C).h (tCols C).h tBool.h fun a b => a.all fun x => decide (x ∈ b) := fun G H x y a b Q s r1 r2 q => by
  obtain ⟨p, rfl, h1, i1⟩ := colsI s r1
  obtain ⟨p2, rfl, h2, i2⟩ := colsI s r2
  exact ⟨p, p2, rfl, rfl, i1, i2, cl0 (Nx.refl s) ((p, a), p2, b) ⟨rfl, h1, h2⟩ fun v G' H' n _ r => q v G' H' n r⟩
theorem OpP.colsLt : OpP (rOp C C (spColsLt C) E) (tCols C).h (tCols C).h tBool.h fun a b => !decide (a = b) && a.all fun x => decide (x ∈ b) := fun G H x y a b Q s r1 r2 q => by
  obtain ⟨p, rfl, h1, i1⟩ := colsI s r1
  obtain ⟨p2, rfl, h2, i2⟩ := colsI s r2
  exact ⟨p, p2, rfl, rfl, i1, i2, cl0 (Nx.refl s) ((p, a), p2, b) ⟨rfl, h1, h2⟩ fun v G' H' n _ r => q v G' H' n r⟩
theorem OpP.colsEq : OpP (rOp C C (spColsEq C) E) (tCols C).h (tCols C).h tBool.h fun a b => decide (a = b) := fun G H x y a b Q s r1 r2 q => by
  obtain ⟨p, rfl, h1, i1⟩ := colsI s r1
  obtain ⟨p2, rfl, h2, i2⟩ := colsI s r2
  exact ⟨p, p2, rfl, rfl, i1, i2, cl0 (Nx.refl s) ((p, a), p2, b) ⟨rfl, h1, h2⟩ fun v G' H' n _ r => q v G' H' n r⟩
theorem OpP.colsAnd : OpP (rOp C C (spColsAnd C) E) (tCols C).h (tCols C).h (tCols C).h fun a b => cset (a.filter fun x => decide (x ∈ b)) := fun G H x y a b Q s r1 r2 q => by
  obtain ⟨p, rfl, h1, i1⟩ := colsI s r1
  obtain ⟨p2, rfl, h2, i2⟩ := colsI s r2
  exact ⟨p, p2, rfl, rfl, i1, i2, cl0 (Nx.refl s) ((p, a), p2, b) ⟨rfl, h1, h2⟩ fun v G' H' n _ r => q v G' H' n r⟩
theorem OpP.colsSub : OpP (rOp C C (spColsSub C) E) (tCols C).h (tCols C).h (tCols C).h fun a b => cset (a.filter fun x => decide (x ∉ b)) := fun G H x y a b Q s r1 r2 q => by
  obtain ⟨p, rfl, h1, i1⟩ := colsI s r1
  obtain ⟨p2, rfl, h2, i2⟩ := colsI s r2
  exact ⟨p, p2, rfl, rfl, i1, i2, cl0 (Nx.refl s) ((p, a), p2, b) ⟨rfl, h1, h2⟩ fun v G' H' n _ r => q v G' H' n r⟩
theorem nms_app {a b : List Str} {v u : V} {G : Hp} (r1 : (tCols C).rep a v G) (r2 : (tCols C).rep b u G) (h : (cset (a ++ b)).length < 64) : Nms (a ++ b) := by
  obtain ⟨_, o1, l1⟩ := cols_ok r1
  obtain ⟨_, o2, l2⟩ := cols_ok r2
  exact ⟨fun x hx => (List.mem_append.mp hx).elim (o1 x) (o2 x), by rw [List.length_append]; omega, h⟩
theorem OpM.colsOr : OpM RX E (rOp C C (spColsOr C) E) (tCols C).h (tCols C).h (tCols C).h fun a b => .chk ((cset (a ++ b)).length < 64) (.ret (cset (a ++ b))) := fun G H x y a b Q s r1 r2 q => by
  have hn := nms_app r1 r2 q.1
  obtain ⟨p, rfl, h1, i1⟩ := colsI s r1
  obtain ⟨p2, rfl, h2, i2⟩ := colsI s r2
  exact ⟨p, p2, rfl, rfl, i1, i2, cl0 (Nx.refl s) ((p, a), p2, b) ⟨⟨rfl, h1, h2⟩, hn⟩ fun v G' H' n _ r => q.2 v G' H' n r⟩
theorem OpP.colsIn : OpP (rInO C (spColsContains C) E false) tStr.h (tCols C).h tBool.h fun x a => decide (x ∈ a) := fun G H x y a b Q s r1 r2 q => by
  obtain ⟨p2, rfl, h2, i2⟩ := colsI s r2
  obtain ⟨rfl, _⟩ := r1
  exact ⟨p2, rfl, i2, cl0 (Nx.refl s) ((p2, b), a) ⟨rfl, h2⟩ fun v G' H' n _ r => ⟨_, r, q _ G' H' n rfl⟩⟩
theorem OpP.colsNi : OpP (rInO C (spColsContains C) E true) tStr.h (tCols C).h tBool.h fun x a => decide (x ∉ a) := fun G H x y a b Q s r1 r2 q => by
  obtain ⟨p2, rfl, h2, i2⟩ := colsI s r2
  obtain ⟨rfl, _⟩ := r1
  exact ⟨p2, rfl, i2, cl0 (Nx.refl s) ((p2, b), a) ⟨rfl, h2⟩ fun v G' H' n _ r => ⟨_, r, q _ G' H' n (by show V.bl _ = V.bl _; rw [if_pos rfl]; simp)⟩⟩
theorem CP.colsLen : CP (rLenO C (spColsLen C) E) (TyA.one (tCols C).h) tInt.h fun a => (a.length : Int) := fun G H vs a Q s ⟨v, ev, r⟩ q => by
  subst ev
  obtain ⟨p, rfl, h1, i1⟩ := colsI s r
  exact ⟨p, rfl, i1, cl0 (Nx.refl s) (p, a) ⟨rfl, h1⟩ fun v G' H' n _ r => ⟨a.length, r, by have := h1.n; omega, q _ G' H' n rfl⟩⟩
theorem text_len {ns : List Str} (h : ∀ x ∈ ns, isNm x = true) (hl : ns.length < 64) : (Txt.join " " ns).length ≤ mxL := by
  have h1 := join_len (y := " ") (m := 8) fun x hx => (isNm_iff (h x hx)).2.2.2
  have h2 : ns.length * (8 + (" " : Str).length) ≤ 64 * 9 := Nat.mul_le_mul (Nat.le_of_lt hl) (by decide +kernel)
  show _ ≤ 90000
  omega
theorem nofCols {m : Str} (h : (m == ("names" : Str)) = false) : NoF (tCols C) C m := fun ⟨a, ev, h1⟩ => by
  obtain ⟨dx, u, h2, _⟩ := h1.at_
  exact ⟨a, dx, _, ev, h2, by simp [colsF, List.lookup, h]⟩
theorem PJ.colsText {ns : List Str} (h : PJ Γ ta (tCols C).h ns) : PJ Γ (tMethR C "text" (spColsText C) E ta tNil) tStr.h (Txt.join " " ns) := fun H0 G H σ Q s s0 e q => h s s0 e fun v G1 H1 n r => by
  obtain ⟨_, ok, hl⟩ := cols_ok r
  obtain ⟨a, dx, fs, ev, h1, h2⟩ := nofCols (m := "text") (by decide) r
  obtain ⟨p, ep, h3⟩ := r
  rw [ep] at ev; injection ev with ev; subst ev
  refine ⟨p, dx, fs, ep, n.h _ _ h1, h2, ?_⟩
  rw [ep]
  exact cl0 (Nx.refl n.h) (p, ns) ⟨rfl, h3⟩ fun v G' H' n' _ r => q v G' H' (n.trans n') ⟨r, text_len ok hl⟩
/-- Columns(*e) -/
def rMkS (K : PySem.W.Frag) (C : Addr) (sp : Sp) (E : XK) (te : TE) : TE := fun σ H Q => te σ H fun y H1 => ∃ a xs, y = V.ref a ∧ (SqT K H1 a xs ∨ SqL K H1 a xs) ∧ rMk C sp E xs H1 Q
theorem EJ.mkColsL {m : Mir (List Str)} (h : EJ RX E Γ te (tBo tStr) m) : EJ RX E Γ (fun σ H Q => te σ H fun y H1 => ∃ a xs, y = V.ref a ∧ (SqT K H1 a xs ∨ SqL K H1 a xs) ∧ rMk C (spColsInit C) E xs H1 Q) (tCols C).h (m.bind fun ns => .chk (Nms ns) (.ret (cset ns))) := fun H0 G H σ Q s s0 e q =>
  h s s0 e (m.mono (fun ns z v G1 H1 n ⟨l, vs, ev, h1, h2, h3⟩ => ⟨l, vs, ev, .inr (sqL h1), by
    rw [strsR h3]
    exact mk_cols (Nx.refl n.h) ns z.1 fun p G' H' n' _ r => z.2 _ G' H' (n.trans n') ⟨p, rfl, r⟩⟩) (fun _ z => z) q)
theorem EJ.mkColsT {m : Mir (List Str)} (h : EJ RX E Γ te (tTpl tStr).h m) : EJ RX E Γ (fun σ H Q => te σ H fun y H1 => ∃ a xs, y = V.ref a ∧ (SqT K H1 a xs ∨ SqL K H1 a xs) ∧ rMk C (spColsInit C) E xs H1 Q) (tCols C).h (m.bind fun ns => .chk (Nms ns) (.ret (cset ns))) := fun H0 G H σ Q s s0 e q =>
  h s s0 e (m.mono (fun ns z v G1 H1 n ⟨l, vs, ev, h1, h2, h3⟩ => ⟨l, vs, ev, .inl (sqT (n.h _ _ h1)), by
    rw [strsR h3]
    exact mk_cols (Nx.refl n.h) ns z.1 fun p G' H' n' _ r => z.2 _ G' H' (n.trans n') ⟨p, rfl, r⟩⟩) (fun _ z => z) q)
/-- Columns.read(e) -/
def readC (x : Str) : Mir (List Str) := ⟨fun Q _ => ∃ ns, x = Txt.join " " ns ∧ Nms ns ∧ Q (cset ns), fun h _ ⟨ns, e, o, q⟩ => ⟨ns, e, o, h _ q⟩⟩
theorem EJ.colsRead {to : TE} {m : Mir Str} (hC : ∀ σ H Q, Q (.ref C) H → to σ H Q) (h : EJ RX E Γ te tStr.h m) : EJ RX E Γ (ClX.tCMeth C (spColsRead C) E to (tCons te tNil)) (tCols C).h (m.bind readC) := fun H0 G H σ Q s s0 e q =>
by
  unfold ClX.tCMeth
  refine hC σ H _ ?_
  refine ⟨rfl, ?_⟩
  show te σ H (fun x H1 => spColsRead C [.ref C, x] H1 Q E)
  refine h s s0 e (m.mono (fun x z v G1 H1 n r => ?_) (fun _ z => z) q)
  obtain ⟨rfl, _⟩ := r
  obtain ⟨ns, ex, hn, z⟩ := z
  subst ex
  exact cl0 (Nx.refl n.h) ns ⟨rfl, hn⟩ fun v G' H' n' _ ⟨p, ep, r⟩ => z v G' H' (n.trans n') ⟨p, ep, r⟩
theorem tC_ref {a : Addr} : ∀ (σ : L2.St) H Q, Q (.ref a) H → tC (.ref a) σ H Q := fun _ _ _ q => q
/-- for x in a column set -/
theorem IJf.cols {m : Mir (List Str)} (h : EJ RX E Γ te (tCols C).h m) : IJf RX E Γ (iOwn C (ItCols C) K te) tStr m := fun H0 G H σ R s s0 e q => h s s0 e (m.mono (fun ns z v G' H' n r => by
  obtain ⟨a, ev, h1⟩ := r
  obtain ⟨dx, u, h2, h3⟩ := h1.at_
  refine ⟨a, u, ev, ⟨dx, _, n.h _ _ h2⟩, ⟨dx, _, n.h _ _ h2, n.h _ _ h3⟩, z _ G' H' n ⟨fun i H' hi o => ⟨_, _, sqT (o.1 _ _ h3), List.getElem?_eq_getElem (by rw [List.length_map]; exact hi)⟩, fun i H' hi o => ⟨_, sqT (o.1 _ _ h3), by rw [List.length_map]; exact hi⟩,
    fun i x v G' H' H'' hx s1 s2 o y => ?_, Nat.le_trans (Nat.le_of_lt h1.n) (by decide)⟩⟩
  obtain ⟨e, y⟩ := y
  subst e
  have := y _ (sqT (o.1 _ _ h3))
  rw [List.getElem?_map, hx] at this
  cases Option.some.inj this
  exact ⟨G', Nx.refl s2, rfl, nm_len (h1.ok x (List.mem_of_getElem? hx))⟩) (fun _ z => z) q)
/-! ### tables, schemas -/
end
section
variable {α β : Type}
def tTbl (C CC : Addr) : Ty Tbl := ⟨fun T v G => ∃ a dx n ts c ks, v = .ref a ∧ G a = some (.ins C dx [("name", n), ("names", ts), ("columns", c), ("key_sets", ks)]) ∧ tStr.rep T.name n G ∧ (tTpl tStr).rep T.names ts G ∧ (tCols CC).rep T.cols c G ∧ (tTpl (tCols CC)).rep T.keys ks G,
  fun s ⟨a, dx, n, ts, c, ks, e, h, h1, h2, h3, h4⟩ => ⟨a, dx, n, ts, c, ks, e, s _ _ h, tStr.up s h1, (tTpl tStr).up s h2, (tCols CC).up s h3, (tTpl (tCols CC)).up s h4⟩⟩
def tSch (C CT CC : Addr) : Ty Sch := ⟨fun T v G => ∃ a dx ts n c, v = .ref a ∧ G a = some (.ins C dx [("tables", ts), ("names", n), ("columns", c)]) ∧ (tTpl (tTbl CT CC)).rep T.tables ts G ∧ (tTpl tStr).rep T.names n G ∧ (tCols CC).rep T.cols c G,
  fun s ⟨a, dx, ts, n, c, e, h, h1, h2, h3⟩ => ⟨a, dx, ts, n, c, e, s _ _ h, (tTpl (tTbl CT CC)).up s h1, (tTpl tStr).up s h2, (tCols CC).up s h3⟩⟩
variable {C CT CC : Addr}
theorem fldTblName : Fld (tTbl C CC) C "name" tStr Tbl.name := fun ⟨a, dx, n, ts, c, ks, e, h, h1, h2, h3, h4⟩ => ⟨a, dx, _, n, e, h, rfl, h1⟩
theorem fldTblNames : Fld (tTbl C CC) C "names" (tTpl tStr) Tbl.names := fun ⟨a, dx, n, ts, c, ks, e, h, h1, h2, h3, h4⟩ => ⟨a, dx, _, ts, e, h, rfl, h2⟩
theorem fldTblCols : Fld (tTbl C CC) C "columns" (tCols CC) Tbl.cols := fun ⟨a, dx, n, ts, c, ks, e, h, h1, h2, h3, h4⟩ => ⟨a, dx, _, c, e, h, rfl, h3⟩
theorem fldTblKeys : Fld (tTbl C CC) C "key_sets" (tTpl (tCols CC)) Tbl.keys := fun ⟨a, dx, n, ts, c, ks, e, h, h1, h2, h3, h4⟩ => ⟨a, dx, _, ks, e, h, rfl, h4⟩
theorem insTbl : InsT (tTbl C CC) C := fun ⟨a, dx, n, ts, c, ks, e, h, _⟩ => ⟨a, dx, _, e, h⟩
theorem fldSchTables : Fld (tSch C CT CC) C "tables" (tTpl (tTbl CT CC)) Sch.tables := fun ⟨a, dx, ts, n, c, e, h, h1, h2, h3⟩ => ⟨a, dx, _, ts, e, h, rfl, h1⟩
theorem fldSchNames : Fld (tSch C CT CC) C "names" (tTpl tStr) Sch.names := fun ⟨a, dx, ts, n, c, e, h, h1, h2, h3⟩ => ⟨a, dx, _, n, e, h, rfl, h2⟩
theorem fldSchCols : Fld (tSch C CT CC) C "columns" (tCols CC) Sch.cols := fun ⟨a, dx, ts, n, c, e, h, h1, h2, h3⟩ => ⟨a, dx, _, c, e, h, rfl, h3⟩
theorem insSch : InsT (tSch C CT CC) C := fun ⟨a, dx, ts, n, c, e, h, _⟩ => ⟨a, dx, _, e, h⟩
theorem nofTbl {m : Str} (h : (m == ("name" : Str)) = false ∧ (m == ("names" : Str)) = false ∧ (m == ("columns" : Str)) = false ∧ (m == ("key_sets" : Str)) = false) : NoF (tTbl C CC) C m := fun ⟨a, dx, n, ts, c, ks, e, h1, _⟩ =>
  ⟨a, dx, _, e, h1, by simp [List.lookup, h.1, h.2.1, h.2.2.1, h.2.2.2]⟩
theorem nofSch {m : Str} (h : (m == ("tables" : Str)) = false ∧ (m == ("names" : Str)) = false ∧ (m == ("columns" : Str)) = false) : NoF (tSch C CT CC) C m := fun ⟨a, dx, ts, n, c, e, h1, _⟩ =>
  ⟨a, dx, _, e, h1, by simp [List.lookup, h.1, h.2.1, h.2.2]⟩
abbrev schF (ts n c : V) : List (Str × V) := [("tables", ts), ("names", n), ("columns", c)]
abbrev ItSch (C : Addr) : Addr → Hp → Addr → Prop := fun a H t => ∃ dx n c zs, H a = some (.ins C dx (schF (.ref t) n c)) ∧ H t = some (.tup zs)
variable {RX : RXT} {E : XK} {Γ : List Sl} {K : PySem.W.Frag} {te : TE}
theorem IJf.sch {m : Mir Sch} (h : EJ RX E Γ te (tSch C CT CC).h m) : IJf RX E Γ (iOwn C (ItSch C) K te) (tTbl CT CC) (m.bind fun S => .ret S.tables) := fun H0 G H σ R s s0 e q => h s s0 e (m.mono (fun S z v G' H' n r => by
  obtain ⟨a, dx, ts, nn, c, ev, h1, ⟨l, vs, ets, h3, h4, h5⟩, _, _⟩ := r
  subst ets
  refine ⟨a, l, ev, ⟨dx, _, n.h _ _ h1⟩, ⟨dx, nn, c, vs, n.h _ _ h1, n.h _ _ h3⟩, z _ G' H' n ⟨fun i H' hi o => ⟨vs, vs[i]'(by rw [← h5.len]; exact hi), sqT (o.1 _ _ h3), List.getElem?_eq_getElem (by rw [← h5.len]; exact hi)⟩, fun i H' hi o => ⟨vs, sqT (o.1 _ _ h3), by rw [← h5.len]; exact hi⟩,
    fun i x v G' H' H'' hx s1 s2 o y => ?_, h4⟩⟩
  obtain ⟨e, y⟩ := y
  subst e
  obtain ⟨w, hw, rw'⟩ := (h5.up s1).get hx
  have := y vs (sqT (o.1 _ _ h3))
  rw [hw] at this
  cases Option.some.inj this
  exact ⟨G', Nx.refl s2, rw'⟩) (fun _ z => z) q)
end
end Ax

/-! The words that the printer writes in a mirror; the last rules. -/
namespace Ax
open PySem PySem.Spec PyProof.Rows L2 SlX StX
section
variable {α β γ ρ : Type}
def mOr (a b : List Str) : Mir (List Str) := .chk ((cset (a ++ b)).length < 64) (.ret (cset (a ++ b)))
def pAnd (a b : List Str) : List Str := cset (a.filter fun x => decide (x ∈ b))
def pSub (a b : List Str) : List Str := cset (a.filter fun x => decide (x ∉ b))
def pLe (a b : List Str) : Bool := a.all fun x => decide (x ∈ b)
def pLt (a b : List Str) : Bool := !decide (a = b) && a.all fun x => decide (x ∈ b)
def mAdds (a b : Str) : Mir Str := .chk (a.length + b.length ≤ mxL) (.ret (a ++ b))
def mCat (a b : List α) : Mir (List α) := .chk (a.length + b.length ≤ mxL) (.ret (a ++ b))
def mMul (a b : Int) : Mir Int := .chk (CMul a b) (.ret (a * b))
def mDiv (a b : Int) : Mir Int := .chk (CDiv a b) (.ret (a / b))
def mMod (a b : Int) : Mir Int := .chk (0 < b) (.ret (a % b))
def mPow (a b : Int) : Mir Int := .chk (CPow a b) (.ret (a ^ b.toNat))
def mSgn (z : Str) (i : Int) : Mir Str := (Mir.get z.cps.toList i).bind fun c => .ret (sgn c)
def mRng (n : Int) : Mir (List Int) := .chk (-(2 ^ 62) ≤ n ∧ n ≤ 90000) (.ret (rangeL 0 n.toNat))
def mStr (i : Int) : Mir Str := .chk (i.natAbs.log2 < 1920 ∧ (toString i : Str).length ≤ mxL) (.ret (toString i))
def mSort (xs : List Str) : Mir (List Str) := .chk (xs.length < 64) (.ret (ssort xs))
def mJoin (a : Str) (ys : List Str) : Mir Str := .chk (jnOk a ys) (.ret (Txt.join a ys))
def mSplit (a b : Str) : Mir (List Str) := .chk ((Txt.split a b).length ≤ mxL ∧ ∀ x ∈ Txt.split a b, x.length ≤ mxL) (.ret (Txt.split a b))
def mCols (ns : List Str) : Mir (List Str) := .chk (Nms ns) (.ret (cset ns))
def mApp (xs : List α) (y : α) (f : List α → Mir β) : Mir β := .chk (xs.length < mxL) (f (xs ++ [y]))
def mExt (xs ys : List α) (f : List α → Mir β) : Mir β := .chk (xs.length + ys.length ≤ mxL) (f (xs ++ ys))
def mIns (xs : List α) (i : Int) (y : α) (f : List α → Mir β) : Mir β := .chk (xs.length < mxL ∧ 0 ≤ i ∧ i < 2 ^ 63) (f (insAt xs i y))
def mSet (xs : List α) (i : Int) (y : α) (f : List α → Mir β) : Mir β := .chk ((ixN xs.length i).isSome) (f (xs.set ((ixN xs.length i).getD 0) y))
theorem comp_pure (xs : List α) (p : α → Bool) (f : α → β) : Mir.comp xs (fun x => .ret (p x)) (fun x => .ret (f x)) = .ret ((xs.filter p).map f) := by
  induction xs with
  | nil => rfl
  | cons x xs ih =>
    show Mir.ifB (p x) _ _ = _
    rw [ih, List.filter_cons]
    cases p x <;> rfl
variable {RX : RXT} {E : XK} {Γ : List Sl} {K : PySem.W.Frag} {t : Ty α} {u : Ty γ} {te : TE} {tl : TA}
theorem LP.lcP {wi : TI} {g : TG} {tt : TT} {te : TE} {vs is : List Nat} {xs : List α} {p : α → Bool} {f : α → γ} {Γb : α → List Sl} (hi : IJb (fun _ _ _ _ => False) E0 Γ wi t (.ret xs)) (hg : ∀ x, GJ (wipeS Γ vs) g t x (Γb x) is) (his : ∀ i ∈ is, i ∈ vs)
    (hp : ∀ x, TP (Γb x) tt (p x)) (hf : ∀ x, PJ (Γb x) te u.h (f x)) : LP Γ (tLc wi g tt te vs) u ((xs.filter p).map f) := fun H0 G H σ Q s s0 e q => by
  have z := LJ.lc (p := fun x => .ret (p x)) (f := fun x => .ret (f x)) hi hg his (fun x => (hp x).e) (fun x => (hf x).e) s s0 e (Q := Q)
  refine z ?_
  show (Mir.comp xs (fun x => .ret (p x)) (fun x => .ret (f x))).run _ _
  rw [comp_pure]
  exact q
theorem LP.lcA {wi : TI} {g : TG} {te : TE} {vs is : List Nat} {xs : List α} {f : α → γ} {Γb : α → List Sl} (hi : IJb (fun _ _ _ _ => False) E0 Γ wi t (.ret xs)) (hg : ∀ x, GJ (wipeS Γ vs) g t x (Γb x) is) (his : ∀ i ∈ is, i ∈ vs)
    (hf : ∀ x, PJ (Γb x) te u.h (f x)) : LP Γ (tLc wi g tYes te vs) u (xs.map f) := by
  have z := LP.lcP (p := fun _ => true) hi hg his (fun x => TP.yes) hf
  rw [List.filter_eq_self.mpr fun _ _ => rfl] at z
  exact z
theorem LP.lcF {wi : TI} {g : TG} {tt : TT} {te : TE} {vs is : List Nat} {xs : List α} {p : α → Bool} {Γb : α → List Sl} (hi : IJb (fun _ _ _ _ => False) E0 Γ wi t (.ret xs)) (hg : ∀ x, GJ (wipeS Γ vs) g t x (Γb x) is) (his : ∀ i ∈ is, i ∈ vs)
    (hp : ∀ x, TP (Γb x) tt (p x)) (hf : ∀ x, PJ (Γb x) te t.h x) : LP Γ (tLc wi g tt te vs) t (xs.filter p) := by
  have z := LP.lcP (f := fun x => x) hi hg his hp hf
  rw [List.map_id'] at z
  exact z
theorem nn_str : tStr.nn := fun a v G h e => by obtain ⟨h, _⟩ := h; rw [h] at e; cases e
theorem nn_int : tInt.nn := fun a v G h e => by cases (show v = .int a from h); cases e
theorem nn_bool : tBool.nn := fun a v G h e => by cases (show v = .bl a from h); cases e
theorem nn_ref {t : Ty α} (h : ∀ {a v G}, t.rep a v G → ∃ p, v = .ref p) : t.nn := fun a v G r e => by obtain ⟨p, h⟩ := h r; rw [h] at e; cases e
theorem nn_list : (tList t).nn := nn_ref fun ⟨a, vs, e, _⟩ => ⟨a, e⟩
theorem nn_tup : (tTpl t).nn := nn_ref fun ⟨a, vs, e, _⟩ => ⟨a, e⟩
theorem nn_recL {l : TyL α} : (tRecL l).nn := nn_ref fun ⟨a, vs, e, _⟩ => ⟨a, e⟩
theorem nn_recT {l : TyL α} : (tRecT l).nn := nn_ref fun ⟨a, vs, e, _⟩ => ⟨a, e⟩
theorem nn_cols {C : Addr} : (tCols C).nn := nn_ref fun ⟨a, e, _⟩ => ⟨a, e⟩
theorem nn_tbl {C D : Addr} : (tTbl C D).nn := nn_ref fun ⟨a, dx, n, ts, c, ks, e, _⟩ => ⟨a, e⟩
theorem nn_sch {B C D : Addr} : (tSch B C D).nn := nn_ref fun ⟨a, dx, ts, n, c, e, _⟩ => ⟨a, e⟩
/-- a draw -/
theorem CM.draw : CM RX E (fun vs H Q => spDraw vs H Q E) (TyA.cons tPool.h (TyA.one tInt.h)) tInt.h fun p => .draw p.2 := fun G H vs a Q s ⟨v, r, e, ⟨p, ep, hp⟩, w, e2, ew⟩ q => by
  subst e2; subst e; subst ep
  cases (show w = V.int a.2 from ew)
  exact cl0 (Nx.refl s) (p, a.2) ⟨rfl, hp, q.1⟩ fun v G' H' n _ ⟨k, ek, h1, h2⟩ => q.2 k h1 h2 v G' H' n ek
def tScr (K : PySem.W.Frag) : Ty (List Int) := ⟨fun ns v G => ∃ a, v = .ref a ∧ SqL K G a (ns.map V.int) ∧ ns.length ≤ 63, fun s ⟨a, e, h, l⟩ => ⟨a, e, Same.seqL s h, l⟩⟩
theorem CM.pool : CM RX E (fun vs H Q => spPool (K := K) (fun _ ns => ns.length ≤ 63) vs H Q E) (TyA.one (tScr K).h) tPool.h fun _ => .ret () := fun G H vs a Q s ⟨v, e, p, ep, h, hl⟩ q => by
  subst e; subst ep
  exact cl0 (Nx.refl s) (p, a) ⟨rfl, h, hl⟩ fun v G' H' n _ r => q v G' H' n r
/-! isinstance -/
def TyS (K : PySem.W.Frag) (t : TyH α) (T : String) : Prop := ∀ {a v G H}, Same G H → t.rep a v G H → TyX K H v (.type T)
theorem ty_int : TyS K tInt.h "int" := fun s h => by cases h; exact .base (.int _)
theorem ty_bool : TyS K tBool.h "bool" := fun s h => by cases h; exact .base (.bl _)
theorem ty_str : TyS K tStr.h "str" := fun s h => by obtain ⟨h, _⟩ := h; cases h; exact .base (.str _)
theorem ty_tup : TyS K (tTpl t).h "tuple" := fun s ⟨a, vs, e, h, _⟩ => by subst e; exact .base (.tup (s _ _ h))
theorem ty_recT {l : TyL α} : TyS K (tRecT l).h "tuple" := fun s ⟨a, vs, e, h, _⟩ => by subst e; exact .base (.tup (s _ _ h))
theorem ty_list : TyS K (tList t).h "list" := fun s ⟨a, vs, e, h, _⟩ => by subst e; exact .base (.lst (s _ _ h))
theorem ty_recL {l : TyL α} : TyS K (tRecL l).h "list" := fun s ⟨a, vs, e, h, _⟩ => by subst e; exact .base (.lst (s _ _ h))
theorem ty_bor : TyS K (tBo t) "list" := fun s ⟨a, vs, e, h, _⟩ => by subst e; exact .base (.lst h)
theorem PJ.isiB {T U : String} {b : Bool} {a : α} {t : TyH α} (hT : TyS K t T) (hk : PySem.W.kitOne K (.type T) (.type U) = Option.some b) (h : PJ Γ te t a) : PJ Γ (tCB (rIsi K) (tCons te (tCons (tC (.ty U)) tNil))) tBool.h b := fun H0 G H σ Q s s0 e q =>
  h s s0 e fun v G1 H1 n r => ⟨_, _, _, _, b, rfl, .ty U, hT n.h r, hk, q _ G1 H1 n rfl⟩
theorem PJ.isiO {C : Addr} {a : α} (hI : InsT t C) (hT : TyI K C) (hk : PySem.W.kitOne K (.ref C) (.ref C) = Option.some true) (h : PJ Γ te t.h a) : PJ Γ (tCB (rIsi K) (tCons te (tCons (tC (.ref C)) tNil))) tBool.h true := fun H0 G H σ Q s s0 e q =>
  h s s0 e fun v G1 H1 n r => by
    obtain ⟨p, dx, fs, ev, h1⟩ := hI r
    subst ev
    exact ⟨_, _, _, _, true, rfl, .own C, hT (n.h _ _ h1), hk, q _ G1 H1 n rfl⟩
end
section
variable {X : Cx} {K : PySem.W.Frag} (hK : X.K = K)
include hK
theorem cr_sortedSK : CallR X (.builtin "sorted") (rSortedS K) := hK ▸ cr_sortedS
theorem cr_sumK (hc : X.calm = true) : CallR X (.builtin "sum") (rSum K) := hK ▸ cr_sum hc
theorem sl_tupK : SlR X (rSlA K) := hK ▸ sl_tupA
theorem pi_enumK {e : Expr} {ta : TA} {p pos tpos : Pos} {elts : List Expr} {kk : Nat} (hg : Gl X "enumerate") (hm : X.mg "enumerate" = none) (ha : PA X [e] ta) (hs : starEach [e] X.env = [(false, eval e X.env)] := by rfl) :
    PI X (.Tuple elts kk tpos) (.Call (.Name "enumerate" p) [e] [] pos) (iEnum K ta) := hK ▸ pi_enum hg hm ha hs
end
abbrev rStrS : List V → Hp → VK → Prop := fun xs H Q => ∃ a, xs = [.str a] ∧ Q (.str a) H
theorem CP.strS : CP rStrS (TyA.one tStr.h) tStr.h fun x => x := fun G H vs a Q s ⟨v, e, ev, hl⟩ q => by
  subst e; subst ev
  exact ⟨a, rfl, q _ G H (Nx.refl s) ⟨rfl, hl⟩⟩
/-! the law -/
section
variable {P : Program} {w : World} {K : PySem.W.Frag} {mg : Str → Option Value} {base : Heap} {d : DfX} {fa : Addr} {fd : FuncData} {N : List Str} {k : Nat} {β : Type}
theorem lawM {RX : RXT} {Γ0 : List Int → List Sl} {m : Mir Bool} (F : FunD K d.name d.qual d.params d.body d.scope [] [] fa fd) (S : FnScope N ["_law_script"] d.scope)
    (henv : ∀ {ns : List Int} {a : Addr} {G H : Hp}, SqL K G a (ns.map V.int) → ns.length ≤ 63 → Env H G H (Γ0 ns) (start N [.ref a])) (hm : m.run (fun r => r = true) fun _ => False)
    (hbody : ∀ (cdv : Value) (Ar : Around) (outer : List PySem.Env) (s : Shared) (H : Hp) (E : XK), Room k (Ar.deeper (envOfC d.qual d.scope s.heap.objs.size fa cdv)) →
      ∃ t, PSs (cxOf (L2.CX P w) P w K mg base N d.qual d.scope fa cdv Ar outer s H E) d.body t ∧ ∀ ns, ∃ M : Mir (Out β Bool), SJ RX E0 (Γ0 ns) t noP (rtF tBool) M ∧ m = M.exit.nox) : FnOk P w K mg base (L2.CX P w) (k + 1) fa fd ["_law_script"] (spLaw K) :=
  F.ok S (spX_len fun a vs G h => by rw [h.1]; rfl) fun cdv A outer s H vs Q E hr hsp => by
    obtain ⟨⟨a, ns⟩, G, hG, ⟨rfl, ha, hl, _⟩, hQ, _⟩ := hsp
    obtain ⟨t, h1, h2⟩ := hbody cdv A outer s H E hr
    obtain ⟨M, h3, em⟩ := h2 ns
    rw [em] at hm
    refine ⟨t, h1, h3 (Nx.refl hG) (henv ha hl) (M.mono (fun o z => ?_) (fun _ z => z.elim) hm)⟩
    cases o with
    | nx b => exact z.elim
    | rt r => exact fun v G' H' n s rv => hQ v G' H' n (by cases (show v = .bl r from rv); rw [show r = true from z])
end
end Ax
namespace Ax
open PySem PySem.Spec PyProof.Rows L2
theorem lookup_relabel {env : PySem.Env} {k : ScopeKind} {b c : Bool} {mo : List (Str × Const)} : ∀ {names : List (Str × NameKind)} {x : Str}, names.lookup x = some .cell ∨ names.lookup x = some .free → (relabel ⟨k, names, b, c, mo⟩ env).names.lookup x = some .cell ∨ (relabel ⟨k, names, b, c, mo⟩ env).names.lookup x = some .free := by
  intro names x h
  unfold relabel
  simp only
  induction names with
  | nil => simp at h
  | cons p r ih =>
    obtain ⟨n, q⟩ := p
    simp only [List.map_cons]
    rw [List.lookup_cons] at h
    by_cases e : x == n
    · rw [e] at h
      simp only at h
      split
      · rw [List.lookup_cons, e]; exact .inl rfl
      · rw [List.lookup_cons, e]; exact h
    · have e' : (x == n) = false := by simpa using e
      rw [e'] at h
      simp only at h
      split
      · rw [List.lookup_cons, e']; exact ih h
      · rw [List.lookup_cons, e']; exact ih h
theorem blkOk_nest {N : List Str} {sc scope : Scope} {env : PySem.Env} {own : List (Str × Nat)} (h : blkC N sc scope own = true) : BlkOk N (relabel sc env) scope own := by
  have z := blkOk_by h
  exact ⟨z.kind, z.uniq, z.ix, fun y hy e => by cases sc; exact lookup_relabel (z.free y hy e), z.own⟩
end Ax

/-! head, *rest = xs; star arguments; texts put together. -/
namespace Ax
open PySem PySem.Spec PyProof.Rows L2 SlX StX
/-- a, *b = a list with one item or more -/
def gStar1 (K : PySem.W.Frag) (t : TGs) : TG := fun v σ H Q => ∃ a x xs, v = .ref a ∧ SqL K H a (x :: xs) ∧ xs.length ≤ 16000 ∧ ∀ D, H D = none → t [x, .ref D] σ (upd H D (.lst xs)) Q
theorem unpack_star1 {X : Cx} {pins : List (Addr × Obj)} {σ : L2.St} {H : Hp} {s : Shared} {a : Addr} {x : V} {xs : List V} {Q : List Value → Shared → Prop} (hc : X.calm = true) (I : Inv X pins σ H s) (hq : SqL X.K H a (x :: xs)) (hz : xs.length ≤ 16000)
    (h : ∀ D us s', H D = none → Inv X pins σ (upd H D (.lst xs)) s' → Vals [x, .ref D] us → Q us s') : wpAny (model X.prog X.w) X.A (unpackItems (.ref a) 2 (some 1)) Q X.xe s := by
  obtain ⟨its, rv, pl, hsz⟩ := I.list hq
  have hl := pl.isList
  have hlen : its.length = xs.length + 1 := rv.length.symm
  have hlt : a ≠ s.heap.objs.size := by obtain ⟨o, ho, _⟩ := hl; exact Nat.ne_of_lt (Heap.lt_size ho)
  unfold unpackItems
  refine wpAny_bind ?_
  unfold notIterableAtAll
  refine wpAny_bind (wpAny_specialOf hl.typeIs slot_list_iter.lookup ?_)
  refine wpAny_pure ?_
  simp only [Bool.false_eq_true, if_false]
  refine wpAny_bind (wpAny_holding (wpAny_pyIter_list hl ?_))
  refine wpAny_bind (wpAny_holding (PySem.W.kun_draw hlt 1 0 _ _ ⟨_, Heap.get?_push_size _ rfl, rfl, rfl⟩ (hl.push _) (by rw [List.size_toArray]; omega) fun h₁ hit₁ hs₁ => ?_))
  have hl₁ : h₁.IsList a its.toArray := (hl.push _).extBut hs₁.extBut hlt
  rw [Nat.zero_add] at hit₁
  have hit₁' := hit₁
  obtain ⟨oi, hoi, _⟩ := hit₁'
  have hl₁' := hl₁
  obtain ⟨ol, hol, _⟩ := hl₁'
  rw [List.drop_zero]
  have hfl : (its.toArray.toList.take 1).length = 1 := by rw [List.length_take]; simp; omega
  rw [if_neg (show ¬ ((its.toArray.toList.take 1).length < 1) by rw [hfl]; omega)]
  refine wpAny_bind (wpAny_holding (PySem.W.kun_collect (s := { s with heap := h₁ }) (T := "list_iterator") (.inr (.inr (.inl rfl))) (Walks.list (A := X.A.in1) (I.ok.hd hc) s.heap.objs.size a hlt its.toArray) (fun j u st => st.1.typeIs) (k := 1) (by rw [List.size_toArray]; omega) ⟨hit₁, hl₁⟩ (Heap.lt_size hoi) (Heap.lt_size hol) (fun h₂ tk hk => ?_)
    (by rw [List.size_toArray, hlen, sizeLine_eq]; omega)))
  have hrl : (its.toArray.toList.drop 1).length = xs.length := by rw [List.length_drop]; simp; omega
  show wpAny _ _ (if (its.toArray.toList.drop 1).length < 0 then _ else _) _ _ _
  rw [if_neg (by omega)]
  show wpAny _ _ (newList ((its.toArray.toList.drop 1).take ((its.toArray.toList.drop 1).length - 0)) >>= fun d => pure (its.toArray.toList.take 1 ++ [d] ++ (its.toArray.toList.drop 1).drop ((its.toArray.toList.drop 1).length - 0))) _ _ _
  rw [Nat.sub_zero, List.take_length, List.drop_length]
  have he : Heap.ExtBut s.heap.objs.size s.heap h₂ := fun b o hb e => hk b o hb (hs₁.extBut b o hb (Heap.get?_push_of_some _ e))
  have I1 : Inv X pins σ H { s with heap := h₂, toks := tk } := I.kept (t' := tk) fun b o e => he b o (Nat.ne_of_lt (Heap.lt_size e)) e
  cases rv with
  | @cons _ u _ us ru rus =>
    refine wpAny_bind (wpAny_newList (wpAny_pure (h h₂.objs.size _ _ (I1.hok.fresh (Nat.le_refl _)) (I1.laid (t' := tk) (fun b u e => Heap.get?_push_of_some _ e) (Nat.le_refl _) ?_) (.cons ru (.cons rfl .nil)))) (by simp; rw [← rus.length, sizeLine_eq]; omega))
    exact ⟨by rw [sizeLine_eq]; omega, us, 0, rus, Heap.get?_push_size _ rfl⟩
theorem pg_star1 {X : Cx} {K : PySem.W.Frag} {k : Nat} {pos : Pos} {t : TGs} (hK : X.K = K) (hc : X.calm = true) {e1 e2 : Expr} {p2 : Pos} (h : PGs X [e1, e2] t) (h1 : assignEach [e1, .Starred e2 p2] X.env = [(false, assign e1 X.env), (true, assign e2 X.env)] := by rfl)
    (h2 : (assignEach [e1, e2] X.env).map (·.2) = [assign e1 X.env, assign e2 X.env] := by rfl) : PG X (.Tuple [e1, .Starred e2 p2] k pos) (gStar1 K t) := by
  subst hK
  refine ⟨fun pins s σ H v u Q I r hw => ?_⟩
  obtain ⟨a, x, xs, e, hq, hz, hw⟩ := hw
  subst e
  cases r
  rw [assign_Tuple]
  refine wpAny_bind (wpAny_standAt ?_)
  unfold unpack
  rw [h1]
  refine wpAny_bind (wpAny_holding (unpack_star1 hc I hq hz fun D us s' hD I' rv => ?_))
  have z := h.run pins s' σ _ _ us Q I' rv (hw D hD)
  rw [h2] at z
  exact z
section
variable {RX : RXT} {E : XK} {Γ : List Sl} {α β γ ρ : Type} {K : PySem.W.Frag} {te : TE} {tl : TA} {t : Ty α} {post : β → List Sl} {rt : Rt ρ} {tr : TS}
/-- a, *b = a list -/
def mHead (xs : List α) (f : α → List α → Mir β) : Mir β := ⟨fun Q E => ∃ x r, xs = x :: r ∧ r.length ≤ 16000 ∧ (f x r).run Q E, fun h h' ⟨x, r, e, l, q⟩ => ⟨x, r, e, l, (f x r).mono h h' q⟩⟩
theorem SJ.star1 {m : Mir (List α)} {i j : Nat} {f : α → List α → Mir (Out β ρ)} (h : EJ RX E Γ te (tBo t) m) (k : ∀ x r, SJ RX E ((Γ.set i (.fz t x)).set j (.fz (tList t) r)) tr post rt (f x r)) :
    SJ RX E Γ (tSeq (tAsg te (gStar1 K (gCons (gName i) (gCons (gName j) gNil)))) tr) post rt (m.bind fun xs => mHead xs f) := fun H0 G0 G H σ D N e q =>
  h N.h N.e e (m.mono (fun xs z v G1 H1 n ⟨l, vs, ev, h1, h2, h3⟩ => by
    obtain ⟨x, r, ex, hl, z⟩ := z
    subst ex
    cases h3 with
    | @cons _ w _ ws rw' rr =>
      refine ⟨l, w, ws, ev, sqL h1, by rw [← Reps.len rr]; exact hl, fun D hD => ?_⟩
      refine ⟨w, [.ref D], rfl, .ref D, [], rfl, rfl, ?_⟩
      have nn := n.newk (o := .lst ws) hD
      exact k x r (N.trans nn) (Env.setFz (t := tList t) ⟨D, ws, rfl, upd_same, Nat.le_trans hl (by decide), Reps.up (same_new (n.h.free hD)) rr⟩ j (Env.setFz (t.up (same_new (n.h.free hD)) rw') i (e.up nn))) ((f x r).mono (fun _ z => z.to nn.g) (fun _ z => z.to nn.g) z)) (fun _ z => z.k N (Same.refl _)) q)
def TyA.lstB {α : Type} (t : Ty α) : TyA (List α) := ⟨fun x vs G _ => Reps t G x vs ∧ x.length ≤ mxL, fun s _ h => ⟨h.1.up s, h.2⟩⟩
theorem AP.bnil : AP Γ tNil (TyA.lstB t) [] := fun H0 G H σ Q s1 s0 e q => q [] G H (Nx.refl s1) ⟨.nil, Nat.zero_le _⟩
theorem AP.bcons {a : α} {b : List α} {tl : TA} (h : PJ Γ te t.h a) (h' : AP Γ tl (TyA.lstB t) b) (hl : b.length < mxL := by decide) : AP Γ (tCons te tl) (TyA.lstB t) (a :: b) := fun H0 G H σ Q s1 s0 e q => h s1 s0 e fun v G1 H1 n1 r =>
  h' n1.h (s0.trans n1.e) (e.up n1) fun vs G2 H2 n2 rs => q (v :: vs) G2 H2 (n1.trans n2) ⟨.cons (t.up n2.g r) rs.1, hl⟩
/-- *e among the arguments, the last one -/
theorem AJ.starL {m : Mir (List α)} (h : EJ RX E Γ te (tBo t) m) : AJ RX E Γ (tStar K te tNil) (TyA.lstB t) m := fun H0 G H σ Q s s0 e q => h s s0 e (m.mono (fun xs z v G1 H1 n ⟨l, vs, ev, h1, h2, h3⟩ =>
  ⟨l, vs, ev, .inr (sqL h1), (by show Q (vs ++ []) H1; rw [List.append_nil]; exact z vs G1 H1 n ⟨h3, h2⟩)⟩) (fun _ z => z) q)
theorem AJ.starT {m : Mir (List α)} (h : EJ RX E Γ te (tTpl t).h m) : AJ RX E Γ (tStar K te tNil) (TyA.lstB t) m := fun H0 G H σ Q s s0 e q => h s s0 e (m.mono (fun xs z v G1 H1 n ⟨l, vs, ev, h1, h2, h3⟩ =>
  ⟨l, vs, ev, .inl (sqT (n.h _ _ h1)), (by show Q (vs ++ []) H1; rw [List.append_nil]; exact z vs G1 H1 n ⟨h3, h2⟩)⟩) (fun _ z => z) q)
/-- *e, then one more -/
theorem AJ.starT1 {m : Mir (List α)} {te2 : TE} {m2 : Mir α} (h : EJ RX E Γ te (tTpl t).h m) (h2 : EJ RX E Γ te2 t.h m2) : AJ RX E Γ (tStar K te (tCons te2 tNil)) (TyA.lstB t) (m.bind fun xs => m2.bind fun x => .chk (xs.length < mxL) (.ret (xs ++ [x]))) := fun H0 G H σ Q s s0 e q => h s s0 e (m.mono (fun xs z v G1 H1 n ⟨l, vs, ev, g1, g2, g3⟩ =>
  ⟨l, vs, ev, .inl (sqT (n.h _ _ g1)), h2 n.h (s0.trans n.e) (e.up n) (m2.mono (fun x z w G2 H2 n2 r => z.2 (vs ++ [w]) G2 H2 (n.trans n2) ⟨Reps.app (g3.up n2.g) (.cons r .nil), by rw [List.length_append]; exact z.1⟩) (fun _ z => z.to n) z)⟩) (fun _ z => z) q)
/-- f'{a}: {b}' and its like: texts one behind the other -/
def JJ (RX : RXT) (E : XK) (Γ : List Sl) (ts : List TE) (m : Str → Mir Str) : Prop := ∀ ⦃H0 G H : Hp⦄ ⦃σ : L2.St⦄ ⦃Q : Str → Hp → Prop⦄ (acc : Str), acc.length ≤ mxL → Same G H → Same H0 H → Env H0 G H Γ σ → (m acc).run (fun z => ∀ G' H', Nx G H G' H' → z.length ≤ mxL → Q z H') (ErK RX E G H) → tJs ts acc σ H Q
theorem JJ.nil : JJ RX E Γ [] fun acc => .ret acc := fun H0 G H σ Q acc ha s s0 e q => q G H (Nx.refl s) ha
theorem JJ.cons {ts : List TE} {m : Mir Str} {f : Str → Mir Str} (h : EJ RX E Γ te tStr.h m) (h' : JJ RX E Γ ts f) : JJ RX E Γ (te :: ts) fun acc => m.bind fun y => .chk ((acc ++ y).length ≤ mxL) (f (acc ++ y)) := fun H0 G H σ Q acc ha s s0 e q =>
  h s s0 e (m.mono (fun y z v G1 H1 n ⟨ev, hy⟩ => ⟨y, ev, Nat.le_trans z.1 (by decide), h' (acc ++ y) z.1 n.h (s0.trans n.e) (e.up n) ((f (acc ++ y)).mono (fun _ z G2 H2 n2 l => z G2 H2 (n.trans n2) l) (fun _ z => z.to n) z.2)⟩) (fun _ z => z) q)
theorem EJ.joined {ts : List TE} {f : Str → Mir Str} (h : JJ RX E Γ ts f) : EJ RX E Γ (fun σ H Q => tJs ts Str.empty σ H fun out H1 => Q (.str out) H1) tStr.h (f Str.empty) := fun H0 G H σ Q s s0 e q =>
  h Str.empty (by decide +kernel) s s0 e ((f Str.empty).mono (fun z q G' H' n l => q (.str z) G' H' n ⟨rfl, l⟩) (fun _ z => z) q)
end
end Ax
namespace Ax
open PySem PySem.Spec PyProof.Rows L2 SlX StX PySem.W
section
variable {prog : Program} {w : World} {A : Around} {E : Value → Shared → Prop} {s : Shared} {K : Frag} {x y C D L f g : Addr} {h₀ : Heap} {m : Str → Option Value} {ox oy : Obj} {od od' : Option Obj}
theorem inPy_K {M : Model} {h : Heap} {nm : String} (X : K.In h) (hs : findIn K (.ref C) (PySem.dunder nm) = some (some (.ref f))) (hr : findIn K (.ref C) (dunderR nm) = some none) : Looks M h (numberSlotInPython (.ref C) nm) true := by
  intro A Q E s k q
  unfold numberSlotInPython
  refine wpAny_bind (looks_findIn X hs A _ E s k ?_)
  refine wpAny_bind (m := calledByName (.ref C) (PySem.dunder nm) (some (.ref f))) (wpAny_pure ?_)
  refine wpAny_bind (looks_findIn X hr A _ E s k ?_)
  refine wpAny_bind (m := calledByName (.ref C) (dunderR nm) none) (wpAny_pure ?_)
  simp only [Bool.true_or, if_true]
  exact wpAny_pure q
/-- x op y by C's def; y of another class that has its own def for op as well -/
theorem binop_K2 {op : Operator} {Q : Value → Shared → Prop} (F : Fr h₀ L s.heap m) (X₀ : K.In h₀) (I : InstAt s.heap x ox C od) (hb : Looks (model prog w) s.heap (typeOf (.ref y)) (.ref D)) (hne : C ≠ D) (hc : selfFirst K C = true) (hd : selfFirst K D = true)
    (hs : findIn K (.ref C) (PySem.dunder op.info.2) = some (some (.ref f))) (hf : isFn K (.ref f) = true) (hsD : findIn K (.ref D) (PySem.dunder op.info.2) = some (some (.ref g))) (hr : findIn K (.ref C) (dunderR op.info.2) = some none) (hrD : findIn K (.ref D) (dunderR op.info.2) = some none)
    (hsub : subIn K (.ref D) (.ref C) = some false)
    (h : wpAny (model prog w) A (call (.ref f) [.ref x, .ref y]) (PySem.W.CmpBack Q) E s) : wpAny (model prog w) A (binaryOp op (.ref x) (.ref y)) Q E s := by
  have X := X₀.keeps F.keep
  have top : ∀ {C : Addr}, selfFirst K C = true → ∃ cd rest, clsIn K C = some cd ∧ cd.mro = .ref C :: rest := by
    intro C hc
    obtain ⟨cd, hcd, hm⟩ := any_some hc
    cases q : cd.mro with
    | nil => rw [q] at hm; cases hm
    | cons a r => rw [q] at hm; rw [List.head?_cons] at hm; cases (beq_iff_eq.mp hm); exact ⟨cd, r, hcd, q⟩
  obtain ⟨cd, rest, hcd, hm⟩ := top hc
  obtain ⟨dd, rest', hdd, hm'⟩ := top hd
  have hne' : ((Value.ref C) == (Value.ref D)) = false := by
    apply Bool.eq_false_iff.mpr
    intro e
    have := beq_iff_eq.mp e
    injection this with e
    exact hne e
  unfold binaryOp
  refine wpAny_holding (wpAny_bind ?_)
  unfold binaryOp1
  refine wpAny_bind (I.type.here (wpAny_bind (hb.here (wpAny_bind ((fills_K X hcd hm hs).here ?_)))))
  simp only [hne', Bool.false_eq_true, if_false]
  refine wpAny_bind ((fills_K X hdd hm' hsD).here ?_)
  simp only [Bool.and_true, if_true, Bool.true_and, Bool.not_false]
  refine wpAny_bind ((looks_subIn X hsub).here ?_)
  simp only [Bool.false_eq_true, if_false, Bool.not_false, Bool.and_true, if_true]
  refine wpAny_bind ((inPy_K X hs hr).here ?_)
  simp only [if_true]
  refine wpAny_bind ((inPy_K X hsD hrD).here ?_)
  simp only [Bool.not_true, Bool.false_eq_true, if_false]
  refine wpAny_bind (m := tryMethod (.ref x) _ (.ref y)) ?_
  unfold tryMethod
  refine wpAny_bind (special_fn X I hs (beq_iff_eq.mp hf) (wpAny_mono h (fun v s' hv => ?_) fun _ _ e => e))
  cases v <;> first | exact hv.elim | exact wpAny_pure (wpAny_pure (wpAny_pure hv))
end
section
variable {X : Cx} {CX : CXT} {k : Nat} {C D g g' : Addr} {sp : Sp} {E : XK}
theorem op_bin2 {op : Operator} (hne : C ≠ D) (hc : PySem.W.selfFirst X.K C = true) (hd : PySem.W.selfFirst X.K D = true) (hs : PySem.W.findIn X.K (.ref C) (PySem.dunder op.info.2) = some (some (.ref g))) (hf : PySem.W.isFn X.K (.ref g) = true)
    (hsD : findIn X.K (.ref D) (PySem.dunder op.info.2) = some (some (.ref g'))) (hr : findIn X.K (.ref C) (dunderR op.info.2) = some none) (hrD : findIn X.K (.ref D) (dunderR op.info.2) = some none) (hsub : subIn X.K (.ref D) (.ref C) = some false)
    (F : FnR X.prog X.w X.K X.mg X.base CX k g sp) (hrm : Room k X.A) (hx : Passes CX X E) : OpR X (binaryOp op) (rOp C D sp E) := by
  intro pins s σ H x y v u Q I rx ry h
  obtain ⟨a, b, rfl, rfl, ha, hb, q⟩ := h
  cases (show v = Value.ref a from rx)
  cases (show u = Value.ref b from ry)
  obtain ⟨_, _, J⟩ := ins_at I ha
  obtain ⟨_, _, J'⟩ := ins_at I hb
  obtain ⟨m, hF⟩ := I.fr
  refine binop_K2 hF I.ok.mod.kin J J'.type hne hc hd hs hf hsD hr hrD hsub ?_
  refine wpAny_mono (wpAny_call (run_fnR (us := [.ref a, .ref b]) (vs := [.ref a, .ref b]) F hrm hx I (.cons rfl (.cons rfl .nil)) q)) (fun w s' z => ?_) fun _ _ x => x
  obtain ⟨z', H', I', rz, qz⟩ := z
  exact cmpback rz ⟨z', H', I', rz, qz⟩
end
end Ax

/-! C(*e, ..): a star first, more behind it; parts of an f-string. -/
namespace Ax
open PySem PySem.Spec PySem.Calls PyProof.Rows L2 SlX StX
section
variable {M : Model} {A : Around} {E : Value → Shared → Prop} {s : Shared}
theorem evalArgs_S3 {f : Value} {x y : Bool × Sem Value} {rest : List (Bool × Sem Value)} {Q : Args → Shared → Prop}
    (h : wpAny M A (spliced (x :: y :: rest)) (fun vs s' => Q ⟨vs, []⟩ s') E s) : wpAny M A (evalArgs f true (x :: y :: rest) []) Q E s := by
  obtain ⟨b, x⟩ := x
  unfold evalArgs
  cases b <;> (
  refine wpAny_bind (m := spliced _) ?_)
  all_goals
    refine wpAny_mono h (fun vs s' h' => ?_) fun _ _ x => x
    refine wpAny_bind (wpAny_pure (wpAny_holding ?_))
    exact wpAny_bind (wpAny_pure (wpAny_bind (wpAny_pure (wpAny_pure h'))))
end
section
variable {X : Cx} {CX : CXT} {k i : Nat} {f C : Addr} {sp : Sp} {E : XK} {x m : Str} {e o : Expr} {es : List Expr} {te ta : TE} {t : TA} {p p2 pos : Pos}
theorem pe_makeS3 {e2 : Expr} (M : Mk X.K C f) (F : FnR X.prog X.w X.K X.mg X.base CX k f sp) (hr : Room (k + 1) X.A) (hg : Gl X x) (hm : X.mg x = some (.ref C)) (hx : Passes CX X E) (ha : PA X [.Starred e p2, e2] t) (hdb : (x == ("__debug__" : Str)) = false := by decide)
    (he : starEach [.Starred e p2, e2] X.env = [(true, eval e X.env), (false, eval e2 X.env)] := by rfl) : PE X (.Call (.Name x p) [.Starred e p2, e2] [] pos) (tCB (rMk C sp E) t) := by
  refine ⟨fun pins s σ H Q I h => wpAny_Call_Name_kw (ld_glob I hg hm ?_ hdb)⟩
  rw [he]
  refine PySem.W.ks_call rfl (PySem.W.keeps_K M.kp) (evalArgs_S3 ?_)
  have z := ha.run pos pins s σ H _ I h
  rw [he] at z
  exact thn z fun us s1 ⟨vs, H1, I1, r, q⟩ => ⟨I1.kIn, run_makeR M F hr hx I1 r q⟩
end
end Ax

/-! enumerate(xs), enumerate(xs, start=k), xs a list or a tuple. -/
namespace Ax
open PySem PySem.Spec PyProof.Rows L2 SlX StX
def SqB (K : PySem.W.Frag) (tup : Bool) (H : Hp) (a : Addr) (xs : List V) : Prop := if tup = true then SqT K H a xs else SqL K H a xs
def IterAt (tup : Bool) (h : Heap) (it a : Addr) (i : Nat) : Prop := if tup = true then h.IsTupleIter it a i else h.IsListIter it a i
def SeqAtB (tup : Bool) (h : Heap) (a : Addr) (items : Array Value) : Prop := if tup = true then h.IsTuple a items else h.IsList a items
def ItE (K : PySem.W.Frag) (tup : Bool) (k : Int) (a : Addr) : It :=
  ⟨fun i H => ∃ (xs : List V) (x : V), SqB K tup H a xs ∧ xs[i]? = some x, fun i H v H' => ∃ T x, v = .ref T ∧ H T = none ∧ H' = upd H T (.tup [.int (k + (i : Nat)), x]) ∧ ∀ xs, SqB K tup H a xs → xs[i]? = some x, fun i H => ∃ xs : List V, SqB K tup H a xs ∧ xs.length ≤ i⟩
theorem drawsB {prog : Program} {w : World} {A : Around} (tup : Bool) (hh : A.handled = none) (it a : Addr) (hne : a ≠ it) (items : Array Value) : Draws prog w A it [it, a] items.size (fun i v => items[i]? = some v) (fun i h => IterAt tup h it a i ∧ SeqAtB tup h a items) := by
  cases tup with
  | true => exact Draws.tuple hh it a hne items
  | false => exact Draws.list hh it a hne items
theorem drawsEnd {prog : Program} {w : World} {A : Around} (tup : Bool) (hh : A.handled = none) (it a : Addr) (items : Array Value) (i : Nat) (hi : items.size ≤ i) : Draws prog w A it [it, a] i (fun _ _ => True) (fun j h => j = i ∧ IterAt tup h it a i ∧ SeqAtB tup h a items) := by
  cases tup with
  | true => exact ⟨fun _ _ st => let ⟨o, ho, _⟩ := st.2.1; ⟨o, ho⟩, fun _ _ _ st hk => ⟨st.1, st.2.1.at fun o e => hk it (by simp) o e, st.2.2.at fun o e => hk a (by simp) o e⟩, fun j s Q E hj st _ => absurd st.1 (Nat.ne_of_lt hj),
    fun s Q E st hE => wpAny_nextOf_tuple_end hh st.2.1 st.2.2 (Array.getElem?_eq_none hi) hE⟩
  | false => exact ⟨fun _ _ st => let ⟨o, ho, _⟩ := st.2.1; ⟨o, ho⟩, fun _ _ _ st hk => ⟨st.1, st.2.1.at fun o e => hk it (by simp) o e, st.2.2.at fun o e => hk a (by simp) o e⟩, fun j s Q E hj st _ => absurd st.1 (Nat.ne_of_lt hj),
    fun s Q E st hE => wpAny_nextOf_list_end hh st.2.1 st.2.2 (Array.getElem?_eq_none hi) hE⟩
theorem sqB_get {X : Cx} {pins : List (Addr × Obj)} {σ : L2.St} {H : Hp} {s : Shared} {tup : Bool} {a : Addr} {xs : List V} (I : Inv X pins σ H s) (h : SqB X.K tup H a xs) : ∃ its, Vals xs its ∧ SeqAtB tup s.heap a its.toArray ∧ xs.length ≤ sizeLine := by
  cases tup with
  | true => obtain ⟨its, rv, p, hz⟩ := I.tuple h; exact ⟨its, rv, p, hz⟩
  | false => obtain ⟨its, rv, p, hz⟩ := I.list h; exact ⟨its, rv, p.isList, hz⟩
theorem sqB_inj {X : Cx} {pins : List (Addr × Obj)} {σ : L2.St} {H : Hp} {s : Shared} {tup : Bool} {a : Addr} {xs ys : List V} (I : Inv X pins σ H s) (h : SqB X.K tup H a xs) (h' : SqB X.K tup H a ys) : xs = ys := by
  cases tup with
  | true => exact I.tuple_inj h h'
  | false => exact I.list_inj h h'
theorem turn_enumG {P : Program} {w : World} {K : PySem.W.Frag} {elts : List Expr} {kk : Nat} {tpos : Pos} (tup : Bool) (k : Int) (a e it : Addr) :
    Turn P w K (.Tuple elts kk tpos) (ItE K tup k a) [e, it] e (fun i h => (∃ old, IsEnum h e it (k + ((i : Nat) : Int)) old) ∧ IterAt tup h it a i ∧ e ≠ it ∧ e ≠ a ∧ it ≠ a) where
  mem := by simp
  obj := fun i h st b hb => by
    obtain ⟨⟨old, he⟩, hi, _⟩ := st
    have e' : b = e ∨ b = it := by simpa using hb
    rcases e' with z | z
    · rw [z]; exact ⟨_, he, fun v q => nomatch q⟩
    · rw [z]
      cases tup with
      | true => obtain ⟨o, ho, hc, hd⟩ := hi; exact ⟨o, ho, fun v q => by rw [hd] at q; cases q⟩
      | false => obtain ⟨o, ho, hc, hd⟩ := hi; exact ⟨o, ho, fun v q => by rw [hd] at q; cases q⟩
  keep := fun i h h' st k => let ⟨⟨old, he⟩, hi, hne⟩ := st; ⟨⟨old, k e (by simp) _ he⟩, by
    cases tup with
    | true => exact hi.at fun o q => k it (by simp) o q
    | false => exact hi.at fun o q => k it (by simp) o q, hne⟩
  item := by
    intro X hP hw hK hc i pins s σ H E I hf st hg
    subst hP hw hK
    obtain ⟨⟨old, he⟩, hit, hne, hea, hia⟩ := st
    obtain ⟨xs, x, hq, hx⟩ := hg
    obtain ⟨its, rv, p, hz⟩ := sqB_get I hq
    obtain ⟨u, hu, ru⟩ := rv.get hx
    have hel : e < s.heap.objs.size := Heap.lt_size he
    have hil : it < s.heap.objs.size := by
      cases tup with
      | true => obtain ⟨_, q, _⟩ := hit; exact Heap.lt_size q
      | false => obtain ⟨_, q, _⟩ := hit; exact Heap.lt_size q
    refine wpAny_pyNext_enum_itemC (drawsB (A := X.A.in1) tup (I.ok.hd hc) it a (Ne.symm hia) its.toArray) he (i := i) ⟨hit, p⟩ (by rw [List.size_toArray]; exact (List.getElem?_eq_some_iff.mp hu).1) hne (by simp [hne, hea]) fun x' h' tk hP ho hs' hT hsz hk => ?_
    have ex : x' = u := by
      rw [List.getElem?_toArray, hu] at hP
      exact (Option.some.inj hP).symm
    subst ex
    refine ⟨_, rfl, wpAny_letOwnedTupleGo_enum (s := { s with heap := h', toks := tk + 1 }) ho fun h'' he' sb => ?_⟩
    have hT2 : h''.get? s.heap.objs.size = some { cls := .type "tuple", data := .seq #[.int (k + (i : Nat)) tk, x'] } := (sb.2 _ (Nat.ne_of_gt hel)).trans hT
    have new : ObjOk X.prog X.w (upd H s.heap.objs.size (.tup [.int (k + (i : Nat)), x])) h'' s.heap.objs.size (.tup [.int (k + (i : Nat)), x]) :=
      ⟨by show 2 ≤ sizeLine; decide, [.int (k + (i : Nat)) tk, x'], .cons ⟨_, rfl⟩ (.cons ru .nil), ⟨_, hT2, rfl, _, rfl⟩⟩
    have I1 : Inv X pins σ (upd H s.heap.objs.size (.tup [.int (k + (i : Nat)), x])) { s with heap := h'', toks := tk + 1 } :=
      I.turnedNew (ch := [e, it]) (fun b ob hb q => (sb.2 b (fun z => hb (by simp [z]))).trans (hk b ob (fun z => hb (by simp [z])) (fun z => hb (by simp [z])) q)) hf (Nat.le_refl _) new
    refine ⟨.ref s.heap.objs.size, _, I1, rfl, ⟨_, x, rfl, I.hok.fresh (Nat.le_refl _), rfl, fun ys hy => by rw [sqB_inj I hy hq]; exact hx⟩, ⟨⟨x', ?_⟩, ?_, hne, hea, hia⟩, fun b hb => ?_⟩
    · have e1 : k + ((i + 1 : Nat) : Int) = k + (i : Int) + 1 := by omega
      rw [e1]; exact he'
    · have h1 := hs'.1
      cases tup with
      | true => exact h1.at fun o q => (sb.2 it (Ne.symm hne)).trans q
      | false => exact h1.at fun o q => (sb.2 it (Ne.symm hne)).trans q
    · have hb' : b < s.heap.objs.size := by
        have e' : b = e ∨ b = it := by simpa using hb
        rcases e' with z | z
        · rw [z]; exact hel
        · rw [z]; exact hil
      rw [upd_ne (Nat.ne_of_lt hb')]
      exact (hf b hb).1
  done := by
    intro X hP hw hK hc i pins s σ H E I hf st hg
    subst hP hw hK
    obtain ⟨⟨old, he⟩, hit, hne, hea, hia⟩ := st
    obtain ⟨xs, hq, hx⟩ := hg
    obtain ⟨its, rv, p, hz⟩ := sqB_get I hq
    obtain ⟨f0, f1, f2, f3, f4, f5⟩ := hf it (by simp)
    have hl := rv.length
    exact wpAny_pyNext_enum_endD (drawsEnd (A := X.A.in1) tup (I.ok.hd hc) it a its.toArray i (by rw [List.size_toArray]; omega)) he ⟨rfl, hit, p⟩ fun h' eb => ⟨rfl, I.turned (t' := s.toks) (fun b o hb q => eb b o hb q) f0 f1 f3 f4 f5⟩
  self := fun A i s Q E st h => let ⟨⟨_, he⟩, _⟩ := st; wpAny_pyIter_enum he h
def iEnumG (K : PySem.W.Frag) (tup : Bool) (k : Int) (ta : TA) : TI := fun σ H R => ta σ H fun vs H1 => ∃ a xs, vs = [.ref a] ∧ SqB K tup H1 a xs ∧ R (ItE K tup k a) H1
theorem enum_pie {X : Cx} {pins : List (Addr × Obj)} {σ : L2.St} {H : Hp} {s : Shared} {elts : List Expr} {kk : Nat} {tpos : Pos} {R : It → Hp → Prop} {tup : Bool} {k : Int} {a : Addr} {xs : List V} {o : Obj} {h' : Heap} (ho : o = { cls := .type (if tup = true then "tuple_iterator" else "list_iterator"), data := .fields #[.ref a, .int 0 0] }) (I : Inv X pins σ H s) (hq : SqB X.K tup H a xs)
    (he : IsEnum h' (s.heap.objs.size + 1) s.heap.objs.size k .none) (hit : h'.get? s.heap.objs.size = some o) (hsz : h'.objs.size = s.heap.objs.size + 2) (hk : ∀ b o, s.heap.get? b = some o → h'.get? b = some o) (q : R (ItE X.K tup k a) H) :
    wpAny (model X.prog X.w) X.A (pyIter (.ref (s.heap.objs.size + 1))) (PIE X pins σ (.Tuple elts kk tpos) R) X.xe { s with heap := h' } := by
  refine wpAny_pyIter_enum he ?_
  have I2 : Inv X pins σ H { s with heap := h' } := I.kept (t' := s.toks) hk
  have al : a < s.heap.objs.size := by
    obtain ⟨its, rv, p, hz⟩ := sqB_get I hq
    cases tup with
    | true => obtain ⟨o, ho, _⟩ := p; exact Heap.lt_size ho
    | false => obtain ⟨o, ho, _⟩ := p; exact Heap.lt_size ho
  refine ⟨s.heap.objs.size + 1, [s.heap.objs.size + 1, s.heap.objs.size], _, _, H, rfl, I2, turn_enumG tup k a (s.heap.objs.size + 1) s.heap.objs.size, ⟨⟨.none, by
    have e : k + ((0 : Nat) : Int) = k := by omega
    rw [e]; exact he⟩, ?_, Nat.succ_ne_self _, Ne.symm (Nat.ne_of_lt (Nat.lt_succ_of_lt al)), Ne.symm (Nat.ne_of_lt al)⟩, fun b hb => ?_, q⟩
  · subst ho
    cases tup with
    | true => exact ⟨_, hit, rfl, rfl⟩
    | false => exact ⟨_, hit, rfl, rfl⟩
  · have e' : b = s.heap.objs.size + 1 ∨ b = s.heap.objs.size := by simpa using hb
    have hle : s.heap.objs.size ≤ b := by
      rcases e' with z | z
      · rw [z]; exact Nat.le_add_right _ _
      · rw [z]; exact Nat.le_refl _
    exact I.fpOk hle (I.hok.fresh hle)
theorem beginsB {tup : Bool} (a : Addr) (items : Array Value) : Begins (.ref a) { cls := .type (if tup = true then "tuple_iterator" else "list_iterator"), data := .fields #[.ref a, .int 0 0] } fun h => SeqAtB tup h a items := by
  cases tup with
  | true => exact begins_tuple a items
  | false => exact begins_list a items
theorem args_start (obj a b : Value) : True := True.intro
theorem meets_enumerate_newZ {v : Value} {o : Obj} {Hh : Heap → Prop} (B : Begins v o Hh) :
    Meets (Builtin.«enumerate.__new__» ⟨[.type "enumerate", v], []⟩) (fun _ R s => Hh s.heap ∧
      R (.ok (.ret (.ref (s.heap.push o).objs.size))) { s with heap := (s.heap.push o).push { cls := .type "enumerate", data := .fields #[.none, .bool false, .ref s.heap.objs.size, rawInt 0, .none, .none] } }) :=
  .of_wp fun prog w A R s h => by
    obtain ⟨hp, g, d, tk, os⟩ := s; obtain ⟨h1, h⟩ := h
    have hsub := sub_enumerate
    have q1 : ∀ {A' : Around} {E : Value → Shared → Prop} {Q : Value → Shared → Prop}, Q (.ref hp.objs.size) ⟨hp.push o, g, d, tk, os⟩ → wpAny (model prog w) A' (pyIter v) Q E ⟨hp, g, d, tk, os⟩ :=
      fun q => B.iter prog w _ _ ⟨hp, g, d, tk, os⟩ _ h1 q
    wp_walk using q1
    refine wpAny_stack_any fun st => wpAny_pure ?_
    split
    · rename_i c _ _ _ _ _
      cases (c == Value.type "enumerate")
      · wp_walk using q1
        exact ⟨_, rfl, h⟩
      · wp_walk using q1
        exact ⟨_, rfl, h⟩
    · wp_walk using q1
      exact ⟨_, rfl, h⟩
theorem enum_begins0 {prog : Program} {w : World} {A : Around} {E : Value → Shared → Prop} {s : Shared} {v : Value} {o : Obj} {Hh : Heap → Prop} {Q : Value → Shared → Prop} (B : Begins v o Hh) (h1 : Hh s.heap)
    (h : ∀ h', IsEnum h' (s.heap.objs.size + 1) s.heap.objs.size 0 .none → h'.get? s.heap.objs.size = some o → h'.objs.size = s.heap.objs.size + 2 →
      (∀ b o, s.heap.get? b = some o → h'.get? b = some o) → Q (.ref (s.heap.objs.size + 1)) { s with heap := h' }) :
    wpAny (model prog w) A (call (.type "enumerate") [v]) Q E s := by
  refine callType_new F.called_enumerate (by decide) (F.typeCall_enumerate_1 _) (F.newCall_enumerate_1 _) (fun obj => F.args_object_init_2 obj _) F.entry_enumerate_new (meets_enumerate_newZ B) ⟨h1, ?_⟩
  have hz : (s.heap.push o).objs.size = s.heap.objs.size + 1 := Heap.size_push ..
  show _ ∧ _
  rw [hz]
  have he : IsEnum ((s.heap.push o).push { cls := .type "enumerate", data := .fields #[.none, .bool false, .ref s.heap.objs.size, rawInt 0, .none, .none] }) (s.heap.objs.size + 1) s.heap.objs.size 0 .none := by
    have := Heap.get?_push_size (s.heap.push o) (o := { cls := .type "enumerate", data := .fields #[.none, .bool false, .ref s.heap.objs.size, rawInt 0, .none, .none] }) rfl
    rw [hz] at this; exact this
  refine ⟨⟨_, he, rfl⟩, h _ he (Heap.get?_push_of_some _ (Heap.get?_push_size _ B.free)) (by rw [Heap.size_push, hz]) fun b o x => Heap.get?_push_of_some _ (Heap.get?_push_of_some _ x)⟩
theorem pi_enumA {X : Cx} {K : PySem.W.Frag} (tup : Bool) {e : Expr} {ta : TA} {p pos tpos : Pos} {elts : List Expr} {kk : Nat} (hK : X.K = K) (hg : Gl X "enumerate") (hm : X.mg "enumerate" = none) (ha : PA X [e] ta) (hs : starEach [e] X.env = [(false, eval e X.env)] := by rfl) :
    PI X (.Tuple elts kk tpos) (.Call (.Name "enumerate" p) [e] [] pos) (iEnumG K tup 0 ta) := by
  subst hK
  refine ⟨fun pins s σ H R I h => ?_⟩
  refine Call_ (ld_blt I hg hm boot_enumerate (PyProof.Rows.callWith_type1 (thn (ha.run pos pins s σ H _ I h) fun us s1 ⟨vs, H1, I1, r1, q1⟩ => ?_) hs rfl))
  obtain ⟨a, xs, ex, hq, q⟩ := q1
  subst ex
  obtain rfl := Vals.ref1 r1
  obtain ⟨its, rv, p', hz⟩ := sqB_get I1 hq
  exact enum_begins0 (beginsB a its.toArray) p' fun h' he hit hsz hk => enum_pie rfl I1 hq he hit hsz hk q
section
variable {M : Model} {A : Around} {E : Value → Shared → Prop} {s : Shared} {env : PySem.Env}
theorem callWith_typeKw {pos : Pos} {T : String} {e : Expr} {rest : List Expr} {kws : List Keyword} {Q : Value → Shared → Prop} (hall : (backToKw pos (keywordEach kws env)).all (·.1.isSome) = true)
    (h : wpAny M A (spliced (backTo pos (starEach (e :: rest) env))) (fun vs s₁ => wpAny M A (evalAll ((backToKw pos (keywordEach kws env)).map (·.2)))
      (fun ks s₂ => wpAny M A (call (.type T) vs (((backToKw pos (keywordEach kws env)).filterMap (·.1)).zip ks)) Q E s₂) E s₁) E s)
    (he : starEach (e :: rest) env = (false, eval e env) :: starEach rest env) (hpl : ((backTo pos (starEach (e :: rest) env)).any (·.1) || (backToKw pos (keywordEach kws env)).any (·.1.isNone)) = false) :
    wpAny M A (callWith pos (.type T) [] (backTo pos (starEach (e :: rest) env)) (backToKw pos (keywordEach kws env))) Q E s := by
  unfold callWith
  refine wpAny_bind (wpAny_holding (evalArgs_kw2 hall (wpAny_mono h (fun vs s₁ h₁ => wpAny_mono h₁ (fun ks s₂ h₂ => wpAny_bind (wpAny_standAt ?_)) fun _ _ x => x) fun _ _ x => x) he))
  simp only [hpl]
  refine wpAny_bind (wpAny_pure ?_)
  exact wpAny_bind (wpAny_mono h₂ (fun r s₂ hr => wpAny_bind (wpAny_holding (wpAny_point (wpAny_pure hr)))) fun _ _ x => x)
end
theorem pi_enumS {X : Cx} {K : PySem.W.Frag} (tup : Bool) {e : Expr} {ta : TA} {p pos tpos : Pos} {elts : List Expr} {kk : Nat} {k : Int} {kn : Option Str} {j : Nat} {p3 p4 : Pos} (hK : X.K = K) (hkn : kn = some (Str.ofString "start")) (hk0 : -(2 ^ 63) ≤ k) (hk1 : k < 2 ^ 63) (hg : Gl X "enumerate") (hm : X.mg "enumerate" = none) (ha : PA X [e] ta)
    (he : starEach [e] X.env = (false, eval e X.env) :: starEach [] X.env := by rfl) (hpl : ((backTo pos (starEach [e] X.env)).any (·.1) || (backToKw pos (keywordEach [⟨kn, .Constant (.int k) j p3, p4⟩] X.env)).any (·.1.isNone)) = false := by rfl) :
    PI X (.Tuple elts kk tpos) (.Call (.Name "enumerate" p) [e] [⟨kn, .Constant (.int k) j p3, p4⟩] pos) (iEnumG K tup k ta) := by
  subst hK
  subst hkn
  refine ⟨fun pins s σ H R I h => ?_⟩
  refine wpAny_Call_Name_kw (ld_blt I hg hm boot_enumerate (callWith_typeKw rfl (thn (ha.run pos pins s σ H _ I h) fun us s1 ⟨vs, H1, I1, r1, q1⟩ => ?_) he hpl))
  obtain ⟨a, xs, ex, hq, q⟩ := q1
  subst ex
  obtain rfl := Vals.ref1 r1
  refine thn ((pk_cons (nm := some (Str.ofString "start")) (kpos := p4) (pe_int (X := X) (i := k)) pk_nil).run pos pins s1 σ H1 (fun zs H2 => zs = [.int k] ∧ H2 = H1) I1 ⟨rfl, rfl⟩) fun ws s2 ⟨zs, H2, I2, rz, ez, eH⟩ => ?_
  subst ez; subst eH
  obtain ⟨u, rfl, t, rfl⟩ := vals1 rz
  obtain ⟨its, rv, p', hz⟩ := sqB_get I2 hq
  exact enum_begins_start (beginsB a its.toArray) p' hk0 hk1 fun h' he hit hsz hk => enum_pie rfl I2 hq he hit hsz hk q
def enumFL {α : Type} (k : Int) (xs : List α) : List (Int × α) := (enumL xs).map fun p => (k + p.1, p.2)
section
variable {RX : RXT} {E : XK} {Γ : List Sl} {α β γ ρ : Type} {K : PySem.W.Frag} {te : TE} {t : Ty α}
theorem enumG {Ok : Hp → Prop} {J : It} {G : Hp} {tup : Bool} {k : Int} {xs : List α} {vs : List V} {l : Addr} (hJ : J = ItE K tup k l) (ok : ∀ H', Ok H' → SqB K tup H' l vs) (r : Reps t G xs vs) (hl : xs.length ≤ mxL) : SrcP J Ok G (tEnum t) (enumFL k xs) := by
  subst hJ
  have el : (enumFL k xs).length = xs.length := by simp [enumFL, enumL_len]
  refine ⟨fun i H' hi o => ⟨vs, vs[i]'(by rw [el, r.len] at hi; exact hi), ok H' o, List.getElem?_eq_getElem (by rw [el, r.len] at hi; exact hi)⟩, fun i H' hi o => ⟨vs, ok H' o, by rw [el, r.len] at hi; exact hi⟩,
    fun i x v G' H' H'' hx s1 s2 o y => ?_, by rw [el]; exact hl⟩
  obtain ⟨T, y', e1, e2, e3, e4⟩ := y
  subst e3; subst e1
  unfold enumFL at hx
  rw [List.getElem?_map] at hx
  obtain ⟨p, hp, ex⟩ := Option.map_eq_some_iff.mp hx
  subst ex
  obtain ⟨hx1, hx2⟩ := enumL_get hp
  obtain ⟨w, hw, rw'⟩ := (r.up s1).get hx2
  have := e4 vs (ok _ o)
  rw [hw] at this
  cases Option.some.inj this
  exact ⟨_, (Nx.refl s2).newk e2, T, _, rfl, upd_same, V.int (k + p.1), [_], by rw [hx1], rfl, _, rfl, t.up (same_new (s2.free e2)) rw'⟩
theorem IJf.enumT {m : Mir (List α)} {k : Int} (h : EJ RX E Γ te (tTpl t).h m) : IJf RX E Γ (iEnumG K true k (tCons te tNil)) (tEnum t) (m.bind fun xs => .ret (enumFL k xs)) := fun H0 G H σ R s s0 e q => h s s0 e (m.mono (fun xs z v G' H' n ⟨l, vs, ev, h1, h2, h3⟩ =>
  ⟨l, vs, by rw [ev], sqT (n.h _ _ h1), z _ G' H' n (enumG rfl (fun H2 o => sqT (o.1 _ _ h1)) h3 h2)⟩) (fun _ z => z) q)
theorem IJf.enumS {m : Mir (List α)} {k : Int} (h : EJ RX E Γ te (tList t).h m) : IJf RX E Γ (iEnumG K false k (tCons te tNil)) (tEnum t) (m.bind fun xs => .ret (enumFL k xs)) := fun H0 G H σ R s s0 e q => h s s0 e (m.mono (fun xs z v G' H' n ⟨l, vs, ev, h1, h2, h3⟩ =>
  ⟨l, vs, by rw [ev], sqL (n.h _ _ h1), z _ G' H' n (enumG rfl (fun H2 o => sqL (o.1 _ _ h1)) h3 h2)⟩) (fun _ z => z) q)
end
end Ax

/-! Objects that a def makes: fields stored and read, __init__ by a mirror. -/
namespace Ax
open PySem PySem.Spec PyProof.Rows L2 SlX StX
/-- a field's value, told by what it stands for -/
structure Fv where
  p : V → Hp → Prop
  up : ∀ {v G G'}, Same G G' → p v G → p v G'
def Fv.of {α : Type} (t : Ty α) (x : α) : Fv := ⟨fun v G => t.rep x v G, fun s h => t.up s h⟩
abbrev FvR (fs : List (Str × Fv)) (gs : List (Str × V)) (G : Hp) : Prop := Paired (fun (p : Str × Fv) (q : Str × V) => p.1 = q.1 ∧ p.2.p q.2 G) fs gs
theorem FvR.up {G G' : Hp} (s : Same G G') {fs : List (Str × Fv)} {gs : List (Str × V)} (h : FvR fs gs G) : FvR fs gs G' := Paired.mapP h fun p _ r => ⟨r.1, p.2.up s r.2⟩
theorem FvR.len {G : Hp} : ∀ {fs : List (Str × Fv)} {gs : List (Str × V)}, FvR fs gs G → fs.length = gs.length
  | _, _, .nil => rfl
  | _, _, .cons _ h => congrArg (· + 1) (FvR.len h)
def putFv (f : Str) (v : Fv) : List (Str × Fv) → List (Str × Fv)
  | [] => [(f, v)]
  | (g, w) :: r => if g = f then (f, v) :: r else (g, w) :: putFv f v r
theorem FvR.lookup {G : Hp} {f : Str} {x : Fv} : ∀ {fs : List (Str × Fv)} {gs : List (Str × V)}, FvR fs gs G → fs.lookup f = some x → ∃ v, gs.lookup f = some v ∧ x.p v G
  | _, _, .nil, h => by simp at h
  | (g, y) :: _, (g', v) :: _, .cons ⟨e, r⟩ t, h => by
    have e : g = g' := e
    subst e
    rw [List.lookup_cons] at h ⊢
    cases q : f == g with
    | true => rw [q] at h; cases Option.some.inj h; exact ⟨v, rfl, r⟩
    | false => rw [q] at h; exact FvR.lookup t h
theorem FvR.put {G : Hp} {f : Str} {x : Fv} {v : V} (r : x.p v G) : ∀ {fs : List (Str × Fv)} {gs : List (Str × V)}, FvR fs gs G → FvR (putFv f x fs) (putF f v gs) G
  | _, _, .nil => .cons ⟨rfl, r⟩ .nil
  | (g, y) :: fs, (g', w) :: gs, .cons ⟨e, r'⟩ t => by
    have e : g = g' := e
    subst e
    show FvR (if g = f then (f, x) :: fs else (g, y) :: putFv f x fs) (putF f v ((g, w) :: gs)) G
    unfold putF
    by_cases q : g = f
    · rw [if_pos q]
      first | (rw [if_pos q]; exact .cons ⟨rfl, r⟩ t) | (subst q; simp; exact .cons ⟨rfl, r⟩ t)
    · rw [if_neg q]
      first | (rw [if_neg q]; exact .cons ⟨rfl, r'⟩ (FvR.put r t)) | (simp [q]; exact .cons ⟨rfl, r'⟩ (FvR.put r t))
def oObj (C dx a : Addr) : OwT (List (Str × Fv)) := ⟨fun fs l o G => l = a ∧ ∃ gs, o = .ins C dx gs ∧ fs.length < 100 ∧ FvR fs gs G, fun s ⟨ea, gs, e, l, r⟩ => ⟨ea, gs, e, l, r.up s⟩⟩
section
variable {RX : RXT} {E : XK} {Γ : List Sl} {α β γ ρ : Type} {K : PySem.W.Frag} {te : TE} {tr : TS} {t : Ty α} {post : β → List Sl} {rt : Rt ρ} {C dx sa : Addr} {fs : List (Str × Fv)}
theorem PJ.fget {i : Nat} {f : Str} {a : α} (c : Cls K C) (na : NoAttr K C f) (h : Γ[i]? = Option.some (.ow (oObj C dx sa) fs)) (hf : fs.lookup f = Option.some (Fv.of t a)) : PJ Γ (tFld K (tVar i) f) t.h a := fun H0 G H σ Q s s0 e q => by
  obtain ⟨l, o, e1, h1, h2, h3, ea, gs, eo, hl, r⟩ := e.ow h
  subst eo
  obtain ⟨v, e2, rv⟩ := r.lookup hf
  exact ⟨.ref l, e1, l, C, dx, gs, v, rfl, h1, c, na, e2, q v G H (Nx.refl s) rv⟩
theorem putFv_len {f : Str} {x : Fv} : ∀ {fs : List (Str × Fv)}, (putFv f x fs).length ≤ fs.length + 1
  | [] => Nat.le_refl _
  | (g, y) :: fs => by
    unfold putFv
    split
    · exact Nat.le_succ _
    · exact Nat.succ_le_succ putFv_len
theorem SJ.fset {i : Nat} {f : Str} {a : α} {m : Mir (Out β ρ)} (c : Cls K C) (na : NoAttr K C f) (h : Γ[i]? = Option.some (.ow (oObj C dx sa) fs)) (hl : fs.length < 99) (ha : PJ Γ te t.h a) (k : SJ RX E (Γ.set i (.ow (oObj C dx sa) (putFv f (Fv.of t a) fs))) tr post rt m) :
    SJ RX E Γ (tSeq (sFld K (tVar i) te f) tr) post rt m := fun H0 G0 G H σ D N e q => by
  refine ha N.h N.e e fun v G1 H1 n rv => ?_
  have e1 := e.up n
  have N1 := N.trans n
  obtain ⟨l, o, el, h1, h2, h3, ea, gs, eo, hl', r⟩ := e1.ow h
  subst eo
  refine ⟨.ref l, el, l, C, dx, gs, rfl, h1, c, na, by rw [← r.len]; omega, ?_⟩
  exact k (N1.mut h3 h2) (Env.mutO (O' := oObj C dx sa) h3 ⟨ea, _, rfl, Nat.lt_of_le_of_lt putFv_len (by omega), r.put rv⟩ e1 h el) (m.mono (fun _ z => z.to n.g) (fun _ z => z.to n.g) q)
theorem SJ.fsetM {i : Nat} {f : Str} {a : Mir α} {m : α → Mir (Out β ρ)} (c : Cls K C) (na : NoAttr K C f) (h : Γ[i]? = Option.some (.ow (oObj C dx sa) fs)) (hl : fs.length < 99) (ha : EJ RX E Γ te t.h a) (k : ∀ x, SJ RX E (Γ.set i (.ow (oObj C dx sa) (putFv f (Fv.of t x) fs))) tr post rt (m x)) :
    SJ RX E Γ (tSeq (sFld K (tVar i) te f) tr) post rt (a.bind m) := fun H0 G0 G H σ D N e q => by
  refine ha N.h N.e e (a.mono (fun x z v G1 H1 n rv => ?_) (fun _ z => z.k N (Same.refl _)) q)
  have e1 := e.up n
  have N1 := N.trans n
  obtain ⟨l, o, el, h1, h2, h3, ea, gs, eo, hl', r⟩ := e1.ow h
  subst eo
  refine ⟨.ref l, el, l, C, dx, gs, rfl, h1, c, na, by rw [← r.len]; omega, ?_⟩
  exact k x (N1.mut h3 h2) (Env.mutO (O' := oObj C dx sa) h3 ⟨ea, _, rfl, Nat.lt_of_le_of_lt putFv_len (by omega), r.put rv⟩ e1 h el) ((m x).mono (fun _ z => z.to n.g) (fun _ z => z.to n.g) z)
end
/-- what is left at an __init__'s end -/
def Mir.ini {β : Type} (M : Mir (Out β Unit)) : Mir β := (M.bind fun o => match o with | .nx b => .ret b | .rt _ => ⟨fun _ _ => False, fun _ _ q => q⟩).nox
/-- what an __init__ promises: m the mirror of the new object's data, F its fields -/
def spIni {α β : Type} (RX : RXT) (C : Addr) (A : TyA α) (F : β → List (Str × Fv)) (m : α → Mir β) : Sp := fun vs H Q E =>
  ∃ (x : α) (a dx : Addr) (args : List V) (G Hm : Hp), vs = .ref a :: args ∧ A.rep x args G Hm ∧ H a = some (.ins C dx []) ∧ Hm a = none ∧ G a = none ∧ Nx G Hm G H ∧
    (m x).run (fun b => ∀ fs G' H', Nx G Hm G' H' → H' a = some (.ins C dx fs) → G' a = none → FvR (F b) fs G' → Q .non H') (fun e => ∀ c d G' H', Nx G Hm G' H' → RX e c d G' → E c d H')
section
variable {α β ρ : Type} {RX : RXT} {E : XK} {C : Addr} {A A' : TyA α} {F : β → List (Str × Fv)} {m : α → Mir β}
/-- C(..) by its __init__ -/
theorem CM.mk {t : Ty β} (ht : ∀ {b p dx fs G}, G p = some (.ins C dx fs) → FvR (F b) fs G → t.rep b (.ref p) G) : CM RX E (rMk C (spIni RX C A F m) E) A t.h m := fun G H args x Q s ha q => by
  intro y dy hy hdy hne
  have s1 : Same H (upd (upd H dy (.own y)) y (.ins C dy [])) := (same_new hdy).trans (same_new (by rw [upd_ne (Ne.symm hne)]; exact hy))
  have n1 : Nx G H G (upd (upd H dy (.own y)) y (.ins C dy [])) := (Nx.refl s).more s1
  refine ⟨x, y, dy, args, G, H, rfl, ha, upd_same, hy, s.free hy, n1, (m x).mono (fun b z fs G' H' n h1 h2 r => ?_) (fun e z c d G' H' n r => z c d G' H' n r) q⟩
  have n2 : Nx G H (upd G' y (.ins C dy fs)) H' := n.fz h1 hy h2
  exact ⟨rfl, z (.ref y) _ H' n2 (ht upd_same (r.up (same_new h2)))⟩
variable {P : Program} {w : World} {K : PySem.W.Frag} {mg : Str → Option Value} {base : Heap} {k : Nat} {f : Addr} {d : DfX} {N ps : List Str}
/-- __init__(self, .., *v): the rest is put into a tuple -/
theorem ini_star {n : Nat} (hA : ∀ {x vs G H}, A.rep x vs G H → ∃ us rest, vs = us ++ rest ∧ us.length = n ∧ rest.length ≤ sizeLine ∧ ∀ p G' H', Same G G' → Same H H' → G' p = some (.tup rest) → A'.rep x (us ++ [.ref p]) G' H')
    (Fn : FnR P w K mg base (L2.CX P w) k f (fun vs H Q E => ∃ ws rest, vs = ws ++ rest ∧ ws.length = n + 1 ∧ rest.length ≤ sizeLine ∧ ∀ p, H p = Option.none → spIni RX C A' F m (ws ++ [V.ref p]) (upd H p (.tup rest)) Q E)) : FnR P w K mg base (L2.CX P w) k f (spIni RX C A F m) :=
  Fn.imp fun vs H Q E ⟨x, a, dx, args, G, Hm, e, ha, h1, h2, h3, nn, q⟩ => by
    subst e
    obtain ⟨us, rest, e, hl, hr, hA⟩ := hA ha
    subst e
    refine ⟨.ref a :: us, rest, rfl, by simp [hl], hr, fun p hp => ?_⟩
    have pm : Hm p = none := nn.e.free hp
    have ne : p ≠ a := fun z => by rw [z] at hp; rw [h1] at hp; cases hp
    have n' : Nx (upd G p (.tup rest)) (upd Hm p (.tup rest)) (upd G p (.tup rest)) (upd H p (.tup rest)) := by
      refine ⟨Same.refl _, fun b o e => ?_, fun b o e => ?_, fun b z => .inl z⟩
      · by_cases hb : b = p
        · subst hb; rw [upd_same] at e ⊢; exact e
        · rw [upd_ne hb] at e ⊢; exact nn.h _ _ e
      · by_cases hb : b = p
        · subst hb; rw [upd_same] at e ⊢; exact e
        · rw [upd_ne hb] at e ⊢; exact nn.e _ _ e
    have bk : ∀ {G' H'}, Nx (upd G p (.tup rest)) (upd Hm p (.tup rest)) G' H' → Nx G Hm G' H' := fun {G' H'} z =>
      ⟨(same_new (nn.h.free hp)).trans z.g, z.h, (same_new pm).trans z.e, fun b hb => by
        by_cases e : b = p
        · subst e; exact .inr pm
        · rcases z.n b hb with y | y
          · rw [upd_ne e] at y; exact .inl y
          · rw [upd_ne e] at y; exact .inr y⟩
    refine ⟨x, a, dx, us ++ [.ref p], upd G p (.tup rest), upd Hm p (.tup rest), rfl, hA p _ _ (same_new (nn.h.free hp)) (same_new pm) upd_same, by rw [upd_ne (Ne.symm ne)]; exact h1, by rw [upd_ne (Ne.symm ne)]; exact h2, by rw [upd_ne (Ne.symm ne)]; exact h3, n', ?_⟩
    exact (m x).mono (fun b z fs G' H' n h1 h2 r => z fs G' H' (bk n) h1 h2 r) (fun e z c d G' H' n r => z c d G' H' (bk n) r) q
/-- the def of an __init__; M: its mirror -/
theorem fnIni {Γ0 : α → Addr → Addr → List Sl} {post : Addr → Addr → β → List Sl} (Fd : FunX K d f) (S : FnScope N ps d.scope)
    (hb : ∀ (kV doc pm : Value) (an : Option Addr) (cdv ct : Value) (us : List Value), us.length = ps.length → bindArgs (PySem.W.fnOf d.name d.qual d.params d.body d.scope .none kV doc pm an cdv ct) ⟨us, []⟩ = pure (ps.zip us))
    (len : ∀ {x vs G H}, A.rep x vs G H → vs.length + 1 = ps.length) (henv : ∀ {x args G Hm H a dx}, A.rep x args G Hm → H a = some (.ins C dx []) → G a = none → Hm a = none → Env Hm G H (Γ0 x dx a) (start N (.ref a :: args)))
    (hpost : ∀ {dx a b Hm G H σ}, Env Hm G H (post dx a b) σ → ∃ gs, H a = some (.ins C dx gs) ∧ G a = none ∧ FvR (F b) gs G)
    (hbody : ∀ (cdv : Value) (Ar : Around) (outer : List PySem.Env) (s : Shared) (H : Hp) (E : XK), Room k (Ar.deeper (envOfC d.qual d.scope s.heap.objs.size f cdv)) →
      ∃ t, PSs (cxOf (L2.CX P w) P w K mg base N d.qual d.scope f cdv Ar outer s H E) d.body t ∧ ∀ x dx a, ∃ M : Mir (Out β Unit), SJ RX E0 (Γ0 x dx a) t (post dx a) (rtF tUnit) M ∧ m x = M.ini) : FnR P w K mg base (L2.CX P w) (k + 1) f (spIni RX C A F m) :=
  fnR_of Fd S hb (fun vs H Q E ⟨x, a, dx, args, G, Hm, e, r, _⟩ => by rw [e, List.length_cons]; exact len r) fun cdv Ar outer s H vs Q E hr ⟨x, a, dx, args, G, Hm, e, ra, h1, h2, h3, nn, q⟩ => by
    subst e
    obtain ⟨t, t1, t2⟩ := hbody cdv Ar outer s H E hr
    obtain ⟨M, t3, em⟩ := t2 x dx a
    refine ⟨t, t1, t3 nn (henv ra h1 h3 h2) ?_⟩
    rw [em] at q
    refine M.mono (fun o z => ?_) (fun _ z => z.elim) q
    cases o with
    | nx b =>
      intro σ' G' H' n s e
      obtain ⟨gs, g1, g2, g3⟩ := hpost e
      exact z gs G' H' n g1 g2 g3
    | rt r => exact z.elim
/-- .. with *pv -/
theorem fnIniS {n : Nat} {pv : Str} {Γ0 : α → Addr → Addr → List Sl} {post : Addr → Addr → β → List Sl} (Fd : FunX K d f) (S : FnScope N (ps ++ [pv]) d.scope)
    (hb : ∀ (kV doc pm : Value) (an : Option Addr) (cdv ct : Value) (us rest : List Value), us.length = ps.length →
      bindArgs (PySem.W.fnOf d.name d.qual d.params d.body d.scope .none kV doc pm an cdv ct) ⟨us ++ rest, []⟩ = (newTuple rest >>= fun t => pure (ps.zip us ++ [(pv, t)])))
    (hn : ps.length = n + 1) (hA : ∀ {x vs G H}, A.rep x vs G H → ∃ us rest, vs = us ++ rest ∧ us.length = n ∧ rest.length ≤ sizeLine ∧ ∀ p G' H', Same G G' → Same H H' → G' p = some (.tup rest) → A'.rep x (us ++ [.ref p]) G' H')
    (henv : ∀ {x args G Hm H a dx}, A'.rep x args G Hm → H a = some (.ins C dx []) → G a = none → Hm a = none → Env Hm G H (Γ0 x dx a) (start N (.ref a :: args)))
    (hpost : ∀ {dx a b Hm G H σ}, Env Hm G H (post dx a b) σ → ∃ gs, H a = some (.ins C dx gs) ∧ G a = none ∧ FvR (F b) gs G)
    (hbody : ∀ (cdv : Value) (Ar : Around) (outer : List PySem.Env) (s : Shared) (H : Hp) (E : XK), Room k (Ar.deeper (envOfC d.qual d.scope s.heap.objs.size f cdv)) →
      ∃ t, PSs (cxOf (L2.CX P w) P w K mg base N d.qual d.scope f cdv Ar outer s H E) d.body t ∧ ∀ x dx a, ∃ M : Mir (Out β Unit), SJ RX E0 (Γ0 x dx a) t (post dx a) (rtF tUnit) M ∧ m x = M.ini) : FnR P w K mg base (L2.CX P w) (k + 1) f (spIni RX C A F m) := by
  refine ini_star hA ?_
  have z := fnS_of (k := k) (sp := spIni RX C A' F m) Fd S hb fun cdv Ar outer s H vs Q E hr ⟨x, a, dx, args, G, Hm, e, ra, h1, h2, h3, nn, q⟩ => by
    subst e
    obtain ⟨t, t1, t2⟩ := hbody cdv Ar outer s H E hr
    obtain ⟨M, t3, em⟩ := t2 x dx a
    refine ⟨t, t1, t3 nn (henv ra h1 h3 h2) ?_⟩
    rw [em] at q
    refine M.mono (fun o z => ?_) (fun _ z => z.elim) q
    cases o with
    | nx b =>
      intro σ' G' H' n s e
      obtain ⟨gs, g1, g2, g3⟩ := hpost e
      exact z gs G' H' n g1 g2 g3
    | rt r => exact z.elim
  rw [hn] at z
  exact z
theorem starA_lst {t : Ty α} : ∀ {x : List α} {vs : List V} {G H : Hp}, (TyA.lstB t).rep x vs G H → ∃ us rest, vs = us ++ rest ∧ us.length = 0 ∧ rest.length ≤ sizeLine ∧ ∀ p G' H', Same G G' → Same H H' → G' p = some (.tup rest) → (TyA.one (tTpl t).h).rep x (us ++ [.ref p]) G' H' :=
  fun {x vs G H} ⟨r, l⟩ => ⟨[], vs, rfl, rfl, by rw [← r.len]; exact Nat.le_trans l (by decide), fun p G' H' s1 s2 hp => ⟨_, rfl, p, vs, rfl, hp, l, r.up s1⟩⟩
theorem starA_cons {γ : Type} {t : TyH γ} {n : Nat} {A A' : TyA α} (h : ∀ {x : α} {vs : List V} {G H : Hp}, A.rep x vs G H → ∃ us rest, vs = us ++ rest ∧ us.length = n ∧ rest.length ≤ sizeLine ∧ ∀ p G' H', Same G G' → Same H H' → G' p = some (.tup rest) → A'.rep x (us ++ [.ref p]) G' H') :
    ∀ {x : γ × α} {vs : List V} {G H : Hp}, (TyA.cons t A).rep x vs G H → ∃ us rest, vs = us ++ rest ∧ us.length = n + 1 ∧ rest.length ≤ sizeLine ∧ ∀ p G' H', Same G G' → Same H H' → G' p = some (.tup rest) → (TyA.cons t A').rep x (us ++ [.ref p]) G' H' :=
  fun {x vs G H} ⟨v, r, e, h1, h2⟩ => by
    obtain ⟨us, rest, e2, e3, e4, e5⟩ := h h2
    exact ⟨v :: us, rest, by rw [e, e2]; rfl, by rw [List.length_cons, e3], e4, fun p G' H' s1 s2 hp => ⟨v, us ++ [.ref p], rfl, t.up s1 s2 h1, e5 p G' H' s1 s2 hp⟩⟩
theorem ini_post {Hm G H : Hp} {σ : L2.St} {Γ : List Sl} {dx a : Addr} {fs : List (Str × Fv)} (e : Env Hm G H (.ow (oObj C dx a) fs :: Γ) σ) : ∃ gs, H a = some (.ins C dx gs) ∧ G a = none ∧ FvR fs gs G := by
  obtain ⟨l, c, _, h1, h2, _, e4, gs, e5, _, r⟩ := e.ow (i := 0) rfl
  subst e4; subst e5
  exact ⟨gs, h1, h2, r⟩
/-- an object under construction, then plain slots -/
theorem ini_env {Hm G H : Hp} {σ : L2.St} {Γ : List Sl} {dx a : Addr} (h1 : H a = some (.ins C dx [])) (h2 : G a = none) (h3 : Hm a = none) (h : EnvP Hm G Γ σ) : Env Hm G H (.ow (oObj C dx a) [] :: Γ) (some (.ref a) :: σ) := by
  refine ⟨⟨fun b => if b = a then some (0, false) else none, fun _ => .non⟩, ?_, fun b p e => ?_, fun i s hs => ?_⟩
  · exact congrArg (· + 1) h.len
  · dsimp only at e
    split at e
    · rename_i z; subst z; exact ⟨h2, h3, _, h1⟩
    · cases e
  · cases i with
    | zero =>
      cases (show some _ = some s from hs)
      exact ⟨_, rfl, a, _, rfl, h1, if_pos rfl, rfl, [], rfl, by decide, .nil⟩
    | succ i =>
      obtain ⟨o, g1, g2⟩ := h.at_ (i0 := 1) i s (by simpa using hs)
      exact ⟨o, by simpa using g1, by have z := g2 ⟨fun b => if b = a then some (0, false) else none, fun _ => .non⟩ H; rw [Nat.add_comm] at z; exact z⟩
end
end Ax

/-! Classes called, class constants, own + of two classes, chains, f-strings, code that is never reached. -/
namespace Ax
open PySem PySem.Spec PyProof.Rows L2 SlX StX
def Mir.fail {α : Type} : Mir α := ⟨fun _ _ => False, fun _ _ q => q⟩
@[simp] theorem Mir.run_fail {α : Type} (Q : α → Prop) (E : Err → Prop) : (Mir.fail : Mir α).run Q E = False := rfl
@[simp] theorem Mir.fail_bind {α β : Type} (f : α → Mir β) : (Mir.fail : Mir α).bind f = Mir.fail := rfl
def cvB (x f : Str) (n : Int) (K : Fr') : Bool := match PySem.W.findCls K (.ref (He.ga K x)) (.type "type") f with
  | some (.val (.int i _)) => decide (i = n)
  | _ => false
theorem cvB_ok {K : Fr'} {x f : Str} {n : Int} (h : cvB x f n K = true) : ∃ u, ClX.CVal K (He.ga K x) (.type "type") f (.int n) u := by
  unfold cvB at h
  split at h
  · rename_i i t e
    exact ⟨_, e, ⟨t, by rw [of_decide_eq_true h]⟩⟩
  · cases h
def sbB (x y : Str) (K : Fr') : Bool := decide (PySem.W.subIn K (.ref (He.ga K x)) (.ref (He.ga K y)) = some false)
def neB (x y : Str) (K : Fr') : Bool := decide (He.ga K x ≠ He.ga K y)
section
variable {RX : RXT} {E : XK} {Γ : List Sl} {α β γ ρ : Type} {K : PySem.W.Frag} {te ta tb tc : TE} {tl : TA} {t : Ty α} {u : Ty β} {tr : TyH γ} {C D : Addr} {post : β → List Sl} {rt : Rt ρ}
theorem PJ.cval {f : Str} {n : Int} (cr : ClX.CRead K C (.type "type")) (cv : ∃ u, ClX.CVal K C (.type "type") f (.int n) u) : PJ Γ (ClX.tCVal K (tC (.ref C)) f) tInt.h n := fun H0 G H σ Q s s0 e q => by
  obtain ⟨u, cv⟩ := cv
  exact ⟨C, _, _, u, rfl, cr, cv, q _ G H (Nx.refl s) rfl⟩
theorem OpM.own {m : α × β → Mir γ} {tr : Ty γ} (i1 : InsT t C) (i2 : InsT u D) : OpM RX E (rOp C D (spM RX (TyA.cons t.h (TyA.one u.h)) (rtF tr) m) E) t.h u.h tr.h fun a b => m (a, b) := fun G H x y a b Q s r1 r2 q => by
  obtain ⟨p, dx, fs, e1, h1⟩ := i1 r1
  obtain ⟨p2, dx2, fs2, e2, h2⟩ := i2 r2
  subst e1; subst e2
  exact ⟨p, p2, rfl, rfl, ⟨dx, fs, s _ _ h1⟩, ⟨dx2, fs2, s _ _ h2⟩, (a, b), G, s, ⟨_, _, rfl, r1, _, rfl, r2⟩, q⟩
/-- len(o), in, by mirrors -/
theorem CM.lenO {m : α → Mir Int} (i1 : InsT t C) : CM RX E (rLenO C (spM RX (TyA.one t.h) (rtF tInt) m) E) (TyA.one t.h) tInt.h fun a => (m a).bind fun n => .chk (0 ≤ n ∧ n < 2 ^ 63) (.ret n) := fun G H vs a Q s ⟨v, ev, r⟩ q => by
  subst ev
  obtain ⟨p, dx, fs, e1, h1⟩ := i1 r
  subst e1
  refine ⟨p, rfl, ⟨dx, fs, s _ _ h1⟩, a, G, s, ⟨_, rfl, r⟩, (m a).mono (fun n z v G' H' n' rv => ?_) (fun _ z => z) q⟩
  obtain ⟨k, rfl⟩ := Int.eq_ofNat_of_zero_le z.1.1
  exact ⟨k, rv, by have := z.1.2; omega, z.2 _ G' H' n' rfl⟩
theorem OpM.inO {m : β × α → Mir Bool} (i2 : InsT u D) : OpM RX E (rInO D (spM RX (TyA.cons u.h (TyA.one t.h)) (rtF tBool) m) E false) t.h u.h tBool.h fun a b => m (b, a) := fun G H x y a b Q s r1 r2 q => by
  obtain ⟨p2, dx2, fs2, e2, h2⟩ := i2 r2
  subst e2
  exact ⟨p2, rfl, ⟨dx2, fs2, s _ _ h2⟩, (b, a), G, s, ⟨_, _, rfl, r2, _, rfl, r1⟩, (m (b, a)).mono (fun k z v G' H' n rv => ⟨k, rv, z _ G' H' n rfl⟩) (fun _ z => z) q⟩
theorem OpM.niO {m : β × α → Mir Bool} (i2 : InsT u D) : OpM RX E (rInO D (spM RX (TyA.cons u.h (TyA.one t.h)) (rtF tBool) m) E true) t.h u.h tBool.h fun a b => (m (b, a)).bind fun k => .ret (!k) := fun G H x y a b Q s r1 r2 q => by
  obtain ⟨p2, dx2, fs2, e2, h2⟩ := i2 r2
  subst e2
  exact ⟨p2, rfl, ⟨dx2, fs2, s _ _ h2⟩, (b, a), G, s, ⟨_, _, rfl, r2, _, rfl, r1⟩, (m (b, a)).mono (fun k z v G' H' n rv => ⟨k, rv, z _ G' H' n rfl⟩) (fun _ z => z) q⟩
/-- C(*e) by a mirror -/
theorem EJ.mkS1L {F : γ → List (Str × Fv)} {m : List α → Mir γ} {tr : Ty γ} {a : Mir (List α)} (ht : ∀ {b p dx fs G}, G p = Option.some (.ins C dx fs) → FvR (F b) fs G → tr.rep b (.ref p) G) (h : EJ RX E Γ te (tBo t) a) :
    EJ RX E Γ (fun σ H Q => te σ H fun y H1 => ∃ a xs, y = V.ref a ∧ (SqT K H1 a xs ∨ SqL K H1 a xs) ∧ rMk C (spIni RX C (TyA.lstB t) F m) E xs H1 Q) tr.h (a.bind m) := fun H0 G H σ Q s s0 e q =>
  h s s0 e (a.mono (fun xs z v G1 H1 n ⟨l, vs, ev, h1, h2, h3⟩ => ⟨l, vs, ev, .inr (sqL h1), CM.mk ht n.h ⟨h3, h2⟩ ((m xs).mono (fun _ z => z.to n) (fun _ z => z.to n) z)⟩) (fun _ z => z) q)
theorem EJ.mkS1T {F : γ → List (Str × Fv)} {m : List α → Mir γ} {tr : Ty γ} {a : Mir (List α)} (ht : ∀ {b p dx fs G}, G p = Option.some (.ins C dx fs) → FvR (F b) fs G → tr.rep b (.ref p) G) (h : EJ RX E Γ te (tTpl t).h a) :
    EJ RX E Γ (fun σ H Q => te σ H fun y H1 => ∃ a xs, y = V.ref a ∧ (SqT K H1 a xs ∨ SqL K H1 a xs) ∧ rMk C (spIni RX C (TyA.lstB t) F m) E xs H1 Q) tr.h (a.bind m) := fun H0 G H σ Q s s0 e q =>
  h s s0 e (a.mono (fun xs z v G1 H1 n ⟨l, vs, ev, h1, h2, h3⟩ => ⟨l, vs, ev, .inl (sqT (n.h _ _ h1)), CM.mk ht n.h ⟨h3, h2⟩ ((m xs).mono (fun _ z => z.to n) (fun _ z => z.to n) z)⟩) (fun _ z => z) q)
/-- the class itself, in a name -/
def tRef (C : Addr) : Ty Unit := ⟨fun _ v _ => v = .ref C, fun _ h => h⟩
theorem EJ.cls0 {i : Nat} {F : γ → List (Str × Fv)} {m : List α → Mir γ} {tr : Ty γ} (ht : ∀ {b p dx fs G}, G p = Option.some (.ins C dx fs) → FvR (F b) fs G → tr.rep b (.ref p) G) (h : Γ[i]? = Option.some (.fz (tRef C) ())) :
    EJ RX E Γ (fun σ H Q => σ[i]? = Option.some (Option.some (.ref C)) ∧ rMk C (spIni RX C (TyA.lstB t) F m) E [] H Q) tr.h (m []) := fun H0 G H σ Q s s0 e q => by
  obtain ⟨v, hv, r⟩ := e.fz h
  cases (show v = .ref C from r)
  exact ⟨hv, CM.mk ht s ⟨.nil, Nat.zero_le _⟩ q⟩
/-- C.m(x), a classmethod by a mirror -/
theorem EJ.cmeth1 {to : TE} {mm : α → Mir γ} {tr : Ty γ} {m : Mir α} (hC : ∀ σ H Q, Q (.ref C) H → to σ H Q) (h : EJ RX E Γ te t.h m) : EJ RX E Γ (ClX.tCMeth C (spM RX (TyA.cons (tRef C).h (TyA.one t.h)) (rtF tr) fun p => mm p.2) E to (tCons te tNil)) tr.h (m.bind mm) := fun H0 G H σ Q s s0 e q => by
  unfold ClX.tCMeth
  refine hC σ H _ ⟨rfl, ?_⟩
  show te σ H (fun x H1 => spM RX (TyA.cons (tRef C).h (TyA.one t.h)) (rtF tr) (fun p => mm p.2) [.ref C, x] H1 Q E)
  exact h s s0 e (m.mono (fun x z v G1 H1 n r => ⟨((), x), G1, n.h, ⟨_, _, rfl, rfl, _, rfl, r⟩, (mm x).mono (fun _ z v G' H' n' r => z v G' H' (n.trans n') r) (fun _ z => z.to n) z⟩) (fun _ z => z) q)
/-- a < b <= c -/
theorem PJ.chain {r r' : R2} {f : α → β → Bool} {g : β → γ → Bool} (o : OpP r t.h u.h tBool.h f) (o' : OpP r' u.h tr tBool.h g) {a : α} {b : β} {c : γ} (ha : PJ Γ ta t.h a) (hb : PJ Γ tb u.h b) (hc : PJ Γ tc tr c) : PJ Γ (tChain r r' ta tb tc) tBool.h (f a b && g b c) := fun H0 G H σ Q s s0 e q =>
  ha s s0 e fun x G1 H1 n1 rx => hb n1.h (s0.trans n1.e) (e.up n1) fun y G2 H2 n2 ry => o n2.h (t.up n2.g rx) ry fun z G3 H3 n3 rz => ⟨f a b, rz, by
    cases h : f a b with
    | false => exact iteF (q _ G3 H3 ((n1.trans n2).trans n3) (by rw [h]; rfl))
    | true => exact iteT (hc n3.h ((s0.trans n1.e).trans (n2.e.trans n3.e)) (((e.up n1).up n2).up n3) fun w G4 H4 n4 rw' => o' n4.h (u.up (n3.g.trans n4.g) ry) rw' fun v G5 H5 n5 rv => q v G5 H5 ((((n1.trans n2).trans n3).trans n4).trans n5) (by rw [h]; exact rv))⟩
/-- parts of an f-string -/
theorem EJ.fmtS {m : Mir Str} (h : EJ RX E Γ te tStr.h m) : EJ RX E Γ (tFmt te) tStr.h m := fun H0 G H σ Q s s0 e q => h s s0 e (m.mono (fun z k v G1 H1 n ⟨ev, hz⟩ => .inl ⟨z, ev, sz (Nat.le_trans hz (by decide)), k _ G1 H1 n ⟨rfl, hz⟩⟩) (fun _ z => z) q)
theorem EJ.fmtI {m : Mir Int} (h : EJ RX E Γ te tInt.h m) : EJ RX E Γ (tFmt te) tStr.h (m.bind fun i => .chk (i.natAbs.log2 < 1920 ∧ (toString i : Str).length ≤ mxL) (.ret (toString i))) := fun H0 G H σ Q s s0 e q => h s s0 e (m.mono (fun i k v G1 H1 n ev => .inr ⟨i, ev, k.1.1, k.2 _ G1 H1 n ⟨rfl, k.1.2⟩⟩) (fun _ z => z) q)
/-- a if t else b, a new list -/
theorem LJ.ifE {b : Bool} {tt : TT} {m n : Mir (List α)} (h : TP Γ tt b) (h1 : LJ RX E Γ ta t m) (h2 : LJ RX E Γ tb t n) : LJ RX E Γ (tIf tt ta tb) t (.ifB b m n) := fun H0 G H σ Q s s0 e q => h s s0 e fun G1 H1 n1 => by
  cases b with
  | true => exact iteT (h1 n1.h (s0.trans n1.e) (e.up n1) (m.mono (fun _ z => z.to n1) (fun _ z => z.to n1) q))
  | false => exact iteF (h2 n1.h (s0.trans n1.e) (e.up n1) (n.mono (fun _ z => z.to n1) (fun _ z => z.to n1) q))
theorem EJ.ifE {b : Bool} {tt : TT} {m n : Mir α} {t : TyH α} (h : TP Γ tt b) (h1 : EJ RX E Γ ta t m) (h2 : EJ RX E Γ tb t n) : EJ RX E Γ (tIf tt ta tb) t (.ifB b m n) := fun H0 G H σ Q s s0 e q => h s s0 e fun G1 H1 n1 => by
  cases b with
  | true => exact iteT (h1 n1.h (s0.trans n1.e) (e.up n1) (m.mono (fun _ z => z.to n1) (fun _ z => z.to n1) q))
  | false => exact iteF (h2 n1.h (s0.trans n1.e) (e.up n1) (n.mono (fun _ z => z.to n1) (fun _ z => z.to n1) q))
/-- code that is never reached -/
theorem SJ.never {ts : TS} : SJ RX E Γ ts post rt .fail := fun H0 G0 G H σ D N e q => q.elim
/-- is_name -/
theorem CM.isName : CM RX E (fun vs H Q => spX (fun (x : Str) vs _ => vs = [.str x] ∧ x.length ≤ 1000) (fun x v _ => v = .bl (isNm x)) NoX vs H Q E) (TyA.one tStr.h) tBool.h fun x => .chk (x.length ≤ 1000) (.ret (isNm x)) := fun G H vs a Q s ⟨v, e, ev, _⟩ q => by
  subst e; subst ev
  exact cl0 (Nx.refl s) a ⟨rfl, q.1⟩ fun v G' H' n _ r => q.2 v G' H' n r
def mIsName (x : Str) : Mir Bool := .chk (x.length ≤ 1000) (.ret (isNm x))
def mLenO (m : Mir Int) : Mir Int := m.bind fun n => .chk (0 ≤ n ∧ n < 2 ^ 63) (.ret n)
def mPart (a b : Str) : Mir (Str × Str × Str) := .chk ((Txt.partition a b).1.length ≤ mxL ∧ (Txt.partition a b).2.1.length ≤ mxL ∧ (Txt.partition a b).2.2.length ≤ mxL) (.ret (Txt.partition a b))
/-- partition -/
theorem PJ.part {a b : Str} (h1 : PJ Γ ta tStr.h a) (h2 : PJ Γ tb tStr.h b) (hb : (b.length == 0) = false := by decide +kernel) : EJ RX E Γ (tM1 rPartK ta tb) (tRecT (TyL.cons tStr (TyL.cons tStr (TyL.one tStr)))).h (.chk ((Txt.partition a b).1.length ≤ mxL ∧ (Txt.partition a b).2.1.length ≤ mxL ∧ (Txt.partition a b).2.2.length ≤ mxL) (.ret (Txt.partition a b))) := fun H0 G H σ Q s s0 e q =>
  h1 s s0 e fun v G1 H1 n1 ⟨ev, hz⟩ => ⟨⟨a, ev⟩, h2 n1.h (s0.trans n1.e) (e.up n1) fun w G2 H2 n2 ⟨ew, _⟩ => ⟨a, b, ev, by rw [ew], hb, sz (Nat.le_trans hz (by decide)), fun p hp => q.2 _ _ _ ((n1.trans n2).newk hp) ⟨p, _, rfl, upd_same, _, _, rfl, ⟨rfl, q.1.1⟩, _, _, rfl, ⟨rfl, q.1.2.1⟩, _, rfl, rfl, q.1.2.2⟩⟩⟩
end
def tblF (C : Addr) (T : Tbl) : List (Str × Fv) := [("name", Fv.of tStr T.name), ("names", Fv.of (tTpl tStr) T.names), ("columns", Fv.of (tCols C) T.cols), ("key_sets", Fv.of (tTpl (tCols C)) T.keys)]
def schF' (CT C : Addr) (T : Sch) : List (Str × Fv) := [("tables", Fv.of (tTpl (tTbl CT C)) T.tables), ("names", Fv.of (tTpl tStr) T.names), ("columns", Fv.of (tCols C) T.cols)]
theorem mk_tbl {C D : Addr} {b : Tbl} {p dx : Addr} {fs : List (Str × V)} {G : Hp} (h : G p = some (.ins C dx fs)) (r : FvR (tblF D b) fs G) : (tTbl C D).rep b (.ref p) G := by
  obtain ⟨n, ts, c, ks⟩ := b
  cases r with | cons r1 r => cases r with | cons r2 r => cases r with | cons r3 r => cases r with | cons r4 r => cases r with | nil =>
    rename_i q1 q2 q3 q4
    obtain ⟨f1, v1⟩ := q1; obtain ⟨f2, v2⟩ := q2; obtain ⟨f3, v3⟩ := q3; obtain ⟨f4, v4⟩ := q4
    obtain ⟨e1, r1⟩ := r1; obtain ⟨e2, r2⟩ := r2; obtain ⟨e3, r3⟩ := r3; obtain ⟨e4, r4⟩ := r4
    cases e1; cases e2; cases e3; cases e4
    exact ⟨p, dx, v1, v2, v3, v4, rfl, h, r1, r2, r3, r4⟩
theorem mk_sch {C CT D : Addr} {b : Sch} {p dx : Addr} {fs : List (Str × V)} {G : Hp} (h : G p = some (.ins C dx fs)) (r : FvR (schF' CT D b) fs G) : (tSch C CT D).rep b (.ref p) G := by
  obtain ⟨n, ts, c⟩ := b
  cases r with | cons r1 r => cases r with | cons r2 r => cases r with | cons r3 r => cases r with | nil =>
    rename_i q1 q2 q3
    obtain ⟨f1, v1⟩ := q1; obtain ⟨f2, v2⟩ := q2; obtain ⟨f3, v3⟩ := q3
    obtain ⟨e1, r1⟩ := r1; obtain ⟨e2, r2⟩ := r2; obtain ⟨e3, r3⟩ := r3
    cases e1; cases e2; cases e3
    exact ⟨p, dx, v1, v2, v3, rfl, h, r1, r2, r3⟩
end Ax

/-! Drawn names, wild tables: their promises. -/
namespace Ax
open PySem PySem.Spec PyProof.Rows L2 SlX StX
abbrev spNames : Sp := spX (fun (d : Addr × Nat) vs G => vs = [.ref d.1, .int d.2] ∧ G d.1 = some (Pool d.1) ∧ d.2 ≤ 16) (fun d v G => ∃ a ns, v = .ref a ∧ G a = some (.lst (List.map V.str ns)) ∧ ns.length = d.2 ∧ (∀ x ∈ ns, isNm x = true) ∧ ns.Nodup) NoX
def mNames (n : Int) : Mir (List Str) := .chk (0 ≤ n ∧ n ≤ 16) (.any fun nm => nm.length = n.toNat ∧ (∀ x ∈ nm, isNm x = true) ∧ nm.Nodup)
theorem CM.names {RX : RXT} {E : XK} : CM RX E (fun vs H Q => spNames vs H Q E) (TyA.cons tPool.h (TyA.one tInt.h)) (tList tStr).h fun p => mNames p.2 := fun G H vs a Q s ⟨v, r, e, ⟨p, ep, hp⟩, w, e2, ew⟩ q => by
  subst e2; subst e; subst ep
  cases (show w = V.int a.2 from ew)
  obtain ⟨⟨q1, q2⟩, q⟩ := q
  refine cl0 (Nx.refl s) (p, a.2.toNat) ⟨by rw [show ((a.2.toNat : Nat) : Int) = a.2 by omega], hp, by show a.2.toNat ≤ 16; omega⟩ fun v G' H' n _ ⟨b, ns, ev, h1, h2, h3, h4⟩ => ?_
  exact q ns ⟨h2, h3, h4⟩ v G' H' n ⟨b, _, ev, h1, by rw [h2]; show a.2.toNat ≤ 90000; omega, repStrs fun x hx => nm_len (h3 x hx)⟩
theorem ins_perm {α : Type} {xs : List α} {k : Nat} {y : α} : (xs.take k ++ [y] ++ xs.drop k).Perm (y :: xs) := by
  have h : (xs.take k ++ [y] ++ xs.drop k).Perm (y :: (xs.take k ++ xs.drop k)) := by
    rw [List.append_assoc]
    exact List.perm_middle
  rw [List.take_append_drop] at h
  exact h
/-- some of the names in drawn order, some of these as a key -/
structure WildOk (nm cols key : List Str) : Prop where
  sub : ∀ x ∈ cols, x ∈ nm
  nd : cols.Nodup
  ne : cols ≠ []
  sk : key.Sublist cols
  kne : key ≠ []
theorem WildOk.len {nm cols key : List Str} (h : WildOk nm cols key) : cols.length ≤ nm.length := nd_len h.nd h.sub
abbrev spWild : Sp := spX (fun (d : Addr × Addr × List Str) vs G => vs = [.ref d.1, .ref d.2.1] ∧ G d.1 = some (Pool d.1) ∧ G d.2.1 = some (.lst (d.2.2.map V.str)) ∧ d.2.2 ≠ [] ∧ d.2.2.length ≤ 16 ∧ d.2.2.Nodup)
  (fun d v G => ∃ a bc bk cols key, v = .ref a ∧ G a = some (.lst [.ref bc, .ref bk]) ∧ G bc = some (.lst (List.map V.str cols)) ∧ G bk = some (.lst (List.map V.str key)) ∧ WildOk d.2.2 cols key) NoX
def mWild (nm : List Str) : Mir (List Str × List Str) := .chk (nm ≠ [] ∧ nm.length ≤ 16 ∧ nm.Nodup) (.any fun r => WildOk nm r.1 r.2)
theorem CM.wild {RX : RXT} {E : XK} : CM RX E (fun vs H Q => spWild vs H Q E) (TyA.cons tPool.h (TyA.one (tList tStr).h)) (tRecL (TyL.cons (tList tStr) (TyL.one (tList tStr)))).h fun p => mWild p.2 := fun G H vs a Q s ⟨v, r, e, ⟨p, ep, hp⟩, w, e2, b, ws, ew, hb, hl, hr⟩ q => by
  subst e2; subst e; subst ep; subst ew
  have hs := strsR hr
  have hx := strsL hr
  subst hs
  obtain ⟨⟨q1, q2, q3⟩, q⟩ := q
  refine cl0 (Nx.refl s) (p, b, a.2) ⟨rfl, hp, hb, q1, q2, q3⟩ fun v G' H' n _ ⟨x, bc, bk, cols, key, ev, h1, h2, h3, ok⟩ => ?_
  have lc : ∀ x ∈ cols, x.length ≤ mxL := fun x h => hx x (ok.sub x h)
  have hlen : cols.length ≤ a.2.length := ok.len
  refine q (cols, key) ok v G' H' n ⟨x, _, ev, h1, .ref bc, [.ref bk], rfl, ⟨bc, _, rfl, h2, by show cols.length ≤ 90000; omega, repStrs lc⟩, .ref bk, rfl, bk, _, rfl, h3, ?_, repStrs fun x h => lc x (ok.sk.subset h)⟩
  have := ok.sk.length_le
  show key.length ≤ 90000
  omega

end Ax

/-! x[y] by the class's own def. -/
namespace Ax
open PySem PySem.Spec PyProof.Rows L2 SlX StX PySem.W
theorem fnIn_of {K : Fr'} {d : DfX} {f : Addr} (F : FunX K d f) : fnIn K f = true := by
  obtain ⟨fd, oc, od, dV, kV, doc, pm, an, cdv, ct, osl, rfl, lk, hcd, hD, hK⟩ := (show ∃ fd, _ from let ⟨fd, F⟩ := F; ⟨fd, F.ex⟩)
  unfold fnIn
  rw [lk]
def rIxO (C : Addr) (sp : Sp) (E : XK) : R2 := fun x y H Q => ∃ a, x = .ref a ∧ Ins H a C ∧ sp [.ref a, y] H Q E
theorem pe_ixO {X : Cx} {CX : CXT} {k : Nat} {C g : Addr} {sp : Sp} {E : XK} {a b : Expr} {pos : Pos} {ta tb : TE} (hs : findIn X.K (.ref C) "__getitem__" = some (some (.ref g))) (hfi : fnIn X.K g = true) (hf : isFn X.K (.ref g) = true)
    (F : FnR X.prog X.w X.K X.mg X.base CX k g sp) (hr : Room (k + 1) X.A) (hx : Passes CX X E) (ha : PE X a ta) (hb : PE X b tb) (hsl : ∀ o i, subscripted b true o i = runValue (.builtin "lifetime.subscript" ⟨[o, i], []⟩)) : PE X (.Subscript a b pos) (tOp (rIxO C sp E) ta tb) := by
  refine ⟨fun pins s σ H Q I h => ?_⟩
  refine Subscript_ (binT ha hb I h fun v u s x y H I rx ry h => ?_)
  obtain ⟨a, rfl, ha, q⟩ := h
  cases (show v = Value.ref a from rx)
  obtain ⟨_, _, J⟩ := ins_at I ha
  obtain ⟨m, hF⟩ := I.fr
  refine sub_K hF I.ok.mod.kin J hs hfi hf (wpAny_call ?_) (hsl _ _)
  refine codeAny_mono (F X.A.in1 X.stack s H [.ref a, u] [.ref a, y] Q E hr.in1 I.env0.in1 (.cons rfl (.cons ry .nil)) q) fun r s' hq => ?_
  cases r with
  | error e => exact hx pins σ H s e s' I hq
  | ok fl =>
    cases fl with
    | ret u => exact I.after hq
    | next => exact False.elim hq
    | brk => exact False.elim hq
    | cont => exact False.elim hq
section
variable {RX : RXT} {E : XK} {α β γ : Type} {C : Addr} {t : Ty α} {u : Ty β} {tr : Ty γ}
theorem OpM.ixO {m : α × β → Mir γ} (i1 : InsT t C) : OpM RX E (rIxO C (spM RX (TyA.cons t.h (TyA.one u.h)) (rtF tr) m) E) t.h u.h tr.h fun a b => m (a, b) := fun G H x y a b Q s r1 r2 q => by
  obtain ⟨p, dx, fs, e1, h1⟩ := i1 r1
  subst e1
  exact ⟨p, rfl, ⟨dx, fs, s _ _ h1⟩, (a, b), G, s, ⟨_, _, rfl, r1, _, rfl, r2⟩, q⟩
end
section
variable {RX : RXT} {E : XK} {Γ : List Sl} {K : PySem.W.Frag} {α β γ : Type} {t : Ty α} {te : TE} {C : Addr}
theorem EJ.isiB {T U : String} {b : Bool} {m : Mir α} {t : TyH α} (hT : TyS K t T) (hk : PySem.W.kitOne K (.type T) (.type U) = Option.some b) (h : EJ RX E Γ te t m) : EJ RX E Γ (tCB (rIsi K) (tCons te (tCons (tC (.ty U)) tNil))) tBool.h (m.bind fun _ => .ret b) := fun H0 G H σ Q s s0 e q =>
  h s s0 e (m.mono (fun _ z v G1 H1 n r => ⟨_, _, _, _, b, rfl, .ty U, hT n.h r, hk, z _ G1 H1 n rfl⟩) (fun _ z => z) q)
theorem EJ.isiO {m : Mir α} (hI : InsT t C) (hT : TyI K C) (hk : PySem.W.kitOne K (.ref C) (.ref C) = Option.some true) (h : EJ RX E Γ te t.h m) : EJ RX E Γ (tCB (rIsi K) (tCons te (tCons (tC (.ref C)) tNil))) tBool.h (m.bind fun _ => .ret true) := fun H0 G H σ Q s s0 e q =>
  h s s0 e (m.mono (fun _ z v G1 H1 n r => by
    obtain ⟨p, dx, fs, ev, h1⟩ := hI r
    subst ev
    exact ⟨_, _, _, _, true, rfl, .own C, hT (n.h _ _ h1), hk, z _ G1 H1 n rfl⟩) (fun _ z => z) q)
theorem OpP.isBl : OpP rIsB tBool.h tBool.h tBool.h fun a b => a == b := fun G H x y a b Q s r1 r2 q => by
  cases (show x = V.bl a from r1); cases (show y = V.bl b from r2)
  exact ⟨a, b, rfl, rfl, q _ G H (Nx.refl s) (by first | rfl | (show V.bl _ = V.bl _; congr 1))⟩
theorem OpP.notBl : OpP rNotB tBool.h tBool.h tBool.h fun a b => !(a == b) := fun G H x y a b Q s r1 r2 q => by
  cases (show x = V.bl a from r1); cases (show y = V.bl b from r2)
  exact ⟨a, b, rfl, rfl, q _ G H (Nx.refl s) (by first | rfl | (show V.bl _ = V.bl _; congr 1))⟩
abbrev spIsSet (K : PySem.W.Frag) (C : Addr) : Sp := spX (fun (d : (Addr × List Str) × Addr × List Str) vs G => vs = [.ref d.1.1, .ref d.2.1] ∧ ColsAt C G d.1.1 d.1.2 ∧ G d.2.1 = some (.lst (d.2.2.map V.str)) ∧ Nms d.2.2) (RBool fun d => decide (d.1.2 = cset d.2.2)) NoX
theorem CM.isSet : CM RX E (fun vs H Q => spIsSet K C vs H Q E) (TyA.cons (tCols C).h (TyA.one (tList tStr).h)) tBool.h fun p => .chk (Nms p.2) (.ret (decide (p.1 = cset p.2))) := fun G H vs a Q s ⟨v, r, e, ⟨p, ep, hp⟩, w, e2, b, ws, ew, hb, hl, hr⟩ q => by
  subst e2; subst e; subst ep; subst ew
  have hs := strsR hr
  subst hs
  exact cl0 (Nx.refl s) ((p, a.1), b, a.2) ⟨rfl, hp, hb, q.1⟩ fun v G' H' n _ r => q.2 v G' H' n r
def mIsSet (a b : List Str) : Mir Bool := .chk (Nms b) (.ret (decide (a = cset b)))
end
end Ax

/-! More rules: pop at a place, xs[i] = v with parts that draw, a value that is not None. -/
namespace Ax
open PySem PySem.Spec PyProof.Rows L2 SlX StX
section
variable {RX : RXT} {E : XK} {Γ : List Sl} {α β γ ρ : Type} {te ti : TE} {tr : TS} {t : Ty α} {post : β → List Sl} {rt : Rt ρ}
/-- the value itself, where it is not None -/
def mThe (x : Option α) : Mir α := ⟨fun Q _ => ∃ a, x = some a ∧ Q a, fun h _ ⟨a, e, q⟩ => ⟨a, e, h a q⟩⟩
theorem mThe_some (a : α) : mThe (some a) = .ret a := Mir.ext fun Q E => propext ⟨fun ⟨b, e, q⟩ => by cases e; exact q, fun q => ⟨a, rfl, q⟩⟩
theorem EJ.the {m : Mir (Option α)} (h : EJ RX E Γ te (tOpt t).h m) : EJ RX E Γ te t.h (m.bind mThe) := fun H0 G H σ Q s s0 e q =>
  h s s0 e (m.mono (fun x ⟨a, ea, z⟩ v G' H' n r => by
    subst ea
    exact z v G' H' n r.1) (fun _ z => z) q)
def mPopAt (xs : List α) (i : Int) (f : List α → Mir β) : Mir β := .chk (0 ≤ i ∧ i < xs.length) (f (xs.eraseIdx i.toNat))
theorem SJ.popAt {K : PySem.W.Frag} {i : Nat} {xs : List α} {a : Mir Int} {f : List α → Mir (Out β ρ)} (h : Γ[i]? = some (.own t xs)) (ha : EJ RX E Γ te tInt.h a) (k : ∀ x, SJ RX E (Γ.set i (.own t x)) tr post rt (f x)) :
    SJ RX E Γ (tSeq (tDrop (tBM K "list" rPopAt (tVar i) (tCons te tNil))) tr) post rt (a.bind fun c => .chk (0 ≤ c ∧ c < xs.length) (f (xs.eraseIdx c.toNat))) := fun H0 G0 G H σ D N e q => by
  obtain ⟨l, vs, e1, h1, h2, h3, h4, h5⟩ := e.own h
  refine ⟨.ref l, e1, .inl ⟨rfl, vs, sqL h1⟩, AJ.one ha N.h N.e e (a.mono (fun c z ws G1 H1 n1 ra => ?_) (fun _ z => z.k N (Same.refl _)) q)⟩
  obtain ⟨v, ev, rv⟩ := ra
  subst ev
  cases (show v = V.int c from rv)
  have N1 := N.trans n1
  have g1 := n1.hid h1 h2
  have hl : vs.length = xs.length := h5.len.symm
  have hc : c.toNat < vs.length := by have := z.1; omega
  have hmx : xs.length ≤ 90000 := h4
  refine ⟨l, vs, c, c.toNat, vs[c.toNat], rfl, rfl, n1.e _ _ h1, by have := z.1; omega, by have := z.1; omega, ?_, List.getElem?_eq_getElem hc, ?_⟩
  · have := z.1
    unfold seqIndex?
    first
      | (simp; omega)
      | (split <;> first | rfl | (simp; omega) | omega)
  · have r2 : Reps t G1 (xs.eraseIdx c.toNat) (vs.eraseIdx c.toNat) := by
      rw [List.eraseIdx_eq_take_drop_succ, List.eraseIdx_eq_take_drop_succ]
      exact Reps.app ((h5.up n1.g).take _) ((h5.up n1.g).drop _)
    exact k _ (N1.mut h3 g1) (Env.mut h3 (Nat.le_trans (List.length_eraseIdx_le ..) h4) r2 (e.up n1) h e1) ((f _).mono (fun _ z => z.to n1.g) (fun _ z => z.to n1.g) z.2)
theorem SJ.setAtM {i : Nat} {xs : List α} {a : Mir α} {b : Mir Int} {f : List α → Mir (Out β ρ)} (h : Γ[i]? = some (.own t xs)) (ha : EJ RX E Γ te t.h a) (hb : EJ RX E Γ ti tInt.h b) (k : ∀ x, SJ RX E (Γ.set i (.own t x)) tr post rt (f x)) :
    SJ RX E Γ (tSeq (tAsg te (gSub (tVar i) ti rSetL)) tr) post rt (a.bind fun x => b.bind fun y => .chk ((ixN xs.length y).isSome) (f (xs.set ((ixN xs.length y).getD 0) x))) := fun H0 G0 G H σ D N e q => by
  refine ha N.h N.e e (a.mono (fun x z v G1 H1 n1 rv => ?_) (fun _ z => z.k N (Same.refl _)) q)
  have N1 := N.trans n1
  have e1 := e.up n1
  obtain ⟨l, vs, ev, h1, h2, h3, h4, h5⟩ := e1.own h
  refine ⟨.ref l, ev, hb N1.h N1.e e1 (b.mono (fun y z w G2 H2 n2 rw' => ?_) (fun _ z => z.k N1 n1.g) z)⟩
  cases (show w = V.int y from rw')
  have N2 := N1.trans n2
  obtain ⟨j, hj⟩ := Option.isSome_iff_exists.mp z.1
  refine ⟨l, vs, y, j, rfl, rfl, n2.e _ _ h1, by rw [← h5.len]; exact hj, ?_⟩
  have q2 := z.2
  rw [hj] at q2
  exact k _ (N2.mut h3 (n2.hid h1 h2)) (Env.mut h3 (by rw [List.length_set]; exact h4) ((h5.up n2.g).set (t.up n2.g rv) j) (e1.up n2) h ev) ((f _).mono (fun _ z => z.to (n1.g.trans n2.g)) (fun _ z => z.to (n1.g.trans n2.g)) q2)
end
abbrev spRowKind : Sp := spX (fun (d : Addr × List Int × Nat) vs G => vs = [.ref d.1, .int d.2.2] ∧ G d.1 = some (.tup (d.2.1.map V.int)) ∧ d.2.1.length ≤ 1000) (RBool fun d => decide (d.2.1.length = d.2.2)) NoX
abbrev spValues : Sp := spX (fun (p : Addr) vs G => vs = [.ref p] ∧ G p = some (Pool p)) (fun _ v G => ∃ a, ∃ ns : List Int, v = .ref a ∧ G a = some (.lst (ns.map V.int)) ∧ ns.length = 4) NoX
section
variable {RX : RXT} {E : XK} {Γ : List Sl} {α β γ : Type} {te : TE} {tl : TA} {t : Ty α}
theorem CM.rowKind : CM RX E (fun vs H Q => spRowKind vs H Q E) (TyA.cons (tTpl tInt).h (TyA.one tInt.h)) tBool.h fun p => .chk (p.1.length ≤ 1000 ∧ 0 ≤ p.2) (.ret (decide ((p.1.length : Int) = p.2))) := fun G H vs a Q s ⟨v, r, e, ⟨b, ws, eb, hb, hl, hr⟩, w, e2, ew⟩ q => by
  subst e2; subst e; subst eb
  cases (show w = V.int a.2 from ew)
  have hs := intsR hr
  subst hs
  obtain ⟨n, hn⟩ := Int.eq_ofNat_of_zero_le q.1.2
  refine cl0 (Nx.refl s) (b, a.1, n) ⟨by rw [hn], hb, q.1.1⟩ fun v G' H' n' _ r => q.2 v G' H' n' ?_
  show v = V.bl _
  rw [show v = V.bl (decide (a.1.length = n)) from r]
  congr 1
  rw [hn]
  exact decide_eq_decide.mpr ⟨fun z => by omega, fun z => by omega⟩
def mRowKind (a : List Int) (n : Int) : Mir Bool := .chk (a.length ≤ 1000 ∧ 0 ≤ n) (.ret (decide ((a.length : Int) = n)))
def mValues : Mir (List Int) := .any fun ns => ns.length = 4
theorem CM.values : CM RX E (fun vs H Q => spValues vs H Q E) (TyA.one tPool.h) (tList tInt).h fun _ => mValues := fun G H vs a Q s ⟨v, e, p, ep, hp⟩ q => by
  subst e; subst ep
  exact cl0 (Nx.refl s) p ⟨rfl, hp⟩ fun v G' H' n _ ⟨b, ns, ev, h1, h2⟩ => q ns h2 v G' H' n ⟨b, _, ev, h1, by rw [h2]; decide, repInts⟩
theorem AJ.bcons {a : Mir α} {b : Mir (List α)} (h : EJ RX E Γ te t.h a) (h' : AJ RX E Γ tl (TyA.lstB t) b) : AJ RX E Γ (tCons te tl) (TyA.lstB t) (a.bind fun x => b.bind fun xs => .chk (xs.length < mxL) (.ret (x :: xs))) := fun H0 G H σ Q s1 s0 e q => h s1 s0 e (a.mono (fun x z v G1 H1 n1 r =>
  h' n1.h (s0.trans n1.e) (e.up n1) (b.mono (fun xs z vs G2 H2 n2 rs => z.2 (v :: vs) G2 H2 (n1.trans n2) ⟨.cons (t.up n2.g r) rs.1, z.1⟩) (fun _ z => z.to n1) z)) (fun _ z => z) q)
end
theorem pg_tupK {X : Cx} {K : PySem.W.Frag} {es : List Expr} {k : Nat} {pos : Pos} {t : TGs} {n : Nat} (hK : X.K = K) (hc : X.calm = true) (h : PGs X es t)
    (hn : (assignEach es X.env).length = n := by rfl) (hst : (assignEach es X.env).findIdx? (·.1) = none := by rfl) : PG X (.Tuple es k pos) (gTup K n t) := by
  subst hK
  exact pg_tup hc h hn hst
theorem pe_joinK {X : Cx} {K : PySem.W.Frag} {o e : Expr} {to te : TE} {apos pos : Pos} (hK : X.K = K) (ho : PE X o to) (he : PE X e te) (hs : starEach [e] X.env = [(false, eval e X.env)] := by rfl) (hbase : attributeBase o "join" X.env (eval o X.env) = eval o X.env := by rfl) (hline : (apos.endLine == pos.line) = true := by rfl) :
    PE X (.Call (.Attribute o "join" apos) [e] [] pos) (tM1 (rJoinK K) to te) := by
  subst hK
  exact pe_join ho he hs hbase hline
end Ax

/-! Own exceptions whose __init__ says super().__init__('..') first: made, raised. -/
namespace Ax
open PySem PySem.Spec PyProof.Rows L2 PySem.W NdefX
section
variable {prog : Program} {w : World} {A : Around} {E : Value → Shared → Prop} {h : Heap} {g : Array GenState} {d : Drawn} {t : Nat} {os : OsState}
variable {nm q : Str} {C N : Addr} {bs bm : List Value} {hdct : Bool} {sn : List Str} {sub : List Value} {ab : Bool} {col : Option Bool} {dd : Option Addr} {k0 k1 k2 k3 k5 : Option Value}
/-- ValueError.__init__ bound to the exception at e, called -/
theorem mw_call {u e t0 : Addr} {rest : List Value} {Q : Value → Shared → Prop}
    (hC : h.get? C = some (excClassObj nm q C N bs bm hdct sn sub ab col dd k0 k1 k2 k3 k5 "ValueError.__new__")) (he : h.get? e = some (HandSPX.excO C t0)) (hu : h.get? u = some (kxs_mw "ValueError.__init__" e)) (hrest : rest.length ≤ sizeLine)
    (hq : ∀ h' t1, (∀ b o, b ≠ e → h.get? b = some o → h'.get? b = some o) → h'.get? e = some (HandSPX.excO C t1) → Q .none ⟨h', g, d, t, os⟩) :
    wpAny (model prog w) A (call (.ref u) rest) Q E ⟨h, g, d, t, os⟩ := by
  refine wpAny_call (codeAny_of_tree ?_)
  show wpAny _ A.in1 (callAny (.ref u) ⟨rest, []⟩) _ _ _
  simp only [callAny]
  refine wpAny_bind (wpAny_load hu ?_)
  simp only [kxs_mw, show (Value.type "method-wrapper" == Value.type "method" || Value.type "method-wrapper" == Value.type "builtin_function_or_method" || Value.type "method-wrapper" == Value.type "method-wrapper") = true by decide, if_true]
  refine KFB.if_so (by decide) ?_
  refine wpAny_bind (check_bound_init F.excBase_ValueError.toExcCallFacts hC he rfl ?_)
  refine wpAny_bind (wpAny_pure (wpAny_pure ?_))
  refine ⟨Code.quiet_builtin _ (by decide +kernel), codeAny_builtin F.excBase_ValueError.initEntry ?_⟩
  rw [Around.under_plainId F.excBase_ValueError.init.plain _]
  wp_walk
  refine hq _ h.objs.size (fun b o hb ho => ?_) ?_
  · rw [Heap.get?_update_other _ _ (Ne.symm hb)]
    exact Heap.get?_push_of_some _ ho
  · rw [Heap.get?_update_self _ (Heap.get?_push_of_some _ he) rfl]
    rfl
end
/-- what the written part says of the class at C, its __init__ at f -/
structure ExK (K : Frag) (C f : Addr) : Prop where
  oex : OexC K C
  ini : findIn K (.ref C) "__init__" = some (some (.ref f))
  tf : typeIn K (.ref f) = some (.type "function")
  sup : ks_superIn K C C "__init__" = some (some (.builtin "ValueError.__init__"))
  mro : mroIn K C (.ref C) = some true
  ve : subIn K (.ref C) (.type "ValueError") = some true
  opq : nsIn K cStatics "thirdparty.any" = some none
/-- its __init__ -/
structure ExF (K : Frag) (file : Str) (C f : Addr) (F : NdefX.NF) (cc : Addr) (fd : FuncData) : Prop where
  cl : F.cl = [(("__class__" : Str), cc)]
  fd : ∃ kV doc pm an ctv oc od osl, fd = PySem.W.fnX F.name F.qual F.params F.body F.scope F.cl .none kV doc pm an (.ref F.c) ctv ∧ K.lookup f = some ⟨oc, od, .func fd, osl⟩
  cd : codeIn K (.ref F.c) F.qual = true
  code : ∃ ccl cdd vs ccs tf, K.lookup F.c = some ⟨ccl, cdd, .fields vs, ccs⟩ ∧ vs[2]? = some (.str file tf)
  cell : ∃ cl cld csl, K.lookup cc = some ⟨cl, cld, .cell (some (.ref C)), csl⟩
section
variable {CX : CXT} {P : Program} {w : World} {K : Frag} {mg : Str → Option Value} {base : Heap} {N ps : List Str} {F : NdefX.NF} {f C cc : Addr} {fd : FuncData} {k : Nat} {sp : Sp} {p0 p1 p2 p3 p4 p5 : Pos} {msg : Str} {j : Nat} {rest : List Stmt} {ar : Arg}
abbrev initBody (p0 p1 p2 p3 p4 p5 : Pos) (msg : Str) (j : Nat) (rest : List Stmt) : List Stmt := .Expr (.Call (.Attribute (.Call (.Name "super" p0) [] [] p1) "__init__" p2) [.Constant (.str msg) j p3] [] p4) p5 :: rest
theorem fnE_of (X : ExK K C f) (G : ExF K P.main.file C f F cc fd) (hbd : F.body = initBody p0 p1 p2 p3 p4 p5 msg j rest) (S : NScope N ps [("__class__" : Str)] F.scope) (hp : (F.params.posonlyargs ++ F.params.args).head? = some ar) (hps : ps[0]? = some ar.arg)
    (hks : F.scope.names.lookup ("super" : Str) = some .globalImplicit) (hns : mg "super" = none) (htop : (P.main.scope.names.lookup ("super" : Str)).isSome = false)
    (hev : ∃ pl, ∀ L, eval (.Call (.Attribute (.Call (.Name "super" p0) [] [] p1) "__init__" p2) [.Constant (.str msg) j p3] [] p4) (envF F f L) = (do
      let ov ← attributeBase (.Call (.Name "super" p0) [] [] p1) "__init__" (envF F f L) (eval (.Call (.Name "super" p0) [] [] p1) (envF F f L))
      standAt p2.atName
      let (g, first) ← holding [ov] (getMethod ov "__init__" pl)
      callWith p4 g first (backTo p4 (starEach [.Constant (.str msg) j p3] (envF F f L))) []))
    (hsw : ∀ L, swapsWith (.Call (.Attribute (.Call (.Name "super" p0) [] [] p1) "__init__" p2) [.Constant (.str msg) j p3] [] p4) none p5.line (envF F f L) = pure false) (len : ∀ vs H Q E, sp vs H Q E → vs.length = ps.length)
    (hbody : ∀ (A : Around) (outer : List PySem.Env) (s : Shared) (H : Hp) (vs : List V) (Q : VK) (E : XK), Room k (A.deeper (envF F f s.heap.objs.size)) → sp vs H Q E →
      ∃ a t, vs[0]? = some (.ref a) ∧ H a = some (exo a C none) ∧ PSs (ncx CX P w K mg base N F f A outer s H E) rest t ∧ t { nx := fun _ H' => Q .non H', rt := Q } (startF N vs [none]) H) :
    FnOk P w K mg base CX (k + 1) f fd ps sp := by
  refine ⟨len, fun A outer s H args us vs Q E hr e0 hb r hsp => ?_⟩
  have hl := len _ _ _ _ hsp
  have KX : K.In s.heap := e0.mod.kin.keeps fun b o e => (e0.bs b o e).1
  have lim : s.heap.NoLimit := e0.mod.nolimit.keeps fun b o e => (e0.bs b o e).1
  obtain ⟨kV, doc, pm, an, ctv, oc, od, osl, efd, lk⟩ := G.fd
  subst efd
  obtain ⟨ccl, cdd, fvs, ccs, tf, hcode, hvs⟩ := G.code
  obtain ⟨cl, cld, csl, hcell⟩ := G.cell
  obtain ⟨a, t, ea, eH, ht, hq⟩ := hbody A outer s H vs Q E (hr.deeper _) hsp
  have hC : CellsAt F.cl [("__class__" : Str)] [none] s.heap H := by
    rw [G.cl]
    refine ⟨rfl, fun y c e => ?_, fun x y c h1 h2 => ?_, fun i y e => ?_⟩
    · rw [List.lookup_cons] at e
      split at e
      · cases e
        exact ⟨(e0.bs _ _ (e0.mod.kin _ _ hcell)).2, _, _, KX _ _ hcell, rfl⟩
      · cases e
    · rw [List.lookup_cons] at h1 h2
      split at h1
      · rename_i e1
        split at h2
        · rename_i e2
          rw [eq_of_beq e1, eq_of_beq e2]
        · cases h2
      · cases h1
    · cases i with
      | zero =>
        cases e
        exact ⟨cc, by rw [List.lookup_cons]; simp, fun v e => by cases e⟩
      | succ i => simp at e
  refine codeAny_call_function hr.depth (KX _ _ lk) rfl S.co S.gen rfl (codeRec_of KX G.cd) (hb _ _ _ _ ?_)
  refine wpAny_newFunctionEnv S.nocell (fun ⟨n, _⟩ hy => S.par n (List.of_mem_zip hy).1) (fun h₁ hns₁ hsb => ⟨lim.fresh _ hsb, ?_⟩) S.kind
  show codeAny _ _ (.func F.body (envF F f s.heap.objs.size)) _ _
  rw [hbd]
  refine ks_codeAny_funcAt ?_
  have kp : ∀ b o, s.heap.get? b = some o → h₁.get? b = some o := fun b o e => hsb.extBut b o (Nat.ne_of_lt (Heap.lt_size e)) (Heap.get?_push_of_some _ e)
  have I : Inv (ncx CX P w K mg base N F f A outer s H E) [] (startF N vs [none]) H { s with heap := h₁, toks := s.toks + (ps.zip us).length } := inv_startN S hr.hd e0 hl r hC hns₁ kp
  have hself : (ps.zip us).reverse.lookup ar.arg = some (.ref a) := by
    obtain ⟨u, hu, ru⟩ := r.get ea
    cases (show u = Value.ref a from ru)
    have ndP : ps.Nodup := by
      have q := S.nd.sublist (List.take_sublist (ps.length + [("__class__" : Str)].length) N)
      rw [S.pre] at q
      exact (List.nodup_append.mp q).1
    exact zip_look ndP hps hu
  have hka : F.scope.names.lookup ar.arg = some .local := S.par _ (List.mem_of_getElem? hps)
  have fin : ∀ {σ' : L2.St} {H' : Hp} {v : V} {u : Value} {s' : Shared}, Inv (ncx CX P w K mg base N F f A outer s H E) [] σ' H' s' → L2.RelV v u → Q v H' → CE outer P w H s Q u s' :=
    fun {σ' H' v u s'} J rv q => ⟨v, H', J.os, J.bare, J.base, J.hok, rv, q⟩
  obtain ⟨cnm, cq, cN, cbs, cbm, csn, csub, cab, ccol, cdd2, k0, k1, k2, k3, k5, hCl, hbm⟩ := X.oex.cls
  obtain ⟨pl, hev⟩ := hev
  refine ks_wpAt_execs_cons (ks_wpAt_Expr_any (ks_wpAt_MethodCall (pl := pl) ?_ (hev _)) (by simp [interactive, S.kind]) (hsw _))
  refine ks_wpAt_super_base (env := envF F f s.heap.objs.size) hks (S.frk _ (by simp)) (by decide) rfl (I.kIn _ _ lk) rfl hp rfl (I.kIn _ _ hcode) rfl hvs (by simp) htop ?_
  refine ks_loadName_global S.kind hks (Calls.loadGlobal_builtin (env := envF F f s.heap.objs.size) (mb := (Classical.choose I.mod.blt)) (I.mod.glob.keeps I.bk) hns ((Classical.choose_spec I.mod.blt).1.keeps I.bk) (((Classical.choose_spec I.mod.blt).2 "super" (by decide)).trans (show bootBuiltins "super" = some (.type "super") by decide +kernel)) ⟨rfl, ?_⟩)
  refine wpAny_loadName_free S.kind (S.frk _ (by simp)) (c := cc) (by show F.cl.lookup _ = _; rw [G.cl]; rfl) ⟨_, I.kIn _ _ hcell, rfl⟩ ?_
  refine wpAny_loadName_local S.kind hka hns₁ hself ?_
  have hD := I.kIn _ _ hCl
  refine ks_wpAny_isType_cls hD rfl ⟨rfl, ?_⟩
  obtain ⟨t0, hx⟩ := exo_at I.hok eH
  refine ks_wpAny_call_super hD rfl hx rfl (fun c e => by cases e) (looks_mroIn I.kIn X.mro) (fun h2 e2 kp2 => ?_)
  have I2 : Inv (ncx CX P w K mg base N F f A outer s H E) [] (startF N vs [none]) H { s with heap := h2, toks := s.toks + (ps.zip us).length } := I.kept (t' := s.toks + (ps.zip us).length) kp2
  have hsup := X.sup
  unfold ks_superIn at hsup
  have hcl : PySem.W.clsIn K C = some { name := cnm, bases := cbs, mro := .ref C :: cbm, ns := cN, qualname := cq, hasDict := true, slotNames := csn, subclasses := csub, abstract := cab, collection := ccol, hasDel := false } := by unfold PySem.W.clsIn; rw [hCl] <;> rfl
  rw [hcl] at hsup
  have IA : InstAt h2 a (HandSPX.excO C t0) C none := ⟨kp2 _ _ hx, rfl, rfl, trivial⟩
  have hI : Looks (model P w) h2 (isInstance (.ref a) (.type "ValueError")) true := IA.type.andThen (looks_subIn I2.kIn X.ve)
  refine kxs_getMethod kxs_ValueError e2 (looks_opaque I2.kIn X.opq) (l₀ := .ref C :: cbm) ?_ rfl I2.kIn hsup hI (ks_ne I2.kIn IA hcl) (by decide) ?_
  · exact fun A Q E s k q => wpAny_bind ((looks_clsIn I2.kIn hcl) A _ E s k (wpAny_pure q))
  have kp3 : ∀ b o, h2.get? b = some o → (h2.push (kxs_mw "ValueError.__init__" a)).get? b = some o := fun b o e => Heap.get?_push_of_some _ e
  have I3 : Inv (ncx CX P w K mg base N F f A outer s H E) [] (startF N vs [none]) H { s with heap := h2.push (kxs_mw "ValueError.__init__" a), toks := s.toks + (ps.zip us).length + 1 } := I2.kept (t' := s.toks + (ps.zip us).length + 1) kp3
  refine kxs_callWith (i := "ValueError.__init__") (x := a) rfl ?_
  refine Calls.evalArgs_plain ?_
  have hno : ∀ v, (kxs_mw "ValueError.__init__" a).data ≠ .cell v := fun v e => by cases e
  have hu0 : h2.objs.size ≥ s.heap.objs.size := by
    have q1 := I2.sz
    exact q1
  have hHu : H h2.objs.size = none := I2.hok.fresh (Nat.le_refl _)
  have IP : Inv (ncx CX P w K mg base N F f A outer s H E) [(h2.objs.size, kxs_mw "ValueError.__init__" a)] (startF N vs [none]) H { s with heap := h2.push (kxs_mw "ValueError.__init__" a), toks := s.toks + (ps.zip us).length + 1 } :=
    I3.pins_of fun p hp => by
      cases List.mem_singleton.mp hp
      exact ⟨Heap.get?_push_at rfl rfl, hHu, fun z => absurd I2.lt (by rw [← z]; exact Nat.lt_irrefl _), I2.nofs (Nat.le_refl _), hno⟩
  refine wpAny_mono ((pa_cons (pe_str (x := msg) (j := j) (pos := p3)) pa_nil : PA (ncx CX P w K mg base N F f A outer s H E) [.Constant (.str msg) j p3] _).run p4 _ _ _ H (fun vs H1 => vs = [.str msg] ∧ H1 = H) IP ⟨rfl, rfl⟩) (fun us1 s1 hh => ?_) (fun _ _ x => x)
  obtain ⟨vs1, H1, I4, r1, e5, e6⟩ := hh
  rw [e6] at I4
  obtain ⟨hu4, _⟩ := I4.pin _ (List.mem_append_right _ (List.mem_singleton.mpr rfl))
  refine ⟨hu4, ?_⟩
  obtain ⟨t4, hx4⟩ := exo_at I4.hok eH
  have hl1 : us1.length ≤ sizeLine := by
    rw [← r1.length, e5]
    exact Nat.le_trans (by decide : 1 ≤ 100000) (sz (Nat.le_refl _))
  obtain ⟨h4, g4, d4, tk4, os4⟩ := s1
  refine mw_call (C := C) (e := a) (I4.kIn _ _ hCl) hx4 hu4 hl1 fun h5 t5 k5 hx5 => ?_
  have J := I4.write (t' := tk4) (x := a) (e := a) (o := exo a C none) (by rw [eH]; exact True.intro) (.inl rfl) k5 ⟨_, hx5⟩ (exo_ok hx5)
  have eu : upd H a (exo a C none) = H := by
    funext b
    by_cases hb : b = a
    · rw [hb, upd_same, eH]
    · rw [upd_ne hb]
  rw [eu] at J
  have J := J.pins_of (pins' := []) fun p hp => absurd hp (by simp)
  show _root_.PySem.wpAt _ _ _ (execs rest (envF F f s.heap.objs.size)) _ _ _
  refine wpAt_of_wpAny (wpAny_mono (ht.run [] _ _ H _ J hq) (fun fl s' hs => ?_) fun e s' hs => hs)
  cases fl with
  | ret u =>
    obtain ⟨v, σ', H', J', rv, q⟩ := hs
    exact fin J' rv q
  | next =>
    obtain ⟨σ', H', J', q⟩ := hs
    exact fin (v := V.non) (u := Value.none) J' rfl q
  | brk =>
    obtain ⟨_, _, _, q⟩ := hs
    exact False.elim q
  | cont =>
    obtain ⟨_, _, _, q⟩ := hs
    exact False.elim q
end
end Ax

/-! Errors in judgements: raise, try, what a suite reads of an error; facts of the classes. -/
namespace Ax
open PySem PySem.Spec PyProof.Rows L2 SlX StX
/-! ### promises of the classes' __init__ -/
def spEx (C : Addr) (fl : List Str) : Sp := fun vs H Q _ => ∃ a ws, vs = .ref a :: ws ∧ ws.length = fl.length ∧ H a = some (exo a C none) ∧ ∀ dx, H dx = none → dx ≠ a → Q .non (upd (upd H dx (exd dx (fl.zip ws).reverse)) a (exo a C (some dx)))
theorem spEx_len {C : Addr} {fl : List Str} {n : Nat} (h : fl.length + 1 = n) : ∀ vs H Q E, spEx C fl vs H Q E → vs.length = n := fun vs H Q E ⟨a, ws, e, l, _⟩ => by rw [e, List.length_cons, l, h]
/-- the class at C can be called -/
structure ExcOk (P : Program) (w : World) (K : PySem.W.Frag) (mg : Str → Option Value) (base : Heap) (CX : CXT) (k : Nat) (C : Addr) (sp : Sp) : Prop where
  oex : OexC K C
  ex : ∃ f fd ps, PySem.W.findIn K (.ref C) "__init__" = some (some (.ref f)) ∧ PySem.W.typeIn K (.ref f) = some (.type "function") ∧ FnOk P w K mg base CX k f fd ps sp ∧ Binds K fd ps []
section
variable {X : Cx} {CX : CXT} {k : Nat} {C : Addr} {sp : Sp} {x : Str} {e : Expr} {es : List Expr} {ta : TA} {p pos : Pos}
theorem pmk_ex (G : ExcOk X.prog X.w X.K X.mg X.base CX k C sp) (hr : Room (k + 1) X.A) (hx : Passes CX X E0) (hg : Gl X x) (hm : X.mg x = some (.ref C)) (ha : PA X (e :: es) ta)
    (hdb : (x == ("__debug__" : Str)) = false := by decide) (he : starEach (e :: es) X.env = (false, eval e X.env) :: starEach es X.env := by rfl) (hpl : (backTo pos (starEach es X.env)).any (·.1) = false := by rfl) :
    PMk X (.Call (.Name x p) (e :: es) [] pos) (tMkO C sp [] ta) := by
  obtain ⟨f, fd, ps, iC, tI, F, hb⟩ := G.ex
  exact pmk_oex G.oex iC tI F hr hb .nil hx hg hm ha hdb he hpl
end
/-- the machine's two objects of the exception are let go -/
theorem gone_eq {H : Hp} {a dx C : Addr} {fs : List (Str × V)} (ha : H a = none) (hd : dx ≠ a) :
    upd (del (upd (upd (upd H a (exo a C none)) dx (exd dx fs)) a (exo a C (some dx))) a) dx (.xd fs) = upd H dx (.xd fs) := by
  funext b
  by_cases h1 : b = dx
  · subst h1; rw [upd_same, upd_same]
  · rw [upd_ne h1, upd_ne h1]
    by_cases h2 : b = a
    · subst h2; rw [del_same, ha]
    · rw [del_ne h2, upd_ne h2, upd_ne h1, upd_ne h2]
/-- what the reading of C(..) asks, plainly -/
theorem mk_ex {C : Addr} {fl : List Str} {ta : TA} {σ : L2.St} {H : Hp} {Q : XK} (hn : fl.length ≤ 900) (h : ta σ H fun vs H1 => vs.length = fl.length ∧ ∀ dx, H1 dx = none → Q (.ref C) (some dx) (upd H1 dx (.xd (fl.zip vs).reverse))) (up : ∀ {σ H} {Q Q' : List V → Hp → Prop}, (∀ vs H', Q vs H' → Q' vs H') → ta σ H Q → ta σ H Q') :
    tMkO C (spEx C fl) [] ta σ H Q := by
  unfold tMkO
  refine up (fun vs H1 ⟨hl, q⟩ => ⟨by rw [hl]; omega, fun a ha => ⟨a, vs ++ [], rfl, by rw [List.append_nil]; exact hl, upd_same, fun dx hd hne => ⟨rfl, dx, (fl.zip vs).reverse, ?_, ?_, ?_, ?_⟩⟩⟩) h
  · exact upd_same
  · rw [List.append_nil, upd_ne hne, upd_same]
  · rw [upd_ne hne] at hd; exact hd
  · rw [upd_ne hne] at hd
    rw [List.append_nil, gone_eq ha hne]
    exact q dx hd
/-! ### errors that a law's classes bear -/
def Ex1 {α : Type} (C : Addr) (f : Str) (t : Ty α) (a : α) (c : Value) (d : Option Addr) (G : Hp) : Prop := c = .ref C ∧ ∃ p v, d = some p ∧ G p = some (.xd [(f, v)]) ∧ t.rep a v G
def Ex2 {α β : Type} (C : Addr) (f g : Str) (t : Ty α) (u : Ty β) (a : α) (b : β) (c : Value) (d : Option Addr) (G : Hp) : Prop := c = .ref C ∧ ∃ p v w, d = some p ∧ G p = some (.xd [(g, w), (f, v)]) ∧ t.rep a v G ∧ u.rep b w G
theorem Ex1.up {α : Type} {C : Addr} {f : Str} {t : Ty α} {a : α} {c : Value} {d : Option Addr} {G G' : Hp} (s : Same G G') : Ex1 C f t a c d G → Ex1 C f t a c d G' := fun ⟨e, p, v, h1, h2, h3⟩ => ⟨e, p, v, h1, s _ _ h2, t.up s h3⟩
theorem Ex2.up {α β : Type} {C : Addr} {f g : Str} {t : Ty α} {u : Ty β} {a : α} {b : β} {c : Value} {d : Option Addr} {G G' : Hp} (s : Same G G') : Ex2 C f g t u a b c d G → Ex2 C f g t u a b c d G' := fun ⟨e, p, v, w, h1, h2, h3, h4⟩ => ⟨e, p, v, w, h1, s _ _ h2, t.up s h3, u.up s h4⟩
def RXup (RX : RXT) : Prop := ∀ e c d G G', Same G G' → RX e c d G → RX e c d G'
theorem envP_any {H0 G : Hp} : ∀ {n : Nat} {σ : L2.St}, σ.length = n → EnvP H0 G (List.replicate n Sl.any) σ
  | 0, [], _ => True.intro
  | n + 1, _ :: σ, h => ⟨True.intro, envP_any (Nat.succ.inj h)⟩
theorem env_any {H0 G H : Hp} {n : Nat} {σ : L2.St} (h : σ.length = n) : Env H0 G H (List.replicate n Sl.any) σ := Env.of (envP_any h)
/-! ### raise -/
def tRaise (W : WX) (t : L2.St → Hp → XK → Prop) : TS := fun _ σ H => t σ H fun c d H' => W c d σ H'
section
variable {RX : RXT} {E : XK} {Γ : List Sl} {α β γ ρ : Type} {post : β → List Sl} {rt : Rt ρ} {te tf : TE} {t : Ty α} {u : Ty γ} {C : Addr} {W : WX} {f g : Str}
theorem SJ.raise1 {er : α → Err} {m : Mir α} (hE : ∀ c d (σ : L2.St) H, σ.length = Γ.length → E c d H → W c d σ H) (hR : ∀ {a c d G}, Ex1 C f t a c d G → RX (er a) c d G) (h : EJ RX E Γ te t.h m) :
    SJ RX E Γ (tRaise W (tMkO C (spEx C [f]) [] (tCons te tNil))) post rt (m.bind fun a => .raise (er a)) := fun H0 G0 G H σ D N e q => by
  show te σ H _
  refine h N.h N.e e (m.mono (fun a z v G1 H1 n r => ?_) (fun _ z => z.k N (Same.refl _)) q)
  have z : ErS RX E G0 H0 G (er a) := z
  refine ⟨Nat.le_of_ble_eq_true rfl, fun b hb => ⟨b, [v], rfl, rfl, upd_same, fun dx hd hne => ⟨rfl, dx, [(f, v)], upd_same, (upd_ne hne).trans upd_same, (upd_ne hne).symm.trans hd, ?_⟩⟩⟩
  have hd' : H1 dx = none := (upd_ne hne).symm.trans hd
  refine hE _ _ _ _ e.len ?_
  show E _ _ (upd (del (upd (upd (upd H1 b (exo b C none)) dx (exd dx [(f, v)])) b (exo b C (some dx))) b) dx (.xd [(f, v)]))
  rw [gone_eq hb hne]
  exact z _ _ _ _ ((N.trans n).newk hd') (n.g.trans (same_new (n.h.free hd'))) (hR ⟨rfl, dx, v, rfl, upd_same, t.up (same_new (n.h.free hd')) r⟩)
theorem SJ.raise2 {er : α → γ → Err} {m : Mir α} {m2 : Mir γ} (hE : ∀ c d (σ : L2.St) H, σ.length = Γ.length → E c d H → W c d σ H) (hR : ∀ {a b c d G}, Ex2 C f g t u a b c d G → RX (er a b) c d G) (h : EJ RX E Γ te t.h m) (h2 : EJ RX E Γ tf u.h m2) :
    SJ RX E Γ (tRaise W (tMkO C (spEx C [f, g]) [] (tCons te (tCons tf tNil)))) post rt (m.bind fun a => m2.bind fun b => .raise (er a b)) := fun H0 G0 G H σ D N e q => by
  show te σ H _
  refine h N.h N.e e (m.mono (fun a z v G1 H1 n r => ?_) (fun _ z => z.k N (Same.refl _)) q)
  refine h2 n.h (N.e.trans n.e) (e.up n) (m2.mono (fun b z v2 G2 H2 n2 r2 => ?_) (fun _ z => z.k (N.trans n) n.g) z)
  have z : ErS RX E G0 H0 G (er a b) := z
  refine ⟨Nat.le_of_ble_eq_true rfl, fun x hb => ⟨x, [v, v2], rfl, rfl, upd_same, fun dx hd hne => ⟨rfl, dx, [(g, v2), (f, v)], upd_same, (upd_ne hne).trans upd_same, (upd_ne hne).symm.trans hd, ?_⟩⟩⟩
  have hd' : H2 dx = none := (upd_ne hne).symm.trans hd
  refine hE _ _ _ _ e.len ?_
  show E _ _ (upd (del (upd (upd (upd H2 x (exo x C none)) dx (exd dx [(g, v2), (f, v)])) x (exo x C (some dx))) x) dx (.xd [(g, v2), (f, v)]))
  rw [gone_eq hb hne]
  have s2 := same_new (o := HO.xd [(g, v2), (f, v)]) (n2.h.free hd')
  exact z _ _ _ _ (((N.trans n).trans n2).newk hd') ((n.g.trans n2.g).trans s2) (hR ⟨rfl, dx, v, v2, rfl, upd_same, t.up (n2.g.trans s2) r, u.up s2 r2⟩)
end
/-! ### try -/
namespace Mir
variable {α β : Type}
def tryM (m : Mir α) (h : Err → Mir α) : Mir α := ⟨fun Q E => m.run Q fun e => (h e).run Q E, fun a b q => m.mono a (fun e => (h e).mono a b) q⟩
@[simp] theorem run_tryM (m : Mir α) (h : Err → Mir α) (Q : α → Prop) (E : Err → Prop) : (tryM m h).run Q E = m.run Q fun e => (h e).run Q E := rfl
end Mir
/-- what every state wishes -/
def EW (n : Nat) (W : WX) : XK := fun c d H => ∀ σ : L2.St, σ.length = n → W c d σ H
theorem passT {X : Cx} {W : WX} {n : Nat} (tk : Takes X W) (hn : X.N.length = n) : Passes (L2.CX X.prog X.w) X (EW n W) := fun _ σ _ _ e s' I c => tk e s' (XE.of_call I (fun _ _ _ h => h σ (I.len.trans hn)) c)
theorem passD {X : Cx} {E : XK} (tk : Takes X fun c d _ H => E c d H) : Passes (L2.CX X.prog X.w) X E := passes_call tk fun _ _ _ _ h => h
/-- the clauses 'except x as n' (n's slot i), 'except x' -/
abbrev Clau := Value × Option Nat × (Addr → Value → Option Addr → TS)
def wAll (K : PySem.W.Frag) (Wout : WX) (D : Ends) : List Clau → WX
  | [] => Wout
  | (c, none, ts) :: r => fun cls d σ H => ∃ b, PySem.W.exmOne K cls c = some b ∧ (b = true → ∀ a, H a = none → ts a cls d D σ H) ∧ (b = false → wAll K Wout D r cls d σ H)
  | (c, some i, ts) :: r => fun cls d σ H => ∃ b, PySem.W.exmOne K cls c = some b ∧
      (b = true → ∀ a, H a = none → ts a cls d { nx := fun σ' H' => D.nx (σ'.set i none) H', rt := D.rt, bk := fun σ' H' => D.bk (σ'.set i none) H', ct := fun σ' H' => D.ct (σ'.set i none) H' } (σ.set i (some (.ref a))) H) ∧ (b = false → wAll K Wout D r cls d σ H)
def tTry (K : PySem.W.Frag) (tb : WX → TS) (Wout : WX) (l : List Clau) : TS := fun D σ H => tb (wAll K Wout D l) D σ H
inductive HdsAs (X : Cx) : List ExceptHandler → List Clau → Prop
  | nil : HdsAs X [] []
  | cons {x n : Str} {i : Nat} {c : Value} {ts : Addr → Value → Option Addr → TS} {b₀ : Stmt} {suite : List Stmt} {np pos' : Pos} {hds : List ExceptHandler} {l : List Clau} (hi : X.N[i]? = some n) (hln : X.env.kindOf n = some .local) (hc : Names X x c)
      (hsu : ∀ (a : Addr) (oe : Obj) (cls : Value) (d : Option Addr) (pn : List (Addr × Obj)), Zc cls d oe → (∃ vs, oe.data = .fields vs) → PSs (X.suite a ((a, oe) :: pn)) (b₀ :: suite) (ts a cls d)) (r : HdsAs X hds l) :
      HdsAs X (.ExceptHandler (some (.Name x np)) (some n) (b₀ :: suite) pos' :: hds) ((c, some i, ts) :: l)
/-- an error has come to the clauses: as it lies, what was known -/
structure Caught (X : Cx) (pins : List (Addr × Obj)) (σ : L2.St) (H : Hp) (a : Addr) (cls : Value) (d : Option Addr) (s : Shared) : Prop where
  ex : ∃ (B : Heap) (s0 : Shared), Inv X pins σ H s0 ∧ (∀ b o, s0.heap.get? b = some o → b ∉ frs X.stack → B.get? b = some o) ∧ s0.heap.UpToSlots s.heap ∧ HandSPX.FlyingZ B (X.env :: X.outer) a (Zc cls d) s.heap ∧ s.os = s0.os
  na : H a = none
  ag : AllBare s.gens
namespace Caught
variable {X : Cx} {pins : List (Addr × Obj)} {σ : L2.St} {H : Hp} {a : Addr} {cls : Value} {d : Option Addr} {s : Shared}
theorem inv (k : Caught X pins σ H a cls d s) : Inv X pins σ H s := let ⟨_, _, J, nb, up, fl, os⟩ := k.ex; J.landed nb fl.1 up os k.ag
theorem there (k : Caught X pins σ H a cls d s) (hf : X.env.frame = some X.env.locals) : ∃ (o : Obj) (vs : Array Value), s.heap.get? a = some o ∧ Zc cls d o ∧ o.data = .fields vs ∧ a ≠ X.env.locals ∧ a ∉ X.fs := by
  obtain ⟨B, s0, J, nb, up, fl, os⟩ := k.ex
  obtain ⟨o, vs, h1, h2, h3⟩ := fl.there
  have nf : a ∉ frs (X.env :: X.outer) := fun m => by
    obtain ⟨_, o2, g1, g2⟩ := fl.2.2.1.mem m
    have e : o2 = o := Option.some.inj (g1.symm.trans h1)
    exact g2 vs (e ▸ h3)
  refine ⟨o, vs, h1, h2, h3, fun z => nf ?_, fun z => nf ?_⟩
  · exact List.mem_filterMap.mpr ⟨_, List.mem_cons_self, by rw [z]; exact hf⟩
  · obtain ⟨e, q1, q2⟩ := List.mem_filterMap.mp z
    exact List.mem_filterMap.mpr ⟨e, List.mem_cons_of_mem _ q1, q2⟩
/-- the suite begins -/
theorem enter (k : Caught X pins σ H a cls d s) {M : Model} {A : Around} {E : Value → Shared → Prop} {Q : Unit → Shared → Prop} (h : ∀ s', Caught X pins σ H a cls d s' → Q () s') : wpAny M A (setFlight (.ref a) none) Q E s := by
  obtain ⟨B, s0, J, nb, up, fl, os⟩ := k.ex
  exact HandSPX.lands_againZ fl fun h' fl' up' => h _ ⟨⟨B, s0, J, nb, up.trans up', fl', os⟩, k.na, k.ag⟩
/-- no clause is left: it goes on -/
theorem pass (k : Caught X pins σ H a cls d s) (hs : X.stack = X.env :: X.outer) (hf : X.env.frame = some X.env.locals) {W : WX} {D : Ends} (tk : Takes X W) (w : W cls d σ H) : wpAny (model X.prog X.w) X.A (handleBy (.ref a) X.env []) (SP X pins D) X.xe s := by
  obtain ⟨B, s0, J, nb, up, fl, os⟩ := k.ex
  refine wpAny_handleBy_nil ?_
  obtain ⟨_, _, _, oe, vs, T, oT, t2, e1, _, e3, e4, _⟩ := id fl
  have last : wpAny (model X.prog X.w) X.A (setFlight (.ref a) X.env.frame) (fun _ s2 => wpAny (model X.prog X.w) X.A (throw (.ref a) : Sem Flow) (SP X pins D) X.xe s2) X.xe s := by
    rw [hf]
    refine HandSPX.setFlight_upZ fl fun h2 fl2 up2 => wpAny_throw (tk _ _ ⟨a, B, s0, pins, σ, H, cls, d, rfl, J, nb, up.trans up2, ?_, k.na, os, k.ag, w⟩)
    rw [hs]
    exact .inr (.inr fl2)
  unfold PySem.passOn
  refine wpAny_bind (wpAny_field e1 e3 e4 ?_)
  rw [if_neg (by simp)]
  first
    | exact wpAny_bind (wpAny_pure (wpAny_bind last))
    | exact wpAny_bind last
end Caught
section
variable {X : Cx} {pins : List (Addr × Obj)} {σ : L2.St} {H : Hp} {a : Addr} {cls : Value} {d : Option Addr} {Wout : WX} {D : Ends}
theorem clauses (hs : X.stack = X.env :: X.outer) (hf : X.env.frame = some X.env.locals) (hN : X.N.Nodup) (tk : Takes X Wout) {hds : List ExceptHandler} {l : List Clau} (hh : HdsAs X hds l) :
    ∀ {s : Shared}, Caught X pins σ H a cls d s → wAll X.K Wout D l cls d σ H → wpAny (model X.prog X.w) X.A (handleBy (.ref a) X.env hds) (SP X pins D) X.xe s := by
  induction hh with
  | nil => exact fun k w => k.pass hs hf tk w
  | @cons x n i c ts b₀ suite np pos' hds2 l2 hi hln hc hsu r ih =>
    intro s k ⟨b, hb, hyes, hno⟩
    obtain ⟨o, vs, g1, g2, g3, g4, g5⟩ := k.there hf
    have S := k.inv.suite g1 g3 k.na g4 g5
    have look : PySem.W.Looks (model X.prog X.w) s.heap (typeOf (.ref a)) cls := fun A Q E s2 k2 q => wpAny_typeOf_ref (k2 _ _ g1) (g2.1.symm ▸ q)
    have named : ∀ {Q E : Value → Shared → Prop}, Q c s → wpAny (model X.prog X.w) (X.A.mark (some (.ref a))) (eval (.Name x np) X.env) Q E s := fun {Q E} q => by
      obtain ⟨c1, c2, c3 | ⟨c3, c4, c5⟩⟩ := hc
      · exact ld_glob S c1 c3 q c2
      · exact ld_blt S c1 c3 c4 q c5 c2
    refine wpAny_handleBy_cons (codeAny_handlers_test (named ((PySem.W.exm_one k.inv.kIn look hb).here ?_))) (fun z => by cases z)
    cases b with
    | false => exact ih k (hno rfl)
    | true =>
      refine codeAny_handlers_suite_as (k.enter fun s2 k2 => ?_)
      obtain ⟨o2, vs2, e1, e2, e3, e4, e5⟩ := k2.there hf
      refine store_ok (v := .ref a) (X := X.suite a ((a, o2) :: (X.pn ++ pins))) (k2.inv.suite e1 e3 k2.na e4 e5) hN hi (.inl hln) rfl (fun s3 S3 => ?_) (.inr hln)
      have go := (hsu a o2 cls d (X.pn ++ pins) e2 ⟨_, e3⟩).run [] s3 _ H _ S3 (hyes rfl a k2.na)
      refine wpAny_mono go (fun fl s4 hq => ?_) (fun _ _ z => z.elim)
      have bye : ∀ {σ4 : L2.St} {H4 : Hp} {Q : Shared → Prop}, Inv (X.suite a ((a, o2) :: (X.pn ++ pins))) [] σ4 H4 s4 → (∀ s5, Inv X pins (σ4.set i none) H4 s5 → Q s5) →
          wpAny (model X.prog X.w) X.A (do bindName X.env n .none; unbindBehindTheSuite X.env n pos') (fun _ s5 => Q s5) X.xe s4 := fun J q => gone_ok (J.unsuite k2.inv.ok) hN hi hln q
      cases fl with
      | ret u => obtain ⟨v, σ4, H4, J, rv, q⟩ := hq; exact bye J fun s5 J5 => ⟨v, _, _, J5, rv, q⟩
      | next => obtain ⟨σ4, H4, J, q⟩ := hq; exact bye J fun s5 J5 => ⟨_, _, J5, q⟩
      | brk => obtain ⟨σ4, H4, J, q⟩ := hq; exact bye J fun s5 J5 => ⟨_, _, J5, q⟩
      | cont => obtain ⟨σ4, H4, J, q⟩ := hq; exact bye J fun s5 J5 => ⟨_, _, J5, q⟩
/-- try: .. except A as n: .. except B as m: .. -/
theorem ps_tryAs {body : List Stmt} {h₀ : ExceptHandler} {hds : List ExceptHandler} {l : List Clau} {pos : Pos} {tb : WX → TS} (hs : X.stack = X.env :: X.outer) (hf : X.env.frame = some X.env.locals) (hN : X.N.Nodup) (tk : Takes X Wout)
    (hb : ∀ (W : WX) (pn : List (Addr × Obj)) (xe : Value → Shared → Prop), Takes (X.tr pn xe) W → PassesOwn (model X.prog X.w) X.A X.env xe → PSs (X.tr pn xe) body (tb W)) (hh : HdsAs X (h₀ :: hds) l) :
    PS X (.Try body (h₀ :: hds) [] [] pos) (tTry X.K tb Wout l) := ⟨fun pins s σ H D I h => by
  have fr : X.A.frames = some (X.env :: X.outer) := hs ▸ I.ok.frames
  let back : Value → Shared → Prop := fun e s1 => wpAny (model X.prog X.w) X.A (noteFrame e X.env) (fun _ s2 => wpAny (model X.prog X.w) X.A (setFlight e none) (fun _ s3 => wpAny (model X.prog X.w) X.A (handleBy e X.env (h₀ :: hds)) (SP X pins D) X.xe s3) X.xe s2) X.xe s1
  have tk2 : Takes (X.tr (X.pn ++ pins) back) (wAll X.K Wout D l) := fun u s1 ⟨a, B, s0, pins2, σ1, H1, cls, d, eu, J, nb, up, sky, na, os, ag, w⟩ => by
    subst eu
    have J0 := J.ofTry I.ok
    refine L2.Sky.land Zc.steady fr hf (hs ▸ sky) fun h2 fl2 up2 => ?_
    exact clauses hs hf hN tk hh ⟨⟨B, s0, J0, nb, up.trans up2, fl2, os⟩, na, ag⟩ w
  refine wpAny_Try_except (wpAny_mono ((hb _ _ back tk2 PassesOwn.looking).run [] s σ H D (I.toTry _) h) (fun fl s1 hq => ?_) fun _ _ z => z)
  cases fl with
  | ret u => obtain ⟨v, σ1, H1, J, rv, q⟩ := hq; exact ⟨v, σ1, H1, J.ofTry I.ok, rv, q⟩
  | next => obtain ⟨σ1, H1, J, q⟩ := hq; exact wpAny_execs_nil ⟨σ1, H1, J.ofTry I.ok, q⟩
  | brk => obtain ⟨σ1, H1, J, q⟩ := hq; exact ⟨σ1, H1, J.ofTry I.ok, q⟩
  | cont => obtain ⟨σ1, H1, J, q⟩ := hq; exact ⟨σ1, H1, J.ofTry I.ok, q⟩⟩
end

/-! ### the clauses in judgements -/
def tErr (RX : RXT) (hu : RXup RX) (a : Addr) (c : Value) (d : Option Addr) : Ty Err := ⟨fun e v G => v = .ref a ∧ RX e c d G, fun s ⟨e, h⟩ => ⟨e, hu _ _ _ _ _ s h⟩⟩
section
variable {RX : RXT} {hu : RXup RX} {E : XK} {Γ : List Sl} {K : PySem.W.Frag} {α β γ ρ : Type} {post : β → List Sl} {rt : Rt ρ} {te tf : TE} {t : Ty α} {a C D : Addr} {c : Value} {d : Option Addr} {n i : Nat} {W Wout : WX} {er : Err} {x : α}
/-- the clauses l deal with the error er as m says -/
def Hs (RX : RXT) (E : XK) (K : PySem.W.Frag) (n : Nat) (Wout : WX) (post : β → List Sl) (rt : Rt ρ) (l : List Clau) (er : Err) (m : Mir (Out β ρ)) : Prop := ∀ {D : Ends} {G0 H0 G G' H' : Hp} {c : Value} {d : Option Addr} {σ : L2.St},
  Nx G0 H0 G' H' → Same G G' → RX er c d G' → σ.length = n → m.run (OtK post rt D G0 H0 G) (ErS RX E G0 H0 G) → wAll K Wout D l c d σ H'
theorem Hs.nil (hE : ∀ c d σ H, E c d H → Wout c d σ H) : Hs RX E K n Wout post rt [] er (.raise er) := fun N s r _ q => hE _ _ _ _ (q _ _ _ _ N s r)
theorem Hs.never {l : List Clau} {m : Mir (Out β ρ)} (h : ∀ c d G, ¬ RX er c d G) : Hs RX E K n Wout post rt l er m := fun _ _ r _ _ => absurd r (h _ _ _)
theorem Hs.miss {l : List Clau} {m : Mir (Out β ρ)} {cv : Value} {o : Option Nat} {ts : Addr → Value → Option Addr → TS} (hx : ∀ c d G, RX er c d G → PySem.W.exmOne K c cv = some false) (h : Hs RX E K n Wout post rt l er m) :
    Hs RX E K n Wout post rt ((cv, o, ts) :: l) er m := fun N s r hl q => by
  cases o with
  | none => exact ⟨false, hx _ _ _ r, fun z => Bool.noConfusion z, fun _ => h N s r hl q⟩
  | some i => exact ⟨false, hx _ _ _ r, fun z => Bool.noConfusion z, fun _ => h N s r hl q⟩
theorem Hs.hit {l : List Clau} {m : Mir (Out β ρ)} {cv : Value} {ts : Addr → Value → Option Addr → TS} (hx : ∀ c d G, RX er c d G → PySem.W.exmOne K c cv = some true)
    (h : ∀ a c d, SJ RX E0 ((List.replicate n Sl.any).set i (.fz (tErr RX hu a c d) er)) (ts a c d) (noP (β := β)) rt m) : Hs RX E K n Wout post rt ((cv, some i, ts) :: l) er m.nox := fun {D} {G0 H0 G G' H' c d σ} N s r hl q => by
  refine ⟨true, hx _ _ _ r, fun _ a _ => ?_, fun z => Bool.noConfusion z⟩
  refine h a c d N (Env.setFz (t := tErr RX hu a c d) (x := er) (v := .ref a) ⟨rfl, r⟩ i (env_any hl)) (m.mono (fun o z => ?_) (fun _ z => z.elim) q)
  cases o with
  | nx b => exact fun σ' G2 H2 n2 s2 e => absurd e env_bot
  | rt v => exact fun v G2 H2 n2 s2 r2 => z v G2 H2 n2 (s.trans s2) r2
theorem SJ.tryN {tb : WX → TS} {l : List Clau} {mb : Mir (Out β ρ)} {h : Err → Mir (Out β ρ)} (hb : ∀ W, SJ RX (EW n W) Γ (tb W) post rt mb) (hh : ∀ e, Hs RX E K n Wout post rt l e (h e)) :
    SJ RX E Γ (tTry K tb Wout l) post rt (.tryM mb h) := fun H0 G0 G H σ D N e q =>
  hb _ N e (mb.mono (fun _ z => z) (fun er z c d G' H' n' s r σ' hl => hh er n' s r hl z) q)
/-- e.f in a suite -/
theorem PJ.xfld {f : Str} (hf : ∀ G, RX er c d G → c = .ref C ∧ ∃ p fs v, d = Option.some p ∧ G p = Option.some (.xd fs) ∧ fs.lookup f = Option.some v ∧ t.rep x v G) (h : PJ Γ te (tErr RX hu a c d).h er) : PJ Γ (tXf a c d C f te) t.h x := fun H0 G H σ Q s s0 e q =>
  h s s0 e fun v G1 H1 n ⟨ev, r⟩ => by
    obtain ⟨e1, p, fs, w, e2, e3, e4, r2⟩ := hf G1 r
    exact ⟨ev, e1, p, fs, w, e2, n.h _ _ e3, e4, q w G1 H1 n r2⟩
theorem Ex1.fld {f : Str} {G : Hp} (h : Ex1 C f t x c d G) : c = .ref C ∧ ∃ p fs v, d = some p ∧ G p = some (.xd fs) ∧ fs.lookup f = some v ∧ t.rep x v G := let ⟨e, p, v, h1, h2, h3⟩ := h; ⟨e, p, _, v, h1, h2, by simp [List.lookup], h3⟩
theorem Ex2.fld1 {f g : Str} {u : Ty β} {y : β} {G : Hp} (hfg : (f == g) = false) (h : Ex2 C f g t u x y c d G) : c = .ref C ∧ ∃ p fs v, d = some p ∧ G p = some (.xd fs) ∧ fs.lookup f = some v ∧ t.rep x v G := let ⟨e, p, v, w, h1, h2, h3, _⟩ := h; ⟨e, p, _, v, h1, h2, by simp [List.lookup, hfg], h3⟩
theorem Ex2.fld2 {f g : Str} {u : Ty β} {y : β} {G : Hp} (h : Ex2 C f g t u x y c d G) : c = .ref C ∧ ∃ p fs v, d = some p ∧ G p = some (.xd fs) ∧ fs.lookup g = some v ∧ u.rep y v G := let ⟨e, p, v, w, h1, h2, _, h4⟩ := h; ⟨e, p, _, w, h1, h2, by simp [List.lookup], h4⟩
theorem Ex1.exm {f : Str} {G : Hp} {cv : Value} {b : Bool} (h : Ex1 C f t x c d G) (e : PySem.W.exmOne K (.ref C) cv = some b) : PySem.W.exmOne K c cv = some b := by rw [h.1]; exact e
theorem Ex2.exm {f g : Str} {u : Ty β} {y : β} {G : Hp} {cv : Value} {b : Bool} (h : Ex2 C f g t u x y c d G) (e : PySem.W.exmOne K (.ref C) cv = some b) : PySem.W.exmOne K c cv = some b := by rw [h.1]; exact e
/-- isinstance(e, c) in a suite -/
def rIsX (K : PySem.W.Frag) (D a : Addr) (c : Value) (d : Option Addr) : List V → Hp → VK → Prop := fun xs H Q => c = .ref D ∧ (∃ p fs, d = some p ∧ H p = some (.xd fs)) ∧ ∃ (v : V) (cv : Value) (b : Bool), xs = [.ref a, v] ∧ (∀ u, RelV v u → u = cv) ∧ PySem.W.kitOne K (.ref D) cv = some b ∧ Q (.bl b) H
theorem call_isX {X : Cx} {oe : Obj} {pn : List (Addr × Obj)} (T : L2.ExcC X.K D) (hz : Zc c d oe) (hf : ∃ vs, oe.data = .fields vs) : CallR (X.suite a ((a, oe) :: pn)) (.builtin "isinstance") (rIsX X.K D a c d) := by
  intro pins s σ H xs us Q I r ⟨ec, ⟨p, fs, ed, hp⟩, v, cv, b, ex, hcv, ek, q⟩
  subst ex; subst ec; subst ed
  cases r with | cons rx rr => cases rr with | cons rt rr =>
    cases rr
    cases rx
    cases hcv _ rt
    obtain ⟨g1, _⟩ := I.pin (a, oe) (List.mem_append_left _ List.mem_cons_self)
    obtain ⟨vs, hv⟩ := hf
    have ho : ObjOk X.prog X.w H s.heap p (.xd fs) := I.hok p _ hp
    obtain ⟨m, ⟨od, _, _, g2, _⟩, _⟩ := ho
    obtain ⟨oc, ox, oda, osl⟩ := oe
    obtain ⟨h1, h2⟩ := hz
    dsimp only at h1 h2 hv
    subst h1 h2 hv
    have J : PySem.W.InstAt s.heap a ⟨.ref D, some p, .fields vs, osl⟩ D (some od) := ⟨g1, rfl, rfl, g2⟩
    obtain ⟨cd, hcd, _⟩ := PySem.W.any_some T.hd
    exact PySem.W.kia_one (PySem.W.kitx_exc (by rw [hcd]; rfl) T.hg T.hk T.hs T.ha T.hn T.ht T.hm) I.kIn J ek (fun z => nomatch z) fun tk => ⟨.bl b, H, I.kept (t' := tk) fun _ _ z => z, rfl, q⟩
theorem PJ.isX {v : V} {cv : Value} {b : Bool} (hf : ∀ G, RX er c d G → c = .ref D ∧ ∃ p fs, d = Option.some p ∧ G p = Option.some (.xd fs)) (hcv : ∀ u, RelV v u → u = cv) (hk : PySem.W.kitOne K (.ref D) cv = Option.some b) (h : PJ Γ te (tErr RX hu a c d).h er) :
    PJ Γ (tCB (rIsX K D a c d) (tCons te (tCons (tC v) tNil))) tBool.h b := fun H0 G H σ Q s s0 e q => h s s0 e fun w G1 H1 n ⟨ev, r⟩ => by
  obtain ⟨e1, p, fs, e2, e3⟩ := hf G1 r
  exact ⟨e1, ⟨p, fs, e2, n.h _ _ e3⟩, v, cv, b, by rw [ev], hcv, hk, q _ G1 H1 n rfl⟩
theorem Ex1.ins {f : Str} {G : Hp} (h : Ex1 C f t x c d G) : c = .ref C ∧ ∃ p fs, d = some p ∧ G p = some (.xd fs) := let ⟨e, p, v, h1, h2, _⟩ := h; ⟨e, p, _, h1, h2⟩
theorem Ex2.ins {f g : Str} {u : Ty β} {y : β} {G : Hp} (h : Ex2 C f g t u x y c d G) : c = .ref C ∧ ∃ p fs, d = some p ∧ G p = some (.xd fs) := let ⟨e, p, v, w, h1, h2, _⟩ := h; ⟨e, p, _, h1, h2⟩
end
/-! ### defs that raise -/
section
variable {α β ρ : Type} {RX : RXT} {A : TyA α} {m : α → Mir ρ} {P : Program} {w : World} {K : PySem.W.Frag} {mg : Str → Option Value} {base : Heap} {d : DfX} {f : Addr} {N ps : List Str} {k : Nat}
theorem fnMX {rt : Rt ρ} {Γ0 : α → List Sl} (F : FunX K d f) (S : FnScope N ps d.scope)
    (hb : ∀ (kV doc pm : Value) (an : Option Addr) (cdv ct : Value) (us : List Value), us.length = ps.length → bindArgs (PySem.W.fnOf d.name d.qual d.params d.body d.scope .none kV doc pm an cdv ct) ⟨us, []⟩ = pure (ps.zip us))
    (len : ∀ {a vs G H}, A.rep a vs G H → vs.length = ps.length) (henv : ∀ {a vs G H}, A.rep a vs G H → Env H G H (Γ0 a) (start N vs))
    (hbody : ∀ (cdv : Value) (Ar : Around) (outer : List PySem.Env) (s : Shared) (H : Hp) (E : XK), Room k (Ar.deeper (envOfC d.qual d.scope s.heap.objs.size f cdv)) →
      ∃ t, PSs (cxOf (L2.CX P w) P w K mg base N d.qual d.scope f cdv Ar outer s H E) d.body t ∧ ∀ a, ∃ M : Mir (Out β ρ), SJ RX E (Γ0 a) t noP rt M ∧ m a = M.exit) : FnR P w K mg base (L2.CX P w) (k + 1) f (spM RX A rt m) :=
  fnR_of F S hb (fun vs H Q E ⟨a, G, s, r, q⟩ => len r) fun cdv Ar outer s H vs Q E hr ⟨a, G, hG, r, q⟩ => by
    obtain ⟨t, h1, h2⟩ := hbody cdv Ar outer s H E hr
    obtain ⟨M, h2, hm⟩ := h2 a
    refine ⟨t, h1, h2 (Nx.refl hG) (henv r) ?_⟩
    rw [hm] at q
    refine M.mono (fun o z => ?_) (fun e z c d G' H' n s r => z c d G' H' n r) q
    cases o with
    | nx b => exact z.elim
    | rt r => exact fun v G' H' n s r => z v G' H' n r
end

/-! ### an __init__ that raises -/
def Mir.iniX {β : Type} (M : Mir (Out β Unit)) : Mir β := M.bind fun o => match o with | .nx b => .ret b | .rt _ => ⟨fun _ _ => False, fun _ _ q => q⟩
section
variable {α β ρ : Type} {RX : RXT} {C : Addr} {A A' : TyA α} {F : β → List (Str × Fv)} {m : α → Mir β} {P : Program} {w : World} {K : PySem.W.Frag} {mg : Str → Option Value} {base : Heap} {k : Nat} {f : Addr} {d : DfX} {N ps : List Str}
/-- the body keeps the promise -/
theorem iniRun {Γ0 : α → Addr → Addr → List Sl} {post : Addr → Addr → β → List Sl} {t : TS} {N : List Str} (henv : ∀ {x args G Hm H a dx}, A.rep x args G Hm → H a = some (.ins C dx []) → G a = none → Hm a = none → Env Hm G H (Γ0 x dx a) (start N (.ref a :: args)))
    (hpost : ∀ {dx a b Hm G H σ}, Env Hm G H (post dx a b) σ → ∃ gs, H a = some (.ins C dx gs) ∧ G a = none ∧ FvR (F b) gs G) {Q : VK} {E : XK}
    (hj : ∀ x dx a, ∃ M : Mir (Out β Unit), SJ RX E (Γ0 x dx a) t (post dx a) (rtF tUnit) M ∧ m x = M.iniX) {vs : List V} {H : Hp} (h : spIni RX C A F m vs H Q E) : t { nx := fun _ H' => Q .non H', rt := Q } (start N vs) H := by
  obtain ⟨x, a, dx, args, G, Hm, e, ra, h1, h2, h3, nn, q⟩ := h
  subst e
  obtain ⟨M, j, em⟩ := hj x dx a
  rw [em] at q
  refine j nn (henv ra h1 h3 h2) (M.mono (fun o z => ?_) (fun e z c d G' H' n _ r => z c d G' H' n r) q)
  cases o with
  | rt r => exact z.elim
  | nx b => exact fun σ' G' H' n _ e => let ⟨gs, g1, g2, g3⟩ := hpost e; z gs G' H' n g1 g2 g3
theorem fnIniX {Γ0 : α → Addr → Addr → List Sl} {post : Addr → Addr → β → List Sl} (Fd : FunX K d f) (S : FnScope N ps d.scope)
    (hb : ∀ (kV doc pm : Value) (an : Option Addr) (cdv ct : Value) (us : List Value), us.length = ps.length → bindArgs (PySem.W.fnOf d.name d.qual d.params d.body d.scope .none kV doc pm an cdv ct) ⟨us, []⟩ = pure (ps.zip us))
    (len : ∀ {x vs G H}, A.rep x vs G H → vs.length + 1 = ps.length) (henv : ∀ {x args G Hm H a dx}, A.rep x args G Hm → H a = some (.ins C dx []) → G a = none → Hm a = none → Env Hm G H (Γ0 x dx a) (start N (.ref a :: args)))
    (hpost : ∀ {dx a b Hm G H σ}, Env Hm G H (post dx a b) σ → ∃ gs, H a = some (.ins C dx gs) ∧ G a = none ∧ FvR (F b) gs G)
    (hbody : ∀ (cdv : Value) (Ar : Around) (outer : List PySem.Env) (s : Shared) (H : Hp) (E : XK), Room k (Ar.deeper (envOfC d.qual d.scope s.heap.objs.size f cdv)) →
      ∃ t, PSs (cxOf (L2.CX P w) P w K mg base N d.qual d.scope f cdv Ar outer s H E) d.body t ∧ ∀ x dx a, ∃ M : Mir (Out β Unit), SJ RX E (Γ0 x dx a) t (post dx a) (rtF tUnit) M ∧ m x = M.iniX) : FnR P w K mg base (L2.CX P w) (k + 1) f (spIni RX C A F m) :=
  fnR_of Fd S hb (fun vs H Q E ⟨x, a, dx, args, G, Hm, e, r, _⟩ => by rw [e, List.length_cons]; exact len r) fun cdv Ar outer s H vs Q E hr h => by
    obtain ⟨t, t1, t2⟩ := hbody cdv Ar outer s H E hr
    exact ⟨t, t1, iniRun (F := F) (Γ0 := Γ0) (post := post) henv hpost t2 h⟩
theorem fnIniSX {n : Nat} {pv : Str} {Γ0 : α → Addr → Addr → List Sl} {post : Addr → Addr → β → List Sl} (Fd : FunX K d f) (S : FnScope N (ps ++ [pv]) d.scope)
    (hb : ∀ (kV doc pm : Value) (an : Option Addr) (cdv ct : Value) (us rest : List Value), us.length = ps.length →
      bindArgs (PySem.W.fnOf d.name d.qual d.params d.body d.scope .none kV doc pm an cdv ct) ⟨us ++ rest, []⟩ = (newTuple rest >>= fun t => pure (ps.zip us ++ [(pv, t)])))
    (hn : ps.length = n + 1) (hA : ∀ {x vs G H}, A.rep x vs G H → ∃ us rest, vs = us ++ rest ∧ us.length = n ∧ rest.length ≤ sizeLine ∧ ∀ p G' H', Same G G' → Same H H' → G' p = some (.tup rest) → A'.rep x (us ++ [.ref p]) G' H')
    (henv : ∀ {x args G Hm H a dx}, A'.rep x args G Hm → H a = some (.ins C dx []) → G a = none → Hm a = none → Env Hm G H (Γ0 x dx a) (start N (.ref a :: args)))
    (hpost : ∀ {dx a b Hm G H σ}, Env Hm G H (post dx a b) σ → ∃ gs, H a = some (.ins C dx gs) ∧ G a = none ∧ FvR (F b) gs G)
    (hbody : ∀ (cdv : Value) (Ar : Around) (outer : List PySem.Env) (s : Shared) (H : Hp) (E : XK), Room k (Ar.deeper (envOfC d.qual d.scope s.heap.objs.size f cdv)) →
      ∃ t, PSs (cxOf (L2.CX P w) P w K mg base N d.qual d.scope f cdv Ar outer s H E) d.body t ∧ ∀ x dx a, ∃ M : Mir (Out β Unit), SJ RX E (Γ0 x dx a) t (post dx a) (rtF tUnit) M ∧ m x = M.iniX) : FnR P w K mg base (L2.CX P w) (k + 1) f (spIni RX C A F m) := by
  refine ini_star hA ?_
  have z := fnS_of (k := k) (sp := spIni RX C A' F m) Fd S hb fun cdv Ar outer s H vs Q E hr h => by
    obtain ⟨t, t1, t2⟩ := hbody cdv Ar outer s H E hr
    exact ⟨t, t1, iniRun (F := F) (Γ0 := Γ0) (post := post) henv hpost t2 h⟩
  rw [hn] at z
  exact z
end
/-! ### column sets of any texts -/
def NmsR (ns : List Str) : Prop := ns.length ≤ 1000 ∧ (∀ x ∈ ns, x.length ≤ 1000) ∧ (cset ns).length < 64
abbrev spColsInitR (C D : Addr) : Sp := spInitX C (fun (ns : List Str) vs _ => vs = ns.map V.str ∧ NmsR ns) (fun ns fs G => (∀ x ∈ ns, isNm x = true) ∧ ∃ t, fs = colsF t ∧ G t = some (.tup ((cset ns).map V.str)))
  fun ns c d G => ∃ n, (ns.find? fun x => !isNm x) = some n ∧ Ex1 D "name" tStr n c d G
def colsFv (ns : List Str) : List (Str × Fv) := [("names", ⟨fun v G => (∃ t, v = .ref t ∧ G t = some (.tup (ns.map V.str))) ∧ Ss ns ∧ (∀ x ∈ ns, isNm x = true) ∧ ns.length < 64, fun s ⟨⟨t, h1, h2⟩, h3⟩ => ⟨⟨t, h1, s _ _ h2⟩, h3⟩⟩)]
theorem mk_colsR {C : Addr} {b : List Str} {p dx : Addr} {fs : List (Str × V)} {G : Hp} (h : G p = some (.ins C dx fs)) (r : FvR (colsFv b) fs G) : (tCols C).rep b (.ref p) G := by
  cases r with | cons r1 r => cases r with | nil =>
    rename_i q
    obtain ⟨f, v⟩ := q
    obtain ⟨e, ⟨t, e2, h2⟩, h3, h4, h5⟩ := r1
    cases e; cases e2
    exact ⟨p, rfl, ⟨dx, t, h, h2⟩, h3, h4, h5⟩
def mColsX (ns : List Str) : Mir (List Str) := .chk (NmsR ns) (match ns.find? fun x => !isNm x with
  | some n => .raise (.iName n)
  | none => .ret (cset ns))
theorem colsR_of {RX : RXT} {C D : Addr} (hR : ∀ {n c d G}, Ex1 D "name" tStr n c d G → RX (.iName n) c d G) {vs : List V} {H : Hp} {Q : VK} {E : XK} (h : spIni RX C (TyA.lstB tStr) colsFv mColsX vs H Q E) : spColsInitR C D vs H Q E := by
  obtain ⟨ns, a, dx, args, G, Hm, e, ⟨ra, _⟩, h1, h2, h3, nn, hn, q⟩ := h
  refine ⟨ns, a, dx, args, G, Hm, e, ⟨strsR ra, hn⟩, h1, h2, h3, nn, fun fs G' H' n g1 g2 ⟨ok, t, e1, e2⟩ => ?_, fun c d G' H' n ⟨m, e1, r⟩ => ?_⟩
  · have ef : (ns.find? fun x => !isNm x) = none := List.find?_eq_none.mpr fun x hx => by rw [ok x hx]; simp
    rw [ef] at q
    subst e1
    exact q _ G' H' n g1 g2 (.cons ⟨rfl, ⟨t, rfl, e2⟩, cset_ss _, fun x hx => ok x (cset_mem.mp hx), hn.2.2⟩ .nil)
  · rw [e1] at q
    exact q c d G' H' n (hR r)
theorem cols_of {C D : Addr} {vs : List V} {H : Hp} {Q : VK} {E : XK} (h : spColsInit C vs H Q E) : spColsInitR C D vs H Q E := by
  obtain ⟨ns, a, dx, args, G, Hm, e, ⟨ra, hn⟩, h1, h2, h3, nn, q, _⟩ := h
  refine ⟨ns, a, dx, args, G, Hm, e, ⟨ra, hn.n, fun x hx => Nat.le_trans (isNm_iff (hn.ok x hx)).2.2.2 (by decide), hn.c⟩, h1, h2, h3, nn, fun fs G' H' n g1 g2 ⟨_, r⟩ => q fs G' H' n g1 g2 r, fun c d G' H' n ⟨m, e1, r⟩ => ?_⟩
  have z := hn.ok m (List.mem_of_find?_eq_some e1)
  have z2 := List.find?_some e1
  rw [z] at z2
  cases z2
theorem two_fld {Q : VK} {H : Hp} {dx a C : Addr} {fs gs : List (Str × V)} (hne : dx ≠ a) (q : Q .non (upd (upd H dx (exd dx gs)) a (exo a C (some dx)))) : Q .non (upd (upd (upd H dx (exd dx fs)) a (exo a C (some dx))) dx (exd dx gs)) := by
  have e : upd (upd (upd H dx (exd dx fs)) a (exo a C (some dx))) dx (exd dx gs) = upd (upd H dx (exd dx gs)) a (exo a C (some dx)) := by
    funext b
    by_cases h1 : b = dx
    · subst h1; rw [upd_same, upd_ne hne, upd_same]
    · rw [upd_ne h1]
      by_cases h2 : b = a
      · subst h2; rw [upd_same, upd_same]
      · rw [upd_ne h2, upd_ne h1, upd_ne h2, upd_ne h1]
  rw [e]; exact q
end Ax

/-! The classes of errors: what a Hook reads of them. -/
namespace Ax
open PySem PySem.Spec PyProof.Rows L2 He
def oexB (x : Str) (K : Fr') : Bool := (match K.lookup (ga K x) with
  | some ⟨.type "type", _, .cls cd, sl⟩ => (match cd.mro, sl.toList with
    | .ref C :: bm, [_, _, _, _, some (.builtin n), _] => decide (C = ga K x) && (decide (n = "ValueError.__new__") && (!cd.hasDel && (cd.hasDict && HandSPX.refsVE bm)))
    | _, _ => false)
  | _ => false) && (eqO (PySem.W.findIn K (.ref (ga K x)) "__setattr__") (some (some (.builtin "object.__setattr__"))) && (decide (PySem.W.subIn K (.ref (ga K x)) (.type "BaseException") = some true) &&
    (PySem.W.typeIn K (.ref (ga K x)) == some (.type "type") && PySem.W.keepIn K (.ref (ga K x)))))
theorem oexB_ok {x : Str} {K : Fr'} (h : oexB x K = true) : OexC K (ga K x) := by
  obtain ⟨h1, h⟩ := ba h
  obtain ⟨h2, h⟩ := ba h
  obtain ⟨h3, h⟩ := ba h
  obtain ⟨h4, h5⟩ := ba h
  refine ⟨?_, eqO_ok h2, of_decide_eq_true h3, beq_iff_eq.mp h4, h5⟩
  split at h1
  · rename_i dd cd sl ho
    split at h1
    · rename_i C bm k0 k1 k2 k3 n k5 hm hs
      obtain ⟨q1, q⟩ := ba h1
      obtain ⟨q2, q⟩ := ba q
      obtain ⟨q3, q⟩ := ba q
      obtain ⟨q4, q5⟩ := ba q
      have q1 := of_decide_eq_true q1
      have q2 := of_decide_eq_true q2
      obtain ⟨nm, bs, mro, ns, qn, hd, sn, sub, ab, col, del⟩ := cd
      dsimp only at hm q3 q4
      have q3 : del = false := by simpa using q3
      subst hm q1 q2 q3 q4
      have es : sl = #[k0, k1, k2, k3, some (.builtin "ValueError.__new__"), k5] := by
        rw [← hs]
      subst es
      exact ⟨nm, qn, ns, bs, bm, sn, sub, ab, col, dd, k0, k1, k2, k3, k5, ho, q5⟩
    · cases h1
  · cases h1
def exkB (x : Str) (K : Fr') : Bool := oexB x K && (eqO (PySem.W.findIn K (.ref (ga K x)) "__init__") (some (some (.ref (ma K (ga K x) "__init__")))) && (PySem.W.typeIn K (.ref (ma K (ga K x) "__init__")) == some (.type "function") &&
  (eqO (PySem.W.ks_superIn K (ga K x) (ga K x) "__init__") (some (some (.builtin "ValueError.__init__"))) && (decide (PySem.W.mroIn K (ga K x) (.ref (ga K x)) = some true) && (decide (PySem.W.subIn K (.ref (ga K x)) (.type "ValueError") = some true) &&
  eqO (PySem.W.nsIn K cStatics "thirdparty.any") (some none))))))
theorem exkB_ok {x : Str} {K : Fr'} (h : exkB x K = true) : ExK K (ga K x) (ma K (ga K x) "__init__") := by
  obtain ⟨h1, h⟩ := ba h
  obtain ⟨h2, h⟩ := ba h
  obtain ⟨h3, h⟩ := ba h
  obtain ⟨h4, h⟩ := ba h
  obtain ⟨h5, h⟩ := ba h
  obtain ⟨h6, h7⟩ := ba h
  exact ⟨oexB_ok h1, eqO_ok h2, beq_iff_eq.mp h3, eqO_ok h4, of_decide_eq_true h5, of_decide_eq_true h6, eqO_ok h7⟩
def exfB (x file : Str) (K : Fr') : Bool := match K.lookup (ma K (ga K x) "__init__") with
  | some ⟨_, _, .func fd, _⟩ => (match fd.closure, fd.code with
    | [(_, cc)], .ref c => (match K.lookup cc with
        | some ⟨_, _, .cell (some (.ref C)), _⟩ => decide (C = ga K x)
        | _ => false) && (match K.lookup c with
        | some ⟨_, _, .fields vs, _⟩ => (match (vs[2]? : Option Value) with
          | some (Value.str s _) => decide (s = file)
          | _ => false)
        | _ => false)
    | _, _ => false)
  | _ => false
/-- the class x can be made by its own __init__, the def d of the text -/
theorem ex_of {x file : Str} {K : Fr'} {d : DfX} (hd : d.ad K = ma K (ga K x) "__init__") (e : d.see K = d.val) (k : d.ok K = true) (hx : d.exc = true) (h0 : d.dfl = []) (h : exfB x file K = true) :
    ∃ cc c fd, ExF K file (ga K x) (ma K (ga K x) "__init__") ⟨d.name, d.qual, d.params, d.body, d.scope, [(("__class__" : Str), cc)], c⟩ cc fd := by
  unfold DfX.see at e
  rw [if_pos hx] at e
  obtain ⟨_, k2⟩ := ba k
  unfold fnE at e
  unfold exfB at h
  rw [← hd] at h ⊢
  cases q : K.lookup (d.ad K) with
  | none => rw [q] at h; cases h
  | some o =>
    obtain ⟨oc, od, dt, osl⟩ := o
    rw [q] at k2 e h
    cases dt with
    | func fd =>
      obtain ⟨n1, n2, n3, n4, n5, n6, n7, n8, n9, n10, n11, n12, n13, n14, n15⟩ := fd
      dsimp only at e h k2
      split at e
      · rename_i n cc
        split at e
        · rename_i hn
          subst hn
          simp only [Option.some.injEq, Prod.mk.injEq, DfX.val] at e
          obtain ⟨e1, e2, e3, e4, e5, e6, _, e8⟩ := e
          subst e1 e2 e3 e4 e5 e6 e8
          cases n13 with
          | ref c =>
            dsimp only at h
            obtain ⟨h1, h2⟩ := ba h
            obtain ⟨k3, k4⟩ := ba k2
            obtain ⟨k5, _⟩ := ba k4
            have hv := dflB_ok k5
            unfold DfX.dvs at hv
            rw [h0] at hv
            obtain rfl : n8 = .none := by
              rcases hv with ⟨_, z⟩ | ⟨z, _⟩
              · exact z
              · exact absurd rfl z
            refine ⟨cc, c, _, rfl, ⟨n9, n10, n11, n12, n14, oc, od, osl, rfl, q⟩, k3, ?_, ?_⟩
            · split at h2
              · rename_i ccl cdd vs ccs hc
                split at h2
                · rename_i s tf hs
                  rw [of_decide_eq_true h2] at hs
                  exact ⟨ccl, cdd, vs, ccs, tf, hc, hs⟩
                · cases h2
              · cases h2
            · split at h1
              · rename_i cl cld C csl hc
                rw [of_decide_eq_true h1] at hc
                exact ⟨cl, cld, csl, hc⟩
              · cases h1
          | _ => cases h
        · cases e
      · cases e
    | _ => cases h
/-- isinstance of its instances -/
def exiB (x : Str) (K : Fr') : Bool := xfB K (ga K x) && (eqO (PySem.W.findIn K (.ref (ga K x)) "__class__") (some (some (.builtin "object.__class__"))) && (eqO (PySem.W.specialIn K (.builtin "object.__class__") "__get__") (some (some (.builtin "getset_descriptor.__get__"))) &&
  (decide (PySem.W.takesIn K (.builtin "object.__class__") = some true) && decide (PySem.W.mroIn K (ga K x) (.type "object") = some true))))
theorem exiB_xf {x : Str} {K : Fr'} (h : exiB x K = true) : XfC K (ga K x) := xfB_ok (ba h).1
theorem exiB_ok {x : Str} {K : Fr'} (h : exiB x K = true) : L2.ExcC K (ga K x) := by
  obtain ⟨h1, h⟩ := ba h
  obtain ⟨h2, h⟩ := ba h
  obtain ⟨h3, h⟩ := ba h
  obtain ⟨h4, h5⟩ := ba h
  obtain ⟨g1, g2, g3, g4⟩ := xfB_ok h1
  exact ⟨g1, g2, g3, g4, eqO_ok h2, eqO_ok h3, of_decide_eq_true h4, of_decide_eq_true h5⟩
/-- except D of an error of C -/
def exmB (x y : Str) (b : Bool) (K : Fr') : Bool := decide (PySem.W.exmOne K (.ref (ga K x)) (.ref (ga K y)) = some b)
end Ax

/-! Signs of texts, sets of texts, cls(*e). -/
namespace Ax
open PySem PySem.Spec PyProof.Rows L2 SlX StX
def sgns (z : Str) : List Str := z.cps.toList.map sgn
def sgnIn (a z : Str) : Bool := a.cps.toList.all fun c => decide (c ∈ z.cps.toList)
def mInS (a z : Str) : Mir Bool := .chk (a.length = 1) (.ret (sgnIn a z))
def mNiS (a z : Str) : Mir Bool := .chk (a.length = 1) (.ret (!sgnIn a z))
def mUpper (a : Str) : Mir Str := .chk ((Txt.upper a).length ≤ mxL) (.ret (Txt.upper a))
theorem sgn_one {a : Str} (h : a.length = 1) : ∃ c, a = ⟨#[c]⟩ := by
  obtain ⟨⟨l⟩⟩ := a
  have h : l.length = 1 := h
  match l, h with
  | [c], _ => exact ⟨c, rfl⟩
theorem sgns_len (z : Str) : (sgns z).length = z.length := by unfold sgns; rw [List.length_map]; exact Array.length_toList
theorem sgns_one {z x : Str} (h : x ∈ sgns z) : x.length = 1 := by
  obtain ⟨c, _, rfl⟩ := List.mem_map.mp h
  rfl
section
variable {RX : RXT} {E : XK} {Γ : List Sl} {K : PySem.W.Frag} {α β γ : Type} {t : Ty α} {te : TE} {C : Addr}
theorem IJf.str {m : Mir Str} (h : EJ RX E Γ te tStr.h m) : IJf RX E Γ (iStr te) tStr (m.bind fun z => .ret (sgns z)) := fun H0 G H σ R s s0 e q => h s s0 e (m.mono (fun z k v G' H' n ⟨ev, hz⟩ => by
  refine ⟨z, ev, k _ G' H' n ⟨fun i H2 hi _ => ?_, fun i H2 hi _ => ?_, fun i x v G2 H2 H3 hx s1 s2 _ y => ?_, by rw [sgns_len]; exact hz⟩⟩
  · rw [sgns_len] at hi; exact hi
  · rw [sgns_len] at hi; exact hi
  · obtain ⟨e1, c, e2, e3⟩ := y
    subst e1; subst e3
    refine ⟨G2, Nx.refl s2, ?_⟩
    unfold sgns at hx
    rw [List.getElem?_map, Array.getElem?_toList, e2] at hx
    cases hx
    exact ⟨rfl, Nat.le_of_ble_eq_true rfl⟩) (fun _ z => z) q)
theorem OpM.inS : OpM RX E (InR K) tStr.h tStr.h tBool.h mInS := fun G H x y a b Q s ⟨ex, _⟩ ⟨ey, _⟩ q => by
  subst ex; subst ey
  obtain ⟨c, rfl⟩ := sgn_one q.1
  refine .inr ⟨c, b, rfl, rfl, q.2 _ G H (Nx.refl s) ?_⟩
  show V.bl _ = V.bl _
  congr 1
  simp [sgnIn]
theorem OpM.niS : OpM RX E (NiR K) tStr.h tStr.h tBool.h mNiS := fun G H x y a b Q s ⟨ex, _⟩ ⟨ey, _⟩ q => by
  subst ex; subst ey
  obtain ⟨c, rfl⟩ := sgn_one q.1
  refine .inr ⟨c, b, rfl, rfl, q.2 _ G H (Nx.refl s) ?_⟩
  show V.bl _ = V.bl _
  congr 1
  simp [sgnIn]
theorem EJ.upper {m : Mir Str} (h : EJ RX E Γ te tStr.h m) : EJ RX E Γ (tM0 (fun x xs H Q => ∃ a, x = .str a ∧ xs = [] ∧ a.length ≤ 5592405 ∧ Q (.str (Txt.upper a)) H) te) tStr.h (m.bind mUpper) := fun H0 G H σ Q s s0 e q => h s s0 e (m.mono (fun z k v G' H' n ⟨ev, hz⟩ => by
  subst ev
  exact ⟨⟨z, rfl⟩, z, rfl, rfl, Nat.le_trans hz (by decide), k.2 _ G' H' n ⟨rfl, k.1⟩⟩) (fun _ z => z) q)
/-- cls(*e) -/
theorem EJ.clsS {i : Nat} {F : γ → List (Str × Fv)} {m : List α → Mir γ} {tr : Ty γ} {a : Mir (List α)} (ht : ∀ {b p dx fs G}, G p = Option.some (.ins C dx fs) → FvR (F b) fs G → tr.rep b (.ref p) G) (hi : Γ[i]? = Option.some (.fz (tRef C) ())) (h : EJ RX E Γ te (tBo t) a) :
    EJ RX E Γ (fun σ H Q => σ[i]? = Option.some (Option.some (.ref C)) ∧ te σ H fun y H1 => ∃ a xs, y = V.ref a ∧ (SqT K H1 a xs ∨ SqL K H1 a xs) ∧ rMk C (spIni RX C (TyA.lstB t) F m) E xs H1 Q) tr.h (a.bind m) := fun H0 G H σ Q s s0 e q => by
  obtain ⟨v, hv, r⟩ := e.fz hi
  cases (show v = .ref C from r)
  exact ⟨hv, h s s0 e (a.mono (fun xs z v G1 H1 n ⟨l, vs, ev, h1, h2, h3⟩ => ⟨l, vs, ev, .inr (sqL h1), CM.mk ht n.h ⟨h3, h2⟩ ((m xs).mono (fun _ z => z.to n) (fun _ z => z.to n) z)⟩) (fun _ z => z) q)⟩
/-- sets of texts -/
def tSet (P : Program) (w : World) : Ty (List Str) := ⟨fun xs v G => ∃ p, v = .ref p ∧ G p = some (SetT P w p (dd xs)), fun s ⟨p, e, h⟩ => ⟨p, e, s _ _ h⟩⟩
variable {P : Program} {w : World}
theorem CM.set : CM RX E (rSetS K P w) (TyA.one (tBo tStr)) (tSet P w).h fun xs => .chk (xs.length ≤ 1000) (.ret xs) := fun G H vs a Q s ⟨v, e, l, ws, ev, h1, h2, h3⟩ q => by
  subst e; subst ev
  exact ⟨l, a, rfl, .inl (strsR h3 ▸ sqL h1), q.1, fun p hp => q.2 _ _ _ ((Nx.refl s).newk hp) ⟨p, rfl, upd_same⟩⟩
theorem CM.setT : CM RX E (rSetS K P w) (TyA.one (tTpl tStr).h) (tSet P w).h fun xs => .chk (xs.length ≤ 1000) (.ret xs) := fun G H vs a Q s ⟨v, e, l, ws, ev, h1, h2, h3⟩ q => by
  subst e; subst ev
  exact ⟨l, a, rfl, .inr (strsR h3 ▸ sqT (s _ _ h1)), q.1, fun p hp => q.2 _ _ _ ((Nx.refl s).newk hp) ⟨p, rfl, upd_same⟩⟩
theorem CL.sortedSet : CL RX E (rSortedS' P w) (TyA.one (tSet P w).h) tStr fun xs => .chk ((cset xs).length < 64 ∧ ∀ x ∈ xs, x.length ≤ mxL) (.ret (cset xs)) := fun G H vs a Q s ⟨v, e, p, ev, h1⟩ q => by
  subst e; subst ev
  refine ⟨p, dd a, rfl, s _ _ h1, by rw [dd_cset_len]; exact q.1.1, fun ys l hy1 hy2 hl => ?_⟩
  rw [cset_dd hy1 hy2]
  exact q.2 l _ G _ ((Nx.refl s).more (same_new hl)) upd_same (s.free hl) hl (Nat.le_trans (Nat.le_of_lt q.1.1) (by decide)) (repStrs fun x hx => q.1.2 x (cset_mem.mp hx))
end
def mSet1 (xs : List Str) : Mir (List Str) := .chk (xs.length ≤ 1000) (.ret xs)
def mSortSet (xs : List Str) : Mir (List Str) := .chk ((cset xs).length < 64 ∧ ∀ x ∈ xs, x.length ≤ mxL) (.ret (cset xs))
end Ax

/-! break, comprehensions of two fors, bits, lists that are empty or a record, partings. -/
namespace Ax
open PySem PySem.Spec PyProof.Rows L2 SlX StX
section
variable {α β γ δ ρ : Type}
namespace Mir
/-- a loop whose body may end it: .inr -/
def forK : List α → β → (β → α → Mir (Out (β ⊕ β) ρ)) → Mir (Out β ρ)
  | [], s, _ => ret (.nx s)
  | x :: xs, s, f => (f s x).bindO fun | .inl s' => forK xs s' f | .inr s' => ret (.nx s')
theorem forK_cons (x : α) (xs : List α) (s : β) (f : β → α → Mir (Out (β ⊕ β) ρ)) : forK (x :: xs) s f = (f s x).bindO fun | .inl s' => forK xs s' f | .inr s' => ret (.nx s') := rfl
/-- [e for x in xs if p for y in m x if q], behind acc -/
def compA : List β → List γ → (β → Mir Bool) → (β → Mir γ) → Mir (List γ)
  | [], acc, _, _ => ret acc
  | y :: ys, acc, q, e => (q y).bind fun b => ifB b ((e y).bind fun r => chk (acc.length < 100000) (compA ys (acc ++ [r]) q e)) (compA ys acc q e)
def comp2 : List α → List γ → (α → Mir Bool) → (α → Mir (List β)) → (α → β → Mir Bool) → (α → β → Mir γ) → Mir (List γ)
  | [], acc, _, _, _, _ => ret acc
  | x :: xs, acc, p, m, q, e => (p x).bind fun b => ifB b ((m x).bind fun ys => (compA ys acc (q x) (e x)).bind fun zs => comp2 xs zs p m q e) (comp2 xs acc p m q e)
end Mir
def OtB (post : β → List Sl) (rt : Rt ρ) (D : Ends) (G0 H0 G : Hp) : Out (β ⊕ β) ρ → Prop
  | .nx (.inl b) => ∀ σ' G' H', Nx G0 H0 G' H' → Same G G' → Env H0 G' H' (post b) σ' → D.nx σ' H'
  | .nx (.inr b) => ∀ σ' G' H', Nx G0 H0 G' H' → Same G G' → Env H0 G' H' (post b) σ' → D.bk σ' H'
  | .rt r => ∀ v G' H', Nx G0 H0 G' H' → Same G G' → rt r v H0 G' H' → D.rt v H'
theorem OtB.to {post : β → List Sl} {rt : Rt ρ} {D : Ends} {G0 H0 G G' : Hp} (s : Same G G') : ∀ {o : Out (β ⊕ β) ρ}, OtB post rt D G0 H0 G o → OtB post rt D G0 H0 G' o
  | .nx (.inl b), h => fun σ' G2 H2 n s2 e => h σ' G2 H2 n (s.trans s2) e
  | .nx (.inr b), h => fun σ' G2 H2 n s2 e => h σ' G2 H2 n (s.trans s2) e
  | .rt r, h => fun v G2 H2 n s2 e => h v G2 H2 n (s.trans s2) e
section
variable (RX : RXT) (E : XK) (Γ : List Sl)
/-- a suite in a loop's body -/
def SJK (ts : TS) (post : β → List Sl) (rt : Rt ρ) (m : Mir (Out (β ⊕ β) ρ)) : Prop := ∀ ⦃H0 G0 G H : Hp⦄ ⦃σ : L2.St⦄ ⦃D : Ends⦄, Nx G0 H0 G H → Env H0 G H Γ σ → m.run (OtB post rt D G0 H0 G) (ErS RX E G0 H0 G) → ts D σ H
end
variable {RX : RXT} {E : XK} {Γ : List Sl} {post : β → List Sl} {rt : Rt ρ} {te ta tb : TE} {ts tr tu : TS} {tt : TT} {t : Ty α}
theorem SJK.next {b : β} (h : Weak Γ (post b)) : SJK RX E Γ tNext post rt (.ret (.nx (.inl b))) := fun H0 G0 G H σ D N e q => q σ G H N (Same.refl _) (e.weak h)
theorem SJK.brk {b : β} (h : Weak Γ (post b)) : SJK RX E Γ tBreak post rt (.ret (.nx (.inr b))) := fun H0 G0 G H σ D N e q => q σ G H N (Same.refl _) (e.weak h)
theorem SJK.seq {post1 : γ → List Sl} {m : Mir (Out γ ρ)} {f : γ → Mir (Out (β ⊕ β) ρ)} (h : SJ RX E Γ ts post1 rt m) (k : ∀ b, SJK RX E (post1 b) tr post rt (f b)) : SJK RX E Γ (tSeq ts tr) post rt (m.bindO f) := fun H0 G0 G H σ D N e q =>
  h N e (m.mono (fun o z => by
    cases o with
    | nx b => exact fun σ' G' H' n s e' => k b n e' ((f b).mono (fun _ z => z.to s) (fun _ z => z.to s) z)
    | rt r => exact fun v G' H' n s r => z v G' H' n s r) (fun _ z => z) q)
theorem SJK.if1 {m n : Mir (Out (β ⊕ β) ρ)} {b : Bool} (h : TP Γ tt b) (h1 : SJK RX E Γ ts post rt m) (h2 : SJK RX E Γ tu post rt n) : SJK RX E Γ (tIfS tt ts tu) post rt (.ifB b m n) := fun H0 G0 G H σ D N e q =>
  h N.h N.e e fun G1 H1 n1 => by
    cases b with
    | true => exact iteT (h1 (N.trans n1) (e.up n1) (m.mono (fun _ z => z.to n1.g) (fun _ z => z.to n1.g) q))
    | false => exact iteF (h2 (N.trans n1) (e.up n1) (n.mono (fun _ z => z.to n1.g) (fun _ z => z.to n1.g) q))
theorem SJK.if1m {m n : Mir (Out (β ⊕ β) ρ)} {b : Mir Bool} (h : TJ RX E Γ tt b) (h1 : SJK RX E Γ ts post rt m) (h2 : SJK RX E Γ tu post rt n) : SJK RX E Γ (tIfS tt ts tu) post rt (b.bind fun b => .ifB b m n) := fun H0 G0 G H σ D N e q =>
  h N.h N.e e (b.mono (fun b z G1 H1 n1 => by
    cases b with
    | true => exact iteT (h1 (N.trans n1) (e.up n1) (m.mono (fun _ z => z.to n1.g) (fun _ z => z.to n1.g) z))
    | false => exact iteF (h2 (N.trans n1) (e.up n1) (n.mono (fun _ z => z.to n1.g) (fun _ z => z.to n1.g) z))) (fun _ z => z.k N (Same.refl _)) q)
theorem SJ.forK {post0 : γ → List Sl} {wi : TI} {g : TG} {tb : TS} {m : Mir (List α)} {s0 : γ} {f : γ → α → Mir (Out (γ ⊕ γ) ρ)} {k : γ → Mir (Out β ρ)} {Γb : γ → α → List Sl} {is : List Nat} (hi : IJf RX E Γ wi t m) (h0 : Weak Γ (post0 s0))
    (hg : ∀ s x, GJ (post0 s) g t x (Γb s x) is) (hb : ∀ s x, SJK RX E (Γb s x) tb post0 rt (f s x)) (hk : ∀ s, SJ RX E (post0 s) tr post rt (k s)) : SJ RX E Γ (tSeq (tFor wi g tb) tr) post rt (m.bind fun xs => (Mir.forK xs s0 f).bindO k) := fun H0 G0 G H σ D N e q => by
  refine hi N.h N.e e (m.mono (fun xs q J G1 H1 n1 S => ?_) (fun _ z => z.k N (Same.refl _)) q)
  have N1 := N.trans n1
  let I : Nat → L2.St → Hp → Prop := fun i σ' H' => ∃ s G', Nx G0 H0 G' H' ∧ Same G1 G' ∧ Env H0 G' H' (post0 s) σ' ∧ ((Mir.forK (xs.drop i) s f).bindO k).run (OtK post rt D G0 H0 G) (ErS RX E G0 H0 G)
  refine ⟨fun i mm σ' H' => mm = xs.length - i ∧ i ≤ xs.length ∧ I i σ' H', ⟨xs.length, by simp, Nat.zero_le _, s0, G1, N1, Same.refl _, (e.up n1).weak h0, by rw [List.drop_zero]; exact q⟩, ?_⟩
  rintro i mm σ' H' ⟨rfl, hi, s, G', N', s', e', q'⟩
  rcases Nat.lt_or_ge i xs.length with hlt | hge
  · refine .inr ⟨S.go i H' hlt ⟨s'.trans N'.h, N'.e⟩, I (i + 1), fun σ2 H2 p2 => ⟨xs.length - (i + 1), by omega, rfl, hlt, p2⟩, fun v H'' y => ?_⟩
    have hx : xs[i]? = some (xs[i]) := List.getElem?_eq_getElem hlt
    obtain ⟨G2, n2, rv⟩ := S.yld i _ v G' H' H'' hx s' N'.h ⟨s'.trans N'.h, N'.e⟩ y
    rw [List.drop_eq_getElem_cons hlt] at q'
    have s2 := (n1.g.trans s').trans n2.g
    refine hg s xs[i] n2.h (e'.up n2) rv fun σ2 e2 _ => hb s xs[i] (N'.trans n2) e2 ((f s xs[i]).mono (fun o z => ?_) (fun _ z => z.to s2) q')
    cases o with
    | rt r => exact fun v3 G3 H3 n3 s3 r3 => z v3 G3 H3 n3 (s2.trans s3) r3
    | nx b =>
      cases b with
      | inl b => exact fun σ3 G3 H3 n3 s3 e3 => ⟨b, G3, n3, (s'.trans n2.g).trans s3, e3, z⟩
      | inr b => exact fun σ3 G3 H3 n3 s3 e3 => hk b n3 e3 ((k b).mono (fun _ z => z.to (s2.trans s3)) (fun _ z => z.to (s2.trans s3)) z)
  · have ei : i = xs.length := by omega
    subst ei
    rw [List.drop_length] at q'
    exact .inl ⟨S.stop _ H' (Nat.le_refl _) ⟨s'.trans N'.h, N'.e⟩, hk s N' e' ((k s).mono (fun _ z => z.to (n1.g.trans s')) (fun _ z => z.to (n1.g.trans s')) q')⟩
/-! ### two fors -/
theorem Env.mvp {H0 G H G' H' : Hp} (n : Same G G') {Γ : List Sl} {σ : L2.St} (hp : Γ.all Sl.plain = true) (e : Env H0 G H Γ σ) : Env H0 G' H' Γ σ := by
  obtain ⟨W, e⟩ := e
  refine ⟨Own.nil, e.len, fun a p z => (by cases z), fun i s hs => ?_⟩
  obtain ⟨o, h1, h2⟩ := e.at_ i s hs
  have hq := List.all_eq_true.mp hp s (List.mem_of_getElem? hs)
  refine ⟨o, h1, ?_⟩
  cases s with
  | any => exact h2
  | bot => exact h2
  | fz t x => obtain ⟨v, e, h⟩ := h2; exact ⟨v, e, t.up n h⟩
  | bor t x => obtain ⟨l, vs, e, g1, g2, g3⟩ := h2; exact ⟨l, vs, e, g1, g2, g3.up n⟩
  | brw T x => obtain ⟨v, e, h⟩ := h2; exact ⟨v, e, T.up n (Same.refl _) h⟩
  | ow O x => cases hq
  | tr T x => cases hq
  | al j k => cases hq
theorem LJ.lc2 {t1 : Ty β} {u : Ty γ} {wi wi1 : TI} {g g1 : TG} {tt tt1 : TT} {te : TE} {vs vs1 is is1 : List Nat} {m : Mir (List α)} {p : α → Mir Bool} {m1 : α → Mir (List β)} {p1 : α → β → Mir Bool} {f : α → β → Mir γ} {Γ0 : List Sl} {Γb : α → List Sl} {Γc : α → β → List Sl}
    (hi : IJb RX E Γ wi t m) (hw0 : Weak Γ Γ0) (hg : ∀ x, GJ (wipeS Γ0 vs) g t x (Γb x) is) (his : ∀ i ∈ is, i ∈ vs) (hp : ∀ x, TJ RX E0 (Γb x) tt (p x)) (hpl : ∀ x, (Γb x).all Sl.plain = true)
    (hi1 : ∀ x, IJf RX E0 (Γb x) wi1 t1 (m1 x)) (hg1 : ∀ x y, GJ (wipeS (Γb x) vs1) g1 t1 y (Γc x y) is1) (his1 : ∀ i ∈ is1, i ∈ vs1) (hp1 : ∀ x y, TJ RX E0 (Γc x y) tt1 (p1 x y)) (hf : ∀ x y, EJ RX E0 (Γc x y) te u.h (f x y)) :
    LJ RX E Γ (tLc2 wi g tt wi1 g1 tt1 te vs vs1) u (m.bind fun xs => (Mir.comp2 xs [] p m1 p1 f).nox.bind fun ys => .chk (ys.length ≤ mxL) (.ret ys)) := fun H0 G H σ Q s s0 e q => by
  refine hi s s0 e (m.mono (fun xs q J G1 H1 n1 S => ?_) (fun _ z => z) q)
  intro D hD
  have e0 := e.weak hw0
  have gD0 : G1 D = none := n1.h.free hD
  have hD0 : H D = none := n1.e.free hD
  let Fin : List γ → Prop := fun ys => (ys.length ≤ mxL) ∧ LsK u Q G H ys
  have fal : ∀ {G' H' : Hp} (e : Err), False → ErK RX E0 G' H' e := fun _ z => z.elim
  let At : (List γ → Mir (List γ)) → Hp → Prop := fun R H' => ∃ G' L acc, Nx G1 H1 G' H' ∧ H' D = some (.lst L) ∧ G' D = none ∧ Reps u G' acc L ∧ (R acc).run Fin fun _ => False
  refine ⟨fun i mm H' => mm = xs.length - i ∧ i ≤ xs.length ∧ At (fun acc => Mir.comp2 (xs.drop i) acc p m1 p1 f) H', ⟨xs.length, by simp, Nat.zero_le _, G1, [], [], (Nx.refl n1.h).more (same_new hD), upd_same, gD0, .nil, by rw [List.drop_zero]; exact q⟩, ?_⟩
  rintro i mm H' ⟨rfl, hi', G', L, acc, n', hL, gD, rL, q'⟩
  rcases Nat.lt_or_ge i xs.length with hlt | hge
  · refine .inr ⟨S.go i H' hlt n'.e, At (fun acc => Mir.comp2 (xs.drop (i + 1)) acc p m1 p1 f), fun H2 p2 => ⟨xs.length - (i + 1), by omega, rfl, hlt, p2⟩, fun v H'' y => ?_⟩
    have hx : xs[i]? = some (xs[i]) := List.getElem?_eq_getElem hlt
    obtain ⟨G2, n2, rv⟩ := S.yld i _ v G' H' H'' hx n'.g n'.h n'.e y
    rw [List.drop_eq_getElem_cons hlt] at q'
    generalize xs[i] = x at *
    have n12 := n'.trans n2
    have e2 : Env H0 G2 H'' (wipeS Γ0 vs) (L2.wipe σ vs) := (e0.up (n1.trans n12)).wipe vs
    refine hg x n2.h e2 rv fun σ2 eb hw => ⟨by rw [hw vs his]; exact wipe_wipe fun i h => h, ?_⟩
    refine hp x n2.h (s0.trans (n1.e.trans n12.e)) eb ((p x).mono (fun b z G3 H3 n3 => ?_) fal q')
    have n13 := n12.trans n3
    have hL3 := n3.e _ _ (n2.e _ _ hL)
    have gD3 := n3.hid (n2.e _ _ hL) (n2.hid hL gD)
    have rL3 := rL.up (n2.g.trans n3.g)
    cases b with
    | false => exact iteF ⟨G3, L, acc, n13, hL3, gD3, rL3, z⟩
    | true =>
      have s03 := s0.trans (n1.e.trans n13.e)
      have eb3 := eb.up n3
      refine iteT (hi1 x n3.h s03 eb3 ((m1 x).mono (fun ys z J1 G4 H4 n4 S1 => ?_) fal z))
      have n14 := n13.trans n4
      have eb4 := eb3.up n4
      let At1 : List β → Hp → Prop := fun ys H' => ∃ G' L acc, Nx G1 H1 G' H' ∧ Same G4 G' ∧ H' D = some (.lst L) ∧ G' D = none ∧ Reps u G' acc L ∧ (Mir.compA ys acc (p1 x) (f x)).run (fun acc => (Mir.comp2 (xs.drop (i + 1)) acc p m1 p1 f).run Fin fun _ => False) fun _ => False
      refine ⟨fun j kk H' => kk = ys.length - j ∧ j ≤ ys.length ∧ At1 (ys.drop j) H', ⟨ys.length, by simp, Nat.zero_le _, G4, L, acc, n14, Same.refl _, n4.e _ _ hL3, n4.hid hL3 gD3, rL3.up n4.g, by rw [List.drop_zero]; exact z⟩, ?_⟩
      rintro j kk H5 ⟨rfl, hj', G5, L5, acc5, n5, s5, hL5, gD5, rL5, q5⟩
      have s05 : Same H0 H5 := s0.trans (n1.e.trans n5.e)
      have eb5 : Env H0 G5 H5 (Γb x) σ2 := eb4.mvp s5 (hpl x)
      rcases Nat.lt_or_ge j ys.length with hlt1 | hge1
      · refine .inr ⟨S1.go j H5 hlt1 ⟨s5.trans n5.h, s05⟩, At1 (ys.drop (j + 1)), fun H2 p2 => ⟨ys.length - (j + 1), by omega, rfl, hlt1, p2⟩, fun v1 H6 y1 => ?_⟩
        have hy : ys[j]? = some (ys[j]) := List.getElem?_eq_getElem hlt1
        obtain ⟨G6, n6, rv1⟩ := S1.yld j _ v1 G5 H5 H6 hy s5 n5.h ⟨s5.trans n5.h, s05⟩ y1
        rw [List.drop_eq_getElem_cons hlt1] at q5
        generalize ys[j] = w at *
        have eb6 := eb5.up n6
        refine hg1 x w n6.h (eb6.wipe vs1) rv1 fun σ3 ec hw1 => ⟨by rw [hw1 vs1 his1]; exact wipe_wipe fun i h => h, ?_⟩
        refine hp1 x w n6.h (s05.trans n6.e) ec ((p1 x w).mono (fun b z G7 H7 n7 => ?_) fal q5)
        have n67 := n6.trans n7
        have hL7 := n67.e _ _ hL5
        have gD7 := n67.hid hL5 gD5
        cases b with
        | false => exact iteF ⟨G7, L5, acc5, n5.trans n67, s5.trans n67.g, hL7, gD7, rL5.up n67.g, z⟩
        | true =>
          refine iteT (hf x w n7.h (s05.trans n67.e) (ec.up n7) ((f x w).mono (fun r z vv G8 H8 n8 rw' => ?_) fal z))
          have n68 := n67.trans n8
          have hL8 := n68.e _ _ hL5
          have gD8 := n68.hid hL5 gD5
          have rL8 := rL5.up n68.g
          exact ⟨L5, hL8, szl (by rw [← rL8.len]; exact z.1), G8, L5 ++ [vv], acc5 ++ [r], (n5.trans n68).mut hD gD8, s5.trans n68.g, upd_same, gD8, Reps.app rL8 (.cons rw' .nil), z.2⟩
      · have ej : j = ys.length := by omega
        subst ej
        rw [List.drop_length] at q5
        exact .inl ⟨S1.stop _ H5 (Nat.le_refl _) ⟨s5.trans n5.h, s05⟩, G5, L5, acc5, n5, hL5, gD5, rL5, q5⟩
  · have ei : i = xs.length := by omega
    subst ei
    rw [List.drop_length] at q'
    have q2 : Fin acc := q'
    exact .inl ⟨S.stop _ H' (Nat.le_refl _) n'.e, q2.2 D L G' H' (n1.trans n') hL gD hD0 q2.1 rL⟩
end
/-- y = [.. for .. for ..], whichever way the store goes -/
theorem ps_lcU2 {X : Cx} {i : Nat} {y : Str} {py : Pos} {elt tg iter tg1 iter1 : Expr} {ifs ifs1 : List Expr} {scope : Scope} {own : List (Str × Nat)} {vs1 : List Nat} {pos spos : Pos} {wi wi1 : TI} {g g1 : TG} {tt tt1 : TT} {te : TE} (hc : X.calm = true) (hN : X.N.Nodup) (hy : X.N[i]? = some y)
    (hsw : (X.env.scope.names.lookup y = some .local ∧ swapsWith (.ListComp elt [⟨tg, iter, ifs, 0⟩, ⟨tg1, iter1, ifs1, 0⟩] scope pos) (some (.Name y py)) spos.line X.env = pure true) ∨
      (Loc X.env.scope y ∧ swapsWith (.ListComp elt [⟨tg, iter, ifs, 0⟩, ⟨tg1, iter1, ifs1, 0⟩] scope pos) (some (.Name y py)) spos.line X.env = pure false ∧ (X.fn y = true ∨ X.env.scope.names.lookup y = some .local)))
    (hi : PI X tg iter wi) (ok : BlkOk X.N X.env.scope scope own) (hv : ∀ i ∈ vs1, i ∈ own.map (·.2))
    (hg : ∀ (s : Shared) (H : Hp) (C : Addr) (cl : List (Str × Addr)) (fp : List Addr), PG (X.blk s H scope (compEnvC scope cl C X.env) fp) tg g) (ht : ∀ (s : Shared) (H : Hp) (C : Addr) (cl : List (Str × Addr)) (fp : List Addr), PTs (X.blk s H scope (compEnvC scope cl C X.env) fp) ifs tt)
    (hi1 : ∀ (s : Shared) (H : Hp) (C : Addr) (cl : List (Str × Addr)) (fp : List Addr), PI (X.blk s H scope (compEnvC scope cl C X.env) fp) tg1 iter1 wi1)
    (hg1 : ∀ (s : Shared) (H : Hp) (C : Addr) (cl : List (Str × Addr)) (fp : List Addr), PG (X.blk s H scope (compEnvC scope cl C X.env) fp) tg1 g1) (ht1 : ∀ (s : Shared) (H : Hp) (C : Addr) (cl : List (Str × Addr)) (fp : List Addr), PTs (X.blk s H scope (compEnvC scope cl C X.env) fp) ifs1 tt1)
    (he : ∀ (s : Shared) (H : Hp) (C : Addr) (cl : List (Str × Addr)) (fp : List Addr), PE (X.blk s H scope (compEnvC scope cl C X.env) fp) elt te) (hs : ∀ x, foldedSetIterable iter X.env x = pure x := by intro _; rfl) (hs1 : ∀ env x, foldedSetIterable iter1 env x = pure x := by intro _ _; rfl) :
    PS X (.Assign [.Name y py] (.ListComp elt [⟨tg, iter, ifs, 0⟩, ⟨tg1, iter1, ifs1, 0⟩] scope pos) spos) (tAsg (tLc2 wi g tt wi1 g1 tt1 te (own.map (·.2)) vs1) (gName i)) := by
  rcases hsw with ⟨hyl, q⟩ | ⟨hl, q, hf⟩
  · exact ps_setLc2 hc hN hy hyl q hi ok hv hg ht hi1 hg1 ht1 he hs hs1
  · exact ps_set hN hy hl (pe_lc2 hc hN hi ok hv hg ht hi1 hg1 ht1 he hs hs1) q hf
section
variable {RX : RXT} {E : XK} {Γ : List Sl} {K : PySem.W.Frag} {α β γ ρ : Type} {te : TE} {t : Ty α} {l : TyL α}
/-! ### bits -/
def mShl (a b : Int) : Mir Int := .chk (CPow a b) (.ret (a * 2 ^ b.toNat))
def mShr (a b : Int) : Mir Int := .chk (0 ≤ b) (.ret (a / 2 ^ b.toNat))
def mAnd (a b : Int) : Mir Int := .ret (Builtin.bitAnd a b)
theorem OpM.shl : OpM RX E (rI CPow fun i j => .int (i * 2 ^ j.toNat)) tInt.h tInt.h tInt.h mShl := fun G H x y a b Q s r1 r2 q => ⟨a, b, r1, r2, q.1, q.2 _ G H (Nx.refl s) rfl⟩
theorem OpM.shr : OpM RX E (rI (fun _ j => 0 ≤ j) fun i j => .int (i / 2 ^ j.toNat)) tInt.h tInt.h tInt.h mShr := fun G H x y a b Q s r1 r2 q => ⟨a, b, r1, r2, q.1, q.2 _ G H (Nx.refl s) rfl⟩
theorem OpM.band : OpM RX E (rI0 fun i j => .int (Builtin.bitAnd i j)) tInt.h tInt.h tInt.h mAnd := fun G H x y a b Q s r1 r2 q => ⟨a, b, r1, r2, q _ G H (Nx.refl s) rfl⟩
/-! ### [], or a list used as a record -/
def tOptL (l : TyL α) : Ty (Option α) := ⟨fun x v G => match x with | none => ∃ a, v = .ref a ∧ G a = some (.lst []) | some y => (tRecL l).rep y v G, fun {x} {v} {G} {G'} s h => by
  cases x with
  | none => obtain ⟨a, e, h⟩ := h; exact ⟨a, e, s _ _ h⟩
  | some y => exact (tRecL l).up s h⟩
theorem PJ.nonL {u : Ty β} (h : PJ Γ te (tList u).h []) : PJ Γ te (tOptL l).h none := fun H0 G H σ Q s s0 e q => h s s0 e fun v G1 H1 n r => q v G1 H1 n (by
  obtain ⟨a, vs, e, h1, _, h2⟩ := r
  cases h2
  exact ⟨a, e, h1⟩)
theorem PJ.someL {a : α} (h : PJ Γ te (tRecL l).h a) : PJ Γ te (tOptL l).h (Option.some a) := fun H0 G H σ Q s s0 e q => h s s0 e fun v G1 H1 n r => q v G1 H1 n r
theorem EJ.someL {m : Mir α} (h : EJ RX E Γ te (tRecL l).h m) : EJ RX E Γ te (tOptL l).h (m.bind fun a => .ret (Option.some a)) := fun H0 G H σ Q s s0 e q => h s s0 e (m.mono (fun a z v G1 H1 n r => z v G1 H1 n r) (fun _ z => z) q)
theorem EJ.theL {m : Mir (Option α)} (h : EJ RX E Γ te (tOptL l).h m) : EJ RX E Γ te (tRecL l).h (m.bind mThe) := fun H0 G H σ Q s s0 e q =>
  h s s0 e (m.mono (fun x ⟨a, ea, z⟩ v G' H' n r => by
    subst ea
    exact z v G' H' n r) (fun _ z => z) q)
theorem eqv_nc {x : PyData} {xs : List PyData} : PyData.eqvAll [] (x :: xs) = false := by simp [PyData.eqvAll]
theorem eqv_cn {x : PyData} {xs : List PyData} : PyData.eqvAll (x :: xs) [] = false := by simp [PyData.eqvAll]
def EqD.optL [DecidableEq α] (f : EqL K l) (h : ∀ a, PyData.eqvAll [] (f.toD a) = false ∧ PyData.eqvAll (f.toD a) [] = false) : EqD K (tOptL l) := ⟨fun x => match x with | none => .list [] | some a => .list (f.toD a), fun x => by
    cases x with
    | none => rfl
    | some a => simp only [PyData.plain]; exact f.plain a, fun x y => by
    cases x <;> cases y
    · simp [PyData.eqv, PyData.eqvAll]
    · simp [PyData.eqv, (h _).1]
    · simp [PyData.eqv, (h _).2]
    · simp [PyData.eqv, f.eqv], f.depth + 1, fun x => by
    cases x with
    | none => simp [PyData.depth, PyData.depthAll]
    | some a => simp only [PyData.depth]; exact Nat.succ_le_succ (f.depth_le a), fun {x v G} r => by
    cases x with
    | none => obtain ⟨a, e, h1⟩ := r; subst e; exact .lst (sqL h1) .nil
    | some a => exact (EqD.recL f).dp r⟩
/-- isinstance(x, C), x None or an object of C -/
theorem PJ.isiOpt {C : Addr} {a : Option α} (hI : InsT t C) (hT : TyI K C) (hk : PySem.W.kitOne K (.ref C) (.ref C) = Option.some true) (hn : PySem.W.kitOne K (.type "NoneType") (.ref C) = Option.some false) (h : PJ Γ te (tOpt t).h a) :
    PJ Γ (tCB (rIsi K) (tCons te (tCons (tC (.ref C)) tNil))) tBool.h a.isSome := fun H0 G H σ Q s s0 e q =>
  h s s0 e fun v G1 H1 n r => by
    cases a with
    | none =>
      cases (show v = .non from r)
      exact ⟨_, _, _, _, false, rfl, .own C, .base .non, hn, q _ G1 H1 n rfl⟩
    | some x =>
      obtain ⟨p, dx, fs, ev, h1⟩ := hI r.1
      subst ev
      exact ⟨_, _, _, _, true, rfl, .own C, hT (n.h _ _ h1), hk, q _ G1 H1 n rfl⟩
end
set_option synthInstance.maxSize 100000 in
set_option synthInstance.maxHeartbeats 0 in
instance dqT : DecidableEq (Str × List Str × List (List Str)) := inferInstance
set_option synthInstance.maxSize 100000 in
set_option synthInstance.maxHeartbeats 0 in
instance dqT2 : DecidableEq (List Str × Str × List (Str × List Str × List (List Str))) := inferInstance
set_option synthInstance.maxSize 100000 in
set_option synthInstance.maxHeartbeats 0 in
instance dqT5 : DecidableEq ((Str × List Str × List (List Str)) × (Str × List Str × List (List Str)) × List Str × Str × List (Str × List Str × List (List Str))) := inferInstance
/-! ### partings -/
section
variable {S CT CC C : Addr}
def tPar (C S CT CC : Addr) : Ty Part := ⟨fun T v G => ∃ a dx s b r k c u, v = .ref a ∧ G a = some (.ins C dx [("schema", s), ("start", b), ("broken", r), ("key", k), ("column", c), ("used", u)]) ∧ (tSch S CT CC).rep T.schema s G ∧ tStr.rep T.start b G ∧ tStr.rep T.broken r G ∧ (tCols CC).rep T.key k G ∧ tStr.rep T.column c G ∧ (tTpl tStr).rep T.used u G,
  fun z ⟨a, dx, s, b, r, k, c, u, e, h, h1, h2, h3, h4, h5, h6⟩ => ⟨a, dx, s, b, r, k, c, u, e, z _ _ h, (tSch S CT CC).up z h1, tStr.up z h2, tStr.up z h3, (tCols CC).up z h4, tStr.up z h5, (tTpl tStr).up z h6⟩⟩
theorem fldParSchema : Fld (tPar C S CT CC) C "schema" (tSch S CT CC) Part.schema := fun ⟨a, dx, s, b, r, k, c, u, e, h, h1, h2, h3, h4, h5, h6⟩ => ⟨a, dx, _, s, e, h, rfl, h1⟩
theorem fldParStart : Fld (tPar C S CT CC) C "start" tStr Part.start := fun ⟨a, dx, s, b, r, k, c, u, e, h, h1, h2, h3, h4, h5, h6⟩ => ⟨a, dx, _, b, e, h, rfl, h2⟩
theorem fldParBroken : Fld (tPar C S CT CC) C "broken" tStr Part.broken := fun ⟨a, dx, s, b, r, k, c, u, e, h, h1, h2, h3, h4, h5, h6⟩ => ⟨a, dx, _, r, e, h, rfl, h3⟩
theorem fldParKey : Fld (tPar C S CT CC) C "key" (tCols CC) Part.key := fun ⟨a, dx, s, b, r, k, c, u, e, h, h1, h2, h3, h4, h5, h6⟩ => ⟨a, dx, _, k, e, h, rfl, h4⟩
theorem fldParColumn : Fld (tPar C S CT CC) C "column" tStr Part.column := fun ⟨a, dx, s, b, r, k, c, u, e, h, h1, h2, h3, h4, h5, h6⟩ => ⟨a, dx, _, c, e, h, rfl, h5⟩
theorem fldParUsed : Fld (tPar C S CT CC) C "used" (tTpl tStr) Part.used := fun ⟨a, dx, s, b, r, k, c, u, e, h, h1, h2, h3, h4, h5, h6⟩ => ⟨a, dx, _, u, e, h, rfl, h6⟩
theorem insPar : InsT (tPar C S CT CC) C := fun ⟨a, dx, s, b, r, k, c, u, e, h, _⟩ => ⟨a, dx, _, e, h⟩
theorem nn_par : (tPar C S CT CC).nn := nn_ref fun ⟨a, dx, s, b, r, k, c, u, e, _⟩ => ⟨a, e⟩
def parF (S CT C : Addr) (T : Part) : List (Str × Fv) := [("schema", Fv.of (tSch S CT C) T.schema), ("start", Fv.of tStr T.start), ("broken", Fv.of tStr T.broken), ("key", Fv.of (tCols C) T.key), ("column", Fv.of tStr T.column), ("used", Fv.of (tTpl tStr) T.used)]
theorem mk_par {C S CT D : Addr} {b : Part} {p dx : Addr} {fs : List (Str × V)} {G : Hp} (h : G p = some (.ins C dx fs)) (r : FvR (parF S CT D b) fs G) : (tPar C S CT D).rep b (.ref p) G := by
  obtain ⟨x1, x2, x3, x4, x5, x6⟩ := b
  cases r with | cons r1 r => cases r with | cons r2 r => cases r with | cons r3 r => cases r with | cons r4 r => cases r with | cons r5 r => cases r with | cons r6 r => cases r with | nil =>
    rename_i q1 q2 q3 q4 q5 q6
    obtain ⟨f1, v1⟩ := q1; obtain ⟨f2, v2⟩ := q2; obtain ⟨f3, v3⟩ := q3; obtain ⟨f4, v4⟩ := q4; obtain ⟨f5, v5⟩ := q5; obtain ⟨f6, v6⟩ := q6
    obtain ⟨e1, r1⟩ := r1; obtain ⟨e2, r2⟩ := r2; obtain ⟨e3, r3⟩ := r3; obtain ⟨e4, r4⟩ := r4; obtain ⟨e5, r5⟩ := r5; obtain ⟨e6, r6⟩ := r6
    cases e1; cases e2; cases e3; cases e4; cases e5; cases e6
    exact ⟨p, dx, v1, v2, v3, v4, v5, v6, rfl, h, r1, r2, r3, r4, r5, r6⟩
end
end Ax

/-! {x:>8}; cells that are an int or a text; a list or a tuple; texts times an int. -/
namespace Ax
section
open PySem PySem.Builtin PySem.Builtin.Str PySem.Builtin.Int PySem.Builtin.Float PyProof.Rows
def f8 : FormatSpec := { align := 62, width := some 8 }
theorem f8_int : parseFormatSpec (">8" : PySem.Str).cps.toList "int" 62 = .ok f8 := by rfl
theorem f8_str : parseFormatSpec (">8" : PySem.Str).cps.toList "str" 60 = .ok f8 := by rfl
def pad8 (y : PySem.Str) : PySem.Str := padded y (8 - y.length) 0 32
variable {prog : Program} {w : World} {A : Around} {E : Value → Shared → Prop} {s : Shared} {t : Tok}
theorem pad8_len {y : PySem.Str} : (pad8 y).length = max 8 y.length := by
  show (Array.replicate (8 - y.length) 32 ++ y.cps ++ Array.replicate 0 32).size = _
  simp only [Array.size_append, Array.size_replicate]
  show 8 - y.length + y.length + 0 = _
  omega
theorem pad8_same {y : PySem.Str} (h : 8 ≤ y.length) : pad8 y = y := by
  unfold pad8 padded
  rw [show 8 - y.length = 0 by omega]
  simp
theorem fmt8_str {x : PySem.Str} {Q : Value → Shared → Prop} (hz : x.length ≤ sizeLine) (h : ∀ t' k, Q (.str (pad8 x) t') { s with toks := k }) : wpAny (model prog w) A (formatField (.str x t) ">8") Q E s := by
  refine W.KXf.field_str (spec' := ">8") (x' := x) rfl rfl (by decide) (by decide) (fun u => ?_) h
  apply PySem.W.KPc.meets_of
  intro prog w A s Q E hq
  unfold Builtin.«str.__format__»
  refine wpAny_bind (wpAny_of_eq (a := (_, _, _)) rfl ?_)
  refine wpAny_bind (wpAny_of_eq (a := some _) rfl ?_)
  show wpAny _ _ (if _ then _ else _) _ _ _
  rw [if_neg (by decide)]
  show wpAny _ _ (if _ then _ else _) _ _ _
  rw [if_neg (by decide)]
  refine wpAny_bind (W.KXf.cut_str ?_)
  have hs : strField x f8 "str" = if (decide (8 ≤ x.length) && true) = true then .ok none else .ok (some (padded (strSub x 0 x.length) (8 - (strSub x 0 x.length).length) (8 - (strSub x 0 x.length).length - (8 - (strSub x 0 x.length).length)) 32)) := rfl
  have hb : (do
      let f ← (parseFormatSpec (">8" : PySem.Str).cps.toList "str" 60)
      let f := if f.type.isNone && (">8" : PySem.Str).cps.back? == some 0 then { f with type := some 0 } else f
      if tooLong (f.width.getD 0) then return none
      return some (← strField x f "str") : Except String (Option (Option PySem.Str))) = (strField x f8 "str") >>= fun g => pure (some g) := by
    rw [f8_str]
    rfl
  rcases Nat.lt_or_ge x.length 8 with h8 | h8
  · have e1 : strField x f8 "str" = .ok (some (pad8 x)) := by
      rw [hs, decide_eq_false (by omega)]
      have e2 : strSub x 0 x.length = x := by
        unfold strSub
        show PySem.Str.mk (x.cps.extract 0 x.length) = x
        simp [PySem.Str.length]
      rw [e2, Nat.sub_self]
      rfl
    rw [e1] at hb
    dsimp only
    split
    · rename_i heq; cases hb.symm.trans heq
    · rename_i heq; cases hb.symm.trans heq
    · rename_i heq; cases hb.symm.trans heq
    · rename_i heq
      cases hb.symm.trans heq
      exact wpAny_bind (wpAny_mkStr (wpAny_pure (hq _ _)) (by rw [pad8_len]; have : 8 ≤ sizeLine := by decide
                                                              omega))
  · have e1 : strField x f8 "str" = .ok none := by
      rw [hs, decide_eq_true h8]
      rfl
    rw [e1] at hb
    dsimp only
    split
    · rename_i heq; cases hb.symm.trans heq
    · rename_i heq; cases hb.symm.trans heq
    · refine wpAny_bind (wpAny_rule ?_)
      rw [pad8_same h8] at hq
      exact wpAny_pure (hq t s.toks)
    · rename_i heq; cases hb.symm.trans heq
theorem txt_neg (m : Nat) : PySem.Str.ofString (toString (Int.negSucc m)) = ⟨(45 :: (Nat.toDigits 10 (m + 1)).map Char.toNat).toArray⟩ := by
  show PySem.Str.ofString ("-" ++ Nat.repr (m + 1)) = _
  rw [PySem.Str.ofString_eq_toList]
  simp [Nat.repr]
theorem pad8_int (i : Int) : intField' f8 (decide (i < 0)) [] ((Nat.toDigits 10 i.natAbs).map fun c => (if (100 : Nat) == 88 then c.toUpper else c).toNat) [] 3 = pad8 (PySem.Str.ofString (toString i)) := by
  have dl : ∀ m, (Nat.toDigits 10 m).length ≠ 0 := fun m => by
    have := (digitsFacts10 m).ge1
    omega
  have key : ∀ (ds : List Nat) (neg : Bool), ds.length ≠ 0 → intField' f8 neg [] ds [] 3 = pad8 ⟨((if neg then [45] else []) ++ ds).toArray⟩ := by
    intro ds neg hd
    have he : ds.isEmpty = false := by cases ds with | nil => exact absurd rfl hd | cons _ _ => rfl
    unfold intField' pad8 padded
    simp only [f8, he]
    congr 1
    apply Array.ext'
    cases neg <;> simp [PySem.Str.length] <;> omega
  rw [show ((Nat.toDigits 10 i.natAbs).map fun c => (if (100 : Nat) == 88 then c.toUpper else c).toNat) = (Nat.toDigits 10 i.natAbs).map Char.toNat from rfl, key _ _ (by rw [List.length_map]; exact dl _)]
  cases i with
  | ofNat m => rw [text_ofNat]; rfl
  | negSucc m => rw [txt_neg, decide_eq_true (Int.negSucc_lt_zero m)]; rfl
theorem fmt8_int {i : Int} {Q : Value → Shared → Prop} (hz : i.natAbs.log2 < 1920) (h : ∀ t' k, Q (.str (pad8 (PySem.Str.ofString (toString i))) t') { s with toks := k }) : wpAny (model prog w) A (formatField (.int i t) ">8") Q E s := by
  refine W.KXf.field_int (spec' := ">8") rfl (by decide) (by decide) (fun u => ?_) h
  apply PySem.W.KPc.meets_of
  intro prog w A s Q E hq
  unfold Builtin.«int.__format__»
  refine wpAny_bind (wpAny_of_eq (a := (_, _)) rfl ?_)
  refine wpAny_bind (wpAny_of_eq (a := _) rfl ?_)
  show wpAny _ _ (if _ then _ else _) _ _ _
  rw [if_neg (show ¬ (Value.str (PySem.Str.ofString ">8") u == Value.none) = true from fun z => by cases (show false = true from z))]
  refine wpAny_bind (wpAny_typeNameOf (T := "str") (typeIs_str _ _ _) (by decide) fun _ => ?_)
  refine wpAny_bind (wpAny_of_eq (a := some _) rfl ?_)
  show wpAny _ _ (if _ then _ else _) _ _ _
  rw [if_neg (by decide)]
  show wpAny _ _ (if _ then _ else _) _ _ _
  rw [if_neg (by decide)]
  refine wpAny_bind (wpAny_typeNameOfCut_int ?_)
  dsimp only
  rw [f8_int]
  show wpAny _ _ (if _ then _ else _) _ _ _
  rw [if_pos (by decide), show (f8.type.getD (if ((PySem.Str.ofString ">8").cps.back? == some 0) = true then 0 else 100)) = 100 by decide]
  conv => arg 3; whnf
  show wpAny _ _ (overDigitLimit? i >>= _) _ _ _
  refine wpAny_bind (wpAny_of_eq (PySem.overDigitLimit_small hz) ?_)
  show wpAny _ _ (retStr _) _ _ _
  refine W.KXf.ret_text (T := pad8 (PySem.Str.ofString (toString i))) ?_ ?_ hq
  · exact pad8_int i
  · have h0 : (pad8 (PySem.Str.ofString (toString i))).length ≤ sizeLine := ?_
    · exact Nat.le_trans (Nat.le_of_eq (congrArg PySem.Str.length (pad8_int i))) h0
    rw [pad8_len]
    have h1 : (PySem.Str.ofString (toString i)).length ≤ sizeLine := int_text_fits hz
    have : 8 ≤ sizeLine := by decide
    omega
end
open PySem PySem.Spec PyProof.Rows L2 SlX StX
/-- {x:>8} -/
def tFmtW (te : TE) : TE := fun σ H Q => te σ H fun x H1 => (∃ y : Str, x = .str y ∧ y.length ≤ sizeLine ∧ Q (.str (pad8 y)) H1) ∨ ∃ i : Int, x = .int i ∧ i.natAbs.log2 < 1920 ∧ Q (.str (pad8 (toString i))) H1
theorem pe_fmtW {X : Cx} {e spec : Expr} {te : TE} {pos : Pos} (he : PE X e te) (hs : PE X spec (tC (.str ">8"))) : PE X (.FormattedValue e (-1) (some spec) pos) (tFmtW te) := by
  refine ⟨fun pins s σ H Q I h => ?_⟩
  refine wpAny_FormattedValue_spec (thn (he.run pins s σ H _ I h) fun v s1 hv => ?_)
  obtain ⟨x, H1, I1, r1, q⟩ := hv
  rcases q with ⟨y, rfl, hz, q⟩ | ⟨i, rfl, hz, q⟩
  · obtain ⟨t, rfl⟩ := r1
    refine thn (hs.run pins s1 σ H1 (fun x H2 => x = .str ">8" ∧ Q (.str (pad8 y)) H2) I1 ⟨rfl, q⟩) fun v2 s2 hv2 => ?_
    obtain ⟨x2, H2, I2, r2, ⟨e2, q2⟩⟩ := hv2
    subst e2
    obtain ⟨t2, rfl⟩ := r2
    exact ⟨_, _, rfl, fmt8_str hz fun t' k => ⟨.str (pad8 y), H2, I2.tok _, ⟨_, rfl⟩, q2⟩⟩
  · obtain ⟨t, rfl⟩ := r1
    refine thn (hs.run pins s1 σ H1 (fun x H2 => x = .str ">8" ∧ Q (.str (pad8 (toString i))) H2) I1 ⟨rfl, q⟩) fun v2 s2 hv2 => ?_
    obtain ⟨x2, H2, I2, r2, ⟨e2, q2⟩⟩ := hv2
    subst e2
    obtain ⟨t2, rfl⟩ := r2
    exact ⟨_, _, rfl, fmt8_int hz fun t' k => ⟨.str (pad8 (toString i)), H2, I2.tok _, ⟨_, rfl⟩, q2⟩⟩
/-- a text times an int -/
def rMulS : R2 := fun x y H Q => ∃ (z : Str) (n : Int), x = .str z ∧ y = .int n ∧ MulOk z n ∧ Q (.str (Txt.mul z n)) H
theorem op_mulS {X : Cx} : OpR X (binaryOp .Mult) rMulS := by
  intro pins s σ H x y v u Q I rx ry h
  obtain ⟨z, n, rfl, rfl, hk, q⟩ := h
  obtain ⟨t, rfl⟩ := rx
  obtain ⟨t2, rfl⟩ := ry
  exact SB.mul hk fun t' k => ⟨.str (Txt.mul z n), H, I.tok _, ⟨_, rfl⟩, q⟩
theorem pi_orI {X : Cx} {tg e : Expr} {wi wi1 : TI} (h : PI X tg e wi) (h1 : PI X tg e wi1) : PI X tg e (fun σ H R => wi σ H R ∨ wi1 σ H R) := ⟨fun pins s σ H R I q => q.elim (h.run pins s σ H R I) (h1.run pins s σ H R I)⟩
def iOr (wi wi1 : TI) : TI := fun σ H R => wi σ H R ∨ wi1 σ H R
def rOr (r r1 : List V → Hp → VK → Prop) : List V → Hp → VK → Prop := fun xs H Q => r xs H Q ∨ r1 xs H Q
/-! ### kinds of values that are told as others -/
def SubT {α β : Type} (t : Ty α) (u : Ty β) (f : α → β) : Prop := ∀ x v G, t.rep x v G → u.rep (f x) v G
abbrev Cell := Int ⊕ Str
def tCell : Ty Cell := ⟨fun x v G => match x with | .inl i => tInt.rep i v G | .inr y => tStr.rep y v G, fun {x} {v} {G} {G'} s h => by
  cases x with
  | inl i => exact tInt.up s h
  | inr y => exact tStr.up s h⟩
def tSq {α : Type} (t : Ty α) : Ty (List α) := ⟨fun xs v G => (tList t).rep xs v G ∨ (tTpl t).rep xs v G, fun s h => h.imp ((tList t).up s) ((tTpl t).up s)⟩
section
variable {RX : RXT} {E : XK} {Γ : List Sl} {K : PySem.W.Frag} {α β γ : Type} {te : TE} {tl : TA} {t : Ty α} {u : Ty β} {f : α → β}
theorem SubT.int : SubT tInt tCell Sum.inl := fun _ _ _ h => h
theorem SubT.str : SubT tStr tCell Sum.inr := fun _ _ _ h => h
theorem SubT.reps (h : SubT t u f) {G : Hp} : ∀ {xs : List α} {vs : List V}, Reps t G xs vs → Reps u G (xs.map f) vs
  | _, _, .nil => .nil
  | _, _, .cons r rs => .cons (h _ _ _ r) (h.reps rs)
theorem SubT.list (h : SubT t u f) : SubT (tList t) (tList u) (List.map f) := fun xs v G ⟨a, vs, e, h1, l, r⟩ => ⟨a, vs, e, h1, by rw [List.length_map]; exact l, h.reps r⟩
theorem SubT.tup (h : SubT t u f) : SubT (tTpl t) (tTpl u) (List.map f) := fun xs v G ⟨a, vs, e, h1, l, r⟩ => ⟨a, vs, e, h1, by rw [List.length_map]; exact l, h.reps r⟩
theorem SubT.seqL (h : SubT t u f) : SubT (tList t) (tSq u) (List.map f) := fun xs v G r => .inl (h.list xs v G r)
theorem SubT.seqT (h : SubT t u f) : SubT (tTpl t) (tSq u) (List.map f) := fun xs v G r => .inr (h.tup xs v G r)
theorem SubT.rfl' : SubT t t id := fun _ _ _ h => h
theorem PJ.sub (h : SubT t u f) {a : α} (ha : PJ Γ te t.h a) : PJ Γ te u.h (f a) := fun H0 G H σ Q s s0 e q => ha s s0 e fun v G1 H1 n r => q v G1 H1 n (h _ _ _ r)
theorem EJ.sub (h : SubT t u f) {m : Mir α} (ha : EJ RX E Γ te t.h m) : EJ RX E Γ te u.h (m.bind fun a => .ret (f a)) := fun H0 G H σ Q s s0 e q => ha s s0 e (m.mono (fun a z v G1 H1 n r => z v G1 H1 n (h _ _ _ r)) (fun _ z => z) q)
def EqD.cell : EqD K tCell := ⟨fun x => match x with | .inl i => .int i | .inr y => .str y, fun x => by cases x <;> rfl, fun x y => by
    cases x <;> cases y <;> simp [PyData.eqv] <;> exact PySem.W.beq_decide _ _, 0, fun x => by cases x <;> exact Nat.le_refl _, fun {x v G} r => by
    cases x with
    | inl i => exact EqD.int.dp r
    | inr y => exact EqD.str.dp r⟩
/-- {x:>8} -/
def mPadC (x : Cell) : Mir Str := match x with | .inl i => .chk (i.natAbs.log2 < 1920 ∧ (pad8 (toString i : Str)).length ≤ mxL) (.ret (pad8 (toString i))) | .inr y => .chk ((pad8 y).length ≤ mxL) (.ret (pad8 y))
theorem EJ.padC {m : Mir Cell} (h : EJ RX E Γ te tCell.h m) : EJ RX E Γ (tFmtW te) tStr.h (m.bind mPadC) := fun H0 G H σ Q s s0 e q => h s s0 e (m.mono (fun x z v G1 H1 n r => by
  cases x with
  | inl i => cases (show v = .int i from r); exact .inr ⟨i, rfl, z.1.1, z.2 _ G1 H1 n ⟨rfl, z.1.2⟩⟩
  | inr y =>
    obtain ⟨ev, hl⟩ := r
    cases ev
    exact .inl ⟨y, rfl, sz (Nat.le_trans hl (by decide)), z.2 _ G1 H1 n ⟨rfl, z.1⟩⟩) (fun _ z => z) q)
/-- str(x) -/
def mStrC (x : Cell) : Mir Str := match x with | .inl i => .chk (i.natAbs.log2 < 1920 ∧ (toString i : Str).length ≤ mxL) (.ret (toString i)) | .inr y => .ret y
theorem CM.strC : CM RX E (rOr rStrI rStrS) (TyA.one tCell.h) tStr.h mStrC := fun G H vs a Q s ⟨v, e, ev⟩ q => by
  subst e
  cases a with
  | inl i => cases (show v = .int i from ev); exact .inl ⟨i, rfl, q.1.1, q.2 _ G H (Nx.refl s) ⟨rfl, q.1.2⟩⟩
  | inr y =>
    obtain ⟨ev, hl⟩ := ev
    subst ev
    exact .inr ⟨y, rfl, q _ G H (Nx.refl s) ⟨rfl, hl⟩⟩
def mMulS (a : Str) (b : Int) : Mir Str := .chk (MulOk a b ∧ (Txt.mul a b).length ≤ mxL) (.ret (Txt.mul a b))
theorem OpM.mulS : OpM RX E rMulS tStr.h tInt.h tStr.h mMulS := fun G H x y a b Q s ⟨r1, _⟩ r2 q => ⟨a, b, r1, r2, q.1.1, q.2 _ G H (Nx.refl s) ⟨rfl, q.1.2⟩⟩
/-- for x in a name's list or tuple -/
theorem IJf.seqV {i : Nat} {xs : List α} (h : Γ[i]? = some (.fz (tSq t) xs)) : IJf RX E Γ (iOr (iList K (tVar i)) (iTup K (tVar i))) t (.ret xs) := fun H0 G H σ R s s0 e q => by
  obtain ⟨v, ev, r⟩ := e.fz h
  have hl : i < Γ.length := (List.getElem?_eq_some_iff.mp h).1
  rcases r with r | r
  · have e' : Env H0 G H (Γ.set i (.fz (tList t) xs)) σ := by
      have z := Env.setFz (t := tList t) r i e
      rw [set_self ev] at z
      exact z
    exact .inl (IJf.list (RX := RX) (E := E) (PJ.e (PJ.var (by rw [List.getElem?_set_self hl]))) s s0 e' q)
  · have e' : Env H0 G H (Γ.set i (.fz (tTpl t) xs)) σ := by
      have z := Env.setFz (t := tTpl t) r i e
      rw [set_self ev] at z
      exact z
    exact .inr (IJf.tup (RX := RX) (E := E) (PJ.e (PJ.var (by rw [List.getElem?_set_self hl]))) s s0 e' q)
/-- *e behind the items of a display -/
theorem AP.lstarL {b : List α} (h : PJ Γ te (tList t).h b) : AP Γ (tStar K te tNil) (TyA.lst t) b := fun H0 G H σ Q s1 s0 e q => h s1 s0 e fun v G1 H1 n ⟨l, vs, ev, h1, h2, h3⟩ =>
  ⟨l, vs, ev, .inr (sqL (n.h _ _ h1)), (by show Q (vs ++ []) H1; rw [List.append_nil]; exact q vs G1 H1 n h3)⟩
theorem LJ.sl {tl th : TO} {m : Mir (List α)} {a b : Mir (Option Int)} (h : EJ RX E Γ te (tBo t) m) (hl : BE RX E Γ tl a) (hh : BE RX E Γ th b) : LJ RX E Γ (tSl (rSlL K) te tl th) t (m.bind fun xs => a.bind fun a => b.bind fun b => .ret (cutL xs a b)) := fun H0 G H σ Q s s0 e q =>
  h s s0 e (m.mono (fun xs q v G1 H1 n1 ⟨l, vs, ev, h1, h2, h3⟩ => hl n1.h (s0.trans n1.e) (e.up n1) (a.mono (fun a q G2 H2 n2 => hh n2.h ((s0.trans n1.e).trans n2.e) ((e.up n1).up n2) (b.mono (fun b q G3 H3 n3 =>
    ⟨l, vs, ev, sqL (n3.e _ _ (n2.e _ _ h1)), fun p hp => q p _ G3 _ (((n1.trans n2).trans n3).more (same_new hp)) upd_same (n3.h.free hp) (((n1.trans n2).trans n3).e.free hp) (Nat.le_trans (cutL_len _ _ _) h2) ((cutR h3 a b).up (n2.g.trans n3.g))⟩) (fun _ z => z.to (n1.trans n2)) q)) (fun _ z => z.to n1) q)) (fun _ z => z) q)
end
end Ax

/-! Trees of the def's own: lists of own lists, dicts of own lists. -/
namespace Ax
open PySem PySem.Spec PyProof.Rows L2 SlX StX
theorem units1 {n m : Nat} (h : n + 64 < m) : n + 1 < m := by omega
/-- no slot stands within i's tree -/
def noAl (i : Nat) (Γ : List Sl) : Bool := Γ.all fun s => match s with | .al j _ => j != i | _ => true
section
variable {α : Type}
def oL (t : Ty α) : OT (List α) := ⟨fun xs v fp G H => ∃ l vs, v = .ref l ∧ fp = [l] ∧ H l = some (.lst vs) ∧ xs.length ≤ mxL ∧ Reps t G xs vs, fun s h ⟨l, vs, e, ef, h1, h2, h3⟩ => ⟨l, vs, e, ef, h l (by rw [ef]; exact List.mem_singleton.mpr rfl) _ h1, h2, h3.up s⟩⟩
inductive Kids (T : OT α) (G H : Hp) : List α → List V → List Addr → Prop
  | nil : Kids T G H [] [] []
  | cons {x : α} {v : V} {f : List Addr} {xs : List α} {vs : List V} {fs : List Addr} (h : T.rep x v f G H) (r : Kids T G H xs vs fs) : Kids T G H (x :: xs) (v :: vs) (f ++ fs)
theorem Kids.up {T : OT α} {G G' H H' : Hp} (s : Same G G') : ∀ {xs : List α} {vs : List V} {fs : List Addr}, (∀ a ∈ fs, ∀ c, H a = some c → H' a = some c) → Kids T G H xs vs fs → Kids T G' H' xs vs fs
  | _, _, _, _, .nil => .nil
  | _, _, _, h, .cons r rs => .cons (T.up s (fun a ha => h a (List.mem_append_left _ ha)) r) (rs.up s fun a ha => h a (List.mem_append_right _ ha))
theorem Kids.app {T : OT α} {G H : Hp} {ys : List α} {ws : List V} {gs : List Addr} (r2 : Kids T G H ys ws gs) : ∀ {xs : List α} {vs : List V} {fs : List Addr}, Kids T G H xs vs fs → Kids T G H (xs ++ ys) (vs ++ ws) (fs ++ gs)
  | _, _, _, .nil => r2
  | _, _, _, .cons (f := f) (fs := fs) r rs => by
    rw [List.append_assoc]
    exact .cons r (r2.app rs)
theorem Kids.len {T : OT α} {G H : Hp} : ∀ {xs : List α} {vs : List V} {fs : List Addr}, Kids T G H xs vs fs → xs.length = vs.length
  | _, _, _, .nil => rfl
  | _, _, _, .cons _ rs => congrArg (· + 1) rs.len
def oLO (T : OT α) : OT (List α) := ⟨fun xs v fp G H => ∃ l vs fs, v = .ref l ∧ fp = l :: fs ∧ H l = some (.lst vs) ∧ xs.length ≤ mxL ∧ Kids T G H xs vs fs, fun s h ⟨l, vs, fs, e, ef, h1, h2, h3⟩ =>
  ⟨l, vs, fs, e, ef, h l (by rw [ef]; exact List.mem_cons_self) _ h1, h2, h3.up s fun a ha => h a (by rw [ef]; exact List.mem_cons_of_mem _ ha)⟩⟩
/-- a dict whose keys are texts -/
def DRep (T : OT α) (xs : List (Str × α)) (v : V) (fp : List Addr) (G H : Hp) : Prop := ∃ (l : Addr) (es : List (Key × V)) (fs : List Addr), v = .ref l ∧ fp = l :: fs ∧ H l = some (.dK es) ∧ xs.length ≤ mxL ∧ es.map (fun e => e.1) = xs.map (fun p => Sum.inr p.1) ∧ Kids T G H (xs.map fun p => p.2) (es.map fun e => e.2) fs
def oDO (T : OT α) : OT (List (Str × α)) := ⟨DRep T, fun s h ⟨l, es, fs, e, ef, h1, h2, h3, h4⟩ =>
  ⟨l, es, fs, e, ef, h l (by rw [ef]; exact List.mem_cons_self) _ h1, h2, h3, Kids.up s (fun a ha => h a (by rw [ef]; exact List.mem_cons_of_mem _ ha)) h4⟩⟩
/-- a new tree -/
def TRK (T : OT α) (Q : VK) (G H : Hp) : α → Prop := fun x => ∀ v fp G' H', Nx G H G' H' → T.rep x v fp G' H' → fp.Nodup → (∀ a ∈ fp, G' a = none ∧ H a = none ∧ ∃ c, H' a = some c) → Q v H'
theorem TRK.to {T : OT α} {Q : VK} {G H G' H' : Hp} (n : Nx G H G' H') {a : α} (h : TRK T Q G H a) : TRK T Q G' H' a := fun v fp G2 H2 n2 r nd h2 => h v fp G2 H2 (n.trans n2) r nd fun a ha => let ⟨h1, h3, h4⟩ := h2 a ha; ⟨h1, n.e.free h3, h4⟩
def EJT (RX : RXT) (E : XK) (Γ : List Sl) (te : TE) (T : OT α) (m : Mir α) : Prop := ∀ ⦃H0 G H : Hp⦄ ⦃σ : L2.St⦄ ⦃Q : VK⦄, Same G H → Same H0 H → Env H0 G H Γ σ → m.run (TRK T Q G H) (ErK RX E G H) → te σ H Q
def CT {β : Type} (RX : RXT) (E : XK) (r : List V → Hp → VK → Prop) (A : TyA α) (T : OT β) (f : α → Mir β) : Prop := ∀ ⦃G H : Hp⦄ ⦃vs : List V⦄ ⦃a : α⦄ ⦃Q : VK⦄, Same G H → A.rep a vs G H → (f a).run (TRK T Q G H) (ErK RX E G H) → r vs H Q
def rtT (T : OT α) : Rt α := fun x v H0 G H => ∃ fp, T.rep x v fp G H ∧ fp.Nodup ∧ ∀ a ∈ fp, G a = none ∧ H0 a = none ∧ ∃ c, H a = some c
end
section
variable {RX : RXT} {E : XK} {Γ : List Sl} {α β γ ρ : Type} {T : OT α} {t : Ty α} {te ti : TE} {tl : TA} {tu : TS} {post : β → List Sl} {rt : Rt ρ} {A : TyA γ}
theorem CT.fn {T : OT ρ} {m : γ → Mir ρ} : CT RX E (fun vs H Q => spM RX A (rtT T) m vs H Q E) A T m := fun G H vs a Q s r q => ⟨a, G, s, r, (m a).mono (fun x z v G' H' n ⟨fp, h1, h2, h3⟩ => z v fp G' H' n h1 h2 h3) (fun _ z => z) q⟩
theorem EJT.callP {rc : List V → Hp → VK → Prop} {f : γ → Mir α} (o : CT RX E rc A T f) {a : γ} (ha : AP Γ tl A a) : EJT RX E Γ (tCB rc tl) T (f a) := fun H0 G H σ Q s s0 e q => ha s s0 e fun vs G1 H1 n1 rv => o n1.h rv ((f a).mono (fun _ z => z.to n1) (fun _ z => z.to n1) q)
theorem EJT.call {rc : List V → Hp → VK → Prop} {f : γ → Mir α} (o : CT RX E rc A T f) {m : Mir γ} (ha : AJ RX E Γ tl A m) : EJT RX E Γ (tCB rc tl) T (m.bind f) := fun H0 G H σ Q s s0 e q =>
  ha s s0 e (m.mono (fun a z vs G1 H1 n1 rv => o n1.h rv ((f a).mono (fun _ z => z.to n1) (fun _ z => z.to n1) z)) (fun _ z => z) q)
theorem EJT.newD : EJT RX E Γ tDNewK (oDO T) (.ret []) := fun H0 G H σ Q s s0 e q p hp =>
  q (.ref p) [p] G _ ((Nx.refl s).more (same_new hp)) ⟨p, [], [], rfl, rfl, upd_same, Nat.zero_le _, rfl, .nil⟩ (by simp) fun a ha => by
    rw [List.mem_singleton.mp ha]
    exact ⟨s.free hp, hp, _, upd_same⟩
theorem Own.put_ok {W : Own} {H0 G H G' H' : Hp} {fp : List Addr} {p : Nat × Bool} {rt : Nat → V} (n : Nx G H G' H') (ok : OwnOk W H0 G H) (s0 : Same H0 H) (h : ∀ a ∈ fp, G' a = none ∧ H a = none ∧ ∃ c, H' a = some c) : OwnOk ⟨fun a => if a ∈ fp then some p else W.ow a, rt⟩ H0 G' H' := fun a q e => by
  dsimp only at e
  split at e
  · rename_i z
    obtain ⟨h1, h2, h3⟩ := h a z
    exact ⟨h1, s0.free h2, h3⟩
  · obtain ⟨g1, g2, c', g3⟩ := ok a q e
    exact ⟨n.hid g3 g1, g2, c', n.e _ _ g3⟩
/-- a new tree is stored -/
theorem Env.newT {H0 G H G' H' : Hp} {x : α} {v : V} {fp : List Addr} {σ : L2.St} (n : Nx G H G' H') (s0 : Same H0 H) (r : T.rep x v fp G' H') (nd : fp.Nodup) (h : ∀ a ∈ fp, G' a = none ∧ H a = none ∧ ∃ c, H' a = some c) (i : Nat) (na : noAl i Γ = true) (e : Env H0 G H Γ σ) :
    Env H0 G' H' (Γ.set i (.tr T x)) (σ.set i (some v)) := by
  obtain ⟨W, e⟩ := e
  refine ⟨⟨fun a => if a ∈ fp then some (i, true) else W.ow a, fun j => if j = i then v else W.rt j⟩, e.set i (Own.put_ok n e.ok s0 h) ⟨fp, by show some v = some (if i = i then v else _); rw [if_pos rfl], by show T.rep x (if i = i then v else _) fp G' H'; rw [if_pos rfl]; exact r, nd, fun a ha => if_pos ha⟩ fun j s' o' hj hs hk => ?_⟩
  have out : ∀ {a : Addr} {p : Nat × Bool}, W.ow a = some p → a ∉ fp := fun {a p} hp ha => by
    obtain ⟨_, _, c, hc⟩ := e.ok a p hp
    obtain ⟨_, h2, _⟩ := h a ha
    rw [hc] at h2; cases h2
  cases s' with
  | any => exact hk
  | bot => exact hk
  | fz t x => obtain ⟨v, e, h⟩ := hk; exact ⟨v, e, t.up n.g h⟩
  | bor t x => obtain ⟨l, vs, e, g1, g2, g3⟩ := hk; exact ⟨l, vs, e, g1, g2, g3.up n.g⟩
  | brw T x => obtain ⟨v, e, h⟩ := hk; exact ⟨v, e, T.up n.g (Same.refl _) h⟩
  | ow O x =>
    obtain ⟨l, c, e1, g1, g2, g3⟩ := hk
    exact ⟨l, c, e1, n.e _ _ g1, (if_neg (out g2)).trans g2, O.up n.g g3⟩
  | tr T2 x2 =>
    obtain ⟨f2, e1, g1, g2, g3⟩ := hk
    refine ⟨f2, ?_, ?_, g2, fun a ha => (if_neg (out (g3 a ha))).trans (g3 a ha)⟩
    · show o' = some (if j = i then v else W.rt j)
      rw [if_neg hj]; exact e1
    · show T2.rep x2 (if j = i then v else W.rt j) f2 G' H'
      rw [if_neg hj]; exact T2.up n.g (fun a _ c => n.e a c) g1
  | al k c =>
    obtain ⟨l, u, w, g1, g2, g3, g4, g5⟩ := hk
    have hk : k ≠ i := by
      have z := List.all_eq_true.mp na _ (List.mem_of_getElem? hs)
      simpa using z
    refine ⟨l, u, w, ?_, g2, n.e _ _ g3, (if_neg (out g4)).trans g4, g5⟩
    show (if k = i then v else W.rt k) = _
    rw [if_neg hk]; exact g1
theorem SJ.asgT {m : Mir α} {i : Nat} {f : α → Mir (Out β ρ)} (h : EJT RX E Γ te T m) (na : noAl i Γ = true) (k : ∀ x, SJ RX E (Γ.set i (.tr T x)) tu post rt (f x)) : SJ RX E Γ (tSeq (tAsg te (gName i)) tu) post rt (m.bind f) := fun H0 G0 G H σ D N e q =>
  h N.h N.e e (m.mono (fun a z v fp G1 H1 n r nd h1 => k a (N.trans n) (Env.newT n N.e r nd h1 i na e) ((f a).mono (fun _ z => z.to n.g) (fun _ z => z.to n.g) z)) (fun _ z => z.k N (Same.refl _)) q)
theorem Env.tr {H0 G H : Hp} {x : α} {σ : L2.St} {i : Nat} (e : Env H0 G H Γ σ) (h : Γ[i]? = some (.tr T x)) : ∃ v fp, σ[i]? = some (some v) ∧ T.rep x v fp G H ∧ fp.Nodup ∧ ∀ a ∈ fp, G a = none ∧ H0 a = none ∧ ∃ c, H a = some c := by
  obtain ⟨W, e⟩ := e
  obtain ⟨o, h1, fp, h2, h3, h4, h5⟩ := e.at_ i _ h
  exact ⟨W.rt i, fp, by rw [h1, h2], h3, h4, fun a ha => e.ok a _ (h5 a ha)⟩
theorem SJ.retT {i : Nat} {x : α} (h : Γ[i]? = some (.tr T x)) : SJ RX E Γ (tRet (tVar i)) post (rtT T) (.ret (.rt x)) := fun H0 G0 G H σ D N e q => by
  obtain ⟨v, fp, h1, h2, h3, h4⟩ := e.tr h
  exact ⟨v, h1, q v G H N (Same.refl _) ⟨fp, h2, h3, h4⟩⟩
/-- what a key's value is -/
def lookD (xs : List (Str × α)) (k : Str) : Option α := (xs.find? fun p => decide (p.1 = k)).map (·.2)
def mDix (xs : List (Str × α)) (k : Str) : Mir α := ⟨fun Q _ => ∃ x, lookD xs k = some x ∧ Q x, fun h _ ⟨x, e, q⟩ => ⟨x, e, h x q⟩⟩
theorem Kids.look {G H : Hp} {k : Str} {x : α} : ∀ {xs : List (Str × α)} {es : List (Key × V)} {fs : List Addr}, es.map (·.1) = xs.map (fun p => Sum.inr p.1) → Kids T G H (xs.map (·.2)) (es.map (·.2)) fs → lookD xs k = some x →
    ∃ v f, valV es (Sum.inr k) = some v ∧ T.rep x v f G H ∧ f.Sublist fs
  | [], _, _, _, _, h => by cases h
  | p :: xs, [], _, e, _, _ => by cases e
  | p :: xs, q :: es, fs, e, r, h => by
    rw [List.map_cons, List.map_cons] at e
    injection e with e1 e2
    generalize hy : (p :: xs).map (·.2) = ys at r
    generalize hw : (q :: es).map (·.2) = ws at r
    cases r with
    | nil => cases hy
    | @cons y w f ys ws fs hr rs =>
      rw [List.map_cons] at hy hw
      injection hy with y1 y2
      injection hw with w1 w2
      subst y1; subst w1; subst y2; subst w2
      by_cases hk : p.1 = k
      · have : lookD (p :: xs) k = some p.2 := by unfold lookD; rw [List.find?_cons, decide_eq_true hk]; rfl
        rw [this] at h
        cases h
        exact ⟨q.2, f, valV_pos (by rw [e1, hk]), hr, List.sublist_append_left _ _⟩
      · have : lookD (p :: xs) k = lookD xs k := by unfold lookD; rw [List.find?_cons, decide_eq_false hk]
        rw [this] at h
        obtain ⟨v, f2, h1, h2, h3⟩ := Kids.look e2 rs h
        exact ⟨v, f2, (valV_neg (by rw [e1]; intro z; injection z with z; exact hk z)).trans h1, h2, h3.trans (List.sublist_append_right _ _)⟩
/-- d[k] of a new dict: the list that stands there -/
theorem LJ.dix {m : Mir (List (Str × List α))} {b : Mir Str} (h : EJT RX E Γ te (oDO (oL t)) m) (h2 : EJ RX E Γ ti tStr.h b) : LJ RX E Γ (tDGet te ti) t (m.bind fun d => b.bind fun k => mDix d k) := fun H0 G H σ Q s s0 e q =>
  h s s0 e (m.mono (fun d z v fp G1 H1 n1 r nd hf => h2 n1.h (s0.trans n1.e) (e.up n1) (b.mono (fun k z w G2 H2 n2 ⟨ew, _⟩ => by
    obtain ⟨l, es, fs, ev, ef, g1, g2, g3, g4⟩ := r
    subst ev; subst ew; subst ef
    obtain ⟨x, hx, z⟩ := z
    obtain ⟨w, f, k1, ⟨l2, vs, k2, k3, k4, k5, k6⟩, k7⟩ := Kids.look g3 g4 hx
    subst k2; subst k3
    have hm : l2 ∈ l :: fs := List.mem_cons_of_mem _ (k7.subset (List.mem_singleton.mpr rfl))
    obtain ⟨c1, c2, _⟩ := hf l2 hm
    refine ⟨l, .ref l2, rfl, ?_, z l2 vs G2 H2 (n1.trans n2) (n2.e _ _ k4) (n2.hid k4 c1) c2 k5 (k6.up n2.g)⟩
    rw [← k1]
    exact DGet.k (k := Sum.inr k) (n2.e _ _ g1)) (fun _ z => z.to n1) z)) (fun _ z => z) q)
/-- d[k] = xs, an own list, k not yet in d: the list is d's then -/
theorem SJ.putD {i j : Nat} {d : List (Str × List α)} {xs : List α} {b : Mir Str} {f : List (Str × List α) → Mir (Out β ρ)} (hi : Γ[i]? = some (.tr (oDO (oL t)) d)) (hj : Γ[j]? = some (.own t xs)) (na : noAl i Γ = true) (hk : EJ RX E Γ ti tStr.h b)
    (k : ∀ d', SJ RX E ((Γ.set j .any).set i (.tr (oDO (oL t)) d')) tu post rt (f d')) :
    SJ RX E Γ (tSeq (sDPut (tVar i) ti (tVar j)) tu) post rt (b.bind fun y => .chk (lookD d y = none ∧ d.length < mxL) (f (d ++ [(y, xs)]))) := fun H0 G0 G H σ D N e q => by
  obtain ⟨lj, c2, ej, _⟩ := e.ow hj
  obtain ⟨v1, fp1, ei, _⟩ := e.tr hi
  refine ⟨.ref lj, ej, v1, ei, hk N.h N.e e (b.mono (fun y z w G1 H1 n1 ⟨ew, _⟩ => ?_) (fun _ z => z.k N (Same.refl _)) q)⟩
  subst ew
  have N1 := N.trans n1
  obtain ⟨W, e1⟩ := e.up n1
  have hij : i ≠ j := fun z => by rw [z, hj] at hi; cases hi
  obtain ⟨oi, gi, fp, a1, a2, a3, a4⟩ := e1.at_ i _ hi
  obtain ⟨oj, gj, lj2, cj, b1, b2, b3, vs, b4, b5, b6⟩ := e1.at_ j _ hj
  subst b4
  rw [ei] at gi; cases gi
  rw [ej] at gj; cases gj
  cases b1
  obtain ⟨l, es, fs, c1, c2, c3, c4, c5, c6⟩ := a2
  cases a1
  have hl : W.ow l = some (i, true) := a4 l (by rw [c2]; exact List.mem_cons_self)
  have hlj : l ≠ lj := fun z => by rw [z, b3] at hl; cases hl
  have hnf : lj ∉ fp := fun z => absurd (a4 lj z) (by rw [b3]; intro q; cases q)
  have hv : valV es (Sum.inr y) = none := by
    have key : ∀ {es : List (Key × V)} {d : List (Str × List α)}, es.map (fun e => e.1) = d.map (fun p => Sum.inr p.1) → lookD d y = none → valV es (Sum.inr y) = none := by
      intro es
      induction es with
      | nil => intro _ _ _; rfl
      | cons q es ih =>
        intro d hd hn
        cases d with
        | nil => cases hd
        | cons p d =>
          rw [List.map_cons, List.map_cons] at hd
          injection hd with h1 h2
          have hp : p.1 ≠ y := fun z => by
            unfold lookD at hn
            rw [List.find?_cons, decide_eq_true z] at hn
            cases hn
          have hn2 : lookD d y = none := by
            unfold lookD at hn ⊢
            rw [List.find?_cons, decide_eq_false hp] at hn
            exact hn
          exact (valV_neg (by rw [h1]; intro z; injection z with z; exact hp z)).trans (ih h2 hn2)
    exact key c5 z.1.1
  have hput : putK es (Sum.inr y) (.ref lj) = es ++ [(Sum.inr y, .ref lj)] := by
    unfold putK
    rw [valV_any, hv]
    rfl
  have hlen : es.length = d.length := by
    have := congrArg List.length c5
    rw [List.length_map, List.length_map] at this
    exact this
  obtain ⟨g1, g2, _⟩ := e1.ok l _ hl
  obtain ⟨k1, k2, _⟩ := e1.ok lj _ b3
  refine ⟨l, _, c1, DPut.k (k := Sum.inr y) c3 (by rw [hlen]; exact Nat.lt_of_lt_of_le z.1.2 (by decide)), ?_⟩
  rw [hput]
  have ea := e1.set (W' := W) (s := .any) (o := some (.ref lj)) j e1.ok True.intro fun _ _ _ _ _ h => h
  rw [set_self ej] at ea
  have hgi : (Γ.set j .any)[i]? = some (.tr (oDO (oL t)) d) := by rw [List.getElem?_set_ne (Ne.symm hij)]; exact hi
  have eb := ea.set (W' := ⟨fun a => if a = lj then some (i, true) else W.ow a, W.rt⟩) (s := .tr (oDO (oL t)) (d ++ [(y, xs)])) (o := some (W.rt i)) (G' := G1) (H' := upd H1 l (.dK (es ++ [(Sum.inr y, .ref lj)]))) i (fun a p q => by
      dsimp only at q
      split at q
      · rename_i z; subst z; exact ⟨k1, k2, _, (upd_ne (Ne.symm hlj)).trans b2⟩
      · obtain ⟨h1, h2, c, h3⟩ := e1.ok a p q
        refine ⟨h1, h2, ?_⟩
        by_cases h : a = l
        · subst h; exact ⟨_, upd_same⟩
        · exact ⟨c, (upd_ne h).trans h3⟩)
    ⟨fp ++ [lj], rfl, ⟨l, es ++ [(Sum.inr y, .ref lj)], fs ++ [lj], c1, by rw [c2]; rfl, upd_same, by rw [List.length_append]; exact z.1.2, by rw [List.map_append, List.map_append, c5]; rfl, by
        rw [List.map_append, List.map_append]
        have up : ∀ a ∈ fs, ∀ c, H1 a = some c → upd H1 l (.dK (es ++ [(Sum.inr y, .ref lj)])) a = some c := fun a ha c hc => by
          have : a ≠ l := fun z => by rw [c2] at a3; exact (List.nodup_cons.mp a3).1 (z ▸ ha)
          exact (upd_ne this).trans hc
        exact Kids.app (Kids.cons (T := oL t) (x := xs) (v := .ref lj) (f := [lj]) (fs := []) (show (oL t).rep xs (.ref lj) [lj] G1 _ from ⟨lj, vs, rfl, rfl, (upd_ne (Ne.symm hlj)).trans b2, b5, b6⟩) .nil) (Kids.up (Same.refl _) up c6)⟩,
      List.nodup_append.mpr ⟨a3, by simp, fun a ha b hb => by rw [List.mem_singleton.mp hb]; intro z; exact hnf (z ▸ ha)⟩, fun a ha => by
        rcases List.mem_append.mp ha with h | h
        · have : a ≠ lj := fun z => hnf (z ▸ h)
          exact (if_neg this).trans (a4 a h)
        · exact if_pos (List.mem_singleton.mp h)⟩
    fun j' s' o' hne hs hk => ?_
  · rw [set_self ei] at eb
    have hh : Nx G0 H0 G1 (upd H1 l (.dK (es ++ [(Sum.inr y, .ref lj)]))) := N1.mut g2 g1
    exact k _ hh ⟨_, eb⟩ ((f _).mono (fun _ z => z.to n1.g) (fun _ z => z.to n1.g) z.2)
  · cases s' with
    | any => exact hk
    | bot => exact hk
    | fz t x => exact hk
    | bor t x => exact hk
    | brw T x => exact hk
    | ow O x =>
      obtain ⟨l2, c, e2, h1, h2, h3⟩ := hk
      have n1 : l2 ≠ l := fun z => by rw [z, hl] at h2; cases h2
      have n2 : l2 ≠ lj := fun z => by
        rw [z, b3] at h2
        cases h2
        rw [List.getElem?_set_self (List.getElem?_eq_some_iff.mp hj).1] at hs
        cases hs
      exact ⟨l2, c, e2, (upd_ne n1).trans h1, (if_neg n2).trans h2, h3⟩
    | tr T2 x2 =>
      obtain ⟨f2, e2, h1, h2, h3⟩ := hk
      refine ⟨f2, e2, T2.up (Same.refl _) (fun a ha c hc => (upd_ne (fun z => by have := h3 a ha; rw [z, hl] at this; cases this; exact hne rfl)).trans hc) h1, h2, fun a ha => (if_neg (fun z => by have := h3 a ha; rw [z, b3] at this; cases this)).trans (h3 a ha)⟩
    | al m c =>
      obtain ⟨l2, u, w, h1, h2, h3, h4, h5⟩ := hk
      have hm : m ≠ i := by
        by_cases hjj : j' = j
        · subst hjj
          rw [List.getElem?_set_self (List.getElem?_eq_some_iff.mp hj).1] at hs
          cases hs
        · rw [List.getElem?_set_ne (Ne.symm hjj)] at hs
          have z := List.all_eq_true.mp na _ (List.mem_of_getElem? hs)
          simpa using z
      exact ⟨l2, u, w, h1, h2, (upd_ne (fun z => by rw [z, hl] at h4; cases h4; exact hm rfl)).trans h3, (if_neg (fun z => by rw [z, b3] at h4; cases h4)).trans h4, h5⟩
end
/-! ### xs[i] += e -/
def rGetL (K : PySem.W.Frag) : R2 := fun x y H Q => ∃ p xs i v, x = .ref p ∧ y = .int i ∧ 0 ≤ i ∧ SqL K H p xs ∧ atI xs i = some v ∧ Q v H
theorem pget_list {X : Cx} {K : PySem.W.Frag} (hK : X.K = K) : PGet X (rGetL K) := by
  subst hK
  intro pins s σ H x y v u Q I rx ry h
  obtain ⟨p, xs, i, z, rfl, rfl, h0, hq, he, q⟩ := h
  cases rx
  obtain ⟨t, rfl⟩ := ry
  obtain ⟨its, r, pl, hz⟩ := I.list hq
  obtain ⟨j, h1, h2, h3, h4, h5⟩ := atI_get he
  obtain ⟨w, ew, rw'⟩ := r.get h2
  have hl := r.length
  have hn := line63
  have hj : i.toNat = j := by
    rw [seqIndex_of h0 h5] at h1
    exact Option.some.inj h1
  exact wpAny_getItem_list pl.isList h0 (by omega) (by rw [hj]; simpa using ew) ⟨z, H, I, rw', q⟩
section
variable {RX : RXT} {E : XK} {Γ : List Sl} {β ρ : Type} {K : PySem.W.Frag} {te ti : TE} {tu : TS} {post : β → List Sl} {rt : Rt ρ}
theorem SJ.augAt {i : Nat} {xs : List Int} {a b : Mir Int} {f : List Int → Mir (Out β ρ)} (h : Γ[i]? = some (.own tInt xs)) (hb : EJ RX E Γ ti tInt.h b) (ha : EJ RX E Γ te tInt.h a) (k : ∀ x, SJ RX E (Γ.set i (.own tInt x)) tu post rt (f x)) :
    SJ RX E Γ (tSeq (tAugS (tVar i) ti te (rGetL K) (ipI fun i j => i + j) rSetL) tu) post rt (b.bind fun y => .chk (0 ≤ y) ((Mir.get xs y).bind fun c => a.bind fun x => .chk ((ixN xs.length y).isSome) (f (xs.set ((ixN xs.length y).getD 0) (c + x))))) := fun H0 G0 G H σ D N e q => by
  obtain ⟨l, vs, ev, h1, h2, h3, h4, h5⟩ := e.own h
  refine ⟨.ref l, ev, hb N.h N.e e (b.mono (fun y z w G1 H1 n1 rw' => ?_) (fun _ z => z.k N (Same.refl _)) q)⟩
  cases (show w = V.int y from rw')
  have N1 := N.trans n1
  obtain ⟨z0, c, hc, z⟩ := z
  obtain ⟨cv, hcv, rc⟩ := ixR h5 hc
  cases (show cv = V.int c from rc)
  refine ⟨l, vs, y, .int c, rfl, rfl, z0, sqL (n1.e _ _ h1), hcv, ha N1.h N1.e (e.up n1) (a.mono (fun x z w G2 H2 n2 rx => ?_) (fun _ z => z.k N1 n1.g) z)⟩
  cases (show w = V.int x from rx)
  have N2 := N1.trans n2
  obtain ⟨j, hj⟩ := Option.isSome_iff_exists.mp z.1
  refine ⟨c, x, rfl, rfl, l, vs, y, j, rfl, rfl, n2.e _ _ (n1.e _ _ h1), by rw [← h5.len]; exact hj, ?_⟩
  have q2 := z.2
  rw [hj] at q2
  exact k _ (N2.mut h3 (n2.hid (n1.e _ _ h1) (n1.hid h1 h2))) (Env.mut h3 (by rw [List.length_set]; exact h4) ((h5.up (n1.g.trans n2.g)).set (show tInt.rep (c + x) (.int (c + x)) G2 from rfl) j) ((e.up n1).up n2) h ev) ((f _).mono (fun _ z => z.to (n1.g.trans n2.g)) (fun _ z => z.to (n1.g.trans n2.g)) q2)
variable {α : Type} {t : Ty α}
/-- [*xs, y] -/
theorem AP.lstarB1 {b : List α} {y : α} (h : PJ Γ te (tBo t) b) (h2 : PJ Γ ti t.h y) : AP Γ (tStar K te (tCons ti tNil)) (TyA.lst t) (b ++ [y]) := fun H0 G H σ Q s1 s0 e q => h s1 s0 e fun v G1 H1 n ⟨l, vs, ev, h1, _, h3⟩ =>
  ⟨l, vs, ev, .inr (sqL h1), h2 n.h (s0.trans n.e) (e.up n) fun w G2 H2 n2 r => q (vs ++ [w]) G2 H2 (n.trans n2) (Reps.app (h3.up n2.g) (.cons r .nil))⟩
def pIn {γ : Type} [DecidableEq γ] (x : γ) (xs : List γ) : Bool := decide (x ∈ xs)
def pNi {γ : Type} [DecidableEq γ] (x : γ) (xs : List γ) : Bool := decide (x ∉ xs)
def mPutD (d : List (Str × List α)) (y : Str) (xs : List α) (f : List (Str × List α) → Mir β) : Mir β := .chk (lookD d y = none ∧ d.length < mxL) (f (d ++ [(y, xs)]))
end
/-! ### defs that hand back nothing -/
section
variable {α : Type} {RX : RXT} {A : TyA α} {m : α → Mir Unit} {P : Program} {w : World} {K : PySem.W.Frag} {mg : Str → Option Value} {base : Heap} {d : DfX} {f : Addr} {N ps : List Str} {k : Nat}
theorem fnMN {Γ0 : α → List Sl} {post : List Sl} (F : FunX K d f) (S : FnScope N ps d.scope)
    (hb : ∀ (kV doc pm : Value) (an : Option Addr) (cdv ct : Value) (us : List Value), us.length = ps.length → bindArgs (PySem.W.fnOf d.name d.qual d.params d.body d.scope .none kV doc pm an cdv ct) ⟨us, []⟩ = pure (ps.zip us))
    (len : ∀ {a vs G H}, A.rep a vs G H → vs.length = ps.length) (henv : ∀ {a vs G H}, A.rep a vs G H → Env H G H (Γ0 a) (start N vs))
    (hbody : ∀ (cdv : Value) (Ar : Around) (outer : List PySem.Env) (s : Shared) (H : Hp) (E : XK), Room k (Ar.deeper (envOfC d.qual d.scope s.heap.objs.size f cdv)) →
      ∃ t, PSs (cxOf (L2.CX P w) P w K mg base N d.qual d.scope f cdv Ar outer s H E) d.body t ∧ ∀ a, ∃ M : Mir (Out Unit Unit), SJ RX E0 (Γ0 a) t (fun _ => post) (rtF tUnit) M ∧ m a = M.exitN.nox) : FnR P w K mg base (L2.CX P w) (k + 1) f (spM RX A (rtF tUnit) m) :=
  fnR_of F S hb (fun vs H Q E ⟨a, G, s, r, q⟩ => len r) fun cdv Ar outer s H vs Q E hr ⟨a, G, hG, r, q⟩ => by
    obtain ⟨t, h1, h2⟩ := hbody cdv Ar outer s H E hr
    obtain ⟨M, h2, hm⟩ := h2 a
    rw [hm] at q
    refine ⟨t, h1, h2 (Nx.refl hG) (henv r) (M.mono (fun o z => ?_) (fun _ z => z.elim) q)⟩
    cases o with
    | nx b => exact fun σ' G' H' n _ _ => z .non G' H' n rfl
    | rt r => exact fun v G' H' n _ r => z v G' H' n r
theorem fnMXN {Γ0 : α → List Sl} {post : List Sl} (F : FunX K d f) (S : FnScope N ps d.scope)
    (hb : ∀ (kV doc pm : Value) (an : Option Addr) (cdv ct : Value) (us : List Value), us.length = ps.length → bindArgs (PySem.W.fnOf d.name d.qual d.params d.body d.scope .none kV doc pm an cdv ct) ⟨us, []⟩ = pure (ps.zip us))
    (len : ∀ {a vs G H}, A.rep a vs G H → vs.length = ps.length) (henv : ∀ {a vs G H}, A.rep a vs G H → Env H G H (Γ0 a) (start N vs))
    (hbody : ∀ (cdv : Value) (Ar : Around) (outer : List PySem.Env) (s : Shared) (H : Hp) (E : XK), Room k (Ar.deeper (envOfC d.qual d.scope s.heap.objs.size f cdv)) →
      ∃ t, PSs (cxOf (L2.CX P w) P w K mg base N d.qual d.scope f cdv Ar outer s H E) d.body t ∧ ∀ a, ∃ M : Mir (Out Unit Unit), SJ RX E (Γ0 a) t (fun _ => post) (rtF tUnit) M ∧ m a = M.exitN) : FnR P w K mg base (L2.CX P w) (k + 1) f (spM RX A (rtF tUnit) m) :=
  fnR_of F S hb (fun vs H Q E ⟨a, G, s, r, q⟩ => len r) fun cdv Ar outer s H vs Q E hr ⟨a, G, hG, r, q⟩ => by
    obtain ⟨t, h1, h2⟩ := hbody cdv Ar outer s H E hr
    obtain ⟨M, h2, hm⟩ := h2 a
    rw [hm] at q
    refine ⟨t, h1, h2 (Nx.refl hG) (henv r) (M.mono (fun o z => ?_) (fun e z c d G' H' n _ r => z c d G' H' n r) q)⟩
    cases o with
    | nx b => exact fun σ' G' H' n _ _ => z .non G' H' n rfl
    | rt r => exact fun v G' H' n _ r => z v G' H' n r
end
end Ax

/-! Plain rules over mirrors. -/
namespace Ax
open PySem PySem.Spec PyProof.Rows L2
namespace Mir
variable {α β γ ρ : Type}
theorem ifB_false (m n : Mir α) {b : Bool} (h : b = false) : ifB b m n = n := by rw [h]; rfl
theorem ifB_true (m n : Mir α) {b : Bool} (h : b = true) : ifB b m n = m := by rw [h]; rfl
@[simp] theorem run_ifB (b : Bool) (m n : Mir α) (Q : α → Prop) (E : Err → Prop) : (ifB b m n).run Q E = (if b = true then m.run Q E else n.run Q E) := by cases b <;> rfl
theorem run_if {b : Bool} {m n : Mir α} {Q : α → Prop} {E : Err → Prop} (h1 : b = true → m.run Q E) (h2 : b = false → n.run Q E) : (ifB b m n).run Q E := by
  cases b
  · exact h2 rfl
  · exact h1 rfl
theorem bind_of {m : Mir α} {Q : α → Prop} {f : α → Mir β} {R : β → Prop} {E : Err → Prop} (h : m.run Q E) (k : ∀ a, Q a → (f a).run R E) : (m.bind f).run R E := m.mono k (fun _ z => z) h
theorem ret_of {m : Mir α} {Q R : α → Prop} {E : Err → Prop} (h : m.run Q E) (k : ∀ a, Q a → R a) : m.run R E := m.mono k (fun _ z => z) h
theorem nox_of {m : Mir α} {Q : α → Prop} {E : Err → Prop} (h : m.run Q fun _ => False) : m.nox.run Q E := h
/-- what an error may be asked, where there is none -/
theorem noE {m : Mir α} {Q : α → Prop} {E : Err → Prop} (h : m.run Q fun _ => False) : m.run Q E := m.mono (fun _ z => z) (fun _ z => z.elim) h
theorem bindO_ret_nx (b : β) (f : β → Mir (Out γ ρ)) : (ret (.nx b)).bindO f = f b := rfl
theorem bindO_of {m : Mir (Out β ρ)} {I : β → Prop} {R : ρ → Prop} {f : β → Mir (Out γ ρ)} {Q : Out γ ρ → Prop} {E : Err → Prop} (h : m.run (fun o => match o with | .nx b => I b | .rt r => R r) E) (k : ∀ b, I b → (f b).run Q E) (kr : ∀ r, R r → Q (.rt r)) : (m.bindO f).run Q E :=
  m.mono (fun o z => match o, z with | .nx b, z => k b z | .rt r, z => kr r z) (fun _ z => z) h
/-- a loop, its invariant told by what is behind it -/
theorem forL_of {I : List α → β → Prop} {R : ρ → Prop} {f : β → α → Mir (Out β ρ)} {Q : Out β ρ → Prop} {E : Err → Prop} {xs : List α} {s : β} (h0 : I [] s)
    (h : ∀ pre x suf s, xs = pre ++ x :: suf → I pre s → (f s x).run (fun o => match o with | .nx s' => I (pre ++ [x]) s' | .rt r => R r) E) (k : ∀ s, I xs s → Q (.nx s)) (kr : ∀ r, R r → Q (.rt r)) : (forL xs s f).run Q E := by
  have key : ∀ (suf pre : List α) (s : β), xs = pre ++ suf → I pre s → (forL suf s f).run Q E := by
    intro suf
    induction suf with
    | nil => intro pre s e i; rw [List.append_nil] at e; subst e; exact k s i
    | cons x suf ih =>
      intro pre s e i
      rw [forL_cons]
      refine bindO_of (I := fun s' => I (pre ++ [x]) s') (R := R) (h pre x suf s e i) (fun s' i' => ih (pre ++ [x]) s' (by rw [e]; simp) i') kr
  exact key xs [] s rfl h0
/-- a loop that goes on every time, with a fold -/
theorem forL_fold {f : β → α → Mir (Out β ρ)} {g : β → α → β} {I : List α → β → Prop} {xs : List α} {s : β} (h0 : I [] s) (h : ∀ pre x suf s, xs = pre ++ x :: suf → I pre s → f s x = ret (.nx (g s x)) ∧ I (pre ++ [x]) (g s x)) :
    forL xs s f = ret (.nx (xs.foldl g s)) ∧ I xs (xs.foldl g s) := by
  have key : ∀ (suf pre : List α) (s : β), xs = pre ++ suf → I pre s → forL suf s f = ret (.nx (suf.foldl g s)) ∧ I xs (suf.foldl g s) := by
    intro suf
    induction suf with
    | nil => intro pre s e i; rw [List.append_nil] at e; subst e; exact ⟨rfl, i⟩
    | cons x suf ih =>
      intro pre s e i
      obtain ⟨h1, h2⟩ := h pre x suf s e i
      have z := ih (pre ++ [x]) (g s x) (by rw [e]; simp) h2
      rw [forL_cons, h1]
      exact z
  exact key xs [] s rfl h0
theorem forL_foldS {f : β → α → Mir (Out β ρ)} {g : β → α → β} {xs : List α} {s : β} (h : ∀ s x, x ∈ xs → f s x = ret (.nx (g s x))) : forL xs s f = ret (.nx (xs.foldl g s)) :=
  (forL_fold (I := fun _ _ => True) True.intro fun pre x suf s e _ => ⟨h s x (by rw [e]; simp), True.intro⟩).1
/-- a search: the first that says so ends the def -/
theorem forL_find {f : Unit → α → Mir (Out Unit ρ)} {p : α → Bool} {r : ρ} {xs : List α} (h : ∀ s x, x ∈ xs → f s x = if p x = true then ret (.rt r) else ret (.nx ())) : forL xs () f = if xs.any p = true then ret (.rt r) else ret (.nx ()) := by
  induction xs with
  | nil => rfl
  | cons x xs ih =>
    rw [forL_cons, h () x List.mem_cons_self, List.any_cons]
    cases q : p x with
    | true => rfl
    | false =>
      simp only [Bool.false_eq_true, if_false, Bool.false_or]
      exact ih fun s y hy => h s y (List.mem_cons_of_mem _ hy)
theorem comp_ret {xs : List α} {t : α → Mir Bool} {e : α → Mir β} {p : α → Bool} {g : α → β} (ht : ∀ x ∈ xs, t x = ret (p x)) (he : ∀ x ∈ xs, p x = true → e x = ret (g x)) : comp xs t e = ret ((xs.filter p).map g) := by
  induction xs with
  | nil => rfl
  | cons x xs ih =>
    have z := ih (fun y hy => ht y (List.mem_cons_of_mem _ hy)) (fun y hy => he y (List.mem_cons_of_mem _ hy))
    show (t x).bind _ = _
    rw [ht x List.mem_cons_self, ret_bind, z, List.filter_cons]
    cases q : p x with
    | true => rw [he x List.mem_cons_self q]; rfl
    | false => rfl
/-- a drawn choice of some -/
theorem comp_sub {xs : List α} {t : α → Mir Bool} {Q : List α → Prop} {E : Err → Prop} (ht : ∀ x ∈ xs, (t x).run (fun _ => True) E) (k : ∀ ys, ys.Sublist xs → Q ys) : (comp xs t fun x => ret x).run Q E := by
  induction xs generalizing Q with
  | nil => exact k [] (List.Sublist.refl _)
  | cons x xs ih =>
    show ((t x).bind _).run Q E
    refine bind_of (ht x List.mem_cons_self) fun b _ => ?_
    cases b with
    | true => exact ih (Q := fun ys => Q (x :: ys)) (fun y hy => ht y (List.mem_cons_of_mem _ hy)) fun ys hy => k _ (hy.cons₂ x)
    | false => exact ih (fun y hy => ht y (List.mem_cons_of_mem _ hy)) fun ys hy => k _ (hy.cons x)
theorem run_bindO (m : Mir (Out β ρ)) (f : β → Mir (Out γ ρ)) (Q : Out γ ρ → Prop) (E : Err → Prop) : (m.bindO f).run Q E = m.run (fun o => match o with | .nx b => (f b).run Q E | .rt r => Q (.rt r)) E := by
  show m.run _ E = _
  congr 1
  funext o
  cases o <;> rfl
/-- a loop by an invariant; a value handed back is what the def hands back -/
theorem forQ (I : List α → β → Prop) {f : β → α → Mir (Out β ρ)} {Q : Out β ρ → Prop} {E : Err → Prop} {xs : List α} {s : β} (h0 : I [] s)
    (h : ∀ pre x suf s, xs = pre ++ x :: suf → I pre s → (f s x).run (fun o => match o with | .nx s' => I (pre ++ [x]) s' | .rt r => Q (.rt r)) E) (k : ∀ s, I xs s → Q (.nx s)) : (forL xs s f).run Q E :=
  forL_of (I := I) (R := fun r => Q (.rt r)) h0 h k fun _ z => z
theorem forO (I : List α → β → Prop) {f : β → α → Mir (Out β ρ)} {g : β → Mir (Out γ ρ)} {Q : Out γ ρ → Prop} {E : Err → Prop} {xs : List α} {s : β} (h0 : I [] s)
    (h : ∀ pre x suf s, xs = pre ++ x :: suf → I pre s → (f s x).run (fun o => match o with | .nx s' => I (pre ++ [x]) s' | .rt r => Q (.rt r)) E) (k : ∀ s, I xs s → (g s).run Q E) : ((forL xs s f).bindO g).run Q E := by
  rw [run_bindO]
  exact forQ I h0 h k
theorem run_get_of {xs : List α} {i : Int} {Q : α → Prop} {E : Err → Prop} (h0 : 0 ≤ i) (h1 : i < (xs.length : Int)) (k : ∀ x, xs[i.toNat]? = some x → x ∈ xs → Q x) : (get xs i).run Q E := by
  have hl : i.toNat < xs.length := by omega
  obtain ⟨j, rfl⟩ := Int.eq_ofNat_of_zero_le h0
  exact ⟨_, atI_nat (List.getElem?_eq_getElem hl), k _ (List.getElem?_eq_getElem hl) (List.getElem_mem hl)⟩
/-- a while loop by a measure -/
theorem while_of {c : β → Mir Bool} {f : β → Mir (Out β ρ)} {I : β → Prop} {μ : β → Nat} {R : ρ → Prop} {Q : Out β ρ → Prop} {E : Err → Prop} {s : β} (h0 : I s)
    (h : ∀ s, I s → (c s).run (fun b => if b = true then (f s).run (fun o => match o with | .nx s' => I s' ∧ μ s' < μ s | .rt r => R r) E else Q (.nx s)) E) (kr : ∀ r, R r → Q (.rt r)) : (whileM c f s).run Q E := by
  have key : ∀ n s, I s → μ s < n → (whileF c f n s).run Q E := by
    intro n
    induction n with
    | zero => intro s _ z; omega
    | succ n ih =>
      intro s i z
      show ((c s).bind _).run Q E
      refine bind_of (h s i) fun b q => ?_
      cases b with
      | true => exact bindO_of (I := fun s' => I s' ∧ μ s' < μ s) (R := R) q (fun s' z' => ih s' z'.1 (by omega)) kr
      | false => exact q
  exact ⟨μ s + 1, key _ s h0 (by omega)⟩
end Mir
-- takes the plain steps of a run
end Ax

/-! Tables and schemas as plain data: their texts, their reading. -/
namespace Ax
open PySem PySem.Spec PyProof.Rows
/-- a law's own table: label, columns, keys -/
abbrev LT := Str × List Str × List (List Str)
theorem empty_app (x : Str) : Str.empty ++ x = x := str_eq ((TL.tl_append _ _).trans rfl)
theorem jnOk_of {a : Str} {ys : List Str} {m k : Nat} (h : ∀ x ∈ ys, x.length ≤ m) (hk : ys.length ≤ k) (hb : k * (m + a.length) ≤ 90000) : jnOk a ys := by
  have h0 : k * m + k * a.length ≤ 90000 := by rw [← Nat.mul_add]; exact hb
  refine ⟨join_fit h hk (Nat.le_trans h0 (by decide)), ?_⟩
  exact Nat.le_trans (join_len h) (Nat.le_trans (Nat.mul_le_mul_right _ hk) hb)
theorem joinL_mem {S : List Nat} {c : Nat} : ∀ {ps : List (List Nat)}, c ∈ TL.joinL S ps → c ∈ S ∨ ∃ p ∈ ps, c ∈ p
  | [], h => by simp [TL.joinL] at h
  | [p], h => .inr ⟨p, List.mem_singleton.mpr rfl, h⟩
  | p :: q :: r, h => by
    rcases List.mem_append.mp (show c ∈ p ++ (S ++ TL.joinL S (q :: r)) from h) with h | h
    · exact .inr ⟨p, List.mem_cons_self, h⟩
    · rcases List.mem_append.mp h with h | h
      · exact .inl h
      · rcases joinL_mem h with h | ⟨z, hz, h⟩
        · exact .inl h
        · exact .inr ⟨z, List.mem_cons_of_mem _ hz, h⟩
theorem join_free {y : Str} {ns : List Str} {c : Nat} (h1 : c ∉ y.cps.toList) (h2 : ∀ x ∈ ns, c ∉ x.cps.toList) : c ∉ (Txt.join y ns).cps.toList := fun h => by
  rw [join_tl] at h
  rcases joinL_mem h with h | ⟨p, hp, h⟩
  · exact h1 h
  · obtain ⟨x, hx, e⟩ := List.mem_map.mp hp
    subst e; exact h2 x hx h
theorem app_free {x y : Str} {c : Nat} (h1 : c ∉ x.cps.toList) (h2 : c ∉ y.cps.toList) : c ∉ (x ++ y).cps.toList := fun h => by
  rw [show (x ++ y).cps.toList = x.cps.toList ++ y.cps.toList from TL.tl_append x y] at h
  exact (List.mem_append.mp h).elim h1 h2
theorem app_len (x y : Str) : (x ++ y).length = x.length + y.length := by
  rw [TL.len_tl, TL.tl_append, List.length_append, ← TL.len_tl, ← TL.len_tl]
/-- the separator's second sign is in no part -/
theorem free2 {s c : Nat} {S p q : List Nat} (h : c ∉ p) (hq : q.head? ≠ some c) : ∀ i, i < p.length → TL.pre (s :: c :: S) ((p ++ q).drop i) = false := fun i hi => by
  apply Bool.eq_false_iff.mpr
  intro z
  have z : ((p ++ q).drop i).take (s :: c :: S).length = s :: c :: S := beq_iff_eq.mp z
  have e : ((p ++ q).drop i)[1]? = some c := by
    have e1 : (((p ++ q).drop i).take (s :: c :: S).length)[1]? = some c := by rw [z]; rfl
    rw [List.getElem?_take] at e1
    split at e1
    · exact e1
    · cases e1
  rw [List.getElem?_drop] at e
  by_cases hl : i + 1 < p.length
  · rw [List.getElem?_append_left hl] at e
    exact h (List.mem_of_getElem? e)
  · have : i + 1 = p.length := by omega
    rw [List.getElem?_append_right (by omega), this, Nat.sub_self] at e
    rw [← List.head?_eq_getElem?] at e
    exact hq e
theorem spl_join2 {s c : Nat} {S : List Nat} (hcs : s ≠ c) : ∀ {parts : List (List Nat)}, parts ≠ [] → (∀ p ∈ parts, c ∉ p) → TL.spl (s :: c :: S) 0 [] (TL.joinL (s :: c :: S) parts) = parts
  | [], h, _ => absurd rfl h
  | [p], _, hp => by
    show TL.spl (s :: c :: S) 0 [] p = [p]
    have z := TL.spl_last (S := s :: c :: S) (acc := []) (p := p) fun i hi => by
      have z := free2 (S := S) (s := s) (q := []) (hp p (List.mem_singleton.mpr rfl)) (by simp) i hi
      rw [List.append_nil] at z
      exact z
    rw [z, List.nil_append]
  | p :: q :: r, _, hp => by
    show TL.spl (s :: c :: S) 0 [] (p ++ (s :: c :: S ++ TL.joinL (s :: c :: S) (q :: r))) = p :: q :: r
    rw [TL.spl_part (by simp) (free2 (hp p List.mem_cons_self) (by simp [hcs])), List.nil_append, spl_join2 hcs (by simp) fun z hz => hp z (List.mem_cons_of_mem _ hz)]
theorem split_join2 {y : Str} {s c : Nat} {S : List Nat} (ey : TL.tl y = s :: c :: S) (hcs : s ≠ c) (hk : y.cps.all (· < 256) = true) {parts : List Str} (hne : parts ≠ []) (hp : ∀ p ∈ parts, c ∉ TL.tl p) : Txt.split (Txt.join y parts) y = parts := by
  refine TL.map_tl_inj ?_
  rw [TL.split_spl _ y (by rw [ey]; simp) (TL.kind_ok hk), TL.join_eq, TL.tl_join, ey]
  refine spl_join2 hcs (fun e => hne (List.map_eq_nil_iff.mp e)) fun p h => ?_
  obtain ⟨z, hz, rfl⟩ := List.mem_map.mp h
  exact hp z hz
theorem join_inj {ns ms : List Str} (h1 : ∀ x ∈ ns, isNm x = true) (h2 : ∀ x ∈ ms, isNm x = true) (e : Txt.join " " ns = Txt.join " " ms) : ns = ms := by
  by_cases n1 : ns = []
  · subst n1
    exact (read_ne h2 (by rw [← e]; rfl)).symm
  · by_cases n2 : ms = []
    · subst n2
      exact read_ne h1 (by rw [e]; rfl)
    · rw [← read_split h1 n1, e, read_split h2 n2]
theorem readC_eq {ns : List Str} (h : Nms ns) : readC (Txt.join " " ns) = .ret (cset ns) := Mir.ext fun Q E => propext ⟨fun ⟨ms, e, hm, q⟩ => by rw [join_inj h.ok hm.ok e]; exact q, fun q => ⟨ns, rfl, h, q⟩⟩
theorem ssort_cset {k : List Str} (h : k.Nodup) : ssort k = cset k := by
  refine srt_uniq ssort_srt ?_ ?_
  · exact (cset_ss k).imp fun {a b} z q => sLt_irr _ (sLt_tr z q)
  · refine ssort_perm.trans ((List.perm_ext_iff_of_nodup h (ss_nodup (cset_ss k))).mpr fun x => cset_mem.symm)
theorem cset_nd_len {k : List Str} (h : k.Nodup) : (cset k).length = k.length := by rw [← ssort_cset h]; exact ssort_perm.length_eq
/-- a table that may be made -/
structure OkT (t : LT) : Prop where
  nm : isNm t.1 = true
  cols : ∀ x ∈ t.2.1, isNm x = true
  nd : t.2.1.Nodup
  pos : t.2.1 ≠ []
  le : t.2.1.length ≤ 8
  kpos : t.2.2 ≠ []
  kle : t.2.2.length ≤ 8
  key : ∀ k ∈ t.2.2, k ≠ [] ∧ k.Nodup ∧ ∀ x ∈ k, x ∈ t.2.1
  anti : t.2.2.Pairwise fun k l => ¬ (∀ x ∈ k, x ∈ l) ∧ ¬ (∀ x ∈ l, x ∈ k)
namespace OkT
variable {t : LT}
theorem klen (o : OkT t) {k : List Str} (h : k ∈ t.2.2) : k.length ≤ 8 := Nat.le_trans (nd_len (o.key k h).2.1 (o.key k h).2.2) o.le
theorem knm (o : OkT t) {k : List Str} (h : k ∈ t.2.2) : ∀ x ∈ k, isNm x = true := fun x hx => o.cols x ((o.key k h).2.2 x hx)
theorem nms (o : OkT t) : Nms t.2.1 := ⟨o.cols, Nat.le_trans o.le (by decide), by rw [cset_nd_len o.nd]; have := o.le; omega⟩
theorem knms (o : OkT t) {k : List Str} (h : k ∈ t.2.2) : Nms k := ⟨o.knm h, Nat.le_trans (o.klen h) (by decide), by rw [cset_nd_len (o.key k h).2.1]; have := o.klen h; omega⟩
end OkT
def keyT (k : List Str) : Str := Txt.join " " (cset k)
def headT (t : LT) : Str := t.1 ++ ": " ++ Txt.join " " t.2.1
def lineP (t : LT) : List Str := headT t :: t.2.2.map keyT
def lineT (t : LT) : Str := Txt.join " / " (lineP t)
def textT (ts : List LT) : Str := Txt.join "\n" (ts.map lineT)
theorem nms_len {ns : List Str} (h : ∀ x ∈ ns, isNm x = true) (l : ns.length ≤ 8) : (Txt.join " " ns).length ≤ 72 :=
  Nat.le_trans (join_len (m := 8) fun x hx => (isNm_iff (h x hx)).2.2.2) (Nat.le_trans (Nat.mul_le_mul_right _ l) (by decide +kernel))
theorem nms_jn {ns : List Str} (h : ∀ x ∈ ns, isNm x = true) (l : ns.length ≤ 8) : jnOk " " ns := jnOk_of (m := 8) (k := 8) (fun x hx => (isNm_iff (h x hx)).2.2.2) l (by decide +kernel)
theorem names_free {ns : List Str} (h : ∀ x ∈ ns, isNm x = true) {c : Nat} (hc : alnB c = false) (h2 : c ≠ 32) : c ∉ (Txt.join " " ns).cps.toList :=
  join_free (y := " ") (fun z => by rcases List.mem_cons.mp (show c ∈ [32] from z) with e | e; exact h2 e; cases e) fun x hx => nm_free (h x hx) hc
section
variable {t : LT} (o : OkT t)
include o
theorem key_len {k : List Str} (h : k ∈ t.2.2) : (keyT k).length ≤ 72 := nms_len (fun x hx => o.knm h x (cset_mem.mp hx)) (Nat.le_trans (cset_len k) (o.klen h))
theorem head_len : (headT t).length ≤ 82 := by
  have h1 := (isNm_iff o.nm).2.2.2
  have h2 := nms_len o.cols o.le
  unfold headT
  rw [app_len, app_len]
  have : (": " : Str).length = 2 := by decide +kernel
  omega
theorem lineP_len : ∀ x ∈ lineP t, x.length ≤ 82 := fun x hx => by
  rcases List.mem_cons.mp hx with e | e
  · subst e; exact head_len o
  · obtain ⟨k, hk, e⟩ := List.mem_map.mp e
    subst e; exact Nat.le_trans (key_len o hk) (by decide)
theorem lineP_n : (lineP t).length ≤ 9 := by unfold lineP; rw [List.length_cons, List.length_map]; have := o.kle; omega
theorem line_len : (lineT t).length ≤ 765 := Nat.le_trans (join_len (lineP_len o)) (Nat.le_trans (Nat.mul_le_mul_right _ (lineP_n o)) (by decide +kernel))
theorem line_jn : jnOk " / " (lineP t) := jnOk_of (lineP_len o) (lineP_n o) (by decide +kernel)
theorem key_free {k : List Str} (h : k ∈ t.2.2) {c : Nat} (hc : alnB c = false) (h2 : c ≠ 32) : c ∉ (keyT k).cps.toList := names_free (fun x hx => o.knm h x (cset_mem.mp hx)) hc h2
theorem head_free {c : Nat} (hc : alnB c = false) (h2 : c ≠ 32) (h3 : c ≠ 58) : c ∉ (headT t).cps.toList := by
  unfold headT
  refine app_free (app_free (nm_free o.nm hc) fun z => ?_) (names_free o.cols hc h2)
  rcases List.mem_cons.mp (show c ∈ [58, 32] from z) with e | e
  · exact h3 e
  · rcases List.mem_cons.mp e with e | e
    · exact h2 e
    · cases e
theorem part_free {c : Nat} (hc : alnB c = false) (h2 : c ≠ 32) (h3 : c ≠ 58) : ∀ p ∈ lineP t, c ∉ p.cps.toList := fun p hp => by
  rcases List.mem_cons.mp hp with e | e
  · subst e; exact head_free o hc h2 h3
  · obtain ⟨k, hk, e⟩ := List.mem_map.mp e
    subst e; exact key_free o hk hc h2
theorem line_split : Txt.split (lineT t) " / " = lineP t :=
  split_join2 (y := " / ") (s := 32) (c := 47) (S := [32]) (by decide +kernel) (by decide) (by decide +kernel) (by simp [lineP]) (part_free o (by decide +kernel) (by decide) (by decide))
theorem line_free : 10 ∉ (lineT t).cps.toList := join_free (y := " / ") (by decide +kernel) (part_free o (by decide +kernel) (by decide) (by decide))
theorem head_part : Txt.partition (headT t) ": " = (t.1, (": " : Str), Txt.join " " t.2.1) :=
  TL.partition_app (y := ": ") (s := 58) (S := [32]) (by decide +kernel) (nm_free o.nm (by decide +kernel))
theorem line_pos : 1 ≤ (lineT t).length := by
  have h1 := (isNm_iff o.nm).2.2.1
  have e : (lineT t).cps.toList ≠ [] := fun e => by
    unfold lineT at e
    rw [join_tl] at e
    have hh : (headT t).cps.toList = [] := by
      unfold lineP at e
      cases hk : t.2.2.map keyT with
      | nil => rw [hk] at e; exact e
      | cons k r =>
        rw [hk] at e
        exact (List.append_eq_nil_iff.mp (show (headT t).cps.toList ++ _ = [] from e)).1
    have h3 : (headT t).length = 0 := by rw [← toList_len, hh]; rfl
    unfold headT at h3
    rw [app_len, app_len] at h3
    omega
  rw [← toList_len]
  exact List.length_pos_iff.mpr e
end
theorem text_split {ts : List LT} (h : ∀ t ∈ ts, OkT t) (hn : ts ≠ []) : Txt.split (textT ts) "\n" = ts.map lineT :=
  TL.split_join (y := "\n") (s := 10) (S := []) (by decide +kernel) (by decide +kernel) (fun e => hn (List.map_eq_nil_iff.mp e)) fun p hp => by
    obtain ⟨t, ht, rfl⟩ := List.mem_map.mp hp
    exact line_free (h t ht)
theorem text_ne {ts : List LT} (h : ∀ t ∈ ts, OkT t) (e : textT ts = "") : ts = [] := by
  have z := join_ne (y := "\n") (ns := ts.map lineT) (fun x hx => by obtain ⟨t, ht, rfl⟩ := List.mem_map.mp hx; exact line_pos (h t ht)) e
  exact List.map_eq_nil_iff.mp z
theorem text_jn {ts : List LT} (h : ∀ t ∈ ts, OkT t) (hl : ts.length ≤ 100) : jnOk "\n" (ts.map lineT) := jnOk_of (m := 765) (k := 100) (fun x hx => by obtain ⟨t, ht, rfl⟩ := List.mem_map.mp hx; exact line_len (h t ht)) (by rw [List.length_map]; exact hl) (by decide +kernel)
end Ax

/-! Slices, places, numberings; a table's object, a schema's object. -/
namespace Ax
open PySem PySem.Spec PyProof.Rows L2
section
variable {α β : Type}
theorem cutL_to (xs : List α) (i : Nat) : cutL xs none (some (i : Int)) = xs.take i := by
  unfold cutL
  rw [HT.sIx_none, HT.sIx_nat, List.drop_zero, Nat.sub_zero]
  by_cases h : i ≤ xs.length
  · rw [Nat.min_eq_left h]
  · rw [Nat.min_eq_right (by omega), List.take_of_length_le (Nat.le_refl _), List.take_of_length_le (by omega)]
theorem cutL_from (xs : List α) (i : Nat) : cutL xs (some (i : Int)) none = xs.drop i := by
  unfold cutL
  rw [HT.sIx_none, HT.sIx_nat]
  by_cases h : i ≤ xs.length
  · rw [Nat.min_eq_left h, List.take_of_length_le (by rw [List.length_drop]; omega)]
  · rw [Nat.min_eq_right (by omega), List.drop_of_length_le (Nat.le_refl _), List.drop_of_length_le (by omega)]
    simp
theorem cutL_mid (xs : List α) (i j : Nat) : cutL xs (some (i : Int)) (some (j : Int)) = (xs.take j).drop i := by
  unfold cutL
  rw [HT.sIx_nat, HT.sIx_nat, List.drop_take]
  by_cases h : i ≤ xs.length
  · rw [Nat.min_eq_left h]
    by_cases h2 : j ≤ xs.length
    · rw [Nat.min_eq_left h2]
    · rw [Nat.min_eq_right (by omega), List.take_of_length_le (by rw [List.length_drop]; omega), List.take_of_length_le (by rw [List.length_drop]; omega)]
  · have e : min i xs.length = xs.length := Nat.min_eq_right (by omega)
    rw [e, List.drop_of_length_le (Nat.le_refl _), List.drop_of_length_le (by omega)]
    simp
theorem enumL_eq (xs : List α) : enumL xs = (List.range xs.length).zipWith (fun (i : Nat) x => ((i : Int), x)) xs := by
  unfold enumL
  apply List.ext_getElem?
  intro i
  simp only [List.getElem?_map, List.getElem?_zipIdx, List.getElem?_zipWith, List.getElem?_range]
  by_cases h : i < xs.length
  · simp [h, List.getElem?_eq_getElem h]
  · simp [h, List.getElem?_eq_none (Nat.le_of_not_lt h)]
theorem enumFL_get {k : Int} {xs : List α} {i : Nat} : (enumFL k xs)[i]? = (xs[i]?).map fun x => (k + (i : Int), x) := by
  unfold enumFL enumL
  simp [List.getElem?_map, List.getElem?_zipIdx]
  cases xs[i]? <;> simp
theorem enumFL_mem {k : Int} {xs : List α} {x : Int × α} (h : x ∈ enumFL k xs) : ∃ i : Nat, xs[i]? = some x.2 ∧ x.1 = k + (i : Int) := by
  obtain ⟨i, e⟩ := List.getElem?_of_mem h
  rw [enumFL_get] at e
  obtain ⟨y, hy, e⟩ := Option.map_eq_some_iff.mp e
  subst e
  exact ⟨i, hy, rfl⟩
theorem enumFL_snd {k : Int} {xs : List α} : (enumFL k xs).map (·.2) = xs := by
  apply List.ext_getElem?
  intro i
  rw [List.getElem?_map, enumFL_get]
  cases xs[i]? <;> rfl
theorem enumFL_cons {k : Int} {x : α} {xs : List α} : enumFL k (x :: xs) = (k, x) :: enumFL (k + 1) xs := by
  apply List.ext_getElem?
  intro i
  rw [enumFL_get]
  cases i with
  | zero => simp
  | succ i =>
    rw [List.getElem?_cons_succ, List.getElem?_cons_succ, enumFL_get]
    cases xs[i]? with
    | none => rfl
    | some y => simp only [Option.map_some, Option.some.injEq, Prod.mk.injEq, and_true]; omega
/-- a pre-part of a numbering -/
theorem enumFL_pre {k : Int} {xs : List α} {pre suf : List (Int × α)} {x : Int × α} (e : enumFL k xs = pre ++ x :: suf) : x.1 = k + (pre.length : Int) ∧ xs = pre.map (·.2) ++ x.2 :: suf.map (·.2) := by
  constructor
  · have z : (enumFL k xs)[pre.length]? = some x := by rw [e]; simp
    rw [enumFL_get] at z
    obtain ⟨y, hy, e⟩ := Option.map_eq_some_iff.mp z
    rw [← e]
  · have z := congrArg (List.map (·.2)) e
    rw [enumFL_snd] at z
    rw [z]; simp
theorem rangeL_get {n i : Nat} : (rangeL 0 n)[i]? = if i < n then some (i : Int) else none := by
  unfold rangeL
  rw [List.getElem?_map]
  by_cases h : i < n
  · rw [List.getElem?_range h, if_pos h]; simp
  · rw [if_neg h, List.getElem?_eq_none (by simp; omega)]; rfl
theorem rangeL_mem {n : Nat} {i : Int} : i ∈ rangeL 0 n ↔ 0 ≤ i ∧ i < n := by
  unfold rangeL
  rw [List.mem_map]
  constructor
  · rintro ⟨j, hj, rfl⟩
    rw [List.mem_range] at hj
    omega
  · intro ⟨h1, h2⟩
    exact ⟨i.toNat, List.mem_range.mpr (by omega), by omega⟩
theorem rangeL_pre {n : Nat} {pre suf : List Int} {x : Int} (e : rangeL 0 n = pre ++ x :: suf) : x = (pre.length : Int) ∧ pre.length < n ∧ pre = rangeL 0 pre.length := by
  have z : (rangeL 0 n)[pre.length]? = some x := by rw [e]; simp
  rw [rangeL_get] at z
  split at z
  · rename_i h
    refine ⟨(Option.some.inj z).symm, h, ?_⟩
    apply List.ext_getElem?
    intro i
    rw [rangeL_get]
    by_cases hi : i < pre.length
    · rw [if_pos hi]
      have : (rangeL 0 n)[i]? = pre[i]? := by rw [e, List.getElem?_append_left hi]
      rw [← this, rangeL_get, if_pos (by omega)]
    · rw [if_neg hi, List.getElem?_eq_none (by omega)]
  · cases z
theorem get_nat {xs : List α} {i : Nat} (h : i < xs.length) : Mir.get xs (i : Int) = .ret xs[i] := Mir.get_t (atI_nat (List.getElem?_eq_getElem h))
theorem get_int {xs : List α} {i : Int} (h0 : 0 ≤ i) (h : i < xs.length) : Mir.get xs i = .ret (xs[i.toNat]'(by omega)) := by
  have := get_nat (xs := xs) (i := i.toNat) (by omega)
  rw [← this]
  congr 1
  omega
theorem pLe_iff {a b : List Str} : pLe a b = true ↔ ∀ x ∈ a, x ∈ b := by simp [pLe]
theorem pLe_cset {a b : List Str} : pLe (cset a) (cset b) = true ↔ ∀ x ∈ a, x ∈ b := by simp [pLe, cset_mem]
end
theorem foldl_snoc {α β : Type} (f : α → β) : ∀ (xs : List α) (a : List β), xs.foldl (fun s x => s ++ [f x]) a = a ++ xs.map f
  | [], a => (List.append_nil a).symm
  | x :: xs, a => by rw [List.foldl_cons, foldl_snoc f xs, List.map_cons, List.append_assoc]; rfl
def tblOf (t : LT) : Tbl := ⟨t.1, t.2.1, cset t.2.1, t.2.2.map cset⟩
/-- the columns of all, in order of their first place -/
def addC (ns cs : List Str) : List Str := ns ++ cs.filter fun x => decide (x ∉ ns)
def allC (ts : List LT) : List Str := ts.foldl (fun ns t => addC ns t.2.1) []
def schOf (ts : List LT) : Sch := ⟨ts.map tblOf, allC ts, cset (allC ts)⟩
def keyN (ts : List LT) : Nat := (ts.map fun t => t.2.2.length).sum
theorem addC_mem {ns cs : List Str} {x : Str} : x ∈ addC ns cs ↔ x ∈ ns ∨ x ∈ cs := by
  unfold addC
  rw [List.mem_append, List.mem_filter]
  by_cases h : x ∈ ns <;> simp [h]
theorem addC_nd {ns cs : List Str} (h1 : ns.Nodup) (h2 : cs.Nodup) : (addC ns cs).Nodup := by
  unfold addC
  refine List.nodup_append.mpr ⟨h1, h2.sublist List.filter_sublist, fun a ha b hb e => ?_⟩
  subst e
  exact (of_decide_eq_true (List.mem_filter.mp hb).2) ha
theorem allC_snoc (ts : List LT) (t : LT) : allC (ts ++ [t]) = addC (allC ts) t.2.1 := by unfold allC; rw [List.foldl_append]; rfl
theorem keyN_snoc (ts : List LT) (t : LT) : keyN (ts ++ [t]) = keyN ts + t.2.2.length := by simp [keyN]
theorem allC_mem {ts : List LT} {x : Str} : x ∈ allC ts ↔ ∃ t ∈ ts, x ∈ t.2.1 := by
  have key : ∀ (ts : List LT) (ns : List Str), x ∈ ts.foldl (fun ns t => addC ns t.2.1) ns ↔ x ∈ ns ∨ ∃ t ∈ ts, x ∈ t.2.1 := by
    intro ts
    induction ts with
    | nil => simp
    | cons t ts ih =>
      intro ns
      rw [List.foldl_cons, ih, addC_mem]
      simp [or_assoc]
  have := key ts []
  unfold allC
  rw [this]
  simp
theorem allC_nd {ts : List LT} (h : ∀ t ∈ ts, t.2.1.Nodup) : (allC ts).Nodup := by
  have key : ∀ (ts : List LT) (ns : List Str), ns.Nodup → (∀ t ∈ ts, t.2.1.Nodup) → (ts.foldl (fun ns t => addC ns t.2.1) ns).Nodup := by
    intro ts
    induction ts with
    | nil => exact fun ns h _ => h
    | cons t ts ih => exact fun ns h h2 => ih _ (addC_nd h (h2 t List.mem_cons_self)) fun u hu => h2 u (List.mem_cons_of_mem _ hu)
  exact key ts [] List.nodup_nil h
/-- a schema that may be made -/
structure OkS (ts : List LT) : Prop where
  ok : ∀ t ∈ ts, OkT t
  lab : (ts.map (·.1)).Nodup
  len : ts.length ≤ 6
  cols : (allC ts).length ≤ 8
  keys : keyN ts ≤ 8
theorem allC_sub {ts us : List LT} (hn : ∀ t ∈ ts, t.2.1.Nodup) (h : ∀ t ∈ ts, t ∈ us) : (allC ts).length ≤ (allC us).length :=
  nd_len (allC_nd hn) fun x hx => let ⟨t, ht, z⟩ := allC_mem.mp hx; allC_mem.mpr ⟨t, h t ht, z⟩
theorem OkS.sub {ts us : List LT} (h : OkS us) (s : ts.Sublist us) : OkS ts where
  ok t ht := h.ok t (s.subset ht)
  lab := h.lab.sublist (s.map _)
  len := Nat.le_trans s.length_le h.len
  cols := Nat.le_trans (allC_sub (fun t ht => (h.ok t (s.subset ht)).nd) fun t ht => s.subset ht) h.cols
  keys := by
    refine Nat.le_trans ?_ h.keys
    unfold keyN
    have key : ∀ {ts us : List LT}, ts.Sublist us → (ts.map fun t => t.2.2.length).sum ≤ (us.map fun t => t.2.2.length).sum := by
      intro ts us s
      induction s with
      | slnil => exact Nat.le_refl _
      | cons a _ ih => simp only [List.map_cons, List.sum_cons]; omega
      | cons_cons a _ ih => simp only [List.map_cons, List.sum_cons]; omega
    exact key s
theorem OkS.nil : OkS [] := ⟨fun t h => by simp at h, List.nodup_nil, by decide, by decide, by decide⟩
theorem OkS.perm {ts us : List LT} (h : OkS us) (p : ts.Perm us) : OkS ts where
  ok t ht := h.ok t (p.mem_iff.mp ht)
  lab := (p.map _).nodup_iff.mpr h.lab
  len := by rw [p.length_eq]; exact h.len
  cols := Nat.le_trans (allC_sub (fun t ht => (h.ok t (p.mem_iff.mp ht)).nd) fun t ht => p.mem_iff.mp ht) h.cols
  keys := by unfold keyN; rw [(p.map fun t => t.2.2.length).sum_nat]; exact h.keys
theorem insAt_perm {α : Type} {xs : List α} {i : Int} {y : α} : (insAt xs i y).Perm (y :: xs) := ins_perm
theorem insAt_len {α : Type} {xs : List α} {i : Int} {y : α} : (insAt xs i y).length = xs.length + 1 := by rw [insAt_perm.length_eq]; rfl
theorem insAt_mem {α : Type} {xs : List α} {i : Int} {x y : α} : x ∈ insAt xs i y ↔ x = y ∨ x ∈ xs := by rw [insAt_perm.mem_iff, List.mem_cons]
theorem take_mem {α : Type} {xs : List α} {i : Nat} {x : α} (h : x ∈ xs.take i) : ∃ j, j < i ∧ xs[j]? = some x := by
  obtain ⟨j, hj⟩ := List.getElem?_of_mem h
  rw [List.getElem?_take] at hj
  split at hj
  · exact ⟨j, ‹_›, hj⟩
  · cases hj
theorem mem_take {α : Type} {xs : List α} {i j : Nat} {x : α} (h : xs[j]? = some x) (hj : j < i) : x ∈ xs.take i := List.mem_of_getElem? (i := j) (by rw [List.getElem?_take, if_pos hj]; exact h)
theorem take_up {α : Type} {xs : List α} {i j : Nat} {x : α} (h : x ∈ xs.take i) (hj : i ≤ j) : x ∈ xs.take j := let ⟨k, hk, e⟩ := take_mem h; mem_take e (by omega)
theorem nd_take {α : Type} {xs : List α} (nd : xs.Nodup) {i : Nat} {x : α} (h : xs[i]? = some x) : x ∉ xs.take i := fun z => by
  obtain ⟨j, hj, e⟩ := take_mem z
  have pw := List.pairwise_iff_getElem.mp nd
  obtain ⟨hi, ei⟩ := List.getElem?_eq_some_iff.mp h
  obtain ⟨hj', ej⟩ := List.getElem?_eq_some_iff.mp e
  exact pw j i hj' hi hj (by rw [ei, ej])
/-- keys, none in another -/
structure KeysOk (cols : List Str) (ks : List (List Str)) : Prop where
  key : ∀ k ∈ ks, k ≠ [] ∧ k.Nodup ∧ ∀ x ∈ k, x ∈ cols
  anti : ks.Pairwise fun k l => ¬ (∀ x ∈ k, x ∈ l) ∧ ¬ (∀ x ∈ l, x ∈ k)
/-- some columns, some of these as a key -/
structure MadeOk (nm cols key : List Str) : Prop where
  sub : ∀ x ∈ cols, x ∈ nm
  nd : cols.Nodup
  ne : cols ≠ []
  key : key ≠ [] ∧ key.Nodup ∧ ∀ x ∈ key, x ∈ cols
theorem MadeOk.len {nm cols key : List Str} (h : MadeOk nm cols key) : cols.length ≤ nm.length := nd_len h.nd h.sub
theorem MadeOk.wild {nm cols key : List Str} (h : WildOk nm cols key) : MadeOk nm cols key := ⟨h.sub, h.nd, h.ne, h.kne, h.nd.sublist h.sk, fun x hx => h.sk.subset hx⟩
/-- tables as they are drawn -/
structure Drawn (nm labels : List Str) (most : Int) (ts : List LT) : Prop where
  ok : ∀ t ∈ ts, OkT t
  sub : ∀ t ∈ ts, ∀ x ∈ t.2.1, x ∈ nm
  lab : (ts.map (·.1)).Perm (labels.take ts.length)
  keys : keyN ts ≤ 8
  len : (ts.length : Int) ≤ most
  pos : ts ≠ []
theorem Drawn.oks {nm labels : List Str} {most : Int} {ts : List LT} (d : Drawn nm labels most ts) (hl : nm.length ≤ 8) (hnl : labels.Nodup) (hm : most ≤ 6) : OkS ts where
  ok := d.ok
  lab := d.lab.nodup_iff.mpr (hnl.sublist (List.take_sublist _ _))
  len := by have := d.len; omega
  cols := Nat.le_trans (nd_len (allC_nd fun t ht => (d.ok t ht).nd) fun x hx => let ⟨t, ht, z⟩ := allC_mem.mp hx; d.sub t ht x z) hl
  keys := d.keys
theorem okT_of {nm cols key : List Str} {ks : List (List Str)} {lb : Str} (hok : ∀ x ∈ nm, isNm x = true) (hl : nm.length ≤ 8) (hlb : isNm lb = true) (m : MadeOk nm cols key) (k : KeysOk cols ks) (hk : ks ≠ []) (hkl : ks.length ≤ 8) : OkT (lb, cols, ks) where
  nm := hlb
  cols x hx := hok x (m.sub x hx)
  nd := m.nd
  pos := m.ne
  le := Nat.le_trans m.len hl
  kpos := hk
  kle := hkl
  key := k.key
  anti := k.anti
end Ax

/-! What is reached by keys; independence. -/
namespace Ax
open PySem PySem.Spec PyProof.Rows L2
/-- a column is reached from c0 by the tables' keys -/
inductive Rch (c0 : List Str) (ts : List LT) : Str → Prop where
  | base {x : Str} (h : x ∈ c0) : Rch c0 ts x
  | step {t : LT} {k : List Str} {x : Str} (ht : t ∈ ts) (hk : k ∈ t.2.2) (h : ∀ y ∈ k, Rch c0 ts y) (hx : x ∈ t.2.1) : Rch c0 ts x
def Sub (a b : List Str) : Prop := ∀ x ∈ a, x ∈ b
instance (a b : List Str) : Decidable (Sub a b) := inferInstanceAs (Decidable (∀ x ∈ a, x ∈ b))
theorem Sub.trans {a b c : List Str} (h : Sub a b) (h' : Sub b c) : Sub a c := fun x hx => h' x (h x hx)
def Clo (ts : List LT) (R : List Str) : Prop := ∀ t ∈ ts, ∀ k ∈ t.2.2, Sub k R → Sub t.2.1 R
/-- how many tables are not whole in R -/
def opn (ts : List LT) (R : List Str) : Nat := ts.countP fun t => !pLe t.2.1 R
theorem opn_le (ts : List LT) (R : List Str) : opn ts R ≤ ts.length := List.countP_le_length
theorem countP_le {α : Type} {p q : α → Bool} : ∀ {xs : List α}, (∀ x ∈ xs, p x = true → q x = true) → xs.countP p ≤ xs.countP q
  | [], _ => Nat.le_refl _
  | x :: xs, h => by
    have ih := countP_le (p := p) (q := q) (xs := xs) fun y hy => h y (List.mem_cons_of_mem _ hy)
    have hx := h x List.mem_cons_self
    rw [List.countP_cons, List.countP_cons]
    cases hp : p x
    · simp; omega
    · rw [hx hp]; simp; omega
theorem countP_lt {α : Type} {p q : α → Bool} : ∀ {xs : List α}, (∀ x ∈ xs, p x = true → q x = true) → (∃ x ∈ xs, p x = false ∧ q x = true) → xs.countP p < xs.countP q
  | [], _, h => by obtain ⟨x, hx, _⟩ := h; simp at hx
  | x :: xs, h, ⟨y, hy, hp, hq⟩ => by
    have ih0 := countP_le (p := p) (q := q) (xs := xs) fun y hy => h y (List.mem_cons_of_mem _ hy)
    have hx := h x List.mem_cons_self
    rw [List.countP_cons, List.countP_cons]
    rcases List.mem_cons.mp hy with e | e
    · subst e; rw [hp, hq]; simp; omega
    · have ih := countP_lt (p := p) (q := q) (xs := xs) (fun y hy => h y (List.mem_cons_of_mem _ hy)) ⟨y, e, hp, hq⟩
      cases hp : p x
      · simp; omega
      · rw [hx hp]; simp; omega
theorem opn_mono {ts : List LT} {R R' : List Str} (s : Sub R R') : opn ts R' ≤ opn ts R := countP_le fun t _ h => by
  rw [Bool.not_eq_true'] at h ⊢
  apply Bool.eq_false_iff.mpr
  intro z
  rw [pLe_iff.mpr (Sub.trans (pLe_iff.mp z) s)] at h
  cases h
theorem opn_lt {ts : List LT} {R R' : List Str} (s : Sub R R') {t : LT} (ht : t ∈ ts) (h1 : ¬ Sub t.2.1 R) (h2 : Sub t.2.1 R') : opn ts R' < opn ts R := countP_lt (fun u _ h => by
  rw [Bool.not_eq_true'] at h ⊢
  apply Bool.eq_false_iff.mpr
  intro z
  rw [pLe_iff.mpr (Sub.trans (pLe_iff.mp z) s)] at h
  cases h) ⟨t, ht, by rw [pLe_iff.mpr h2]; rfl, by
    rw [Bool.not_eq_true']
    exact Bool.eq_false_iff.mpr fun z => h1 (pLe_iff.mp z)⟩
theorem opn_zero {ts : List LT} {R : List Str} (h : opn ts R = 0) : Clo ts R := fun t ht k _ _ => by
  have := List.countP_eq_zero.mp h t ht
  rw [Bool.not_eq_true', Bool.not_eq_false] at this
  exact pLe_iff.mp this
/-- what a pass leaves -/
theorem rch_of {c0 R : List Str} {ts : List LT} (h0 : Sub c0 R) (hc : Clo ts R) (hs : ∀ x ∈ R, Rch c0 ts x) (x : Str) : x ∈ R ↔ Rch c0 ts x := by
  refine ⟨hs x, fun h => ?_⟩
  induction h with
  | base h => exact h0 _ h
  | step ht hk _ hx ih => exact hc _ ht _ hk ih _ hx
/-- other tables than the one so named -/
def othersT (ts : List LT) (l : Str) : List LT := ts.filter fun u => decide (u.1 ≠ l)
/-- the tables are not independent -/
def Bad (ts : List LT) : Prop := ∃ b ∈ ts, ∃ s ∈ othersT ts b.1, ∃ k ∈ b.2.2, (∀ x ∈ k, Rch s.2.1 (othersT ts b.1) x) ∧ ∃ x ∈ b.2.1, Rch s.2.1 (othersT ts b.1) x ∧ x ∉ k
theorem others_map (ts : List LT) (l : Str) : (ts.map tblOf).filter (fun u => decide (u.name ≠ l)) = (othersT ts l).map tblOf := by
  unfold othersT
  rw [List.filter_map]
  rfl
theorem map_pre {α β : Type} {f : α → β} {xs : List α} {pre suf : List β} {y : β} (e : xs.map f = pre ++ y :: suf) : ∃ x, xs[pre.length]? = some x ∧ x ∈ xs ∧ f x = y := by
  have z : (xs.map f)[pre.length]? = some y := by rw [e]; simp
  rw [List.getElem?_map] at z
  obtain ⟨x, hx, e⟩ := Option.map_eq_some_iff.mp z
  exact ⟨x, hx, List.mem_of_getElem? hx, e⟩
theorem app_pre {α : Type} {xs pre suf : List α} {y : α} (e : xs = pre ++ y :: suf) : xs[pre.length]? = some y ∧ y ∈ xs := by
  subst e; simp
theorem take_snoc {α : Type} {xs : List α} {i : Nat} {x y : α} (h : xs[i]? = some x) (hy : y ∈ xs.take (i + 1)) : y ∈ xs.take i ∨ y = x := by
  rw [List.take_add_one, h] at hy
  rcases List.mem_append.mp hy with z | z
  · exact .inl z
  · exact .inr (List.mem_singleton.mp z)
/-- b breaks the independence -/
def BadT (ts : List LT) (b : LT) : Prop := ∃ s ∈ othersT ts b.1, ∃ k ∈ b.2.2, (∀ x ∈ k, Rch s.2.1 (othersT ts b.1) x) ∧ ∃ x ∈ b.2.1, Rch s.2.1 (othersT ts b.1) x ∧ x ∉ k
theorem bad_iff {ts : List LT} : Bad ts ↔ ∃ b ∈ ts, BadT ts b := Iff.rfl
theorem others_mem {ts : List LT} {l : Str} {t : LT} (h : t ∈ othersT ts l) : t ∈ ts := (List.mem_filter.mp h).1
theorem Rch.imp {c0 : List Str} {ts us : List LT} (h : ∀ t ∈ ts, t ∈ us) {x : Str} (r : Rch c0 ts x) : Rch c0 us x := by
  induction r with
  | base h' => exact .base h'
  | step ht hk _ hx ih => exact .step (h _ ht) hk ih hx
theorem bad_of {ts us : List LT} (h : ∀ t, t ∈ ts ↔ t ∈ us) (b : Bad ts) : Bad us := by
  have ho : ∀ l t, t ∈ othersT ts l ↔ t ∈ othersT us l := fun l t => by unfold othersT; rw [List.mem_filter, List.mem_filter, h]
  obtain ⟨b, hb, s, hs, k, hk, h1, x, hx, h2, h3⟩ := b
  exact ⟨b, (h b).mp hb, s, (ho _ s).mp hs, k, hk, fun x hx => (h1 x hx).imp fun t ht => (ho _ t).mp ht, x, hx, h2.imp fun t ht => (ho _ t).mp ht, h3⟩
end Ax

open Ax
local macro_rules | `(tactic| got_up) => `(tactic| repeat' (first
  | (with_reducible refine w_seq ?_) | (with_reducible refine w_asg ?_) | (with_reducible refine w_next ?_)
  | (with_reducible refine w_op ?_) | (with_reducible refine w_c ?_) | ((with_reducible refine w_var (v := ?_) ?h ?_); (case h => rfl))
  | (with_reducible refine w_un ?_) | (with_reducible refine w_ret ?_) | (with_reducible refine w_retN ?_) | (with_reducible refine w_drop ?_)
  | (with_reducible refine w_if ?_) | (with_reducible refine w_test ?_) | (with_reducible refine w_bl ?_) | (with_reducible refine w_b ?_)
  | (with_reducible refine w_cb ?_) | (with_reducible refine w_cons ?_) | (with_reducible refine w_nil ?_)
  | (with_reducible refine w_I0 ?_) | (with_reducible refine w_rU ?_) | (with_reducible refine w_not ?_) | (with_reducible refine w_and ?_) | (with_reducible refine w_or ?_) | (with_reducible refine w_tif ?_)
  | (with_reducible refine w_notV ?_) | (with_reducible refine w_andV ?_) | (with_reducible refine w_orV ?_)
  | (with_reducible refine add_i ?_) | (with_reducible refine eq_s ?_) | (with_reducible refine eq_i ?_) | (with_reducible refine eq_b ?_) | (with_reducible refine ne_s ?_) | (with_reducible refine ne_i ?_) | (with_reducible refine ne_b ?_)
  | (with_reducible refine w_bm0 ?_) | (with_reducible refine w_bm ?_)
  | (with_reducible refine w_sfld ?_) | (with_reducible refine w_m1 ?_) | (with_reducible refine w_sl ?_) | (with_reducible refine w_np ?_) | (with_reducible refine w_rev ?_) | (with_reducible refine w_part ?_) | (with_reducible refine w_pi ?_) | (with_reducible refine w_meth ?_) | (with_reducible refine w_cmeth ?_) | (with_reducible refine w_forS ?_) | (with_reducible refine w_lst ?_) | (with_reducible refine w_tup ?_) | (with_reducible refine w_lcS ?_) | (with_reducible refine w_gn ?_) | (with_reducible refine w_rng1 ?_) | (with_reducible refine w_rng2 ?_) | (with_reducible refine w_il ?_) | (with_reducible refine w_it ?_) | (with_reducible refine w_is ?_)
  | (with_reducible refine in_c ?_) | (with_reducible refine ni_c ?_)))
namespace Lw
open PySem PySem.Spec PyProof.Rows L2 SlX StX Ax
def top (i : Nat) : Stmt := PySem.Challenge.pw_aloneright_k27_puts_by_one_table.main.body.getD i (.Pass ⟨0, 0, 0, 0⟩)
def inC (i j : Nat) : Stmt := match top i with
  | .ClassDef _ _ _ b _ _ _ _ _ _ _ => b.getD j (.Pass ⟨0, 0, 0, 0⟩)
  | _ => .Pass ⟨0, 0, 0, 0⟩
abbrev st_is_name : Stmt := top 13
def df_is_name : DfX := ⟨fun K => He.ga K "is_name", "is_name", "is_name", defArgs st_is_name, defBody st_is_name, defScope st_is_name, [], [], false⟩
abbrev N_is_name : List Str := ["text", "sign"]
theorem sc_is_name : FnScope N_is_name ((["text"] : List Str)) df_is_name.scope := ⟨rfl, rfl, rfl, by decide +kernel, rfl, by decide +kernel, by decide +kernel⟩
abbrev st_Columns_init : Stmt := inC 14 0
def df_Columns_init : DfX := ⟨fun K => He.ma K (He.ga K "Columns") "__init__", "__init__", "Columns.__init__", defArgs st_Columns_init, defBody st_Columns_init, defScope st_Columns_init, [], [], false⟩
abbrev N_Columns_init : List Str := ["self", "names", "name"]
theorem sc_Columns_init : FnScope N_Columns_init ((["self"] : List Str) ++ (["names"] : List Str)) df_Columns_init.scope := ⟨rfl, rfl, rfl, by decide +kernel, rfl, by decide +kernel, by decide +kernel⟩
abbrev st_Schema_init : Stmt := inC 21 3
def df_Schema_init : DfX := ⟨fun K => He.ma K (He.ga K "Schema") "__init__", "__init__", "Schema.__init__", defArgs st_Schema_init, defBody st_Schema_init, defScope st_Schema_init, [], [], false⟩
abbrev N_Schema_init : List Str := ["self", "tables", "names", "labels", "keys", "line", "table", "name"]
theorem sc_Schema_init : FnScope N_Schema_init ((["self"] : List Str) ++ (["tables"] : List Str)) df_Schema_init.scope := ⟨rfl, rfl, rfl, by decide +kernel, rfl, by decide +kernel, by decide +kernel⟩
abbrev st_Schema_add : Stmt := inC 21 10
def df_Schema_add : DfX := ⟨fun K => He.ma K (He.ga K "Schema") "__add__", "__add__", "Schema.__add__", defArgs st_Schema_add, defBody st_Schema_add, defScope st_Schema_add, [], [], false⟩
abbrev N_Schema_add : List Str := ["self", "other"]
theorem sc_Schema_add : FnScope N_Schema_add ((["self", "other"] : List Str)) df_Schema_add.scope := ⟨rfl, rfl, rfl, by decide +kernel, rfl, by decide +kernel, by decide +kernel⟩
abbrev st_Columns_read : Stmt := inC 14 1
def df_Columns_read : DfX := ⟨fun K => cmG K "Columns" "read", "read", "Columns.read", defArgs st_Columns_read, defBody st_Columns_read, defScope st_Columns_read, [], [], false⟩
abbrev N_Columns_read : List Str := ["cls", "text", "words"]
theorem sc_Columns_read : FnScope N_Columns_read ((["cls", "text"] : List Str)) df_Columns_read.scope := ⟨rfl, rfl, rfl, by decide +kernel, rfl, by decide +kernel, by decide +kernel⟩
abbrev st_Columns_le : Stmt := inC 14 7
def df_Columns_le : DfX := ⟨fun K => He.ma K (He.ga K "Columns") "__le__", "__le__", "Columns.__le__", defArgs st_Columns_le, defBody st_Columns_le, defScope st_Columns_le, [], [], false⟩
abbrev N_Columns_le : List Str := ["self", "other", "name"]
theorem sc_Columns_le : FnScope N_Columns_le ((["self", "other"] : List Str)) df_Columns_le.scope := ⟨rfl, rfl, rfl, by decide +kernel, rfl, by decide +kernel, by decide +kernel⟩
abbrev st_Columns_len : Stmt := inC 14 4
def df_Columns_len : DfX := ⟨fun K => He.ma K (He.ga K "Columns") "__len__", "__len__", "Columns.__len__", defArgs st_Columns_len, defBody st_Columns_len, defScope st_Columns_len, [], [], false⟩
abbrev N_Columns_len : List Str := ["self"]
theorem sc_Columns_len : FnScope N_Columns_len ((["self"] : List Str)) df_Columns_len.scope := ⟨rfl, rfl, rfl, by decide +kernel, rfl, by decide +kernel, by decide +kernel⟩
abbrev st_Table_init : Stmt := inC 18 0
def df_Table_init : DfX := ⟨fun K => He.ma K (He.ga K "Table") "__init__", "__init__", "Table.__init__", defArgs st_Table_init, defBody st_Table_init, defScope st_Table_init, [], [], false⟩
abbrev N_Table_init : List Str := ["self", "name", "names", "keys", "at", "key", "others", "other"]
theorem sc_Table_init : FnScope N_Table_init ((["self", "name", "names"] : List Str) ++ (["keys"] : List Str)) df_Table_init.scope := ⟨rfl, rfl, rfl, by decide +kernel, rfl, by decide +kernel, by decide +kernel⟩
abbrev st_Columns_text : Stmt := inC 14 2
def df_Columns_text : DfX := ⟨fun K => He.ma K (He.ga K "Columns") "text", "text", "Columns.text", defArgs st_Columns_text, defBody st_Columns_text, defScope st_Columns_text, [], [], false⟩
abbrev N_Columns_text : List Str := ["self"]
theorem sc_Columns_text : FnScope N_Columns_text ((["self"] : List Str)) df_Columns_text.scope := ⟨rfl, rfl, rfl, by decide +kernel, rfl, by decide +kernel, by decide +kernel⟩
abbrev st_Table_text : Stmt := inC 18 1
def df_Table_text : DfX := ⟨fun K => He.ma K (He.ga K "Table") "text", "text", "Table.text", defArgs st_Table_text, defBody st_Table_text, defScope st_Table_text, [], [], false⟩
abbrev N_Table_text : List Str := ["self", "parts", "key"]
theorem sc_Table_text : FnScope N_Table_text ((["self"] : List Str)) df_Table_text.scope := ⟨rfl, rfl, rfl, by decide +kernel, rfl, by decide +kernel, by decide +kernel⟩
abbrev st_read_table : Stmt := top 20
def df_read_table : DfX := ⟨fun K => He.ga K "read_table", "read_table", "read_table", defArgs st_read_table, defBody st_read_table, defScope st_read_table, [], [], false⟩
abbrev N_read_table : List Str := ["line", "head", "keys", "name", "colon", "names", "key_sets", "table", "key"]
theorem sc_read_table : FnScope N_read_table ((["line"] : List Str)) df_read_table.scope := ⟨rfl, rfl, rfl, by decide +kernel, rfl, by decide +kernel, by decide +kernel⟩
abbrev st_Schema_read : Stmt := inC 21 4
def df_Schema_read : DfX := ⟨fun K => cmG K "Schema" "read", "read", "Schema.read", defArgs st_Schema_read, defBody st_Schema_read, defScope st_Schema_read, [], [], false⟩
abbrev N_Schema_read : List Str := ["cls", "text", "schema", "lines", "line", "row", "table", "e"]
theorem sc_Schema_read : FnScope N_Schema_read ((["cls", "text"] : List Str)) df_Schema_read.scope := ⟨rfl, rfl, rfl, by decide +kernel, rfl, by decide +kernel, by decide +kernel⟩
abbrev st__law_clash : Stmt := top 46
def df__law_clash : DfX := ⟨fun K => He.ga K "_law_clash", "_law_clash", "_law_clash", defArgs st__law_clash, defBody st__law_clash, defScope st__law_clash, [], [], false⟩
abbrev N__law_clash : List Str := ["_law_table", "_law_rows", "_law_row", "_law_other", "_law_key", "_law_places", "_law_at"]
theorem sc__law_clash : FnScope N__law_clash ((["_law_table", "_law_rows", "_law_row"] : List Str)) df__law_clash.scope := ⟨rfl, rfl, rfl, by decide +kernel, rfl, by decide +kernel, by decide +kernel⟩
abbrev st__law_draw : Stmt := top 34
def df__law_draw : DfX := ⟨fun K => He.ga K "_law_draw", "_law_draw", "_law_draw", defArgs st__law_draw, defBody st__law_draw, defScope st__law_draw, [], [], false⟩
abbrev N__law_draw : List Str := ["_law_pool_here", "_law_many"]
theorem sc__law_draw : FnScope N__law_draw ((["_law_pool_here", "_law_many"] : List Str)) df__law_draw.scope := ⟨rfl, rfl, rfl, by decide +kernel, rfl, by decide +kernel, by decide +kernel⟩
abbrev st__law_values : Stmt := top 45
def df__law_values : DfX := ⟨fun K => He.ga K "_law_values", "_law_values", "_law_values", defArgs st__law_values, defBody st__law_values, defScope st__law_values, [], [], false⟩
abbrev N__law_values : List Str := ["_law_pool_here", "_law_kind", "_law_big", "_law_k"]
theorem sc__law_values : FnScope N__law_values ((["_law_pool_here"] : List Str)) df__law_values.scope := ⟨rfl, rfl, rfl, by decide +kernel, rfl, by decide +kernel, by decide +kernel⟩
abbrev st__law_filling : Stmt := top 47
def df__law_filling : DfX := ⟨fun K => He.ga K "_law_filling", "_law_filling", "_law_filling", defArgs st__law_filling, defBody st__law_filling, defScope st__law_filling, [], [], false⟩
abbrev N__law_filling : List Str := ["_law_pool_here", "_law_tables_here", "_law_most", "_law_values_here", "_law_spread", "_law_filling_here", "_law_table", "_law_rows", "_law_k", "_law_row", "_law_name"]
theorem sc__law_filling : FnScope N__law_filling ((["_law_pool_here", "_law_tables_here", "_law_most"] : List Str)) df__law_filling.scope := ⟨rfl, rfl, rfl, by decide +kernel, rfl, by decide +kernel, by decide +kernel⟩
abbrev st__law_flag : Stmt := top 48
def df__law_flag : DfX := ⟨fun K => He.ga K "_law_flag", "_law_flag", "_law_flag", defArgs st__law_flag, defBody st__law_flag, defScope st__law_flag, [], [], false⟩
abbrev N__law_flag : List Str := ["_law_actual", "_law_due"]
theorem sc__law_flag : FnScope N__law_flag ((["_law_actual", "_law_due"] : List Str)) df__law_flag.scope := ⟨rfl, rfl, rfl, by decide +kernel, rfl, by decide +kernel, by decide +kernel⟩
abbrev st__law_labels : Stmt := top 44
def df__law_labels : DfX := ⟨fun K => He.ga K "_law_labels", "_law_labels", "_law_labels", defArgs st__law_labels, defBody st__law_labels, defScope st__law_labels, [], [], false⟩
abbrev N__law_labels : List Str := ["_law_pool_here", "_law_names_here", "_law_k"]
theorem sc__law_labels : FnScope N__law_labels ((["_law_pool_here", "_law_names_here"] : List Str)) df__law_labels.scope := ⟨rfl, rfl, rfl, by decide +kernel, rfl, by decide +kernel, by decide +kernel⟩
abbrev st__law_names : Stmt := top 35
def df__law_names : DfX := ⟨fun K => He.ga K "_law_names", "_law_names", "_law_names", defArgs st__law_names, defBody st__law_names, defScope st__law_names, [], [], false⟩
abbrev N__law_names : List Str := ["_law_pool_here", "_law_many", "_law_letters", "_law_word", "_law_k", "_law_start", "_law_step", "_law_kind", "_law_place", "_law_names_here", "_law_sign"]
theorem sc__law_names : FnScope N__law_names ((["_law_pool_here", "_law_many"] : List Str)) df__law_names.scope := ⟨rfl, rfl, rfl, by decide +kernel, rfl, by decide +kernel, by decide +kernel⟩
abbrev st__law_pool : Stmt := top 33
def df__law_pool : DfX := ⟨fun K => He.ga K "_law_pool", "_law_pool", "_law_pool", defArgs st__law_pool, defBody st__law_pool, defScope st__law_pool, [], [], false⟩
abbrev N__law_pool : List Str := ["_law_script", "_law_pool_here", "_law_at", "_law_cell", "_law_k", "_law_mixed"]
theorem sc__law_pool : FnScope N__law_pool ((["_law_script"] : List Str)) df__law_pool.scope := ⟨rfl, rfl, rfl, by decide +kernel, rfl, by decide +kernel, by decide +kernel⟩
abbrev st_InvalidRow_init : Stmt := inC 7 0
def df_InvalidRow_init : DfX := ⟨fun K => He.ma K (He.ga K "InvalidRow") "__init__", "__init__", "InvalidRow.__init__", defArgs st_InvalidRow_init, defBody st_InvalidRow_init, defScope st_InvalidRow_init, [], [], true⟩
abbrev N_InvalidRow_init : List Str := ["self", "name"]
theorem ns_InvalidRow_init : NdefX.NScope ([("self" : Str), ("name" : Str)] ++ [("__class__" : Str)]) [("self" : Str), ("name" : Str)] [("__class__" : Str)] df_InvalidRow_init.scope := NdefX.nscope_by (by decide +kernel)
abbrev st_UnknownTable_init : Stmt := inC 6 0
def df_UnknownTable_init : DfX := ⟨fun K => He.ma K (He.ga K "UnknownTable") "__init__", "__init__", "UnknownTable.__init__", defArgs st_UnknownTable_init, defBody st_UnknownTable_init, defScope st_UnknownTable_init, [], [], true⟩
abbrev N_UnknownTable_init : List Str := ["self", "name"]
theorem ns_UnknownTable_init : NdefX.NScope ([("self" : Str), ("name" : Str)] ++ [("__class__" : Str)]) [("self" : Str), ("name" : Str)] [("__class__" : Str)] df_UnknownTable_init.scope := NdefX.nscope_by (by decide +kernel)
abbrev st_Schema_getitem : Stmt := inC 21 9
def df_Schema_getitem : DfX := ⟨fun K => He.ma K (He.ga K "Schema") "__getitem__", "__getitem__", "Schema.__getitem__", defArgs st_Schema_getitem, defBody st_Schema_getitem, defScope st_Schema_getitem, [], [], false⟩
abbrev N_Schema_getitem : List Str := ["self", "name", "table"]
theorem sc_Schema_getitem : FnScope N_Schema_getitem ((["self", "name"] : List Str)) df_Schema_getitem.scope := ⟨rfl, rfl, rfl, by decide +kernel, rfl, by decide +kernel, by decide +kernel⟩
abbrev st_Columns_contains : Stmt := inC 14 5
def df_Columns_contains : DfX := ⟨fun K => He.ma K (He.ga K "Columns") "__contains__", "__contains__", "Columns.__contains__", defArgs st_Columns_contains, defBody st_Columns_contains, defScope st_Columns_contains, [], [], false⟩
abbrev N_Columns_contains : List Str := ["self", "name"]
theorem sc_Columns_contains : FnScope N_Columns_contains ((["self", "name"] : List Str)) df_Columns_contains.scope := ⟨rfl, rfl, rfl, by decide +kernel, rfl, by decide +kernel, by decide +kernel⟩
abbrev st_Table_clash : Stmt := inC 18 2
def df_Table_clash : DfX := ⟨fun K => He.ma K (He.ga K "Table") "clash", "clash", "Table.clash", defArgs st_Table_clash, defBody st_Table_clash, defScope st_Table_clash, [], [], false⟩
abbrev N_Table_clash : List Str := ["self", "rows", "row", "other", "key", "at", "name"]
theorem sc_Table_clash : FnScope N_Table_clash ((["self", "rows", "row"] : List Str)) df_Table_clash.scope := ⟨rfl, rfl, rfl, by decide +kernel, rfl, by decide +kernel, by decide +kernel⟩
abbrev st_Columns_and : Stmt := inC 14 10
def df_Columns_and : DfX := ⟨fun K => He.ma K (He.ga K "Columns") "__and__", "__and__", "Columns.__and__", defArgs st_Columns_and, defBody st_Columns_and, defScope st_Columns_and, [], [], false⟩
abbrev N_Columns_and : List Str := ["self", "other", "names", "name"]
theorem sc_Columns_and : FnScope N_Columns_and ((["self", "other"] : List Str)) df_Columns_and.scope := ⟨rfl, rfl, rfl, by decide +kernel, rfl, by decide +kernel, by decide +kernel⟩
abbrev st_Schema_iter : Stmt := inC 21 6
def df_Schema_iter : DfX := ⟨fun K => He.ma K (He.ga K "Schema") "__iter__", "__iter__", "Schema.__iter__", defArgs st_Schema_iter, defBody st_Schema_iter, defScope st_Schema_iter, [], [], false⟩
abbrev N_Schema_iter : List Str := ["self"]
theorem sc_Schema_iter : FnScope N_Schema_iter ((["self"] : List Str)) df_Schema_iter.scope := ⟨rfl, rfl, rfl, by decide +kernel, rfl, by decide +kernel, by decide +kernel⟩
abbrev st_Columns_or : Stmt := inC 14 9
def df_Columns_or : DfX := ⟨fun K => He.ma K (He.ga K "Columns") "__or__", "__or__", "Columns.__or__", defArgs st_Columns_or, defBody st_Columns_or, defScope st_Columns_or, [], [], false⟩
abbrev N_Columns_or : List Str := ["self", "other", "names"]
theorem sc_Columns_or : FnScope N_Columns_or ((["self", "other"] : List Str)) df_Columns_or.scope := ⟨rfl, rfl, rfl, by decide +kernel, rfl, by decide +kernel, by decide +kernel⟩
abbrev st_reach : Stmt := top 17
def df_reach : DfX := ⟨fun K => He.ga K "reach", "reach", "reach", defArgs st_reach, defBody st_reach, defScope st_reach, [], [], false⟩
abbrev N_reach : List Str := ["columns", "tables", "reached", "grown", "table", "key"]
theorem sc_reach : FnScope N_reach ((["columns", "tables"] : List Str)) df_reach.scope := ⟨rfl, rfl, rfl, by decide +kernel, rfl, by decide +kernel, by decide +kernel⟩
abbrev st_is_independent : Stmt := top 24
def df_is_independent : DfX := ⟨fun K => He.ga K "is_independent", "is_independent", "is_independent", defArgs st_is_independent, defBody st_is_independent, defScope st_is_independent, [], [], false⟩
abbrev N_is_independent : List Str := ["schema", "broken", "others", "start", "reached", "key", "table"]
theorem sc_is_independent : FnScope N_is_independent ((["schema"] : List Str)) df_is_independent.scope := ⟨rfl, rfl, rfl, by decide +kernel, rfl, by decide +kernel, by decide +kernel⟩
abbrev st_check_independent : Stmt := top 30
def df_check_independent : DfX := ⟨fun K => He.ga K "check_independent", "check_independent", "check_independent", defArgs st_check_independent, defBody st_check_independent, defScope st_check_independent, [], [], false⟩
abbrev N_check_independent : List Str := ["schema"]
theorem sc_check_independent : FnScope N_check_independent ((["schema"] : List Str)) df_check_independent.scope := ⟨rfl, rfl, rfl, by decide +kernel, rfl, by decide +kernel, by decide +kernel⟩
abbrev st_may_put : Stmt := top 31
def df_may_put : DfX := ⟨fun K => He.ga K "may_put", "may_put", "may_put", defArgs st_may_put, defBody st_may_put, defScope st_may_put, [], [], false⟩
abbrev N_may_put : List Str := ["schema", "name", "rows", "row", "table", "one"]
theorem sc_may_put : FnScope N_may_put ((["schema", "name", "rows", "row"] : List Str)) df_may_put.scope := ⟨rfl, rfl, rfl, by decide +kernel, rfl, by decide +kernel, by decide +kernel⟩
abbrev st__law_refused : Stmt := top 52
def df__law_refused : DfX := ⟨fun K => He.ga K "_law_refused", "_law_refused", "_law_refused", defArgs st__law_refused, defBody st__law_refused, defScope st__law_refused, [], [], false⟩
abbrev N__law_refused : List Str := ["_law_schema_here", "_law_label", "_law_rows", "_law_row", "e"]
theorem sc__law_refused : FnScope N__law_refused ((["_law_schema_here", "_law_label", "_law_rows", "_law_row"] : List Str)) df__law_refused.scope := ⟨rfl, rfl, rfl, by decide +kernel, rfl, by decide +kernel, by decide +kernel⟩
abbrev st__law_chain : Stmt := top 49
def df__law_chain : DfX := ⟨fun K => He.ga K "_law_chain", "_law_chain", "_law_chain", defArgs st__law_chain, defBody st__law_chain, defScope st__law_chain, [], [], false⟩
abbrev N__law_chain : List Str := ["_law_pool_here", "_law_names_here", "_law_labels_here", "_law_most", "_law_many", "_law_tables_here", "_law_k", "_law_pair", "_law_columns"]
theorem sc__law_chain : FnScope N__law_chain ((["_law_pool_here", "_law_names_here", "_law_labels_here", "_law_most"] : List Str)) df__law_chain.scope := ⟨rfl, rfl, rfl, by decide +kernel, rfl, by decide +kernel, by decide +kernel⟩
abbrev st__law_fresh : Stmt := top 38
def df__law_fresh : DfX := ⟨fun K => He.ga K "_law_fresh", "_law_fresh", "_law_fresh", defArgs st__law_fresh, defBody st__law_fresh, defScope st__law_fresh, [], [], false⟩
abbrev N__law_fresh : List Str := ["_law_pool_here", "_law_names_here", "_law_tables_here", "_law_seen", "_law_key", "_law_k", "_law_columns", "_law_at", "_law_name", "_law_table"]
theorem sc__law_fresh : FnScope N__law_fresh ((["_law_pool_here", "_law_names_here", "_law_tables_here"] : List Str)) df__law_fresh.scope := ⟨rfl, rfl, rfl, by decide +kernel, rfl, by decide +kernel, by decide +kernel⟩
abbrev st__law_within : Stmt := top 36
def df__law_within : DfX := ⟨fun K => He.ga K "_law_within", "_law_within", "_law_within", defArgs st__law_within, defBody st__law_within, defScope st__law_within, [], [], false⟩
abbrev N__law_within : List Str := ["_law_some", "_law_others", "_law_name"]
theorem sc__law_within : FnScope N__law_within ((["_law_some", "_law_others"] : List Str)) df__law_within.scope := ⟨rfl, rfl, rfl, by decide +kernel, rfl, by decide +kernel, by decide +kernel⟩
abbrev st__law_keys : Stmt := top 39
def df__law_keys : DfX := ⟨fun K => He.ga K "_law_keys", "_law_keys", "_law_keys", defArgs st__law_keys, defBody st__law_keys, defScope st__law_keys, [], [], false⟩
abbrev N__law_keys : List Str := ["_law_pool_here", "_law_columns", "_law_key", "_law_room", "_law_keys_here", "_law_k", "_law_other", "_law_near", "_law_name", "_law_one"]
theorem sc__law_keys : FnScope N__law_keys ((["_law_pool_here", "_law_columns", "_law_key", "_law_room"] : List Str)) df__law_keys.scope := ⟨rfl, rfl, rfl, by decide +kernel, rfl, by decide +kernel, by decide +kernel⟩
abbrev st__law_wild : Stmt := top 37
def df__law_wild : DfX := ⟨fun K => He.ga K "_law_wild", "_law_wild", "_law_wild", defArgs st__law_wild, defBody st__law_wild, defScope st__law_wild, [], [], false⟩
abbrev N__law_wild : List Str := ["_law_pool_here", "_law_names_here", "_law_columns", "_law_name", "_law_key"]
theorem sc__law_wild : FnScope N__law_wild ((["_law_pool_here", "_law_names_here"] : List Str)) df__law_wild.scope := ⟨rfl, rfl, rfl, by decide +kernel, rfl, by decide +kernel, by decide +kernel⟩
abbrev st__law_tables : Stmt := top 40
def df__law_tables : DfX := ⟨fun K => He.ga K "_law_tables", "_law_tables", "_law_tables", defArgs st__law_tables, defBody st__law_tables, defScope st__law_tables, [], [], false⟩
abbrev N__law_tables : List Str := ["_law_pool_here", "_law_names_here", "_law_labels_here", "_law_most", "_law_wild_here", "_law_many", "_law_room", "_law_tables_here", "_law_k", "_law_keys_here", "_law_made"]
theorem sc__law_tables : FnScope N__law_tables ((["_law_pool_here", "_law_names_here", "_law_labels_here", "_law_most"] : List Str)) df__law_tables.scope := ⟨rfl, rfl, rfl, by decide +kernel, rfl, by decide +kernel, by decide +kernel⟩
abbrev st__law_schema : Stmt := top 50
def df__law_schema : DfX := ⟨fun K => He.ga K "_law_schema", "_law_schema", "_law_schema", defArgs st__law_schema, defBody st__law_schema, defScope st__law_schema, [], [], false⟩
abbrev N__law_schema : List Str := ["_law_pool_here", "_law_names_here", "_law_labels_here", "_law_most", "_law_tables_here", "_law_kind", "_law_table", "_law_key", "_law_one", "_law_columns", "_law_name"]
theorem sc__law_schema : FnScope N__law_schema ((["_law_pool_here", "_law_names_here", "_law_labels_here", "_law_most"] : List Str)) df__law_schema.scope := ⟨rfl, rfl, rfl, by decide +kernel, rfl, by decide +kernel, by decide +kernel⟩
abbrev st__law_reach : Stmt := top 42
def df__law_reach : DfX := ⟨fun K => He.ga K "_law_reach", "_law_reach", "_law_reach", defArgs st__law_reach, defBody st__law_reach, defScope st__law_reach, [], [], false⟩
abbrev N__law_reach : List Str := ["_law_columns", "_law_tables_here", "_law_reached", "_law_turn", "_law_table", "_law_key", "_law_name"]
theorem sc__law_reach : FnScope N__law_reach ((["_law_columns", "_law_tables_here"] : List Str)) df__law_reach.scope := ⟨rfl, rfl, rfl, by decide +kernel, rfl, by decide +kernel, by decide +kernel⟩
abbrev st__law_independent : Stmt := top 43
def df__law_independent : DfX := ⟨fun K => He.ga K "_law_independent", "_law_independent", "_law_independent", defArgs st__law_independent, defBody st__law_independent, defScope st__law_independent, [], [], false⟩
abbrev N__law_independent : List Str := ["_law_tables_here", "_law_broken", "_law_others", "_law_start", "_law_reached", "_law_key", "_law_table", "_law_more", "_law_name"]
theorem sc__law_independent : FnScope N__law_independent ((["_law_tables_here"] : List Str)) df__law_independent.scope := ⟨rfl, rfl, rfl, by decide +kernel, rfl, by decide +kernel, by decide +kernel⟩
abbrev st__law_sound : Stmt := top 51
def df__law_sound : DfX := ⟨fun K => He.ga K "_law_sound", "_law_sound", "_law_sound", defArgs st__law_sound, defBody st__law_sound, defScope st__law_sound, [], [], false⟩
abbrev N__law_sound : List Str := ["_law_tables_here", "_law_kept", "_law_table"]
theorem sc__law_sound : FnScope N__law_sound ((["_law_tables_here"] : List Str)) df__law_sound.scope := ⟨rfl, rfl, rfl, by decide +kernel, rfl, by decide +kernel, by decide +kernel⟩
abbrev st__law_text : Stmt := top 41
def df__law_text : DfX := ⟨fun K => He.ga K "_law_text", "_law_text", "_law_text", defArgs st__law_text, defBody st__law_text, defScope st__law_text, [], [], false⟩
abbrev N__law_text : List Str := ["_law_tables_here", "_law_lines", "_law_table", "_law_parts", "_law_key", "_law_name"]
theorem sc__law_text : FnScope N__law_text ((["_law_tables_here"] : List Str)) df__law_text.scope := ⟨rfl, rfl, rfl, by decide +kernel, rfl, by decide +kernel, by decide +kernel⟩
abbrev st_law : Stmt := top 53
def df_law : DfX := ⟨fun K => He.ga K "law", "law", "law", defArgs st_law, defBody st_law, defScope st_law, [], [], false⟩
abbrev N_law : List Str := ["_law_script", "_law_pool_here", "_law_names_here", "_law_tables_here", "_law_schema_here", "_law_table", "_law_rows", "_law_cells", "_law_row", "_law_kept", "_law_bad", "_law_word", "_law_name"]
theorem sc_law : FnScope N_law ((["_law_script"] : List Str)) df_law.scope := ⟨rfl, rfl, rfl, by decide +kernel, rfl, by decide +kernel, by decide +kernel⟩
/-- what of the text the defs ask -/
def fileX : Str := PySem.Challenge.pw_aloneright_k27_puts_by_one_table.main.file
structure TX (P : Program) (K : Fr') (mg : Str → Option Value) where
  C_Columns : Addr
  C_InvalidRow : Addr
  C_Schema : Addr
  C_Table : Addr
  C_UnknownTable : Addr
  a_Columns_and : Addr
  a_Columns_contains : Addr
  a_Columns_init : Addr
  a_Columns_le : Addr
  a_Columns_len : Addr
  a_Columns_or : Addr
  a_Columns_read : Addr
  a_Columns_text : Addr
  a_Schema_add : Addr
  a_Schema_getitem : Addr
  a_Schema_init : Addr
  a_Schema_iter : Addr
  a_Schema_read : Addr
  a_Table_clash : Addr
  a_Table_init : Addr
  a_Table_text : Addr
  a__law_chain : Addr
  a__law_clash : Addr
  a__law_draw : Addr
  a__law_filling : Addr
  a__law_flag : Addr
  a__law_fresh : Addr
  a__law_independent : Addr
  a__law_keys : Addr
  a__law_labels : Addr
  a__law_names : Addr
  a__law_pool : Addr
  a__law_reach : Addr
  a__law_refused : Addr
  a__law_schema : Addr
  a__law_sound : Addr
  a__law_tables : Addr
  a__law_text : Addr
  a__law_values : Addr
  a__law_wild : Addr
  a__law_within : Addr
  a_check_independent : Addr
  a_is_independent : Addr
  a_is_name : Addr
  a_law : Addr
  a_may_put : Addr
  a_reach : Addr
  a_read_table : Addr
  p_Columns_read : Addr
  p_Schema_read : Addr
  C_TableError : Addr
  a_Table_add : Addr
  a_InvalidRow_init : Addr
  a_UnknownTable_init : Addr
  b_abs : mg "abs" = none
  b_all : mg "all" = none
  b_any : mg "any" = none
  b_bool : mg "bool" = none
  b_enumerate : mg "enumerate" = none
  b_int : mg "int" = none
  b_isinstance : mg "isinstance" = none
  b_iter : mg "iter" = none
  b_len : mg "len" = none
  b_list : mg "list" = none
  b_min : mg "min" = none
  b_range : mg "range" = none
  b_set : mg "set" = none
  b_sorted : mg "sorted" = none
  b_str : mg "str" = none
  b_sum : mg "sum" = none
  b_super : mg "super" = none
  b_tuple : mg "tuple" = none
  c_Columns : Cls K C_Columns
  c_Schema : Cls K C_Schema
  c_Table : Cls K C_Table
  cm_Columns_read : ClX.CMet K C_Columns (.type "type") "read" p_Columns_read a_Columns_read
  cm_Schema_read : ClX.CMet K C_Schema (.type "type") "read" p_Schema_read a_Schema_read
  cr_Columns : ClX.CRead K C_Columns (.type "type")
  cr_Schema : ClX.CRead K C_Schema (.type "type")
  cv_Schema_MOST_COLUMNS : ∃ u, ClX.CVal K C_Schema (.type "type") "MOST_COLUMNS" (.int 8) u
  cv_Schema_MOST_KEYS : ∃ u, ClX.CVal K C_Schema (.type "type") "MOST_KEYS" (.int 8) u
  cv_Schema_MOST_TABLES : ∃ u, ClX.CVal K C_Schema (.type "type") "MOST_TABLES" (.int 6) u
  d_Columns_and : FunX K df_Columns_and a_Columns_and
  d_Columns_contains : FunX K df_Columns_contains a_Columns_contains
  d_Columns_init : FunX K df_Columns_init a_Columns_init
  d_Columns_le : FunX K df_Columns_le a_Columns_le
  d_Columns_len : FunX K df_Columns_len a_Columns_len
  d_Columns_or : FunX K df_Columns_or a_Columns_or
  d_Columns_read : FunX K df_Columns_read a_Columns_read
  d_Columns_text : FunX K df_Columns_text a_Columns_text
  d_Schema_add : FunX K df_Schema_add a_Schema_add
  d_Schema_getitem : FunX K df_Schema_getitem a_Schema_getitem
  d_Schema_init : FunX K df_Schema_init a_Schema_init
  d_Schema_iter : FunX K df_Schema_iter a_Schema_iter
  d_Schema_read : FunX K df_Schema_read a_Schema_read
  d_Table_clash : FunX K df_Table_clash a_Table_clash
  d_Table_init : FunX K df_Table_init a_Table_init
  d_Table_text : FunX K df_Table_text a_Table_text
  d__law_chain : FunX K df__law_chain a__law_chain
  d__law_clash : FunX K df__law_clash a__law_clash
  d__law_draw : FunX K df__law_draw a__law_draw
  d__law_filling : FunX K df__law_filling a__law_filling
  d__law_flag : FunX K df__law_flag a__law_flag
  d__law_fresh : FunX K df__law_fresh a__law_fresh
  d__law_independent : FunX K df__law_independent a__law_independent
  d__law_keys : FunX K df__law_keys a__law_keys
  d__law_labels : FunX K df__law_labels a__law_labels
  d__law_names : FunX K df__law_names a__law_names
  d__law_pool : FunX K df__law_pool a__law_pool
  d__law_reach : FunX K df__law_reach a__law_reach
  d__law_refused : FunX K df__law_refused a__law_refused
  d__law_schema : FunX K df__law_schema a__law_schema
  d__law_sound : FunX K df__law_sound a__law_sound
  d__law_tables : FunX K df__law_tables a__law_tables
  d__law_text : FunX K df__law_text a__law_text
  d__law_values : FunX K df__law_values a__law_values
  d__law_wild : FunX K df__law_wild a__law_wild
  d__law_within : FunX K df__law_within a__law_within
  d_check_independent : FunX K df_check_independent a_check_independent
  d_is_independent : FunX K df_is_independent a_is_independent
  d_is_name : FunX K df_is_name a_is_name
  d_law : FunX K df_law a_law
  d_may_put : FunX K df_may_put a_may_put
  d_reach : FunX K df_reach a_reach
  d_read_table : FunX K df_read_table a_read_table
  g_DIGITS : ∃ t, mg "DIGITS" = some (.str "0123456789" t)
  g_LETTERS : ∃ t, mg "LETTERS" = some (.str "abcdefghijklmnopqrstuvwxyz" t)
  g_LONGEST : ∃ t, mg "LONGEST" = some (.int 8 t)
  g_MOST : ∃ t, mg "MOST" = some (.int 8 t)
  k__law_chain : PySem.W.keepIn K (.ref a__law_chain) = true
  k__law_clash : PySem.W.keepIn K (.ref a__law_clash) = true
  k__law_draw : PySem.W.keepIn K (.ref a__law_draw) = true
  k__law_filling : PySem.W.keepIn K (.ref a__law_filling) = true
  k__law_flag : PySem.W.keepIn K (.ref a__law_flag) = true
  k__law_fresh : PySem.W.keepIn K (.ref a__law_fresh) = true
  k__law_independent : PySem.W.keepIn K (.ref a__law_independent) = true
  k__law_keys : PySem.W.keepIn K (.ref a__law_keys) = true
  k__law_labels : PySem.W.keepIn K (.ref a__law_labels) = true
  k__law_names : PySem.W.keepIn K (.ref a__law_names) = true
  k__law_pool : PySem.W.keepIn K (.ref a__law_pool) = true
  k__law_reach : PySem.W.keepIn K (.ref a__law_reach) = true
  k__law_refused : PySem.W.keepIn K (.ref a__law_refused) = true
  k__law_schema : PySem.W.keepIn K (.ref a__law_schema) = true
  k__law_sound : PySem.W.keepIn K (.ref a__law_sound) = true
  k__law_tables : PySem.W.keepIn K (.ref a__law_tables) = true
  k__law_text : PySem.W.keepIn K (.ref a__law_text) = true
  k__law_values : PySem.W.keepIn K (.ref a__law_values) = true
  k__law_wild : PySem.W.keepIn K (.ref a__law_wild) = true
  k__law_within : PySem.W.keepIn K (.ref a__law_within) = true
  k_check_independent : PySem.W.keepIn K (.ref a_check_independent) = true
  k_is_independent : PySem.W.keepIn K (.ref a_is_independent) = true
  k_is_name : PySem.W.keepIn K (.ref a_is_name) = true
  k_may_put : PySem.W.keepIn K (.ref a_may_put) = true
  k_reach : PySem.W.keepIn K (.ref a_reach) = true
  k_read_table : PySem.W.keepIn K (.ref a_read_table) = true
  m_Columns : mg "Columns" = some (.ref C_Columns)
  m_InvalidRow : mg "InvalidRow" = some (.ref C_InvalidRow)
  m_Schema : mg "Schema" = some (.ref C_Schema)
  m_Table : mg "Table" = some (.ref C_Table)
  m_TableError : mg "TableError" = some (.ref C_TableError)
  m_UnknownTable : mg "UnknownTable" = some (.ref C_UnknownTable)
  m__law_chain : mg "_law_chain" = some (.ref a__law_chain)
  m__law_clash : mg "_law_clash" = some (.ref a__law_clash)
  m__law_draw : mg "_law_draw" = some (.ref a__law_draw)
  m__law_filling : mg "_law_filling" = some (.ref a__law_filling)
  m__law_flag : mg "_law_flag" = some (.ref a__law_flag)
  m__law_fresh : mg "_law_fresh" = some (.ref a__law_fresh)
  m__law_independent : mg "_law_independent" = some (.ref a__law_independent)
  m__law_keys : mg "_law_keys" = some (.ref a__law_keys)
  m__law_labels : mg "_law_labels" = some (.ref a__law_labels)
  m__law_names : mg "_law_names" = some (.ref a__law_names)
  m__law_pool : mg "_law_pool" = some (.ref a__law_pool)
  m__law_reach : mg "_law_reach" = some (.ref a__law_reach)
  m__law_refused : mg "_law_refused" = some (.ref a__law_refused)
  m__law_schema : mg "_law_schema" = some (.ref a__law_schema)
  m__law_sound : mg "_law_sound" = some (.ref a__law_sound)
  m__law_tables : mg "_law_tables" = some (.ref a__law_tables)
  m__law_text : mg "_law_text" = some (.ref a__law_text)
  m__law_values : mg "_law_values" = some (.ref a__law_values)
  m__law_wild : mg "_law_wild" = some (.ref a__law_wild)
  m__law_within : mg "_law_within" = some (.ref a__law_within)
  m_check_independent : mg "check_independent" = some (.ref a_check_independent)
  m_is_independent : mg "is_independent" = some (.ref a_is_independent)
  m_is_name : mg "is_name" = some (.ref a_is_name)
  m_law : mg "law" = some (.ref a_law)
  m_may_put : mg "may_put" = some (.ref a_may_put)
  m_reach : mg "reach" = some (.ref a_reach)
  m_read_table : mg "read_table" = some (.ref a_read_table)
  me_Columns_and : Meth K C_Columns "__and__" a_Columns_and
  me_Columns_contains : Meth K C_Columns "__contains__" a_Columns_contains
  me_Columns_le : Meth K C_Columns "__le__" a_Columns_le
  me_Columns_len : Meth K C_Columns "__len__" a_Columns_len
  me_Columns_or : Meth K C_Columns "__or__" a_Columns_or
  me_Columns_text : Meth K C_Columns "text" a_Columns_text
  me_Schema_add : Meth K C_Schema "__add__" a_Schema_add
  me_Schema_getitem : Meth K C_Schema "__getitem__" a_Schema_getitem
  me_Schema_iter : Meth K C_Schema "__iter__" a_Schema_iter
  me_Table_add : Meth K C_Table "__add__" a_Table_add
  me_Table_clash : Meth K C_Table "clash" a_Table_clash
  me_Table_text : Meth K C_Table "text" a_Table_text
  mk_Columns : Mk K C_Columns a_Columns_init
  mk_Schema : Mk K C_Schema a_Schema_init
  mk_Table : Mk K C_Table a_Table_init
  na_Columns_names : NoAttr K C_Columns "names"
  na_InvalidRow_name : NoAttr K C_InvalidRow "name"
  na_Schema_columns : NoAttr K C_Schema "columns"
  na_Schema_names : NoAttr K C_Schema "names"
  na_Schema_tables : NoAttr K C_Schema "tables"
  na_Table_columns : NoAttr K C_Table "columns"
  na_Table_key_sets : NoAttr K C_Table "key_sets"
  na_Table_name : NoAttr K C_Table "name"
  na_Table_names : NoAttr K C_Table "names"
  na_UnknownTable_name : NoAttr K C_UnknownTable "name"
  ne_Schema_Table : C_Schema ≠ C_Table
  nf_Columns_Columns : PySem.W.notFirst K C_Columns (.ref C_Columns) = true
  nr_Schema : PySem.W.findIn K (.ref C_Schema) "__radd__" = some none
  nr_Table : PySem.W.findIn K (.ref C_Table) "__radd__" = some none
  pf : P.main.file = fileX
  pt : (P.main.scope.names.lookup ("super" : Str)).isSome = false
  sb_Table_Schema : PySem.W.subIn K (.ref C_Table) (.ref C_Schema) = some false
  sf_Columns : PySem.W.selfFirst K C_Columns = true
  sf_Schema : PySem.W.selfFirst K C_Schema = true
  sf_Table : PySem.W.selfFirst K C_Table = true
  x_InvalidRow : ExK K C_InvalidRow a_InvalidRow_init
  x_UnknownTable : ExK K C_UnknownTable a_UnknownTable_init
  xf_InvalidRow : ∃ cc c fd, ExF K fileX C_InvalidRow a_InvalidRow_init ⟨df_InvalidRow_init.name, df_InvalidRow_init.qual, df_InvalidRow_init.params, df_InvalidRow_init.body, df_InvalidRow_init.scope, [(("__class__" : Str), cc)], c⟩ cc fd
  xf_UnknownTable : ∃ cc c fd, ExF K fileX C_UnknownTable a_UnknownTable_init ⟨df_UnknownTable_init.name, df_UnknownTable_init.qual, df_UnknownTable_init.params, df_UnknownTable_init.body, df_UnknownTable_init.scope, [(("__class__" : Str), cc)], c⟩ cc fd
  xm_InvalidRow_InvalidRow : PySem.W.exmOne K (.ref C_InvalidRow) (.ref C_InvalidRow) = some true
  xm_InvalidRow_TableError : PySem.W.exmOne K (.ref C_InvalidRow) (.ref C_TableError) = some true
  xm_InvalidRow_UnknownTable : PySem.W.exmOne K (.ref C_InvalidRow) (.ref C_UnknownTable) = some false
  xm_UnknownTable_TableError : PySem.W.exmOne K (.ref C_UnknownTable) (.ref C_TableError) = some true
  xm_UnknownTable_UnknownTable : PySem.W.exmOne K (.ref C_UnknownTable) (.ref C_UnknownTable) = some true
  xr_InvalidRow : XfC K C_InvalidRow
  xr_UnknownTable : XfC K C_UnknownTable
@[reducible] def rx {P : Program} {K : Fr'} {mg : Str → Option Value} (T : TX P K mg) : RXT := fun e c d G => match e with
  | .uTable x => Ex1 T.C_UnknownTable "name" tStr x c d G
  | .iRow x => Ex1 T.C_InvalidRow "name" tStr x c d G
  | _ => False
theorem rxup {P : Program} {K : Fr'} {mg : Str → Option Value} (T : TX P K mg) : RXup (rx T) := fun e c d G G' s r => by
  cases e <;> first | exact Ex1.up s r | exact Ex2.up s r | exact r.elim
section
variable {P : Program} {w : World} {K : PySem.W.Frag} {mg : Str → Option Value} {base : Heap}
end
end Lw

namespace Lw
open PySem PySem.Spec PyProof.Rows L2 SlX StX Ax
section
variable {P : Program} {w : World} {K : PySem.W.Frag} {mg : Str → Option Value} {base : Heap}
/-! is_name -/
theorem ok_is_name (T : TX P K mg) : FnR P w K mg base (L2.CX P w) 1 T.a_is_name (spX (fun (x : Str) vs _ => vs = [.str x] ∧ x.length ≤ 1000) (fun x v _ => v = .bl (isNm x)) NoX) := by
  refine fnR_of T.d_is_name sc_is_name (fun _ _ _ _ _ _ us hl => match us, hl with | [_], _ => rfl) (spX_len fun a vs G h => by rw [h.1]; rfl) fun cdv A outer s H vs Q E hr hsp => ?_
  obtain ⟨x, G, hG, ⟨rfl, hx⟩, hQ, _⟩ := hsp
  refine ⟨_, (pss_cons (ps_if (PW.pt (pw_or (pt_cmpR (op_eqK (K := K) rfl hr.units) (pv 0) pe_str (nomark _)) (pw_or (pt_cmpR op_gt (pe_callB (call_lenK (K := K) rfl) rfl T.b_len (by decide +kernel) (pa_cons (pv 0) pa_nil)) (pe_gi rfl T.g_LONGEST) (nomark _)) (pw_or1 (pt_cmpR (op_niK (K := K) rfl hr.units) (pe_ix (ix_K (K := K) rfl) (pv 0) pe_int (fun _ _ => rfl)) (pe_gc rfl T.g_LETTERS) rfl))))) (pss_one (ps_ret pe_bl)) pss_nil)
    (pss_one (ps_ret (pe_callB (cr_allK (K := K) rfl rfl) rfl T.b_all (by decide +kernel) (pa_cons (pe_lc (own := [("sign", 1)]) rfl sc_is_name.nd (pi_str (pv 0)) (blkOk_by (own := [("sign", 1)]) (N := N_is_name) (sc := df_is_name.scope) (by decide +kernel)) (fun _ _ _ _ _ => (pg_name (i := 1) sc_is_name.nd rfl (by first | exact Or.inl rfl | exact Or.inr rfl))) (fun _ _ _ _ _ => pts_nil) (fun _ _ _ _ _ => (pe_or (pe_cmpR (op_inK (K := K) rfl hr.units) (pv 1) (pe_gc rfl T.g_LETTERS) rfl) (pe_one (pe_cmpR (op_inK (K := K) rfl hr.units) (pv 1) (pe_gc rfl T.g_DIGITS) rfl))))) pa_nil))))), ?_⟩
  have N : Nx G H G H := Nx.refl hG
  have hQ : ∀ G' H', Nx G H G' H' → Q (.bl (isNm x)) H' := fun G' H' n => hQ _ G' H' n rfl
  have no : isNm x = false → Q (.bl false) H := fun e => by have z := hQ G H N; rw [e] at z; exact z
  have nl : ¬ x.length ≤ 8 → isNm x = false := fun e => by
    cases h : isNm x with
    | false => rfl
    | true => exact absurd (isNm_iff h).2.2.2 e
  got_up
  refine t_if (fun e => ?_) (fun e => ?_)
  · refine iteT ?_
    got_up
    have e := of_decide_eq_true e
    subst e
    exact no rfl
  · got_up
    refine len_s (by omega) ?_
    got_up
    refine t_if (fun e => ?_) (fun e1 => ?_)
    · refine iteT ?_
      got_up
      exact no (nl (by have := of_decide_eq_true e; omega))
    · have hl : x.length ≤ 8 := by have := of_decide_eq_false e1; omega
      obtain ⟨c, r, ec⟩ : ∃ c r, x.cps.toList = c :: r := by
        cases q : x.cps.toList with
        | cons c r => exact ⟨c, r, rfl⟩
        | nil =>
          have z : x = "" := by
            cases x with
            | mk a => exact congrArg Str.mk (Array.toList_eq_nil_iff.mp q)
          exact absurd z (of_decide_eq_false e)
      got_up
      refine ix_s (c := c) (by omega) (by rw [ec]; exact atI_nat (i := 0) rfl) ?_
      got_up
      refine t_if (fun e2 => ?_) (fun e2 => ?_)
      · got_up
        refine no ?_
        unfold isNm
        rw [ec]
        show (decide (r.length < 8) && (lowB c && (c :: r).all alnB)) = false
        rw [show lowB c = false from nlow e2, Bool.false_and, Bool.and_false]
      · got_up
        refine ⟨x, rfl, ?_⟩
        refine lcb (zs := x.cps.toList) (p := fun _ => true) (R := fun c v _ => v = .bl (alnB c)) (src_str (z := x)) N (by simp) (by rw [← Str.length]; omega) (fun _ _ _ _ _ h => h) ?_ ?_
        · rintro i z v G' H' hz s1 s2 ⟨c', hc', rfl⟩
          have hzc : c' = z := by rw [Array.getElem?_toList] at hz; rw [hc'] at hz; exact Option.some.inj hz
          subst hzc
          refine ⟨_, fun Q q => w_gn q, rfl, fun Q q => q G' H' (Nx.refl s2), fun _ G2 H2 s3 s4 Q q => ?_⟩
          got_up
          refine t_if (fun e => ?_) (fun e => ?_)
          · exact q _ G2 H2 (Nx.refl s4) (by unfold alnB; rw [e]; rfl)
          · got_up
            exact q _ G2 H2 (Nx.refl s4) (by unfold alnB; rw [e, Bool.false_or])
        · intro D L G' H' N' n' hD gD h0 hA
          rw [flt_true] at hA
          have hL := All2.eq hA
          subst hL
          got_up
          refine ⟨D, x.cps.toList.map alnB, rfl, sqL (by rw [List.map_map]; exact hD), ?_⟩
          have hq := hQ G' H' N'
          have hv : isNm x = ((x.cps.toList.map alnB).all id) := by
            unfold isNm
            rw [ec]
            have hr8 : r.length < 8 := by
              have := Ax.toList_len x
              rw [ec] at this
              simp only [List.length_cons] at this
              omega
            have hlc : lowB c = true := nlow' e2
            show (decide (r.length < 8) && (lowB c && (c :: r).all alnB)) = ((c :: r).map alnB).all id
            rw [decide_eq_true hr8, hlc, Bool.true_and, Bool.true_and, List.all_map]
            rfl
          rw [hv] at hq
          exact hq
end
end Lw

namespace Lw
open PySem PySem.Spec PyProof.Rows L2 SlX StX Ax
section
variable {P : Program} {w : World} {K : PySem.W.Frag} {mg : Str → Option Value} {base : Heap}
/-! Columns_init -/
theorem ok_Columns_init (T : TX P K mg) : FnR P w K mg base (L2.CX P w) 5 T.a_Columns_init (spColsInit T.C_Columns) := by
  refine init_star (fun _ _ _ _ _ h => h) (fun ns vs G h => by rw [h.1, List.length_map]; exact sz (by have := h.2.n; omega)) (fnS_of T.d_Columns_init sc_Columns_init (fun _ _ _ _ _ _ us rest hl => match us, rest, hl with | [a], [], _ => rfl | [a], _ :: _, _ => rfl) fun cdv A outer s H vs Q E hr hsp => ?_)
  obtain ⟨ns, a, dx, args, G, Hm, rfl, ⟨t, rest, rfl, ht, rfl, hn⟩, h1, h2, h3, N, hQ, _⟩ := hsp
  refine ⟨_, (pss_cons (ps_for (passes_of rfl) rfl (pi_tupK (K := K) rfl (pv 1)) (pg_name (i := 2) sc_Columns_init.nd rfl (by first | exact Or.inl rfl | exact Or.inr rfl))
    (pss_one (ps_if (pt_not (pt_val (pe_callR (ok_is_name T) (hr.mono (by decide)) T.k_is_name rfl T.m_is_name passL (pa_cons (pv 2) pa_nil)))) (pss_one ps_never) pss_nil)))
    (pss_one (ps_fld (pv 0) (pe_callTy (call_tupleK (K := K) rfl) rfl T.b_tuple (by decide +kernel) (pa_cons (pe_callB (call_sortedK (P := P) (w := w) rfl rfl rfl) rfl T.b_sorted (by decide +kernel) (pa_cons (pe_callTy (call_setK (K := K) (P := P) (w := w) rfl rfl rfl rfl) rfl T.b_set (by decide +kernel) (pa_cons (pv 1) pa_nil)) pa_nil)) pa_nil)) rfl))), ?_⟩
  have hln := hn.n
  got_up
  refine ⟨t, rfl, ⟨_, sqT (N.h _ _ ht)⟩, ?_⟩
  refine frb (src_tup (sqT ht)) N (fun i σ G' H' => ∃ x, σ = [some (.ref a), some (.ref t), x] ∧ H' a = some (.ins T.C_Columns dx []) ∧ G' a = none) ⟨_, rfl, h1, h3⟩ ?_ ?_
  · rintro i v σ' G' H' G2 H2 hi ⟨x, rfl, ha1, ga1⟩ N2 s2 n2 hv
    rw [List.getElem?_map] at hv
    obtain ⟨z, hz, rfl⟩ := Option.map_eq_some_iff.mp hv
    have hz' := hn.ok z (List.mem_of_getElem? hz)
    got_up
    refine cl0 N2 z ⟨rfl, by have := (isNm_iff hz').2.2.2; omega⟩ fun v G3 H3 N3 n3 r => ?_
    obtain rfl : v = .bl (isNm z) := r
    rw [hz']
    got_up
    refine iteF ?_
    got_up
    exact ⟨G3, N3, s2.trans n3.g, _, rfl, n3.e _ _ (n2.e _ _ ha1), n3.hid (n2.e _ _ ha1) (n2.hid ha1 ga1)⟩
  · rintro σ' G' H' ⟨x, rfl, ha1, ga1⟩ N2 s2
    got_up
    refine ⟨t, ns, rfl, .inr (sqT (N2.h _ _ (s2 _ _ ht))), hn.n, fun p hp => ?_⟩
    obtain ⟨G3, H3, e, N3, n3, hs⟩ := nobj N2 hp (SetT P w p (dd ns))
    rw [e]; clear e
    got_up
    refine ⟨p, dd ns, rfl, N3.h _ _ hs, by rw [dd_cset_len]; exact hn.c, fun ys q hy1 hy2 hq => ?_⟩
    rw [cset_dd hy1 hy2]
    obtain ⟨G4, H4, e, N4, n4, hl⟩ := nobj N3 hq (.lst ((cset ns).map V.str))
    rw [e]; clear e
    got_up
    refine ⟨q, _, rfl, .inl ⟨sqL (N4.h _ _ hl), fun u hu => ?_⟩⟩
    obtain ⟨G5, H5, e, N5, n5, hu5⟩ := nobj N4 hu (.tup ((cset ns).map V.str))
    rw [e]; clear e
    have ha5 := n5.e _ _ (n4.e _ _ (n3.e _ _ ha1))
    have ga5 := n5.hid (n4.e _ _ (n3.e _ _ ha1)) (n4.hid (n3.e _ _ ha1) (n3.hid ha1 ga1))
    got_up
    refine ⟨a, _, dx, [], rfl, ha5, T.c_Columns, T.na_Columns_names, by decide, ?_⟩
    obtain ⟨H6, e, N6, ha6⟩ := mobj N5 h2 ga5 (.ins T.C_Columns dx (colsF u))
    show tNext _ _ (upd H5 a (.ins T.C_Columns dx (colsF u)))
    rw [e]; clear e
    got_up
    exact hQ _ G5 H6 N6 ha6 ga5 ⟨u, rfl, hu5⟩
end
end Lw

namespace Lw
open PySem PySem.Spec PyProof.Rows L2 SlX StX Ax
section
variable {P : Program} {w : World} {K : PySem.W.Frag} {mg : Str → Option Value} {base : Heap}
/-! Schema_init -/
def m_Schema_init (tables1 : (List Tbl)) : Mir Sch :=
  (((Mir.lt ([] : (List Str)) fun names2 => (Mir.lt ([] : (List Str)) fun labels3 => (Mir.lt (0 : Int) fun keys4 => (Mir.bindO (Mir.forL (enumFL 1 tables1) (names2, keys4, labels3) fun s5 x6 => (mExt s5.1 (((x6.2).names).filter (fun name8 => (decide (name8 ∉ s5.1)))) fun names7 => (Mir.lt (s5.2.1 + (((x6.2).keys).length : Int)) fun keys9 => (Mir.ifB ((decide ((x6.2).name ∈ s5.2.2)) || (decide ((6 : Int) < x6.1))) Mir.fail (Mir.ifB ((decide ((8 : Int) < ((names7).length : Int))) || (decide ((8 : Int) < keys9))) Mir.fail (mApp s5.2.2 (x6.2).name fun labels10 => (Mir.ret (Out.nx (names7, keys9, labels10))))))))) fun s5 => (((mCols s5.1)).bind fun columns11 => (Mir.ret (Out.nx (Sch.mk (tables1) (s5.1) (columns11))))))))) : Mir (Out Sch Unit))).ini
theorem ok_Schema_init (T : TX P K mg) : FnR P w K mg base (L2.CX P w) 9 T.a_Schema_init (spIni (rx T) T.C_Schema (TyA.lstB (tTbl T.C_Table T.C_Columns)) (schF' T.C_Table T.C_Columns) fun (a : (List Tbl)) => m_Schema_init a) := by
  refine fnIniS (A' := (TyA.one (tTpl (tTbl T.C_Table T.C_Columns)).h)) (Γ0 := fun x dx sa => [.ow (oObj T.C_Schema dx sa) [], .fz (tTpl (tTbl T.C_Table T.C_Columns)) x, .any, .any, .any, .any, .any, .any]) (post := fun dx sa b => [.ow (oObj T.C_Schema dx sa) (schF' T.C_Table T.C_Columns b), .any, .any, .any, .any, .any, .any, .any]) T.d_Schema_init sc_Schema_init (fun _ _ _ _ _ _ us rest hl => match us, rest, hl with | [a], [], _ => rfl | [a], _ :: _, _ => rfl) (by rfl) (starA_lst) (fun {x args G Hm H a dx} h k1 k2 k3 => by obtain ⟨v0, rfl, h0⟩ := h; exact ini_env k1 k2 k3 ⟨⟨v0, rfl, h0⟩, ⟨True.intro, ⟨True.intro, ⟨True.intro, ⟨True.intro, ⟨True.intro, ⟨True.intro, True.intro⟩⟩⟩⟩⟩⟩⟩) (fun e => ini_post e) fun cdv Ar outer s H E hr => ⟨_, (pss_cons (ps_asg (pe_lst pa_nil) (pg_name (i := 2) sc_Schema_init.nd rfl (by first | exact Or.inl rfl | exact Or.inr rfl)))
    (pss_cons (ps_asg (pe_lst pa_nil) (pg_name (i := 3) sc_Schema_init.nd rfl (by first | exact Or.inl rfl | exact Or.inr rfl)))
    (pss_cons (ps_asg pe_int (pg_name (i := 4) sc_Schema_init.nd rfl (by first | exact Or.inl rfl | exact Or.inr rfl)))
    (pss_cons (ps_for (passes_of rfl) rfl (pi_enumS (K := K) true rfl rfl (by decide) (by decide) rfl T.b_enumerate (pa_cons (pv 1) pa_nil)) (pg_tupK (K := K) (n := 2) rfl rfl (pgs_cons (pg_name (i := 5) sc_Schema_init.nd rfl (by first | exact Or.inl rfl | exact Or.inr rfl)) (pgs_cons (pg_name (i := 6) sc_Schema_init.nd rfl (by first | exact Or.inl rfl | exact Or.inr rfl)) pgs_nil)))
    (pss_cons (ps_expr (pe_bm PySem.F.plainAttrs_list PySem.F.slot_list_extend PySem.F.type_list_extend mt_extend (pv 2) (pa_cons (pe_lc (own := [("name", 7)]) rfl sc_Schema_init.nd (pi_tupK (K := K) rfl (pe_fldK (K := K) rfl (pv 6))) (blkOk_by (own := [("name", 7)]) (N := N_Schema_init) (sc := df_Schema_init.scope) (by decide +kernel)) (fun _ _ _ _ _ => (pg_name (i := 7) sc_Schema_init.nd rfl (by first | exact Or.inl rfl | exact Or.inr rfl))) (fun _ _ _ _ _ => (pts_one (pt_cmpR (op_niK (K := K) rfl hr.units) (pv 7) (pv 2) rfl))) (fun _ _ _ _ _ => (pv 7))) pa_nil)))
    (pss_cons (ps_asg (pe_op (op_addK (K := K) rfl) (pv 4) (pe_callB (call_lenK (K := K) rfl) rfl T.b_len (by decide +kernel) (pa_cons (pe_fldK (K := K) rfl (pv 6)) pa_nil))) (pg_name (i := 4) sc_Schema_init.nd rfl (by first | exact Or.inl rfl | exact Or.inr rfl)))
    (pss_cons (ps_if (PW.pt (pw_or (pt_cmpR (op_inK (K := K) rfl hr.units) (pe_fldK (K := K) rfl (pv 6)) (pv 3) rfl) (pw_or1 (pt_cmpR op_gt (pv 5) (ClX.pe_cval (pe_glob (v := .ref T.C_Schema) rfl T.m_Schema rfl)) (nomark _))))) (pss_one ps_never) pss_nil)
    (pss_cons (ps_if (PW.pt (pw_or (pt_cmpR op_gt (pe_callB (call_lenK (K := K) rfl) rfl T.b_len (by decide +kernel) (pa_cons (pv 2) pa_nil)) (ClX.pe_cval (pe_glob (v := .ref T.C_Schema) rfl T.m_Schema rfl)) (nomark _)) (pw_or1 (pt_cmpR op_gt (pv 4) (ClX.pe_cval (pe_glob (v := .ref T.C_Schema) rfl T.m_Schema rfl)) (nomark _))))) (pss_one ps_never) pss_nil)
    (pss_one (ps_expr (pe_bm PySem.F.plainAttrs_list PySem.F.slot_list_append PySem.F.type_list_append mt_append (pv 3) (pa_cons (pe_fldK (K := K) rfl (pv 6)) pa_nil)))))))))
    (pss_cons (ps_fld (pv 0) (pv 1) rfl)
    (pss_cons (ps_fld (pv 0) (pe_callTy (call_tupleK (K := K) rfl) rfl T.b_tuple (by decide +kernel) (pa_cons (pv 2) pa_nil)) rfl)
    (pss_one (ps_fld (pv 0) (pe_makeS1 T.mk_Columns (ok_Columns_init T) (hr.mono (by decide)) rfl T.m_Columns passL (pv 2)) rfl)))))))), fun x dx sa => ?der⟩
  case der => exact ⟨_, (SJ.asgLP (LP.lst (t := tStr) AP.lnil (Nat.le_of_ble_eq_true rfl)) (fun names2 => (SJ.asgLP (LP.lst (t := tStr) AP.lnil (Nat.le_of_ble_eq_true rfl)) (fun labels3 => (SJ.asgP PJ.int (fun keys4 => (SJ.forL (s0 := (names2, keys4, labels3)) (post0 := (fun (s5 : (List Str) × Int × (List Str)) => [.ow (oObj T.C_Schema dx sa) [], .fz (tTpl (tTbl T.C_Table T.C_Columns)) x, .own tStr s5.1, .own tStr s5.2.2, .fz tInt s5.2.1, .any, .any, .any])) (IJf.enumT (k := 1) ((PJ.var rfl)).e) ⟨.inr rfl, .inr rfl, .inr rfl, .inr rfl, .inr rfl, .inl rfl, .inl rfl, .inl rfl, True.intro⟩ (fun s5 x6 => (GJ.tup (TyL.len_cons TyL.len_one) (GJs.cons GJ.name (GJs.one GJ.name))))
   (fun s5 x6 => (SJ.extend rfl (((LP.lcF ((IJf.tup ((PJ.fld fldTblNames T.c_Table T.na_Table_names (PJ.var rfl))).e)).b (fun name8 => GJ.name) (by decide) (fun name8 => (TP.test (PJ.op (OpP.niB EqD.str (Nat.le_of_ble_eq_true rfl)) (PJ.var rfl) (PJ.varB (.inl rfl))))) (fun name8 => (PJ.var rfl)))).bo).e (fun names7 => (SJ.asgP (PJ.op OpP.add (PJ.var rfl) (PJ.call CP.lenT (AP.one (PJ.fld fldTblKeys T.c_Table T.na_Table_key_sets (PJ.var rfl))))) (fun keys9 => (SJ.guard (TP.or (TP.test (PJ.op (OpP.inB EqD.str (Nat.le_of_ble_eq_true rfl)) (PJ.fld fldTblName T.c_Table T.na_Table_name (PJ.var rfl)) (PJ.varB (.inl rfl)))) (TP.test (PJ.op OpP.gt (PJ.var rfl) (PJ.cval T.cr_Schema T.cv_Schema_MOST_TABLES)))) SJ.never (SJ.guard (TP.or (TP.test (PJ.op OpP.gt (PJ.call CP.lenB (AP.one (PJ.varB (.inl rfl)))) (PJ.cval T.cr_Schema T.cv_Schema_MOST_COLUMNS))) (TP.test (PJ.op OpP.gt (PJ.var rfl) (PJ.cval T.cr_Schema T.cv_Schema_MOST_KEYS)))) SJ.never (SJ.last (SJ.appendP rfl (PJ.fld fldTblName T.c_Table T.na_Table_name (PJ.var rfl)) (fun labels10 => (SJ.next (b := (names7, keys9, labels10)) ⟨.inr rfl, .inr rfl, .inr rfl, .inr rfl, .inr rfl, .inl rfl, .inl rfl, .inl rfl, True.intro⟩)))))))))))
   (fun s5 => (SJ.fset T.c_Schema T.na_Schema_tables rfl (Nat.le_of_ble_eq_true rfl) (PJ.var rfl) (SJ.fset T.c_Schema T.na_Schema_names rfl (Nat.le_of_ble_eq_true rfl) (PJ.call CP.tuple (AP.one (PJ.varB (.inl rfl)))) (SJ.last (SJ.fsetM T.c_Schema T.na_Schema_columns rfl (Nat.le_of_ble_eq_true rfl) (EJ.mkColsL ((PJ.varB (.inl rfl))).e) (fun columns11 => (SJ.next (b := (Sch.mk (x) (s5.1) (columns11))) ⟨.inr rfl, .inl rfl, .inl rfl, .inl rfl, .inl rfl, .inl rfl, .inl rfl, .inl rfl, True.intro⟩)))))))))))))), by simp only [m_Schema_init, Mir.ret_bind, Mir.bind_bind, Mir.lt_eq, Mir.chk_bind, Mir.ret_bindO_nx, Mir.ret_bindO_rt, mOr, pAnd, pSub, pLe, pLt, mAdds, mCat, mMul, mDiv, mMod, mPow, mSgn, mRng, mStr, mSort, mJoin, mSplit, mCols, mApp, mExt, mIns, mSet, id, mIsName, mPart, mLenO, mIsSet, mRowKind, mPopAt, Mir.fail_bind, mInS, mNiS, mUpper, mSet1, mSortSet, mShl, mShr, mAnd, mMulS, mPutD, pIn, pNi]⟩
end
end Lw

namespace Lw
open PySem PySem.Spec PyProof.Rows L2 SlX StX Ax
section
variable {P : Program} {w : World} {K : PySem.W.Frag} {mg : Str → Option Value} {base : Heap}
/-! Schema_add -/
def m_Schema_add (self1 : Sch) (other2 : Tbl) : Mir Sch :=
  (((((Mir.chk (((self1).tables).length < mxL) (m_Schema_init ((self1).tables ++ [other2])))).bind fun v3 => (Mir.ret (Out.rt v3))) : Mir (Out Unit Sch))).exit.nox
theorem ok_Schema_add (T : TX P K mg) : FnR P w K mg base (L2.CX P w) 13 T.a_Schema_add (spM (rx T) (TyA.cons (tSch T.C_Schema T.C_Table T.C_Columns).h (TyA.one (tTbl T.C_Table T.C_Columns).h)) (rtF (tSch T.C_Schema T.C_Table T.C_Columns)) fun (a : Sch × Tbl) => m_Schema_add a.1 a.2) := by
  refine fnM (β := Unit) (Γ0 := fun a => [.fz (tSch T.C_Schema T.C_Table T.C_Columns) a.1, .fz (tTbl T.C_Table T.C_Columns) a.2]) T.d_Schema_add sc_Schema_add (fun _ _ _ _ _ _ us hl => match us, hl with | [_, _], _ => rfl) (fun {a vs G H} h => ?len) (fun {a vs G H} h => ?env) fun cdv Ar outer s H E hr => ⟨_, (pss_one (ps_ret (pe_makeS3 T.mk_Schema (ok_Schema_init T) (hr.mono (by decide)) rfl T.m_Schema passL (pa_star (pe_fldK (K := K) rfl (pv 0)) (pa_cons (pv 1) pa_nil))))), fun a => ?der⟩
  case len => obtain ⟨v0, r0, rfl, h0, ⟨v1, rfl, h1⟩⟩ := h; rfl
  case env => obtain ⟨v0, r0, rfl, h0, ⟨v1, rfl, h1⟩⟩ := h; exact Env.of ⟨⟨v0, rfl, h0⟩, ⟨⟨v1, rfl, h1⟩, True.intro⟩⟩
  case der => exact ⟨_, (SJ.ret (EJ.call (CM.mk mk_sch) (AJ.starT1 ((PJ.fld fldSchTables T.c_Schema T.na_Schema_tables (PJ.var rfl))).e ((PJ.var rfl)).e))), by simp only [m_Schema_add, Mir.ret_bind, Mir.bind_bind, Mir.lt_eq, Mir.chk_bind, Mir.ret_bindO_nx, Mir.ret_bindO_rt, mOr, pAnd, pSub, pLe, pLt, mAdds, mCat, mMul, mDiv, mMod, mPow, mSgn, mRng, mStr, mSort, mJoin, mSplit, mCols, mApp, mExt, mIns, mSet, id, mIsName, mPart, mLenO, mIsSet, mRowKind, mPopAt, Mir.fail_bind, mInS, mNiS, mUpper, mSet1, mSortSet, mShl, mShr, mAnd, mMulS, mPutD, pIn, pNi]⟩
end
end Lw

namespace Lw
open PySem PySem.Spec PyProof.Rows L2 SlX StX Ax
section
variable {P : Program} {w : World} {K : PySem.W.Frag} {mg : Str → Option Value} {base : Heap}
/-! Columns_read -/
theorem ok_Columns_read (T : TX P K mg) : FnR P w K mg base (L2.CX P w) 9 T.a_Columns_read (spColsRead T.C_Columns) := by
  refine fnR_of T.d_Columns_read sc_Columns_read (fun _ _ _ _ _ _ us hl => match us, hl with | [_, _], _ => rfl) (spX_len fun a vs G h => by rw [h.1]; rfl) fun cdv A outer s H vs Q E hr hsp => ?_
  obtain ⟨ns, G, hG, ⟨rfl, hn⟩, hQ, _⟩ := hsp
  try dsimp only at *
  refine ⟨_, (pss_cons (ps_if (pt_cmpR (op_eqK (K := K) rfl hr.units) (pv 1) pe_str (nomark _)) (pss_one (ps_ret (pe_cls0 (i := 0) T.mk_Columns (ok_Columns_init T) (hr.mono (by decide)) rfl (by first | exact Or.inl rfl | exact Or.inr (Or.inl rfl) | exact Or.inr (Or.inr rfl)) passL))) pss_nil)
    (pss_cons (ps_asg (pe_split (pv 1) pe_str) (pg_name (i := 2) sc_Columns_read.nd rfl (by first | exact Or.inl rfl | exact Or.inr rfl)))
    (pss_one (ps_ret (pe_clsS (i := 0) T.mk_Columns (ok_Columns_init T) (hr.mono (by decide)) rfl (by first | exact Or.inl rfl | exact Or.inr (Or.inl rfl) | exact Or.inr (Or.inr rfl)) passL (pv 2)))))), ?_⟩
  have N : Nx G H G H := Nx.refl hG
  got_up
  refine t_if (fun e => ?_) (fun e => ?_)
  · have e := read_ne hn.ok (of_decide_eq_true e)
    subst e
    got_up
    refine ⟨rfl, mk_cols N [] hn fun p G1 H1 N1 n1 hp => ?_⟩
    exact hQ _ G1 H1 N1 ⟨p, rfl, hp⟩
  · have hne : ns ≠ [] := fun z => by subst z; exact absurd rfl (of_decide_eq_false e)
    have hl := read_len hn.ok hn.n
    got_up
    refine ⟨⟨_, rfl⟩, ?_⟩
    got_up
    refine ⟨_, _, rfl, rfl, by decide +kernel, sz (by omega), fun q hq => ?_⟩
    rw [read_split hn.ok hne]
    obtain ⟨G1, H1, e, N1, n1, hq1⟩ := nobj N hq (.lst (ns.map V.str))
    rw [e]; clear e
    got_up
    refine ⟨rfl, ?_⟩
    got_up
    refine mk_colsL N1 ns (N1.h _ _ hq1) hn fun p G2 H2 N2 n2 hp => ?_
    exact hQ _ G2 H2 N2 ⟨p, rfl, hp⟩
end
end Lw

namespace Lw
open PySem PySem.Spec PyProof.Rows L2 SlX StX Ax
section
variable {P : Program} {w : World} {K : PySem.W.Frag} {mg : Str → Option Value} {base : Heap}
/-! Columns_le -/
theorem ok_Columns_le (T : TX P K mg) : FnR P w K mg base (L2.CX P w) 1 T.a_Columns_le (spColsLe T.C_Columns) := by
  refine fnR_of T.d_Columns_le sc_Columns_le (fun _ _ _ _ _ _ us hl => match us, hl with | [_, _], _ => rfl) (spX_len fun a vs G h => by rw [h.1]; rfl) fun cdv A outer s H vs Q E hr hsp => ?_
  obtain ⟨⟨⟨a, xs⟩, b, ys⟩, G, hG, ⟨rfl, ha, hb⟩, hQ, _⟩ := hsp
  try dsimp only at *
  refine ⟨_, (pss_one (ps_ret (pe_callB (cr_allK (K := K) rfl rfl) rfl T.b_all (by decide +kernel) (pa_cons (pe_lc (own := [("name", 2)]) rfl sc_Columns_le.nd (pi_tupK (K := K) rfl (pe_fldK (K := K) rfl (pv 0))) (blkOk_by (own := [("name", 2)]) (N := N_Columns_le) (sc := df_Columns_le.scope) (by decide +kernel)) (fun _ _ _ _ _ => (pg_name (i := 2) sc_Columns_le.nd rfl (by first | exact Or.inl rfl | exact Or.inr rfl))) (fun _ _ _ _ _ => pts_nil) (fun _ _ _ _ _ => (pe_cmpR (op_inK (K := K) rfl hr.units) (pv 2) (pe_fldK (K := K) rfl (pv 1)) rfl))) pa_nil)))), ?_⟩
  have N : Nx G H G H := Nx.refl hG
  got_up
  refine fld_v rfl T.c_Columns T.na_Columns_names ha N.h fun t ht => ?_
  refine ⟨t, rfl, ⟨_, sqT (N.h _ _ ht)⟩, ?_⟩
  refine lcb (src_tup (sqT ht)) N xs (fun _ => true) (fun x v _ => v = .bl (decide (x ∈ ys))) (by rw [List.length_map]) (by rw [List.length_map]; have := ha.n; omega) (fun _ _ _ _ _ h => h) ?_ ?_
  · rintro i z v G' H' hz s1 s2 hv
    rw [List.getElem?_map, hz] at hv
    cases Option.some.inj hv
    refine ⟨_, fun Q q => w_gn q, rfl, fun Q q => q G' H' (Nx.refl s2), fun _ G2 H2 s3 s4 Q q => ?_⟩
    got_up
    refine fld_v rfl T.c_Columns T.na_Columns_names (hb.up (s1.trans s3)) s4 fun u hu => ?_
    refine in_d da_s (ds_ts (sqT (s4 _ _ hu))) ?_
    exact q _ G2 H2 (Nx.refl s4) rfl
  · intro D L G' H' N' n' hD gD h0 hA
    rw [flt_true] at hA
    have hL := All2.eq hA
    subst hL
    got_up
    refine ⟨D, xs.map fun x => decide (x ∈ ys), rfl, sqL (by rw [List.map_map]; exact hD), ?_⟩
    have z := hQ _ G' H' N' rfl
    rw [List.all_map]
    exact z
end
end Lw

namespace Lw
open PySem PySem.Spec PyProof.Rows L2 SlX StX Ax
section
variable {P : Program} {w : World} {K : PySem.W.Frag} {mg : Str → Option Value} {base : Heap}
/-! Columns_len -/
theorem ok_Columns_len (T : TX P K mg) : FnR P w K mg base (L2.CX P w) 1 T.a_Columns_len (spColsLen T.C_Columns) := by
  refine fnR_of T.d_Columns_len sc_Columns_len (fun _ _ _ _ _ _ us hl => match us, hl with | [_], _ => rfl) (spX_len fun a vs G h => by rw [h.1]; rfl) fun cdv A outer s H vs Q E hr hsp => ?_
  obtain ⟨⟨a, xs⟩, G, hG, ⟨rfl, ha⟩, hQ, _⟩ := hsp
  try dsimp only at *
  refine ⟨_, (pss_one (ps_ret (pe_callB (call_lenK (K := K) rfl) rfl T.b_len (by decide +kernel) (pa_cons (pe_fldK (K := K) rfl (pv 0)) pa_nil)))), ?_⟩
  have N : Nx G H G H := Nx.refl hG
  got_up
  refine fld_v rfl T.c_Columns T.na_Columns_names ha N.h fun t ht => ?_
  refine len_t (sqT (N.h _ _ ht)) ?_
  rw [List.length_map]
  got_up
  exact hQ _ G H N rfl
end
end Lw

namespace Lw
open PySem PySem.Spec PyProof.Rows L2 SlX StX Ax
section
variable {P : Program} {w : World} {K : PySem.W.Frag} {mg : Str → Option Value} {base : Heap}
/-! Table_init -/
def m_Table_init (name1 : Str) (names2 : (List Str)) (keys3 : (List (List Str))) : Mir Tbl :=
  (((((((mIsName name1)).bind fun v4 => Mir.ret (!(v4)))).bind fun v10 => (Mir.ifB v10 Mir.fail (((mCols names2)).bind fun columns5 => (Mir.ifB ((!((decide ((0 : Int) < ((names2).length : Int)) && decide (((names2).length : Int) ≤ (8 : Int))))) || ((decide (((columns5).length : Int) < ((names2).length : Int))) || (decide ((8 : Int) < ((keys3).length : Int))))) Mir.fail (Mir.bindO (Mir.forL (enumFL 0 (if (decide ((0 : Int) < ((keys3).length : Int))) = true then keys3 else [columns5])) () fun s6 x7 => (((mCat (cutL (if (decide ((0 : Int) < ((keys3).length : Int))) = true then keys3 else [columns5]) none (some x7.1)) (cutL (if (decide ((0 : Int) < ((keys3).length : Int))) = true then keys3 else [columns5]) (some (x7.1 + (1 : Int))) none))).bind fun others8 => (Mir.ifB ((decide (((x7.2).length : Int) = (0 : Int))) || ((!((pLe x7.2 columns5))) || ((((others8).map fun other9 => (pLe x7.2 other9))).any id))) Mir.fail (Mir.ret (Out.nx ()))))) fun s6 => (Mir.ret (Out.nx (Tbl.mk (name1) (names2) (columns5) ((if (decide ((0 : Int) < ((keys3).length : Int))) = true then keys3 else [columns5])))))))))) : Mir (Out Tbl Unit))).ini
theorem ok_Table_init (T : TX P K mg) : FnR P w K mg base (L2.CX P w) 9 T.a_Table_init (spIni (rx T) T.C_Table (TyA.cons tStr.h (TyA.cons (tBo tStr) (TyA.lstB (tCols T.C_Columns)))) (tblF T.C_Columns) fun (a : Str × (List Str) × (List (List Str))) => m_Table_init a.1 a.2.1 a.2.2) := by
  refine fnIniS (A' := (TyA.cons tStr.h (TyA.cons (tBo tStr) (TyA.one (tTpl (tCols T.C_Columns)).h)))) (Γ0 := fun x dx sa => [.ow (oObj T.C_Table dx sa) [], .fz tStr x.1, .bor tStr x.2.1, .fz (tTpl (tCols T.C_Columns)) x.2.2, .any, .any, .any, .any]) (post := fun dx sa b => [.ow (oObj T.C_Table dx sa) (tblF T.C_Columns b), .any, .any, .any, .any, .any, .any, .any]) T.d_Table_init sc_Table_init (fun _ _ _ _ _ _ us rest hl => match us, rest, hl with | [a, b, c], [], _ => rfl | [a, b, c], _ :: _, _ => rfl) (by rfl) (starA_cons (starA_cons (starA_lst))) (fun {x args G Hm H a dx} h k1 k2 k3 => by obtain ⟨v0, r0, rfl, h0, ⟨v1, r1, rfl, ⟨l1, w1, rfl, g1, z1, q1⟩, ⟨v2, rfl, h2⟩⟩⟩ := h; exact ini_env k1 k2 k3 ⟨⟨v0, rfl, h0⟩, ⟨⟨l1, w1, rfl, g1, z1, q1⟩, ⟨⟨v2, rfl, h2⟩, ⟨True.intro, ⟨True.intro, ⟨True.intro, ⟨True.intro, True.intro⟩⟩⟩⟩⟩⟩⟩) (fun e => ini_post e) fun cdv Ar outer s H E hr => ⟨_, (pss_cons (ps_if (pt_not (pt_val (pe_callR (ok_is_name T) (hr.mono (by decide)) T.k_is_name rfl T.m_is_name passL (pa_cons (pv 1) pa_nil)))) (pss_one ps_never) pss_nil)
    (pss_cons (ps_fld (pv 0) (pv 1) rfl)
    (pss_cons (ps_fld (pv 0) (pe_callTy (call_tupleK (K := K) rfl) rfl T.b_tuple (by decide +kernel) (pa_cons (pv 2) pa_nil)) rfl)
    (pss_cons (ps_fld (pv 0) (pe_makeS1 T.mk_Columns (ok_Columns_init T) (hr.mono (by decide)) rfl T.m_Columns passL (pv 2)) rfl)
    (pss_cons (ps_fld (pv 0) (pe_ifExp (pt_cmpR op_gt (pe_callB (call_lenK (K := K) rfl) rfl T.b_len (by decide +kernel) (pa_cons (pv 3) pa_nil)) pe_int (nomark _)) (pv 3) (pe_tup (pa_cons (pe_fldK (K := K) rfl (pv 0)) pa_nil))) rfl)
    (pss_cons (ps_if (PW.pt (pw_or (pt_not (pt_chain op_lt op_le pe_int (pe_callB (call_lenK (K := K) rfl) rfl T.b_len (by decide +kernel) (pa_cons (pv 2) pa_nil)) (pe_gi rfl T.g_MOST))) (pw_or (pt_cmpR op_lt (pe_callB (call_lenO T.me_Columns_len.at_ T.me_Columns_len.fn (ok_Columns_len T) (hr.mono (by decide)) passL) rfl T.b_len (by decide +kernel) (pa_cons (pe_fldK (K := K) rfl (pv 0)) pa_nil)) (pe_callB (call_lenK (K := K) rfl) rfl T.b_len (by decide +kernel) (pa_cons (pv 2) pa_nil)) (nomark _)) (pw_or1 (pt_cmpR op_gt (pe_callB (call_lenK (K := K) rfl) rfl T.b_len (by decide +kernel) (pa_cons (pv 3) pa_nil)) (pe_gi rfl T.g_MOST) (nomark _)))))) (pss_one ps_never) pss_nil)
    (pss_one (ps_for (passes_of rfl) rfl (pi_enumA (K := K) true rfl rfl T.b_enumerate (pa_cons (pe_fldK (K := K) rfl (pv 0)) pa_nil)) (pg_tupK (K := K) (n := 2) rfl rfl (pgs_cons (pg_name (i := 4) sc_Table_init.nd rfl (by first | exact Or.inl rfl | exact Or.inr rfl)) (pgs_cons (pg_name (i := 5) sc_Table_init.nd rfl (by first | exact Or.inl rfl | exact Or.inr rfl)) pgs_nil)))
    (pss_cons (ps_asg (pe_op (op_addK (K := K) rfl) (pe_slice (sl_tupK (K := K) rfl) (pe_fldK (K := K) rfl (pv 0)) po_none (po_some (pv 4))) (pe_slice (sl_tupK (K := K) rfl) (pe_fldK (K := K) rfl (pv 0)) (po_some (pe_op (op_addK (K := K) rfl) (pv 4) pe_int)) po_none)) (pg_name (i := 6) sc_Table_init.nd rfl (by first | exact Or.inl rfl | exact Or.inr rfl)))
    (pss_one (ps_if (PW.pt (pw_or (pt_cmpR (op_eqK (K := K) rfl hr.units) (pe_callB (call_lenO T.me_Columns_len.at_ T.me_Columns_len.fn (ok_Columns_len T) (hr.mono (by decide)) passL) rfl T.b_len (by decide +kernel) (pa_cons (pv 5) pa_nil)) pe_int (nomark _)) (pw_or (pt_not (pt_cmpR (op_cmp (fun _ _ => rfl) T.nf_Columns_Columns T.me_Columns_le.at_ T.me_Columns_le.fn (ok_Columns_le T) (hr.mono (by decide)) passL) (pv 5) (pe_fldK (K := K) rfl (pv 0)) (nomark _))) (pw_or1 (pt_val (pe_callB (cr_anyK (K := K) rfl rfl) rfl T.b_any (by decide +kernel) (pa_cons (pe_lc (own := [("other", 7)]) rfl sc_Table_init.nd (pi_tupK (K := K) rfl (pv 6)) (blkOk_by (own := [("other", 7)]) (N := N_Table_init) (sc := df_Table_init.scope) (by decide +kernel)) (fun _ _ _ _ _ => (pg_name (i := 7) sc_Table_init.nd rfl (by first | exact Or.inl rfl | exact Or.inr rfl))) (fun _ _ _ _ _ => pts_nil) (fun _ _ _ _ _ => (pe_cmpR (op_cmp (fun _ _ => rfl) T.nf_Columns_Columns T.me_Columns_le.at_ T.me_Columns_le.fn (ok_Columns_le T) (hr.mono (by decide)) passL) (pv 5) (pv 7) (nomark _)))) pa_nil))))))) (pss_one ps_never) pss_nil))))))))))), fun x dx sa => ?der⟩
  case der => exact ⟨_, (SJ.guardM (TJ.not (TJ.val (EJ.callP CM.isName (AP.one (PJ.var rfl))))) SJ.never (SJ.fset T.c_Table T.na_Table_name rfl (Nat.le_of_ble_eq_true rfl) (PJ.var rfl) (SJ.fset T.c_Table T.na_Table_names rfl (Nat.le_of_ble_eq_true rfl) (PJ.call CP.tuple (AP.one (PJ.varB (.inr rfl)))) (SJ.fsetM T.c_Table T.na_Table_columns rfl (Nat.le_of_ble_eq_true rfl) (EJ.mkColsL ((PJ.varB (.inr rfl))).e) (fun columns5 => (SJ.fset T.c_Table T.na_Table_key_sets rfl (Nat.le_of_ble_eq_true rfl) (PJ.ifE (TP.test (PJ.op OpP.gt (PJ.call CP.lenT (AP.one (PJ.var rfl))) PJ.int)) (PJ.var rfl) (PJ.tup (AP.lcons (PJ.fget (i := 0) T.c_Table T.na_Table_columns rfl rfl) AP.lnil) (Nat.le_of_ble_eq_true rfl))) (SJ.guard (TP.or (TP.not (TP.test (PJ.chain OpP.lt OpP.le PJ.int (PJ.call CP.lenB (AP.one (PJ.varB (.inr rfl)))) PJ.int))) (TP.or (TP.test (PJ.op OpP.lt (PJ.call CP.colsLen (AP.one (PJ.fget (i := 0) T.c_Table T.na_Table_columns rfl rfl))) (PJ.call CP.lenB (AP.one (PJ.varB (.inr rfl)))))) (TP.test (PJ.op OpP.gt (PJ.call CP.lenT (AP.one (PJ.var rfl))) PJ.int)))) SJ.never (SJ.last (SJ.forL (s0 := ()) (post0 := (fun (s6 : Unit) => [.ow (oObj T.C_Table dx sa) [("name", Fv.of tStr (x.1)), ("names", Fv.of (tTpl tStr) (x.2.1)), ("columns", Fv.of (tCols T.C_Columns) (columns5)), ("key_sets", Fv.of (tTpl (tCols T.C_Columns)) ((if (decide ((0 : Int) < ((x.2.2).length : Int))) = true then x.2.2 else [columns5])))], .fz tStr x.1, .bor tStr x.2.1, .fz (tTpl (tCols T.C_Columns)) x.2.2, .any, .any, .any, .any])) (IJf.enumT (k := 0) ((PJ.fget (i := 0) T.c_Table T.na_Table_key_sets rfl rfl)).e) ⟨.inr rfl, .inr rfl, .inr rfl, .inr rfl, .inl rfl, .inl rfl, .inl rfl, .inl rfl, True.intro⟩ (fun s6 x7 => (GJ.tup (TyL.len_cons TyL.len_one) (GJs.cons GJ.name (GJs.one GJ.name))))
   (fun s6 x7 => (SJ.asg (EJ.opP OpM.catT (PJ.slT (PJ.fget (i := 0) T.c_Table T.na_Table_key_sets rfl rfl) BP.none (BP.some (PJ.var rfl))) (PJ.slT (PJ.fget (i := 0) T.c_Table T.na_Table_key_sets rfl rfl) (BP.some (PJ.op OpP.add (PJ.var rfl) PJ.int)) BP.none)) (fun others8 => (SJ.if1 (TP.or (TP.test (PJ.op (OpP.eq EqD.int (Nat.le_of_ble_eq_true rfl)) (PJ.call CP.colsLen (AP.one (PJ.var rfl))) PJ.int)) (TP.or (TP.not (TP.test (PJ.op OpP.colsLe (PJ.var rfl) (PJ.fget (i := 0) T.c_Table T.na_Table_columns rfl rfl)))) (TP.val (PJ.call CP.any (AP.one ((LP.lcA ((IJf.tup ((PJ.var rfl)).e)).b (fun other9 => GJ.name) (by decide) (fun other9 => (PJ.op OpP.colsLe (PJ.var rfl) (PJ.var rfl))))).bo))))) SJ.never (SJ.next (b := ()) ⟨.inr rfl, .inr rfl, .inr rfl, .inr rfl, .inl rfl, .inl rfl, .inl rfl, .inl rfl, True.intro⟩)))))
   (fun s6 => (SJ.next (b := (Tbl.mk (x.1) (x.2.1) (columns5) ((if (decide ((0 : Int) < ((x.2.2).length : Int))) = true then x.2.2 else [columns5])))) ⟨.inr rfl, .inl rfl, .inl rfl, .inl rfl, .inl rfl, .inl rfl, .inl rfl, .inl rfl, True.intro⟩))))))))))), by simp only [m_Table_init, Mir.ret_bind, Mir.bind_bind, Mir.lt_eq, Mir.chk_bind, Mir.ret_bindO_nx, Mir.ret_bindO_rt, mOr, pAnd, pSub, pLe, pLt, mAdds, mCat, mMul, mDiv, mMod, mPow, mSgn, mRng, mStr, mSort, mJoin, mSplit, mCols, mApp, mExt, mIns, mSet, id, mIsName, mPart, mLenO, mIsSet, mRowKind, mPopAt, Mir.fail_bind, mInS, mNiS, mUpper, mSet1, mSortSet, mShl, mShr, mAnd, mMulS, mPutD, pIn, pNi]⟩
end
end Lw

namespace Lw
open PySem PySem.Spec PyProof.Rows L2 SlX StX Ax
section
variable {P : Program} {w : World} {K : PySem.W.Frag} {mg : Str → Option Value} {base : Heap}
/-! Columns_text -/
theorem ok_Columns_text (T : TX P K mg) : FnR P w K mg base (L2.CX P w) 1 T.a_Columns_text (spColsText T.C_Columns) := by
  refine fnR_of T.d_Columns_text sc_Columns_text (fun _ _ _ _ _ _ us hl => match us, hl with | [_], _ => rfl) (spX_len fun a vs G h => by rw [h.1]; rfl) fun cdv A outer s H vs Q E hr hsp => ?_
  obtain ⟨⟨a, xs⟩, G, hG, ⟨rfl, ha⟩, hQ, _⟩ := hsp
  try dsimp only at *
  refine ⟨_, (pss_one (ps_ret (pe_joinK (K := K) rfl pe_str (pe_fldK (K := K) rfl (pv 0))))), ?_⟩
  have N : Nx G H G H := Nx.refl hG
  got_up
  refine ⟨⟨_, rfl⟩, ?_⟩
  got_up
  refine fld_v rfl T.c_Columns T.na_Columns_names ha N.h fun t ht => ?_
  refine ⟨_, t, xs, rfl, rfl, .inr (sqT (N.h _ _ ht)), ?_, ?_⟩
  · exact join_le ha.ok (by have := ha.n; omega)
  · exact hQ _ G H N rfl
end
end Lw

namespace Lw
open PySem PySem.Spec PyProof.Rows L2 SlX StX Ax
section
variable {P : Program} {w : World} {K : PySem.W.Frag} {mg : Str → Option Value} {base : Heap}
/-! Table_text -/
def m_Table_text (self1 : Tbl) : Mir Str :=
  (((((((((Mir.chk ((Str.empty ++ (self1).name).length ≤ mxL) ((Mir.chk ((Str.empty ++ (self1).name ++ (": " : Str)).length ≤ mxL) ((((mJoin (" " : Str) (self1).names)).bind fun v2 => (Mir.chk ((Str.empty ++ (self1).name ++ (": " : Str) ++ v2).length ≤ mxL) (Mir.ret (Str.empty ++ (self1).name ++ (": " : Str) ++ v2))))))))).bind fun v3 => Mir.ret [v3])).bind fun v4 => Mir.chk (v4.length ≤ mxL) (Mir.ret v4))).bind fun parts5 => (mExt parts5 (((self1).keys).map fun key7 => (Txt.join " " key7)) fun parts6 => (((mJoin (" / " : Str) parts6)).bind fun v8 => (Mir.ret (Out.rt v8))))) : Mir (Out Unit Str))).exit.nox
theorem ok_Table_text (T : TX P K mg) : FnR P w K mg base (L2.CX P w) 5 T.a_Table_text (spM (rx T) (TyA.one (tTbl T.C_Table T.C_Columns).h) (rtF tStr) fun (a : Tbl) => m_Table_text a) := by
  refine fnM (β := Unit) (Γ0 := fun a => [.fz (tTbl T.C_Table T.C_Columns) a, .any, .any]) T.d_Table_text sc_Table_text (fun _ _ _ _ _ _ us hl => match us, hl with | [_], _ => rfl) (fun {a vs G H} h => ?len) (fun {a vs G H} h => ?env) fun cdv Ar outer s H E hr => ⟨_, (pss_cons (ps_asg (pe_lst (pa_cons (pe_joined (L2.PJ.cons (pe_fmt (pe_fldK (K := K) rfl (pv 0))) (L2.PJ.cons pe_str (L2.PJ.cons (pe_fmt (pe_joinK (K := K) rfl pe_str (pe_fldK (K := K) rfl (pv 0)))) L2.PJ.nil)))) pa_nil)) (pg_name (i := 1) sc_Table_text.nd rfl (by first | exact Or.inl rfl | exact Or.inr rfl)))
    (pss_cons (ps_expr (pe_bm PySem.F.plainAttrs_list PySem.F.slot_list_extend PySem.F.type_list_extend mt_extend (pv 1) (pa_cons (pe_lc (own := [("key", 2)]) rfl sc_Table_text.nd (pi_tupK (K := K) rfl (pe_fldK (K := K) rfl (pv 0))) (blkOk_by (own := [("key", 2)]) (N := N_Table_text) (sc := df_Table_text.scope) (by decide +kernel)) (fun _ _ _ _ _ => (pg_name (i := 2) sc_Table_text.nd rfl (by first | exact Or.inl rfl | exact Or.inr rfl))) (fun _ _ _ _ _ => pts_nil) (fun _ _ _ _ _ => (pe_methR0 (pv 2) T.c_Columns T.me_Columns_text (ok_Columns_text T) (hr.mono (by decide)) passL))) pa_nil)))
    (pss_one (ps_ret (pe_joinK (K := K) rfl pe_str (pv 1)))))), fun a => ?der⟩
  case len => obtain ⟨v0, rfl, h0⟩ := h; rfl
  case env => obtain ⟨v0, rfl, h0⟩ := h; exact Env.of ⟨⟨v0, rfl, h0⟩, ⟨True.intro, ⟨True.intro, True.intro⟩⟩⟩
  case der => exact ⟨_, (SJ.asgL (LJ.lst (AJ.lcons (EJ.joined (JJ.cons (EJ.fmtS ((PJ.fld fldTblName T.c_Table T.na_Table_name (PJ.var rfl))).e) (JJ.cons (PJ.e (PJ.str (i := ": "))) (JJ.cons (EJ.fmtS (EJ.joinT PJ.str ((PJ.fld fldTblNames T.c_Table T.na_Table_names (PJ.var rfl))).e)) JJ.nil)))) AP.lnil.e)) (fun parts5 => (SJ.extend rfl (((LP.lcA ((IJf.tup ((PJ.fld fldTblKeys T.c_Table T.na_Table_key_sets (PJ.var rfl))).e)).b (fun key7 => GJ.name) (by decide) (fun key7 => (PJ.colsText (PJ.var rfl))))).bo).e (fun parts6 => (SJ.ret (EJ.join PJ.str ((PJ.varB (.inl rfl))).e)))))), by simp only [m_Table_text, Mir.ret_bind, Mir.bind_bind, Mir.lt_eq, Mir.chk_bind, Mir.ret_bindO_nx, Mir.ret_bindO_rt, mOr, pAnd, pSub, pLe, pLt, mAdds, mCat, mMul, mDiv, mMod, mPow, mSgn, mRng, mStr, mSort, mJoin, mSplit, mCols, mApp, mExt, mIns, mSet, id, mIsName, mPart, mLenO, mIsSet, mRowKind, mPopAt, Mir.fail_bind, mInS, mNiS, mUpper, mSet1, mSortSet, mShl, mShr, mAnd, mMulS, mPutD, pIn, pNi]⟩
end
end Lw

namespace Lw
open PySem PySem.Spec PyProof.Rows L2 SlX StX Ax
section
variable {P : Program} {w : World} {K : PySem.W.Frag} {mg : Str → Option Value} {base : Heap}
/-! read_table -/
def m_read_table (line1 : Str) : Mir Tbl :=
  (((((mSplit line1 (" / " : Str))).bind fun v11 => (mHead v11 fun h2 r3 => (((mPart h2 (": " : Str))).bind fun p4 => (((Mir.comp r3 (fun key5 => (Mir.ret (true))) (fun key5 => (readC key5))).nox).bind fun key_sets6 => (((((mSplit p4.2.2 (" " : Str))).bind fun v7 => (m_Table_init p4.1 v7 key_sets6))).bind fun table8 => (((((m_Table_text table8)).bind fun v9 => Mir.ret ((decide (v9 ≠ line1))))).bind fun v10 => (Mir.ifB v10 Mir.fail (Mir.ret (Out.rt table8))))))))) : Mir (Out Unit Tbl))).exit.nox
theorem ok_read_table (T : TX P K mg) : FnR P w K mg base (L2.CX P w) 13 T.a_read_table (spM (rx T) (TyA.one tStr.h) (rtF (tTbl T.C_Table T.C_Columns)) fun (a : Str) => m_read_table a) := by
  refine fnM (β := Unit) (Γ0 := fun a => [.fz tStr a, .any, .any, .any, .any, .any, .any, .any, .any]) T.d_read_table sc_read_table (fun _ _ _ _ _ _ us hl => match us, hl with | [_], _ => rfl) (fun {a vs G H} h => ?len) (fun {a vs G H} h => ?env) fun cdv Ar outer s H E hr => ⟨_, (pss_cons (ps_asg (pe_split (pv 0) pe_str) (pg_star1 (K := K) rfl rfl (pgs_cons (pg_name (i := 1) sc_read_table.nd rfl (by first | exact Or.inl rfl | exact Or.inr rfl)) (pgs_cons (pg_name (i := 2) sc_read_table.nd rfl (by first | exact Or.inl rfl | exact Or.inr rfl)) pgs_nil))))
    (pss_cons (ps_asg (pe_partition (pv 1) pe_str) (pg_tupK (K := K) (n := 3) rfl rfl (pgs_cons (pg_name (i := 3) sc_read_table.nd rfl (by first | exact Or.inl rfl | exact Or.inr rfl)) (pgs_cons (pg_name (i := 4) sc_read_table.nd rfl (by first | exact Or.inl rfl | exact Or.inr rfl)) (pgs_cons (pg_name (i := 5) sc_read_table.nd rfl (by first | exact Or.inl rfl | exact Or.inr rfl)) pgs_nil)))))
    (pss_cons (ps_lcU (i := 6) (own := [("key", 8)]) rfl sc_read_table.nd rfl (by first | exact Or.inl ⟨rfl, rfl⟩ | exact Or.inr ⟨Or.inl rfl, rfl, Or.inl rfl⟩ | exact Or.inr ⟨Or.inr rfl, rfl, Or.inl rfl⟩) (pi_listK (K := K) rfl (pv 2)) (blkOk_by (own := [("key", 8)]) (N := N_read_table) (sc := df_read_table.scope) (by decide +kernel)) (fun _ _ _ _ _ => (pg_name (i := 8) sc_read_table.nd rfl (by first | exact Or.inl rfl | exact Or.inr rfl))) (fun _ _ _ _ _ => pts_nil) (fun _ _ _ _ _ => (ClX.pe_cmeth (pe_glob (v := .ref T.C_Columns) rfl T.m_Columns rfl) T.cr_Columns T.cm_Columns_read (ok_Columns_read T) (hr.mono (by decide)) passL (pa_cons (pv 8) pa_nil))))
    (pss_cons (ps_asg (pe_makeS2 T.mk_Table (ok_Table_init T) (hr.mono (by decide)) rfl T.m_Table passL (pa_cons (pv 3) (pa_cons (pe_split (pv 5) pe_str) (pa_star (pv 6) pa_nil)))) (pg_name (i := 7) sc_read_table.nd rfl (by first | exact Or.inl rfl | exact Or.inr rfl)))
    (pss_cons (ps_if (pt_cmpR (op_neK (K := K) rfl hr.units) (pe_methR0 (pv 7) T.c_Table T.me_Table_text (ok_Table_text T) (hr.mono (by decide)) passL) (pv 0) (nomark _)) (pss_one ps_never) pss_nil)
    (pss_one (ps_ret (pv 7)))))))), fun a => ?der⟩
  case len => obtain ⟨v0, rfl, h0⟩ := h; rfl
  case env => obtain ⟨v0, rfl, h0⟩ := h; exact Env.of ⟨⟨v0, rfl, h0⟩, ⟨True.intro, ⟨True.intro, ⟨True.intro, ⟨True.intro, ⟨True.intro, ⟨True.intro, ⟨True.intro, ⟨True.intro, True.intro⟩⟩⟩⟩⟩⟩⟩⟩⟩
  case der => exact ⟨_, (SJ.star1 ((LJ.split ((PJ.var rfl)).e PJ.str)).bo (fun h2 r3 => (SJ.unpack (PJ.part (PJ.var rfl) PJ.str) (fun p4 => (GJ.tup (TyL.len_cons (TyL.len_cons TyL.len_one)) (GJs.cons GJ.name (GJs.cons GJ.name (GJs.one GJ.name))))) (fun p4 => (SJ.asg ((LJ.lc ((IJf.list ((PJ.var rfl)).e)).b (fun key5 => GJ.name) (by decide) (fun key5 => (TP.yes).e) (fun key5 => (EJ.colsRead tC_ref ((PJ.var rfl)).e)))).fz (fun key_sets6 => (SJ.asg (EJ.call (CM.mk mk_tbl) (AJ.cons ((PJ.var rfl)).e (AJ.cons ((LJ.split ((PJ.var rfl)).e PJ.str)).bo (AJ.starL (((PJ.var rfl)).bo).e)))) (fun table8 => (SJ.guardM (TJ.test (EJ.op (OpP.m (OpP.ne EqD.str (Nat.le_of_ble_eq_true rfl))) (EJ.meth0 (nofTbl (by decide)) ((PJ.var rfl)).e) ((PJ.var rfl)).e)) SJ.never (SJ.retP (PJ.var rfl))))))))))), by simp only [m_read_table, Mir.ret_bind, Mir.bind_bind, Mir.lt_eq, Mir.chk_bind, Mir.ret_bindO_nx, Mir.ret_bindO_rt, mOr, pAnd, pSub, pLe, pLt, mAdds, mCat, mMul, mDiv, mMod, mPow, mSgn, mRng, mStr, mSort, mJoin, mSplit, mCols, mApp, mExt, mIns, mSet, id, mIsName, mPart, mLenO, mIsSet, mRowKind, mPopAt, Mir.fail_bind, mInS, mNiS, mUpper, mSet1, mSortSet, mShl, mShr, mAnd, mMulS, mPutD, pIn, pNi]⟩
end
end Lw

namespace Lw
open PySem PySem.Spec PyProof.Rows L2 SlX StX Ax
section
variable {P : Program} {w : World} {K : PySem.W.Frag} {mg : Str → Option Value} {base : Heap}
/-! Schema_read -/
def m_Schema_read (text2 : Str) : Mir Sch :=
  (((((m_Schema_init [])).bind fun schema3 => (((Mir.ifB (decide (text2 ≠ ("" : Str))) (mSplit text2 ("\n" : Str)) (Mir.ret (([] : (List Str)))))).bind fun lines4 => (Mir.bindO (Mir.forL (enumFL 1 lines4) schema3 fun s5 x6 => (Mir.bindO (Mir.tryM (((m_read_table x6.2)).bind fun table7 => (Mir.ret (Out.nx table7))) (fun er => match er with | .uTable f8 => (Mir.fail : Mir (Out (Tbl) Sch)).nox | .iRow f9 => (Mir.fail : Mir (Out (Tbl) Sch)).nox | e => Mir.raise e)) fun s10 => (((m_Schema_add s5 s10)).bind fun schema11 => (Mir.ret (Out.nx schema11))))) fun s5 => (Mir.ret (Out.rt s5))))) : Mir (Out Unit Sch))).exit.nox
theorem ok_Schema_read (T : TX P K mg) : FnR P w K mg base (L2.CX P w) 17 T.a_Schema_read (spM (rx T) (TyA.cons (tRef T.C_Schema).h (TyA.one tStr.h)) (rtF (tSch T.C_Schema T.C_Table T.C_Columns)) fun (a : Unit × Str) => m_Schema_read a.2) := by
  refine fnM (β := Unit) (Γ0 := fun a => [.fz (tRef T.C_Schema) a.1, .fz tStr a.2, .any, .any, .any, .any, .any, .any]) T.d_Schema_read sc_Schema_read (fun _ _ _ _ _ _ us hl => match us, hl with | [_, _], _ => rfl) (fun {a vs G H} h => ?len) (fun {a vs G H} h => ?env) fun cdv Ar outer s H E hr => ⟨_, (pss_cons (ps_asg (pe_cls0 (i := 0) T.mk_Schema (ok_Schema_init T) (hr.mono (by decide)) rfl (by first | exact Or.inl rfl | exact Or.inr (Or.inl rfl) | exact Or.inr (Or.inr rfl)) passL) (pg_name (i := 2) sc_Schema_read.nd rfl (by first | exact Or.inl rfl | exact Or.inr rfl)))
    (pss_cons (ps_asg (pe_ifExp (pt_cmpR (op_neK (K := K) rfl hr.units) (pv 1) pe_str (nomark _)) (pe_split (pv 1) pe_str) (pe_lst pa_nil)) (pg_name (i := 3) sc_Schema_read.nd rfl (by first | exact Or.inl rfl | exact Or.inr rfl)))
    (pss_cons (ps_for (passes_of rfl) rfl (pi_enumS (K := K) false rfl rfl (by decide) (by decide) rfl T.b_enumerate (pa_cons (pv 3) pa_nil)) (pg_tupK (K := K) (n := 2) rfl rfl (pgs_cons (pg_name (i := 4) sc_Schema_read.nd rfl (by first | exact Or.inl rfl | exact Or.inr rfl)) (pgs_cons (pg_name (i := 5) sc_Schema_read.nd rfl (by first | exact Or.inl rfl | exact Or.inr rfl)) pgs_nil)))
    (pss_cons (ps_tryAs rfl rfl sc_Schema_read.nd (takes_of rfl rfl rfl rfl) (fun W pn xe tk hpa => (pss_one (ps_asg (pe_callR (ok_read_table T) (hr.mono (by decide)) T.k_read_table rfl T.m_read_table (passT (n := 8) tk rfl) (pa_cons (pv 5) pa_nil)) (pg_name (i := 6) sc_Schema_read.nd rfl (by first | exact Or.inl rfl | exact Or.inr rfl)))))
    (HdsAs.cons (i := 7) rfl rfl ⟨rfl, by decide +kernel, .inl T.m_TableError⟩ (fun a oe cls d pn hz hf => (pss_one ps_never))
     HdsAs.nil))
    (pss_one (ps_asg (pe_op (op_bin2 T.ne_Schema_Table T.sf_Schema T.sf_Table T.me_Schema_add.at_ T.me_Schema_add.fn T.me_Table_add.at_ T.nr_Schema T.nr_Table T.sb_Table_Schema (ok_Schema_add T) (hr.mono (by decide)) passL) (pv 2) (pv 6)) (pg_name (i := 2) sc_Schema_read.nd rfl (by first | exact Or.inl rfl | exact Or.inr rfl))))))
    (pss_one (ps_ret (pv 2)))))), fun a => ?der⟩
  case len => obtain ⟨v0, r0, rfl, h0, ⟨v1, rfl, h1⟩⟩ := h; rfl
  case env => obtain ⟨v0, r0, rfl, h0, ⟨v1, rfl, h1⟩⟩ := h; exact Env.of ⟨⟨v0, rfl, h0⟩, ⟨⟨v1, rfl, h1⟩, ⟨True.intro, ⟨True.intro, ⟨True.intro, ⟨True.intro, ⟨True.intro, ⟨True.intro, True.intro⟩⟩⟩⟩⟩⟩⟩⟩
  case der => exact ⟨_, (SJ.asg (EJ.cls0 mk_sch rfl) (fun schema3 => (SJ.asg ((LJ.ifE (TP.test (PJ.op (OpP.ne EqD.str (Nat.le_of_ble_eq_true rfl)) (PJ.var rfl) PJ.str)) (LJ.split ((PJ.var rfl)).e PJ.str) ((LP.lst (t := tStr) AP.lnil (Nat.le_of_ble_eq_true rfl))).e)).fz (fun lines4 => (SJ.forL (s0 := schema3) (post0 := (fun (s5 : Sch) => [.fz (tRef T.C_Schema) a.1, .fz tStr a.2, .fz (tSch T.C_Schema T.C_Table T.C_Columns) s5, .fz (tList tStr) lines4, .any, .any, .any, .any])) (IJf.enumS (k := 1) ((PJ.var rfl)).e) ⟨.inr rfl, .inr rfl, .inr rfl, .inr rfl, .inl rfl, .inl rfl, .inl rfl, .inl rfl, True.intro⟩ (fun s5 x6 => (GJ.tup (TyL.len_cons TyL.len_one) (GJs.cons GJ.name (GJs.one GJ.name))))
   (fun s5 x6 => (SJ.seq (post1 := (fun (s10 : Tbl) => [.fz (tRef T.C_Schema) a.1, .fz tStr a.2, .fz (tSch T.C_Schema T.C_Table T.C_Columns) s5, .fz (tList tStr) lines4, .fz tInt x6.1, .fz tStr x6.2, .fz (tTbl T.C_Table T.C_Columns) s10, .any])) (SJ.tryN (n := 8) (h := (fun er => match er with | .uTable f8 => (Mir.fail : Mir (Out (Tbl) Sch)).nox | .iRow f9 => (Mir.fail : Mir (Out (Tbl) Sch)).nox | e => Mir.raise e)) (fun W => (SJ.last (SJ.asg (EJ.callP CM.fn (AP.one (PJ.var rfl))) (fun table7 => (SJ.next (b := table7) ⟨.inr rfl, .inr rfl, .inr rfl, .inr rfl, .inr rfl, .inr rfl, .inr rfl, .inl rfl, True.intro⟩)))))
   (fun er => match er with | .iName _ => Hs.never (fun _ _ _ r => r) | .iTable _ => Hs.never (fun _ _ _ r => r) | .iSchema _ => Hs.never (fun _ _ _ r => r) | .uTable f8 => (Hs.hit (hu := rxup T) (fun _ _ _ r => Ex1.exm r T.xm_UnknownTable_TableError) (fun ea ec ed => SJ.never)) | .uColumn _ => Hs.never (fun _ _ _ r => r) | .iRow f9 => (Hs.hit (hu := rxup T) (fun _ _ _ r => Ex1.exm r T.xm_InvalidRow_TableError) (fun ea ec ed => SJ.never)) | .taken _ _ => Hs.never (fun _ _ _ r => r) | .noRow _ => Hs.never (fun _ _ _ r => r) | .misfit _ => Hs.never (fun _ _ _ r => r) | .notInd _ => Hs.never (fun _ _ _ r => r) | .refused _ => Hs.never (fun _ _ _ r => r))) (fun s10 => (SJ.last (SJ.asg (EJ.opP (OpM.own insSch insTbl) (PJ.var rfl) (PJ.var rfl)) (fun schema11 => (SJ.next (b := schema11) ⟨.inr rfl, .inr rfl, .inr rfl, .inr rfl, .inl rfl, .inl rfl, .inl rfl, .inl rfl, True.intro⟩)))))))
   (fun s5 => (SJ.retP (PJ.var rfl)))))))), by simp only [m_Schema_read, Mir.ret_bind, Mir.bind_bind, Mir.lt_eq, Mir.chk_bind, Mir.ret_bindO_nx, Mir.ret_bindO_rt, mOr, pAnd, pSub, pLe, pLt, mAdds, mCat, mMul, mDiv, mMod, mPow, mSgn, mRng, mStr, mSort, mJoin, mSplit, mCols, mApp, mExt, mIns, mSet, id, mIsName, mPart, mLenO, mIsSet, mRowKind, mPopAt, Mir.fail_bind, mInS, mNiS, mUpper, mSet1, mSortSet, mShl, mShr, mAnd, mMulS, mPutD, pIn, pNi]⟩
end
end Lw

namespace Lw
open PySem PySem.Spec PyProof.Rows L2 SlX StX Ax
section
variable {P : Program} {w : World} {K : PySem.W.Frag} {mg : Str → Option Value} {base : Heap}
/-! _law_clash -/
def m__law_clash (table1 : (Str × (List Str) × (List (List Str)))) (rows2 : (List (List Int))) (row3 : (List Int)) : Mir (Option (List Int)) :=
  (((Mir.bindO (Mir.forL rows2 () fun s4 x5 => (Mir.ifB (decide (x5 ≠ row3)) (Mir.bindO (Mir.forL table1.2.2 () fun s6 x7 => (((Mir.comp (rangeL 0 (table1.2.1).length) (fun at8 => (((Mir.get table1.2.1 at8)).bind fun v9 => Mir.ret ((decide (v9 ∈ x7))))) (fun at8 => (Mir.ret (at8)))).nox).bind fun places10 => (((((Mir.comp places10 (fun at11 => (Mir.ret (true))) (fun at11 => (((Mir.get x5 at11)).bind fun v12 => (((Mir.get row3 at11)).bind fun v13 => Mir.ret ((decide (v12 = v13))))))).nox).bind fun v14 => Mir.ret (((v14).all id)))).bind fun v15 => (Mir.ifB v15 (Mir.ret (Out.rt (some x5))) (Mir.ret (Out.nx ())))))) fun s6 => (Mir.ret (Out.nx ()))) (Mir.ret (Out.nx ())))) fun s4 => (Mir.ret (Out.rt (none : Option (List Int))))) : Mir (Out Unit (Option (List Int))))).exit.nox
theorem ok__law_clash (T : TX P K mg) : FnR P w K mg base (L2.CX P w) 1 T.a__law_clash (spM (rx T) (TyA.cons (tRecL (TyL.cons tStr (TyL.cons (tList tStr) (TyL.one (tList (tList tStr)))))).h (TyA.cons (tBo (tTpl tInt)) (TyA.one (tTpl tInt).h))) (rtF (tOpt (tTpl tInt))) fun (a : (Str × (List Str) × (List (List Str))) × (List (List Int)) × (List Int)) => m__law_clash a.1 a.2.1 a.2.2) := by
  refine fnM (β := Unit) (Γ0 := fun a => [.fz (tRecL (TyL.cons tStr (TyL.cons (tList tStr) (TyL.one (tList (tList tStr)))))) a.1, .bor (tTpl tInt) a.2.1, .fz (tTpl tInt) a.2.2, .any, .any, .any, .any]) T.d__law_clash sc__law_clash (fun _ _ _ _ _ _ us hl => match us, hl with | [_, _, _], _ => rfl) (fun {a vs G H} h => ?len) (fun {a vs G H} h => ?env) fun cdv Ar outer s H E hr => ⟨_, (pss_cons (ps_for (passes_of rfl) rfl (pi_listK (K := K) rfl (pv 1)) (pg_name (i := 3) sc__law_clash.nd rfl (by first | exact Or.inl rfl | exact Or.inr rfl))
    (pss_one (ps_if (pt_cmpR (op_neK (K := K) rfl hr.units) (pv 3) (pv 2) (nomark _)) (pss_one (ps_for (passes_of rfl) rfl (pi_listK (K := K) rfl (pe_ix (ix_K (K := K) rfl) (pv 0) pe_int (fun _ _ => rfl))) (pg_name (i := 4) sc__law_clash.nd rfl (by first | exact Or.inl rfl | exact Or.inr rfl))
    (pss_cons (ps_lcU (i := 5) (own := [("_law_at", 6)]) rfl sc__law_clash.nd rfl (by first | exact Or.inl ⟨rfl, rfl⟩ | exact Or.inr ⟨Or.inl rfl, rfl, Or.inl rfl⟩ | exact Or.inr ⟨Or.inr rfl, rfl, Or.inl rfl⟩) (pi_range1 rfl T.b_range (pa_cons (pe_callB (call_lenK (K := K) rfl) rfl T.b_len (by decide +kernel) (pa_cons (pe_ix (ix_K (K := K) rfl) (pv 0) pe_int (fun _ _ => rfl)) pa_nil)) pa_nil)) (blkOk_by (own := [("_law_at", 6)]) (N := N__law_clash) (sc := df__law_clash.scope) (by decide +kernel)) (fun _ _ _ _ _ => (pg_name (i := 6) sc__law_clash.nd rfl (by first | exact Or.inl rfl | exact Or.inr rfl))) (fun _ _ _ _ _ => (pts_one (pt_cmpR (op_inK (K := K) rfl hr.units) (pe_ix (ix_K (K := K) rfl) (pe_ix (ix_K (K := K) rfl) (pv 0) pe_int (fun _ _ => rfl)) (pv 6) (fun _ _ => rfl)) (pv 4) rfl))) (fun _ _ _ _ _ => (pv 6)))
    (pss_one (ps_if (pt_val (pe_callB (cr_allK (K := K) rfl rfl) rfl T.b_all (by decide +kernel) (pa_cons (pe_lc (own := [("_law_at", 6)]) rfl sc__law_clash.nd (pi_listK (K := K) rfl (pv 5)) (blkOk_by (own := [("_law_at", 6)]) (N := N__law_clash) (sc := df__law_clash.scope) (by decide +kernel)) (fun _ _ _ _ _ => (pg_name (i := 6) sc__law_clash.nd rfl (by first | exact Or.inl rfl | exact Or.inr rfl))) (fun _ _ _ _ _ => pts_nil) (fun _ _ _ _ _ => (pe_cmpR (op_eqK (K := K) rfl hr.units) (pe_ix (ix_K (K := K) rfl) (pv 3) (pv 6) (fun _ _ => rfl)) (pe_ix (ix_K (K := K) rfl) (pv 2) (pv 6) (fun _ _ => rfl)) (nomark _)))) pa_nil))) (pss_one (ps_ret (pv 3))) pss_nil))))) pss_nil)))
    (pss_one (ps_ret pe_non))), fun a => ?der⟩
  case len => obtain ⟨v0, r0, rfl, h0, ⟨v1, r1, rfl, ⟨l1, w1, rfl, g1, z1, q1⟩, ⟨v2, rfl, h2⟩⟩⟩ := h; rfl
  case env => obtain ⟨v0, r0, rfl, h0, ⟨v1, r1, rfl, ⟨l1, w1, rfl, g1, z1, q1⟩, ⟨v2, rfl, h2⟩⟩⟩ := h; exact Env.of ⟨⟨v0, rfl, h0⟩, ⟨⟨l1, w1, rfl, g1, z1, q1⟩, ⟨⟨v2, rfl, h2⟩, ⟨True.intro, ⟨True.intro, ⟨True.intro, ⟨True.intro, True.intro⟩⟩⟩⟩⟩⟩⟩
  case der => exact ⟨_, (SJ.forL (s0 := ()) (post0 := (fun (s4 : Unit) => [.fz (tRecL (TyL.cons tStr (TyL.cons (tList tStr) (TyL.one (tList (tList tStr)))))) a.1, .bor (tTpl tInt) a.2.1, .fz (tTpl tInt) a.2.2, .any, .any, .any, .any])) (IJf.bor rfl) ⟨.inr rfl, .inr rfl, .inr rfl, .inl rfl, .inl rfl, .inl rfl, .inl rfl, True.intro⟩ (fun s4 x5 => GJ.name)
   (fun s4 x5 => (SJ.if1 (TP.test (PJ.op (OpP.ne (EqD.tup EqD.int) (Nat.le_of_ble_eq_true rfl)) (PJ.var rfl) (PJ.var rfl))) (SJ.last (SJ.forL (s0 := ()) (post0 := (fun (s6 : Unit) => [.fz (tRecL (TyL.cons tStr (TyL.cons (tList tStr) (TyL.one (tList (tList tStr)))))) a.1, .bor (tTpl tInt) a.2.1, .fz (tTpl tInt) a.2.2, .fz (tTpl tInt) x5, .any, .any, .any])) (IJf.list ((OpP.selL (Sel.there (Sel.there Sel.one)) (PJ.var rfl) rfl)).e) ⟨.inr rfl, .inr rfl, .inr rfl, .inr rfl, .inl rfl, .inl rfl, .inl rfl, True.intro⟩ (fun s6 x7 => GJ.name)
   (fun s6 x7 => (SJ.asg ((LJ.lc ((IJf.rngB (((OpP.selL (Sel.there Sel.here) (PJ.var rfl) rfl)).bo).e)).b (fun at8 => GJ.name) (by decide) (fun at8 => (TJ.test (EJ.op (OpP.m (OpP.inB EqD.str (Nat.le_of_ble_eq_true rfl))) (EJ.opP OpM.ixB ((OpP.selL (Sel.there Sel.here) (PJ.var rfl) rfl)).bo (PJ.var rfl)) (((PJ.var rfl)).bo).e))) (fun at8 => ((PJ.var rfl)).e))).fz (fun places10 => (SJ.if1m (TJ.val (EJ.call (CP.m CP.all) (AJ.one ((LJ.lc ((IJf.list ((PJ.var rfl)).e)).b (fun at11 => GJ.name) (by decide) (fun at11 => (TP.yes).e) (fun at11 => (EJ.op (OpP.m (OpP.eq EqD.int (Nat.le_of_ble_eq_true rfl))) (EJ.opP OpM.ixT (PJ.var rfl) (PJ.var rfl)) (EJ.opP OpM.ixT (PJ.var rfl) (PJ.var rfl)))))).bo))) (SJ.retP (PJ.some (nn_tup) (PJ.var rfl))) (SJ.next (b := ()) ⟨.inr rfl, .inr rfl, .inr rfl, .inr rfl, .inl rfl, .inl rfl, .inl rfl, True.intro⟩)))))
   (fun s6 => (SJ.next (b := ()) ⟨.inr rfl, .inr rfl, .inr rfl, .inl rfl, .inl rfl, .inl rfl, .inl rfl, True.intro⟩)))) (SJ.next (b := ()) ⟨.inr rfl, .inr rfl, .inr rfl, .inl rfl, .inl rfl, .inl rfl, .inl rfl, True.intro⟩)))
   (fun s4 => (SJ.retP PJ.nonO))), by simp only [m__law_clash, Mir.ret_bind, Mir.bind_bind, Mir.lt_eq, Mir.chk_bind, Mir.ret_bindO_nx, Mir.ret_bindO_rt, mOr, pAnd, pSub, pLe, pLt, mAdds, mCat, mMul, mDiv, mMod, mPow, mSgn, mRng, mStr, mSort, mJoin, mSplit, mCols, mApp, mExt, mIns, mSet, id, mIsName, mPart, mLenO, mIsSet, mRowKind, mPopAt, Mir.fail_bind, mInS, mNiS, mUpper, mSet1, mSortSet, mShl, mShr, mAnd, mMulS, mPutD, pIn, pNi]⟩
end
end Lw

namespace Lw
open PySem PySem.Spec PyProof.Rows L2 SlX StX Ax
section
variable {P : Program} {w : World} {K : PySem.W.Frag} {mg : Str → Option Value} {base : Heap}
/-! _law_draw -/
theorem ok__law_draw (T : TX P K mg) : FnR P w K mg base (L2.CX P w) 1 T.a__law_draw spDraw := by
  refine pool_draw (fnR_of T.d__law_draw sc__law_draw (fun _ _ _ _ _ _ us hl => match us, hl with | [_, _], _ => rfl) (fun vs H Q E h => ?_) fun cdv A outer s H vs Q E hr hsp => ?_)
  · obtain ⟨p, ns, m, G, Hm, rfl, _⟩ := h; rfl
  obtain ⟨p, ns, m, G, Hm, rfl, hp, hm0, hg0, N, hm, hQ⟩ := hsp
  refine ⟨_, (pss_cons (ps_if (pt_cmpR (op_eqK (K := K) rfl hr.units) (pv 0) (pe_lst pa_nil) (nomark _)) (pss_one (ps_ret pe_int)) pss_nil)
    (pss_one (ps_ret (pe_op op_mod (pe_callTy (call_int1) rfl T.b_int (by decide +kernel) (pa_cons (pe_bm0 PySem.F.plainAttrs_list PySem.F.slot_list_pop PySem.F.type_list_pop mt_pop (pv 0)) pa_nil)) (pv 1))))), ?_⟩
  got_up
  refine ⟨Nat.zero_le _, fun q hq0 => ?_⟩
  obtain ⟨G', H', e, N', n, hq⟩ := nobj N hq0 (.lst [])
  rw [e]
  have hp' := n.e _ _ hp
  have hg' := n.hid hp hg0
  refine eq_d (α := List Int) (x := ns) (y := []) (da_li (sqL hp')) (.lst (sqL (N'.h _ _ hq)) .nil) ?_
  got_up
  refine t_if (fun e => ?_) (fun e => ?_)
  · got_up
    exact hQ 0 ns G' H' N' hp' hg' (by omega) hm
  · got_up
    have hne : ns ≠ [] := of_decide_eq_false e
    obtain ⟨ys, y, rfl⟩ := snoc_of hne
    rw [List.map_append] at hp'
    refine ⟨ty_l hp', pop_l hp' ?_⟩
    obtain ⟨H2, e2, N2, hp2⟩ := mobj N' hm0 hg' (.lst (ys.map V.int))
    rw [e2]
    got_up
    refine .inl ⟨y, rfl, ?_⟩
    got_up
    refine mod_i hm ?_
    exact hQ _ ys G' H2 N2 hp2 hg' (Int.emod_nonneg _ (by omega)) (Int.emod_lt_of_pos _ hm)
end
end Lw

namespace Lw
open PySem PySem.Spec PyProof.Rows L2 SlX StX Ax
section
variable {P : Program} {w : World} {K : PySem.W.Frag} {mg : Str → Option Value} {base : Heap}
/-! _law_values -/
theorem ok__law_values (T : TX P K mg) : FnR P w K mg base (L2.CX P w) 5 T.a__law_values spValues := by
  refine fnR_of T.d__law_values sc__law_values (fun _ _ _ _ _ _ us hl => match us, hl with | [_], _ => rfl) (spX_len fun a vs G h => by rw [h.1]; rfl) fun cdv A outer s H vs Q E hr hsp => ?_
  obtain ⟨p, G, hG, ⟨rfl, hp⟩, hQ, _⟩ := hsp
  refine ⟨_, (pss_cons (ps_asg (pe_callR (ok__law_draw T) (hr.mono (by decide)) T.k__law_draw rfl T.m__law_draw passL (pa_cons (pv 0) (pa_cons pe_int pa_nil))) (pg_name (i := 1) sc__law_values.nd rfl (by first | exact Or.inl rfl | exact Or.inr rfl)))
    (pss_cons (ps_if (pt_cmpR (op_eqK (K := K) rfl hr.units) (pv 1) pe_int (nomark _)) (pss_one (ps_ret (pe_lst (pa_cons pe_int (pa_cons pe_int (pa_cons pe_int (pa_cons pe_int pa_nil))))))) pss_nil)
    (pss_cons (ps_if (pt_cmpR (op_eqK (K := K) rfl hr.units) (pv 1) pe_int (nomark _)) (pss_one (ps_ret (pe_lst (pa_cons pe_int (pa_cons (pe_un un_neg pe_int) (pa_cons pe_int (pa_cons pe_int pa_nil))))))) pss_nil)
    (pss_cons (ps_asg pe_int (pg_name (i := 2) sc__law_values.nd rfl (by first | exact Or.inl rfl | exact Or.inr rfl)))
    (pss_cons (ps_for (passes_of rfl) rfl (pi_range1 rfl T.b_range (pa_cons pe_int pa_nil)) (pg_name (i := 3) sc__law_values.nd rfl (by first | exact Or.inl rfl | exact Or.inr rfl))
    (pss_one (ps_asg (pe_op (op_addK (K := K) rfl) (pe_op op_mulU (pv 2) pe_int) (pe_callR (ok__law_draw T) (hr.mono (by decide)) T.k__law_draw rfl T.m__law_draw passL (pa_cons (pv 0) (pa_cons pe_int pa_nil)))) (pg_name (i := 2) sc__law_values.nd rfl (by first | exact Or.inl rfl | exact Or.inr rfl)))))
    (pss_one (ps_ret (pe_lst (pa_cons (pv 2) (pa_cons (pe_op op_sub (pe_un un_neg (pv 2)) pe_int) (pa_cons (pe_op op_fdiv (pv 2) pe_int) (pa_cons pe_int pa_nil)))))))))))), ?_⟩
  have N : Nx G H G H := Nx.refl hG
  have fin : ∀ {G1 H1 : Hp} (a b c d : Int), Nx G H G1 H1 → ∀ q, H1 q = none → Q (.ref q) (upd H1 q (.lst [.int a, .int b, .int c, .int d])) := fun a b c d N1 q hq => by
    obtain ⟨G2, H2, e, N2, n2, h2⟩ := nobj N1 hq (.lst [.int a, .int b, .int c, .int d])
    rw [e]
    exact hQ _ G2 H2 N2 ⟨q, [a, b, c, d], rfl, h2, rfl⟩
  got_up
  refine dr N hp (by decide) fun k G1 H1 N1 n1 ka kb => ?_
  have hp1 := n1.g _ _ hp
  got_up
  refine t_if (fun _ => ?_) (fun _ => ?_)
  · got_up
    exact ⟨sz (by simp), fin _ _ _ _ N1⟩
  got_up
  refine t_if (fun _ => ?_) (fun _ => ?_)
  · got_up
    exact ⟨sz (by simp), fin _ _ _ _ N1⟩
  got_up
  refine ⟨_, rfl, by omega, by omega, ?_⟩
  refine frb (src_rng (n := 8) rfl) N1 (fun i σ G' H' => ∃ x1 x3, ∃ b : Int, σ = [some (.ref p), x1, some (.int b), x3]) ⟨_, _, _, rfl⟩ ?_ ?_
  · rintro i x σ' G' H' G2 H2 hi ⟨x1, x3, b, rfl⟩ N2 s2 n2 rfl
    got_up
    refine mul_i (.inr (by decide)) ?_
    got_up
    refine dr N2 (s2 _ _ hp1) (by decide) fun r G3 H3 N3 n3 ra rb => ?_
    got_up
    exact ⟨G3, N3, s2.trans n3.g, _, _, _, rfl⟩
  · rintro σ' G' H' ⟨x1, x3, b, rfl⟩ N2 s2
    got_up
    refine ⟨_, _, rfl, rfl, ⟨by decide, by decide⟩, ?_⟩
    got_up
    exact ⟨sz (by simp), fin _ _ _ _ N2⟩
end
end Lw

namespace Lw
open PySem PySem.Spec PyProof.Rows L2 SlX StX Ax
section
variable {P : Program} {w : World} {K : PySem.W.Frag} {mg : Str → Option Value} {base : Heap}
/-! _law_filling -/
def m__law_filling (pool1 : Unit) (tables2 : (List (Str × (List Str) × (List (List Str))))) (most3 : Int) : Mir (List (Str × List (List Int))) :=
  ((((mValues).bind fun values4 => (((((Mir.draw (3 : Int))).bind fun v5 => Mir.ret (((2 : Int) + v5)))).bind fun spread6 => ((Mir.ret ([] : (List (Str × List (List Int))))).bind fun filling7 => (Mir.bindO (Mir.forL tables2 filling7 fun s8 x9 => (Mir.lt ([] : (List (List Int))) fun rows10 => (((((Mir.draw (most3 + (1 : Int)))).bind fun v11 => (mRng v11))).bind fun v24 => (Mir.bindO (Mir.forL v24 rows10 fun s12 x13 => (((((Mir.comp x9.2.1 (fun name16 => (Mir.ret (true))) (fun name16 => (((Mir.draw spread6)).bind fun v17 => (Mir.get values4 v17)))).nox).bind fun v18 => Mir.ret (v18))).bind fun row19 => (((Mir.ifB (pNi row19 s12) (((m__law_clash x9 s12 row19)).bind fun v20 => Mir.ret ((v20).isNone)) (Mir.ret false))).bind fun v22 => (Mir.ifB v22 (mApp s12 row19 fun rows21 => (Mir.ret (Out.nx rows21))) (Mir.ret (Out.nx s12)))))) fun s12 => (mPutD s8 x9.1 s12 fun filling23 => (Mir.ret (Out.nx filling23))))))) fun s8 => (Mir.ret (Out.rt s8)))))) : Mir (Out Unit (List (Str × List (List Int)))))).exit.nox
theorem ok__law_filling (T : TX P K mg) : FnR P w K mg base (L2.CX P w) 9 T.a__law_filling (spM (rx T) (TyA.cons tPool.h (TyA.cons (tList (tRecL (TyL.cons tStr (TyL.cons (tList tStr) (TyL.one (tList (tList tStr))))))).h (TyA.one tInt.h))) (rtT (oDO (oL (tTpl tInt)))) fun (a : Unit × (List (Str × (List Str) × (List (List Str)))) × Int) => m__law_filling a.1 a.2.1 a.2.2) := by
  refine fnM (β := Unit) (Γ0 := fun a => [.fz tPool a.1, .fz (tList (tRecL (TyL.cons tStr (TyL.cons (tList tStr) (TyL.one (tList (tList tStr))))))) a.2.1, .fz tInt a.2.2, .any, .any, .any, .any, .any, .any, .any, .any]) T.d__law_filling sc__law_filling (fun _ _ _ _ _ _ us hl => match us, hl with | [_, _, _], _ => rfl) (fun {a vs G H} h => ?len) (fun {a vs G H} h => ?env) fun cdv Ar outer s H E hr => ⟨_, (pss_cons (ps_asg (pe_callR (ok__law_values T) (hr.mono (by decide)) T.k__law_values rfl T.m__law_values passL (pa_cons (pv 0) pa_nil)) (pg_name (i := 3) sc__law_filling.nd rfl (by first | exact Or.inl rfl | exact Or.inr rfl)))
    (pss_cons (ps_asg (pe_op (op_addK (K := K) rfl) pe_int (pe_callR (ok__law_draw T) (hr.mono (by decide)) T.k__law_draw rfl T.m__law_draw passL (pa_cons (pv 0) (pa_cons pe_int pa_nil)))) (pg_name (i := 4) sc__law_filling.nd rfl (by first | exact Or.inl rfl | exact Or.inr rfl)))
    (pss_cons (ps_asg pe_dnewK (pg_name (i := 5) sc__law_filling.nd rfl (by first | exact Or.inl rfl | exact Or.inr rfl)))
    (pss_cons (ps_for (passes_of rfl) rfl (pi_listK (K := K) rfl (pv 1)) (pg_name (i := 6) sc__law_filling.nd rfl (by first | exact Or.inl rfl | exact Or.inr rfl))
    (pss_cons (ps_asg (pe_lst pa_nil) (pg_name (i := 7) sc__law_filling.nd rfl (by first | exact Or.inl rfl | exact Or.inr rfl)))
    (pss_cons (ps_for (passes_of rfl) rfl (pi_range1 rfl T.b_range (pa_cons (pe_callR (ok__law_draw T) (hr.mono (by decide)) T.k__law_draw rfl T.m__law_draw passL (pa_cons (pv 0) (pa_cons (pe_op (op_addK (K := K) rfl) (pv 2) pe_int) pa_nil))) pa_nil)) (pg_name (i := 8) sc__law_filling.nd rfl (by first | exact Or.inl rfl | exact Or.inr rfl))
    (pss_cons (ps_asg (pe_callTy (call_tupleK (K := K) rfl) rfl T.b_tuple (by decide +kernel) (pa_cons (pe_lc (own := [("_law_name", 10)]) rfl sc__law_filling.nd (pi_listK (K := K) rfl (pe_ix (ix_K (K := K) rfl) (pv 6) pe_int (fun _ _ => rfl))) (blkOk_by (own := [("_law_name", 10)]) (N := N__law_filling) (sc := df__law_filling.scope) (by decide +kernel)) (fun _ _ _ _ _ => (pg_name (i := 10) sc__law_filling.nd rfl (by first | exact Or.inl rfl | exact Or.inr rfl))) (fun _ _ _ _ _ => pts_nil) (fun _ _ _ _ _ => (pe_ix (ix_K (K := K) rfl) (pv 3) (pe_callR (ok__law_draw T) (hr.mono (by decide)) T.k__law_draw rfl T.m__law_draw passL (pa_cons (pv 0) (pa_cons (pv 4) pa_nil))) (fun _ _ => rfl)))) pa_nil)) (pg_name (i := 9) sc__law_filling.nd rfl (by first | exact Or.inl rfl | exact Or.inr rfl)))
    (pss_one (ps_if (PW.pt (pw_and (pt_cmpR (op_niK (K := K) rfl hr.units) (pv 9) (pv 7) rfl) (pw_and1 (pt_cmpR op_isN (pe_callR (ok__law_clash T) (hr.mono (by decide)) T.k__law_clash rfl T.m__law_clash passL (pa_cons (pv 6) (pa_cons (pv 7) (pa_cons (pv 9) pa_nil)))) pe_non (nomark _))))) (pss_one (ps_expr (pe_bm PySem.F.plainAttrs_list PySem.F.slot_list_append PySem.F.type_list_append mt_append (pv 7) (pa_cons (pv 9) pa_nil)))) pss_nil))))
    (pss_one (ps_dput (units1 hr.units) (pv 5) (pe_ix (ix_K (K := K) rfl) (pv 6) pe_int (fun _ _ => rfl)) (pv 7) rfl)))))
    (pss_one (ps_ret (pv 5))))))), fun a => ?der⟩
  case len => obtain ⟨v0, r0, rfl, h0, ⟨v1, r1, rfl, h1, ⟨v2, rfl, h2⟩⟩⟩ := h; rfl
  case env => obtain ⟨v0, r0, rfl, h0, ⟨v1, r1, rfl, h1, ⟨v2, rfl, h2⟩⟩⟩ := h; exact Env.of ⟨⟨v0, rfl, h0⟩, ⟨⟨v1, rfl, h1⟩, ⟨⟨v2, rfl, h2⟩, ⟨True.intro, ⟨True.intro, ⟨True.intro, ⟨True.intro, ⟨True.intro, ⟨True.intro, ⟨True.intro, ⟨True.intro, True.intro⟩⟩⟩⟩⟩⟩⟩⟩⟩⟩⟩
  case der => exact ⟨_, (SJ.asg (EJ.callP CM.values (AP.one (PJ.var rfl))) (fun values4 => (SJ.asg (EJ.op (OpP.m OpP.add) (PJ.int).e (EJ.callP CM.draw (AP.cons (PJ.var rfl) (AP.one PJ.int)))) (fun spread6 => (SJ.asgT (T := (oDO (oL (tTpl tInt)))) EJT.newD rfl (fun filling7 => (SJ.forL (s0 := filling7) (post0 := (fun (s8 : (List (Str × List (List Int)))) => [.fz tPool a.1, .fz (tList (tRecL (TyL.cons tStr (TyL.cons (tList tStr) (TyL.one (tList (tList tStr))))))) a.2.1, .fz tInt a.2.2, .fz (tList tInt) values4, .fz tInt spread6, .tr (oDO (oL (tTpl tInt))) (s8), .any, .any, .any, .any, .any])) (IJf.list ((PJ.var rfl)).e) ⟨.inr rfl, .inr rfl, .inr rfl, .inr rfl, .inr rfl, .inr rfl, .inl rfl, .inl rfl, .inl rfl, .inl rfl, .inl rfl, True.intro⟩ (fun s8 x9 => GJ.name)
   (fun s8 x9 => (SJ.asgLP (LP.lst (t := (tTpl tInt)) AP.lnil (Nat.le_of_ble_eq_true rfl)) (fun rows10 => (SJ.forL (s0 := rows10) (post0 := (fun (s12 : (List (List Int))) => [.fz tPool a.1, .fz (tList (tRecL (TyL.cons tStr (TyL.cons (tList tStr) (TyL.one (tList (tList tStr))))))) a.2.1, .fz tInt a.2.2, .fz (tList tInt) values4, .fz tInt spread6, .tr (oDO (oL (tTpl tInt))) (s8), .fz (tRecL (TyL.cons tStr (TyL.cons (tList tStr) (TyL.one (tList (tList tStr)))))) x9, .own (tTpl tInt) s12, .any, .any, .any])) (IJf.rng1 (EJ.callP CM.draw (AP.cons (PJ.var rfl) (AP.one (PJ.op OpP.add (PJ.var rfl) PJ.int))))) ⟨.inr rfl, .inr rfl, .inr rfl, .inr rfl, .inr rfl, .inr rfl, .inr rfl, .inr rfl, .inl rfl, .inl rfl, .inl rfl, True.intro⟩ (fun s12 x13 => GJ.name)
   (fun s12 x13 => (SJ.asg (EJ.call (CP.m CP.tuple) (AJ.one ((LJ.lc ((IJf.list ((OpP.selL (Sel.there Sel.here) (PJ.var rfl) rfl)).e)).b (fun name16 => GJ.name) (by decide) (fun name16 => (TP.yes).e) (fun name16 => (EJ.op OpM.ixB (((PJ.var rfl)).bo).e (EJ.callP CM.draw (AP.cons (PJ.var rfl) (AP.one (PJ.var rfl)))))))).bo)) (fun row19 => (SJ.if1m (TJ.and ((TP.test (PJ.op (OpP.niB (EqD.tup EqD.int) (Nat.le_of_ble_eq_true rfl)) (PJ.var rfl) (PJ.varB (.inl rfl))))).e (TJ.test (EJ.op (OpP.m OpP.isN) (EJ.callP CM.fn (AP.cons (PJ.var rfl) (AP.cons (PJ.varB (.inl rfl)) (AP.one (PJ.var rfl))))) (PJ.non).e))) (SJ.last (SJ.appendP rfl (PJ.var rfl) (fun rows21 => (SJ.next (b := rows21) ⟨.inr rfl, .inr rfl, .inr rfl, .inr rfl, .inr rfl, .inr rfl, .inr rfl, .inr rfl, .inl rfl, .inl rfl, .inl rfl, True.intro⟩)))) (SJ.next (b := s12) ⟨.inr rfl, .inr rfl, .inr rfl, .inr rfl, .inr rfl, .inr rfl, .inr rfl, .inr rfl, .inl rfl, .inl rfl, .inl rfl, True.intro⟩)))))
   (fun s12 => (SJ.last (SJ.putD rfl rfl rfl ((OpP.selL Sel.here (PJ.var rfl) rfl)).e (fun filling23 => (SJ.next (b := filling23) ⟨.inr rfl, .inr rfl, .inr rfl, .inr rfl, .inr rfl, .inr rfl, .inl rfl, .inl rfl, .inl rfl, .inl rfl, .inl rfl, True.intro⟩)))))))))
   (fun s8 => (SJ.retT rfl))))))))), by simp only [m__law_filling, Mir.ret_bind, Mir.bind_bind, Mir.lt_eq, Mir.chk_bind, Mir.ret_bindO_nx, Mir.ret_bindO_rt, mOr, pAnd, pSub, pLe, pLt, mAdds, mCat, mMul, mDiv, mMod, mPow, mSgn, mRng, mStr, mSort, mJoin, mSplit, mCols, mApp, mExt, mIns, mSet, id, mIsName, mPart, mLenO, mIsSet, mRowKind, mPopAt, Mir.fail_bind, mInS, mNiS, mUpper, mSet1, mSortSet, mShl, mShr, mAnd, mMulS, mPutD, pIn, pNi]⟩
end
end Lw

namespace Lw
open PySem PySem.Spec PyProof.Rows L2 SlX StX Ax
section
variable {P : Program} {w : World} {K : PySem.W.Frag} {mg : Str → Option Value} {base : Heap}
/-! _law_flag -/
def m__law_flag (actual1 : Bool) (due2 : Bool) : Mir Bool :=
  (((Mir.ret (Out.rt (true && (decide (actual1 = due2))))) : Mir (Out Unit Bool))).exit.nox
theorem ok__law_flag (T : TX P K mg) : FnR P w K mg base (L2.CX P w) 1 T.a__law_flag (spM (rx T) (TyA.cons tBool.h (TyA.one tBool.h)) (rtF tBool) fun (a : Bool × Bool) => m__law_flag a.1 a.2) := by
  refine fnM (β := Unit) (Γ0 := fun a => [.fz tBool a.1, .fz tBool a.2]) T.d__law_flag sc__law_flag (fun _ _ _ _ _ _ us hl => match us, hl with | [_, _], _ => rfl) (fun {a vs G H} h => ?len) (fun {a vs G H} h => ?env) fun cdv Ar outer s H E hr => ⟨_, (pss_one (ps_ret (pe_and (pe_callB (call_isiK' (K := K) rfl) rfl T.b_isinstance (by decide +kernel) (pa_cons (pv 0) (pa_cons (pe_bltn (v := .ty "bool") (u := .type "bool") rfl T.b_bool (by decide +kernel) rfl) pa_nil))) (pe_one (pe_cmpR (op_eqK (K := K) rfl hr.units) (pv 0) (pv 1) (nomark _)))))), fun a => ?der⟩
  case len => obtain ⟨v0, r0, rfl, h0, ⟨v1, rfl, h1⟩⟩ := h; rfl
  case env => obtain ⟨v0, r0, rfl, h0, ⟨v1, rfl, h1⟩⟩ := h; exact Env.of ⟨⟨v0, rfl, h0⟩, ⟨⟨v1, rfl, h1⟩, True.intro⟩⟩
  case der => exact ⟨_, (SJ.retP (PJ.and (PJ.isiB ty_bool (by first | rfl | kernel_rfl) (PJ.var rfl)) (PJ.op (OpP.eq EqD.bool (Nat.le_of_ble_eq_true rfl)) (PJ.var rfl) (PJ.var rfl)))), by simp only [m__law_flag, Mir.ret_bind, Mir.bind_bind, Mir.lt_eq, Mir.chk_bind, Mir.ret_bindO_nx, Mir.ret_bindO_rt, mOr, pAnd, pSub, pLe, pLt, mAdds, mCat, mMul, mDiv, mMod, mPow, mSgn, mRng, mStr, mSort, mJoin, mSplit, mCols, mApp, mExt, mIns, mSet, id, mIsName, mPart, mLenO, mIsSet, mRowKind, mPopAt, Mir.fail_bind, mInS, mNiS, mUpper, mSet1, mSortSet, mShl, mShr, mAnd, mMulS, mPutD, pIn, pNi]⟩
end
end Lw

namespace Lw
open PySem PySem.Spec PyProof.Rows L2 SlX StX Ax
section
variable {P : Program} {w : World} {K : PySem.W.Frag} {mg : Str → Option Value} {base : Heap}
/-! _law_labels -/
def m__law_labels (pool1 : Unit) (names2 : (List Str)) : Mir (List Str) :=
  (((((((Mir.draw (4 : Int))).bind fun v3 => Mir.ret ((decide (v3 = (1 : Int)))))).bind fun v6 => (Mir.ifB v6 (((Mir.comp (rangeL 0 6) (fun k4 => (Mir.ret (true))) (fun k4 => (Mir.get names2 ((7 : Int) - k4)))).nox).bind fun v5 => (Mir.ret (Out.rt v5))) (Mir.ret (Out.rt (cutL names2 (some (8 : Int)) (some (14 : Int))))))) : Mir (Out Unit (List Str)))).exit.nox
theorem ok__law_labels (T : TX P K mg) : FnR P w K mg base (L2.CX P w) 5 T.a__law_labels (spM (rx T) (TyA.cons tPool.h (TyA.one (tList tStr).h)) (rtL tStr) fun (a : Unit × (List Str)) => m__law_labels a.1 a.2) := by
  refine fnM (β := Unit) (Γ0 := fun a => [.fz tPool a.1, .fz (tList tStr) a.2, .any]) T.d__law_labels sc__law_labels (fun _ _ _ _ _ _ us hl => match us, hl with | [_, _], _ => rfl) (fun {a vs G H} h => ?len) (fun {a vs G H} h => ?env) fun cdv Ar outer s H E hr => ⟨_, (pss_cons (ps_if (pt_cmpR (op_eqK (K := K) rfl hr.units) (pe_callR (ok__law_draw T) (hr.mono (by decide)) T.k__law_draw rfl T.m__law_draw passL (pa_cons (pv 0) (pa_cons pe_int pa_nil))) pe_int (nomark _)) (pss_one (ps_ret (pe_lc (own := [("_law_k", 2)]) rfl sc__law_labels.nd (pi_range1 rfl T.b_range (pa_cons pe_int pa_nil)) (blkOk_by (own := [("_law_k", 2)]) (N := N__law_labels) (sc := df__law_labels.scope) (by decide +kernel)) (fun _ _ _ _ _ => (pg_name (i := 2) sc__law_labels.nd rfl (by first | exact Or.inl rfl | exact Or.inr rfl))) (fun _ _ _ _ _ => pts_nil) (fun _ _ _ _ _ => (pe_ix (ix_K (K := K) rfl) (pv 1) (pe_op op_sub pe_int (pv 2)) (fun _ _ => rfl)))))) pss_nil)
    (pss_one (ps_ret (pe_slice (sl_listK (K := K) rfl) (pv 1) (po_some pe_int) (po_some pe_int))))), fun a => ?der⟩
  case len => obtain ⟨v0, r0, rfl, h0, ⟨v1, rfl, h1⟩⟩ := h; rfl
  case env => obtain ⟨v0, r0, rfl, h0, ⟨v1, rfl, h1⟩⟩ := h; exact Env.of ⟨⟨v0, rfl, h0⟩, ⟨⟨v1, rfl, h1⟩, ⟨True.intro, True.intro⟩⟩⟩
  case der => exact ⟨_, (SJ.guardM (TJ.test (EJ.op (OpP.m (OpP.eq EqD.int (Nat.le_of_ble_eq_true rfl))) (EJ.callP CM.draw (AP.cons (PJ.var rfl) (AP.one PJ.int))) (PJ.int).e)) (SJ.retL (LJ.lc ((IJf.rngN (n := 6))).b (fun k4 => GJ.name) (by decide) (fun k4 => (TP.yes).e) (fun k4 => (EJ.opP OpM.ixB ((PJ.var rfl)).bo (PJ.op OpP.sub PJ.int (PJ.var rfl)))))) (SJ.retL ((LP.sl ((PJ.var rfl)).bo (BP.some PJ.int) (BP.some PJ.int))).e)), by simp only [m__law_labels, Mir.ret_bind, Mir.bind_bind, Mir.lt_eq, Mir.chk_bind, Mir.ret_bindO_nx, Mir.ret_bindO_rt, mOr, pAnd, pSub, pLe, pLt, mAdds, mCat, mMul, mDiv, mMod, mPow, mSgn, mRng, mStr, mSort, mJoin, mSplit, mCols, mApp, mExt, mIns, mSet, id, mIsName, mPart, mLenO, mIsSet, mRowKind, mPopAt, Mir.fail_bind, mInS, mNiS, mUpper, mSet1, mSortSet, mShl, mShr, mAnd, mMulS, mPutD, pIn, pNi]⟩
end
end Lw

namespace Lw
open PySem PySem.Spec PyProof.Rows L2 SlX StX Ax
section
variable {P : Program} {w : World} {K : PySem.W.Frag} {mg : Str → Option Value} {base : Heap}
/-! _law_names -/
theorem ok__law_names (T : TX P K mg) : FnR P w K mg base (L2.CX P w) 5 T.a__law_names spNames := by
  refine fnR_of T.d__law_names sc__law_names (fun _ _ _ _ _ _ us hl => match us, hl with | [_, _], _ => rfl) (spX_len fun a vs G h => by rw [h.1]; rfl) fun cdv A outer s H vs Q E hr hsp => ?_
  obtain ⟨⟨p, m⟩, G, hG, ⟨rfl, hp, hm⟩, hQ, _⟩ := hsp
  try dsimp only at *
  refine ⟨_, (pss_cons (ps_asg pe_str (pg_name (i := 2) sc__law_names.nd rfl (by first | exact Or.inl rfl | exact Or.inr rfl)))
    (pss_cons (ps_asg (pe_ix (ix_K (K := K) rfl) (pv 2) (pe_callR (ok__law_draw T) (hr.mono (by decide)) T.k__law_draw rfl T.m__law_draw passL (pa_cons (pv 0) (pa_cons pe_int pa_nil))) (fun _ _ => rfl)) (pg_name (i := 3) sc__law_names.nd rfl (by first | exact Or.inl rfl | exact Or.inr rfl)))
    (pss_cons (ps_for (passes_of rfl) rfl (pi_range1 rfl T.b_range (pa_cons pe_int pa_nil)) (pg_name (i := 4) sc__law_names.nd rfl (by first | exact Or.inl rfl | exact Or.inr rfl))
    (pss_one (ps_asg (pe_op (op_addK (K := K) rfl) (pv 3) (pe_ix (ix_K (K := K) rfl) (pe_op (op_addK (K := K) rfl) pe_str (pv 2)) (pe_callR (ok__law_draw T) (hr.mono (by decide)) T.k__law_draw rfl T.m__law_draw passL (pa_cons (pv 0) (pa_cons pe_int pa_nil))) (fun _ _ => rfl))) (pg_name (i := 3) sc__law_names.nd rfl (by first | exact Or.inl rfl | exact Or.inr rfl)))))
    (pss_cons (ps_asg (pe_callR (ok__law_draw T) (hr.mono (by decide)) T.k__law_draw rfl T.m__law_draw passL (pa_cons (pv 0) (pa_cons pe_int pa_nil))) (pg_name (i := 5) sc__law_names.nd rfl (by first | exact Or.inl rfl | exact Or.inr rfl)))
    (pss_cons (ps_asg (pe_ix (ix_K (K := K) rfl) (pe_lst (pa_cons pe_int (pa_cons pe_int (pa_cons pe_int (pa_cons pe_int (pa_cons pe_int (pa_cons pe_int (pa_cons pe_int (pa_cons pe_int (pa_cons pe_int (pa_cons pe_int (pa_cons pe_int (pa_cons pe_int pa_nil))))))))))))) (pe_callR (ok__law_draw T) (hr.mono (by decide)) T.k__law_draw rfl T.m__law_draw passL (pa_cons (pv 0) (pa_cons pe_int pa_nil))) (fun _ _ => rfl)) (pg_name (i := 6) sc__law_names.nd rfl (by first | exact Or.inl rfl | exact Or.inr rfl)))
    (pss_cons (ps_asg (pe_callR (ok__law_draw T) (hr.mono (by decide)) T.k__law_draw rfl T.m__law_draw passL (pa_cons (pv 0) (pa_cons pe_int pa_nil))) (pg_name (i := 7) sc__law_names.nd rfl (by first | exact Or.inl rfl | exact Or.inr rfl)))
    (pss_cons (ps_asg (pe_callR (ok__law_draw T) (hr.mono (by decide)) T.k__law_draw rfl T.m__law_draw passL (pa_cons (pv 0) (pa_cons pe_int pa_nil))) (pg_name (i := 8) sc__law_names.nd rfl (by first | exact Or.inl rfl | exact Or.inr rfl)))
    (pss_cons (ps_asg (pe_lst pa_nil) (pg_name (i := 9) sc__law_names.nd rfl (by first | exact Or.inl rfl | exact Or.inr rfl)))
    (pss_cons (ps_for (passes_of rfl) rfl (pi_range1 rfl T.b_range (pa_cons (pv 1) pa_nil)) (pg_name (i := 4) sc__law_names.nd rfl (by first | exact Or.inl rfl | exact Or.inr rfl))
    (pss_cons (ps_asg (pe_ix (ix_K (K := K) rfl) (pv 2) (pe_op op_mod (pe_callTy (call_int1) rfl T.b_int (by decide +kernel) (pa_cons (pe_op (op_addK (K := K) rfl) (pv 5) (pe_op op_mulU (pv 4) (pv 6))) pa_nil)) pe_int) (fun _ _ => rfl)) (pg_name (i := 10) sc__law_names.nd rfl (by first | exact Or.inl rfl | exact Or.inr rfl)))
    (pss_one (ps_if (pt_cmpR (op_eqK (K := K) rfl hr.units) (pv 7) pe_int (nomark _)) (pss_one (ps_expr (pe_bm PySem.F.plainAttrs_list PySem.F.slot_list_append PySem.F.type_list_append mt_append (pv 9) (pa_cons (pe_op (op_addK (K := K) rfl) (pe_op (op_addK (K := K) rfl) (pe_slice sl_str (pv 3) po_none (po_some (pv 8))) (pv 10)) (pe_slice sl_str (pv 3) (po_some (pv 8)) po_none)) pa_nil)))) (pss_one (ps_if (pt_cmpR (op_eqK (K := K) rfl hr.units) (pv 7) pe_int (nomark _)) (pss_one (ps_expr (pe_bm PySem.F.plainAttrs_list PySem.F.slot_list_append PySem.F.type_list_append mt_append (pv 9) (pa_cons (pe_op (op_addK (K := K) rfl) (pv 10) (pe_slice sl_str (pv 3) po_none (po_some (pe_callR (ok__law_draw T) (hr.mono (by decide)) T.k__law_draw rfl T.m__law_draw passL (pa_cons (pv 0) (pa_cons pe_int pa_nil)))))) pa_nil)))) (pss_one (ps_if (pt_cmpR (op_eqK (K := K) rfl hr.units) (pv 7) pe_int (nomark _)) (pss_one (ps_expr (pe_bm PySem.F.plainAttrs_list PySem.F.slot_list_append PySem.F.type_list_append mt_append (pv 9) (pa_cons (pv 10) pa_nil)))) (pss_one (ps_if (pt_cmpR (op_eqK (K := K) rfl hr.units) (pv 7) pe_int (nomark _)) (pss_cons (ps_asg (pe_ix (ix_K (K := K) rfl) (pv 2) (pe_op op_mod (pe_callTy (call_int1) rfl T.b_int (by decide +kernel) (pa_cons (pe_op (op_addK (K := K) rfl) (pv 5) (pe_op op_mulU (pe_op op_mod (pe_callTy (call_int1) rfl T.b_int (by decide +kernel) (pa_cons (pv 4) pa_nil)) pe_int) (pv 6))) pa_nil)) pe_int) (fun _ _ => rfl)) (pg_name (i := 10) sc__law_names.nd rfl (by first | exact Or.inl rfl | exact Or.inr rfl)))
    (pss_one (ps_expr (pe_bm PySem.F.plainAttrs_list PySem.F.slot_list_append PySem.F.type_list_append mt_append (pv 9) (pa_cons (pe_op (op_addK (K := K) rfl) (pv 10) (pe_slice sl_str (pv 3) po_none (po_some (pe_op op_sub pe_int (pe_op op_fdiv (pv 4) pe_int))))) pa_nil))))) (pss_one (ps_expr (pe_bm PySem.F.plainAttrs_list PySem.F.slot_list_append PySem.F.type_list_append mt_append (pv 9) (pa_cons (pe_op (op_addK (K := K) rfl) (pe_slice sl_str (pv 3) po_none (po_some (pe_op (op_addK (K := K) rfl) pe_int (pe_op op_fdiv (pv 8) pe_int)))) (pe_slice sl_str (pe_callTy (call_str_int) rfl T.b_str (by decide +kernel) (pa_cons (pv 4) pa_nil)) po_none (po_some (pv 4)))) pa_nil))))))))))))))
    (pss_one (ps_ret (pv 9)))))))))))), ?_⟩
  have N : Nx G H G H := Nx.refl hG
  got_up
  refine dr N (hp) (by decide) fun r1 G1 H1 N1 n1 r1a r1b => ?_
  have hp1 := n1.g _ _ hp
  obtain ⟨c1, hc1, lc1⟩ := let_at r1a r1b
  refine ix_s (by decide +kernel) hc1 ?_
  got_up
  refine ⟨_, rfl, by decide, by decide, ?_⟩
  refine frb (src_rng (n := 6) rfl) N1 (fun i σ G' H' => ∃ wd x4 x5 x6 x7 x8 x9 x10, σ = [some (.ref p), some (.int m), some (.str sLet), some (.str wd), x4, x5, x6, x7, x8, x9, x10] ∧ Hd wd ∧ An wd ∧ wd.length = 1 + i)
    ⟨⟨#[c1]⟩, _, _, _, _, _, _, _, rfl, .one lc1, .one (low_aln lc1), rfl⟩ ?_ ?_
  · rintro i x σ' G' H' G2 H2 hi ⟨wd, x4, x5, x6, x7, x8, x9, x10, rfl, hw1, hw2, hw3⟩ N2 s2 n2 rfl
    got_up
    refine add_s (by decide +kernel) ?_
    got_up
    refine dr N2 (s2 _ _ hp1) (by decide) fun r G3 H3 N3 n3 ra rb => ?_
    obtain ⟨c, hc, lc⟩ := aln_at ra rb
    refine ix_s (by decide +kernel) hc ?_
    refine add_s (by rw [len_one]; omega) ?_
    got_up
    exact ⟨G3, N3, s2.trans n3.g, _, _, _, _, _, _, _, _, rfl, hw1.app, hw2.app (.one lc), by rw [len_app, len_one, hw3]; omega⟩
  rintro σ' G' H' ⟨wd, x4, x5, x6, x7, x8, x9, x10, rfl, hw1, hw2, hw3⟩ N2 s2
  have hp2 := s2 _ _ hp1
  got_up
  refine dr N2 (hp2) (by decide) fun st G3 H3 N3 n3 sta stb => ?_
  have hp3 := n3.g _ _ hp2
  got_up
  refine ⟨sz (by decide), fun q hq0 => ?_⟩
  obtain ⟨G4, H4, e, N4, n4, hq⟩ := nobj N3 hq0 (.lst _)
  rw [e]; clear e
  have hp4 := n4.g _ _ hp3
  got_up
  refine dr N4 (hp4) (by decide) fun r5 G5 H5 N5 n5 r5a r5b => ?_
  have hp5 := n5.g _ _ hp4
  obtain ⟨sp, hsp, hsm⟩ : ∃ sp : Int, atI [V.int 1, V.int 3, V.int 5, V.int 7, V.int 9, V.int 11, V.int 15, V.int 17, V.int 19, V.int 21, V.int 23, V.int 25] r5 = some (.int sp) ∧ sp ∈ stepsL := by
    obtain ⟨k, rfl⟩ := Int.eq_ofNat_of_zero_le r5a
    have hk : k < 12 := by omega
    have h : ∀ k : Fin 12, ∃ sp : Int, [V.int 1, V.int 3, V.int 5, V.int 7, V.int 9, V.int 11, V.int 15, V.int 17, V.int 19, V.int 21, V.int 23, V.int 25][(k : Nat)]? = some (.int sp) ∧ sp ∈ stepsL := by
      intro k
      match k with
      | ⟨0, _⟩ => exact ⟨_, rfl, by decide⟩ | ⟨1, _⟩ => exact ⟨_, rfl, by decide⟩ | ⟨2, _⟩ => exact ⟨_, rfl, by decide⟩ | ⟨3, _⟩ => exact ⟨_, rfl, by decide⟩ | ⟨4, _⟩ => exact ⟨_, rfl, by decide⟩ | ⟨5, _⟩ => exact ⟨_, rfl, by decide⟩
      | ⟨6, _⟩ => exact ⟨_, rfl, by decide⟩ | ⟨7, _⟩ => exact ⟨_, rfl, by decide⟩ | ⟨8, _⟩ => exact ⟨_, rfl, by decide⟩ | ⟨9, _⟩ => exact ⟨_, rfl, by decide⟩ | ⟨10, _⟩ => exact ⟨_, rfl, by decide⟩ | ⟨11, _⟩ => exact ⟨_, rfl, by decide⟩
    obtain ⟨sp, e, e2⟩ := h ⟨k, hk⟩
    exact ⟨sp, Ax.atI_nat e, e2⟩
  refine ix_l (sqL (N5.h _ _ (n5.g _ _ hq))) hsp ?_
  got_up
  refine dr N5 (hp5) (by decide) fun kd G6 H6 N6 n6 kda kdb => ?_
  have hp6 := n6.g _ _ hp5
  got_up
  refine dr N6 (hp6) (by decide) fun pl G7 H7 N7 n7 pla plb => ?_
  have hp7 := n7.g _ _ hp6
  obtain ⟨pn, rfl⟩ := Int.eq_ofNat_of_zero_le pla
  got_up
  refine ⟨Nat.zero_le _, fun l hl0 => ?_⟩
  obtain ⟨H8, e, N8, n8, hl, gl, h0⟩ := nobjm N7 hl0 (.lst [])
  rw [e]; clear e
  got_up
  refine ⟨_, rfl, by omega, by omega, ?_⟩
  have hw7 : wd.length ≤ 7 := by omega
  refine frb (src_rng (n := m) (Int.toNat_natCast m)) N8 (fun i σ G' H' => ∃ x4 x10, ∃ ns : List Str, σ = [some (.ref p), some (.int m), some (.str sLet), some (.str wd), x4, some (.int st), some (.int sp), some (.int kd), some (.int (pn : Nat)), some (.ref l), x10] ∧
    H' l = some (.lst (ns.map V.str)) ∧ G' l = none ∧ ns.length = i ∧ (∀ x ∈ ns, isNm x = true) ∧ ∀ j x, ns[j]? = some x → TagN kd pn st sp wd j x) ⟨_, _, [], rfl, hl, gl, rfl, (fun x h => by cases h), fun j x h => by simp at h⟩ ?_ ?_
  · rintro i x σ' G' H' Ga Ha hi ⟨x4, x10, ns, rfl, hla, gla, hn, hv, htg⟩ Na sa na rfl
    have hlb := na.e _ _ hla
    have glb := na.hid hla gla
    have hpa := sa _ _ hp7
    -- one more name
    have fin : ∀ (y : Str) (Gb Hb : Hp) (x10 : Option V) (D : Ends), isNm y = true → TagN kd pn st sp wd i y → Nx G H Gb Hb → Nx Ga Ha Gb Hb → D.nx = LI G H G7 (fun i σ G' H' => ∃ x4 x10, ∃ ns : List Str, σ = [some (.ref p), some (.int m), some (.str sLet), some (.str wd), x4, some (.int st), some (.int sp), some (.int kd), some (.int (pn : Nat)), some (.ref l), x10] ∧
        H' l = some (.lst (ns.map V.str)) ∧ G' l = none ∧ ns.length = i ∧ (∀ x ∈ ns, isNm x = true) ∧ ∀ j x, ns[j]? = some x → TagN kd pn st sp wd j x) (i + 1) →
        rAppend (.ref l) [.str y] Hb fun _ H1 => D.nx [some (.ref p), some (.int m), some (.str sLet), some (.str wd), some (.int i), some (.int st), some (.int sp), some (.int kd), some (.int (pn : Nat)), some (.ref l), x10] H1 := by
      intro y Gb Hb x10 D hy hty Nb nb hD
      rw [hD]
      have hlc := nb.e _ _ hlb
      have glc := nb.hid hlb glb
      refine app_l hlc (by rw [List.length_map]; omega) ?_
      obtain ⟨Hc, e, Nc, hlc'⟩ := mobj Nb h0 glc (.lst (ns.map V.str ++ [.str y]))
      rw [e]
      exact ⟨Gb, Nc, sa.trans nb.g, _, _, ns ++ [y], rfl, by rw [List.map_append]; exact hlc', glc, by simp [hn], (fun x hx => (List.mem_append.mp hx).elim (hv x) fun z => by rw [List.mem_singleton.mp z]; exact hy), fun j x hx => by
        rcases Nat.lt_or_ge j ns.length with hj | hj
        · rw [List.getElem?_append_left hj] at hx; exact htg j x hx
        · rw [List.getElem?_append_right hj] at hx
          have hj0 : j - ns.length = 0 := by
            rcases Nat.eq_zero_or_pos (j - ns.length) with z | z
            · exact z
            · rw [List.getElem?_eq_none (by simp; omega)] at hx; cases hx
          rw [hj0] at hx
          have : x = y := (Option.some.inj hx).symm
          have e2 : j = i := by omega
          rw [this, e2]; exact hty⟩
    have sgn : ∀ z : Int, ∃ c, atI sLet.cps.toList (z % 26) = some c ∧ lowB c = true := fun z => let_at (Int.emod_nonneg _ (by decide)) (Int.emod_lt_of_pos _ (by decide))
    got_up
    refine mul_i (.inl ⟨by omega, by omega⟩) ?_
    got_up
    refine .inl ⟨_, rfl, ?_⟩
    got_up
    refine mod_i (by decide) ?_
    obtain ⟨c, hc, lc⟩ := sgn (st + (i : Nat) * sp)
    refine ix_s (by decide +kernel) hc ?_
    got_up
    refine t_if (fun q0 => ?_) (fun q0 => ?_)
    · got_up
      refine ⟨ty_l hlb, ?_⟩
      got_up
      refine ⟨wd, rfl, sz (by omega), ?_⟩
      got_up
      refine add_s (by have := cut_len_le wd none (some (pn : Int)); rw [len_one]; omega) ?_
      got_up
      refine ⟨wd, rfl, sz (by omega), ?_⟩
      got_up
      refine add_s (by have := cut_len_le wd none (some (pn : Int)); have := cut_len_le wd (some (pn : Int)) none; rw [len_app, len_one]; omega) ?_
      got_up
      exact fin _ Ga Ha _ _ (nm_ins hw1 hw2 hw7 lc) (.inl ⟨of_decide_eq_true q0, c, hc, rfl⟩) Na (Nx.refl Na.h) rfl
    got_up
    refine t_if (fun q1 => ?_) (fun q1 => ?_)
    · got_up
      refine ⟨ty_l hlb, ?_⟩
      got_up
      refine dr Na (hpa) (by decide) fun r Gb Hb Nb nb ra rb => ?_
      got_up
      refine ⟨wd, rfl, sz (by omega), ?_⟩
      got_up
      refine add_s (by have := cut_len_le wd none (some r); rw [len_one]; omega) ?_
      got_up
      exact fin _ Gb Hb _ _ (nm_sign hw2 hw7 lc) (.inr (.inl ⟨.inl (of_decide_eq_true q1), c, _, hc, app_cps _ _⟩)) Nb nb rfl
    got_up
    refine t_if (fun q2 => ?_) (fun q2 => ?_)
    · got_up
      refine ⟨ty_l hlb, ?_⟩
      got_up
      exact fin _ Ga Ha _ _ (nm_one lc) (.inr (.inl ⟨.inr (of_decide_eq_true q2), c, [], hc, rfl⟩)) Na (Nx.refl Na.h) rfl
    got_up
    refine t_if (fun q3 => ?_) (fun q3 => ?_)
    · got_up
      refine .inl ⟨_, rfl, ?_⟩
      got_up
      refine mod_i (by decide) ?_
      got_up
      refine mul_i (.inl ⟨by omega, by omega⟩) ?_
      got_up
      refine .inl ⟨_, rfl, ?_⟩
      got_up
      refine mod_i (by decide) ?_
      obtain ⟨c3, hc3, lc3⟩ := sgn (st + (i : Nat) % 2 * sp)
      refine ix_s (by decide +kernel) hc3 ?_
      got_up
      refine ⟨ty_l hlb, ?_⟩
      got_up
      refine ⟨_, _, rfl, rfl, ⟨by decide, by decide⟩, ?_⟩
      got_up
      refine ⟨wd, rfl, sz (by omega), ?_⟩
      got_up
      refine add_s (by have := cut_len_le wd none (some (7 - (i : Int) / 2)); rw [len_one]; omega) ?_
      got_up
      exact fin _ Ga Ha _ _ (nm_sign hw2 hw7 lc3) (.inr (.inr (.inl ⟨of_decide_eq_true q3, c3, hc3, rfl⟩))) Na (Nx.refl Na.h) rfl
    · have h100 : i < 100 := by omega
      obtain ⟨an1, an2⟩ := an_num i h100
      got_up
      refine ⟨ty_l hlb, ?_⟩
      got_up
      refine ⟨_, _, rfl, rfl, ⟨by decide, by decide⟩, ?_⟩
      got_up
      refine ⟨wd, rfl, sz (by omega), ?_⟩
      got_up
      refine ⟨_, rfl, log_small (i := i) (by omega), ?_⟩
      got_up
      refine ⟨_, rfl, sz (Nat.le_trans an2 (by decide)), ?_⟩
      have e2 : (1 : Int) + (pn : Int) / 2 = ((1 + pn / 2 : Nat) : Int) := by omega
      rw [e2]
      have l1 := cut_len_take wd (1 + pn / 2)
      have l2 := cut_len_le (toString (i : Int) : Str) none (some (i : Int))
      refine add_s (by omega) ?_
      got_up
      exact fin _ Ga Ha _ _ (isNm_of (Hd.app (hd_take hw1)) ((hw2.cut _ _).app (An.cut an1 _ _)) (by rw [len_app]; omega)) (.inr (.inr (.inr ⟨⟨of_decide_eq_false q0, of_decide_eq_false q1, of_decide_eq_false q2, of_decide_eq_false q3⟩, rfl⟩))) Na (Nx.refl Na.h) rfl
  · rintro σ' G' H' ⟨x4, x10, ns, rfl, hla, gla, hn, hv, htg⟩ Na sa
    got_up
    exact hQ _ _ _ (Na.fz hla h0 gla) ⟨l, ns, rfl, upd_same, hn, hv, tag_nodup hsm (by omega) (by omega) htg⟩
end
end Lw

namespace Lw
open PySem PySem.Spec PyProof.Rows L2 SlX StX Ax
section
variable {P : Program} {w : World} {K : PySem.W.Frag} {mg : Str → Option Value} {base : Heap}
/-! _law_pool -/
theorem ok__law_pool (T : TX P K mg) : FnR P w K mg base (L2.CX P w) 1 T.a__law_pool (spPool (K := K) fun _ ns => ns.length ≤ 63) := by
  refine pool_make (fnR_of T.d__law_pool sc__law_pool (fun _ _ _ _ _ _ us hl => match us, hl with | [_], _ => rfl) (fun vs H Q E h => ?_) fun cdv A outer s H vs Q E hr hsp => ?_)
  · obtain ⟨a, ns, G, _, rfl, _⟩ := h; rfl
  obtain ⟨a, ns, G, hG, rfl, ha, hl, hQ⟩ := hsp
  refine ⟨_, (pss_cons (ps_asg (pe_lst pa_nil) (pg_name (i := 1) sc__law_pool.nd rfl (by first | exact Or.inl rfl | exact Or.inr rfl)))
    (pss_cons (ps_for (passes_of rfl) rfl (pi_range1 rfl T.b_range (pa_cons (pe_callB (call_lenK (K := K) rfl) rfl T.b_len (by decide +kernel) (pa_cons (pv 0) pa_nil)) pa_nil)) (pg_name (i := 2) sc__law_pool.nd rfl (by first | exact Or.inl rfl | exact Or.inr rfl))
    (pss_cons (ps_asg (pe_callB (call_abs) rfl T.b_abs (by decide +kernel) (pa_cons (pe_callTy (call_int1) rfl T.b_int (by decide +kernel) (pa_cons (pe_ix (ix_K (K := K) rfl) (pv 0) (pv 2) (fun _ _ => rfl)) pa_nil)) pa_nil)) (pg_name (i := 3) sc__law_pool.nd rfl (by first | exact Or.inl rfl | exact Or.inr rfl)))
    (pss_one (ps_if (pt_cmpR op_ge (pv 3) (pe_op op_pow pe_int pe_int) (nomark _)) (pss_one (ps_for (passes_of rfl) rfl (pi_range1 rfl T.b_range (pa_cons pe_int pa_nil)) (pg_name (i := 4) sc__law_pool.nd rfl (by first | exact Or.inl rfl | exact Or.inr rfl))
    (pss_cons (ps_if (pt_cmpR op_gt (pv 3) pe_int (nomark _)) (pss_one (ps_expr (pe_bm PySem.F.plainAttrs_list PySem.F.slot_list_append PySem.F.type_list_append mt_append (pv 1) (pa_cons (pe_op op_mod (pe_callTy (call_int1) rfl T.b_int (by decide +kernel) (pa_cons (pv 3) pa_nil)) pe_int) pa_nil)))) pss_nil)
    (pss_one (ps_asg (pe_op op_fdiv (pv 3) pe_int) (pg_name (i := 3) sc__law_pool.nd rfl (by first | exact Or.inl rfl | exact Or.inr rfl))))))) (pss_one (ps_for (passes_of rfl) rfl (pi_range1 rfl T.b_range (pa_cons pe_int pa_nil)) (pg_name (i := 4) sc__law_pool.nd rfl (by first | exact Or.inl rfl | exact Or.inr rfl))
    (pss_cons (ps_asg (pe_op op_mod (pe_callTy (call_int1) rfl T.b_int (by decide +kernel) (pa_cons (pe_op op_mulU (pe_op (op_addK (K := K) rfl) (pe_op (op_addK (K := K) rfl) (pe_op op_mulU (pv 3) pe_int) (pv 4)) pe_int) pe_int) pa_nil)) pe_int) (pg_name (i := 5) sc__law_pool.nd rfl (by first | exact Or.inl rfl | exact Or.inr rfl)))
    (pss_cons (ps_asg (pe_op op_mod (pe_callTy (call_int1) rfl T.b_int (by decide +kernel) (pa_cons (pe_op op_mulU (pe_op (op_addK (K := K) rfl) (pe_op (op_addK (K := K) rfl) (pv 5) (pe_op op_mulU (pv 2) pe_int)) pe_int) pe_int) pa_nil)) pe_int) (pg_name (i := 5) sc__law_pool.nd rfl (by first | exact Or.inl rfl | exact Or.inr rfl)))
    (pss_one (ps_expr (pe_bm PySem.F.plainAttrs_list PySem.F.slot_list_append PySem.F.type_list_append mt_append (pv 1) (pa_cons (pe_op op_mod (pe_callTy (call_int1) rfl T.b_int (by decide +kernel) (pa_cons (pe_op op_fdiv (pv 5) pe_int) pa_nil)) pe_int) pa_nil))))))))))))
    (pss_cons (ps_expr (pe_bm PySem.F.plainAttrs_list PySem.F.slot_list_extend PySem.F.type_list_extend mt_extend (pv 1) (pa_cons (pe_lst (pa_cons pe_int (pa_cons pe_int (pa_cons pe_int (pa_cons pe_int (pa_cons pe_int (pa_cons pe_int (pa_cons pe_int (pa_cons pe_int (pa_cons pe_int (pa_cons pe_int (pa_cons pe_int (pa_cons pe_int (pa_cons pe_int (pa_cons pe_int (pa_cons pe_int (pa_cons pe_int (pa_cons pe_int (pa_cons pe_int (pa_cons pe_int (pa_cons pe_int (pa_cons pe_int (pa_cons pe_int (pa_cons pe_int (pa_cons pe_int (pa_cons pe_int (pa_cons pe_int (pa_cons pe_int (pa_cons pe_int (pa_cons pe_int (pa_cons pe_int (pa_cons pe_int pa_nil)))))))))))))))))))))))))))))))) pa_nil)))
    (pss_cons (ps_expr (pe_bm PySem.F.plainAttrs_list PySem.F.slot_list_extend PySem.F.type_list_extend mt_extend (pv 1) (pa_cons (pe_lst (pa_cons pe_int (pa_cons pe_int (pa_cons pe_int (pa_cons pe_int (pa_cons pe_int (pa_cons pe_int (pa_cons pe_int (pa_cons pe_int (pa_cons pe_int (pa_cons pe_int (pa_cons pe_int (pa_cons pe_int (pa_cons pe_int (pa_cons pe_int (pa_cons pe_int (pa_cons pe_int (pa_cons pe_int (pa_cons pe_int (pa_cons pe_int (pa_cons pe_int (pa_cons pe_int (pa_cons pe_int (pa_cons pe_int (pa_cons pe_int (pa_cons pe_int pa_nil)))))))))))))))))))))))))) pa_nil)))
    (pss_cons (ps_expr (pe_bm PySem.F.plainAttrs_list PySem.F.slot_list_extend PySem.F.type_list_extend mt_extend (pv 1) (pa_cons (pe_lst (pa_cons pe_int (pa_cons pe_int (pa_cons pe_int (pa_cons pe_int (pa_cons pe_int (pa_cons pe_int (pa_cons pe_int (pa_cons pe_int (pa_cons pe_int (pa_cons pe_int (pa_cons pe_int (pa_cons pe_int (pa_cons pe_int (pa_cons pe_int (pa_cons pe_int (pa_cons pe_int (pa_cons pe_int (pa_cons pe_int (pa_cons pe_int (pa_cons pe_int (pa_cons pe_int (pa_cons pe_int (pa_cons pe_int (pa_cons pe_int (pa_cons pe_int (pa_cons pe_int (pa_cons pe_int (pa_cons pe_int (pa_cons pe_int (pa_cons pe_int (pa_cons pe_int (pa_cons pe_int pa_nil))))))))))))))))))))))))))))))))) pa_nil)))
    (pss_cons (ps_expr (pe_bm0 PySem.F.plainAttrs_list PySem.F.slot_list_reverse PySem.F.type_list_reverse mt_reverse (pv 1)))
    (pss_one (ps_ret (pv 1))))))))), ?_⟩
  have N : Nx G H G H := Nx.refl hG
  got_up
  refine ⟨Nat.zero_le _, fun p hp0 => ?_⟩
  obtain ⟨H1, e, N1, n1, hp, gp, h0⟩ := nobjm N hp0 (.lst [])
  rw [e]; clear e
  got_up
  refine len_l (Same.seqL N1.h ha) ?_
  refine ⟨_, rfl, by rw [List.length_map]; omega, by rw [List.length_map]; omega, ?_⟩
  refine frb (src_rng (n := ns.length) (by rw [List.length_map, Int.toNat_natCast])) N1 (fun i σ G' H' => ∃ x2 x3 x4 x5 ms, σ = [some (.ref a), some (.ref p), x2, x3, x4, x5] ∧ H' p = some (.lst (ms.map V.int)) ∧ G' p = none ∧ ms.length ≤ 60 * i)
    ⟨none, none, none, none, [], rfl, hp, gp, by simp⟩ ?_ ?_
  · rintro i x σ' G' H' G2 H2 hi ⟨x2, x3, x4, x5, ms, rfl, hp1, gp1, hm⟩ N2 s2 n2 rfl
    have hp2 := n2.e _ _ hp1
    have gp2 := n2.hid hp1 gp1
    have ha2 : SqL K H2 a (ns.map V.int) := Same.seqL (s2.trans N2.h) ha
    obtain ⟨z, hz⟩ : ∃ z, ns[i]? = some z := ⟨_, List.getElem?_eq_getElem hi⟩
    got_up
    refine ix_l ha2 (atI_nat (x := .int z) (by rw [List.getElem?_map, hz]; rfl)) ?_
    got_up
    refine .inl ⟨_, rfl, ?_⟩
    got_up
    refine ⟨_, rfl, ?_⟩
    generalize (if z < 0 then -z else z) = c
    got_up
    refine ⟨_, _, rfl, rfl, ⟨by decide, by decide, by decide⟩, ?_⟩
    got_up
    refine t_if (fun _ => ?_) (fun _ => ?_)
    · got_up
      refine ⟨_, rfl, by omega, by omega, ?_⟩
      refine frb (src_rng (n := 60) rfl) N2 (fun j σ G' H' => ∃ x2 x3 x4 x5 ms, ∃ c : Int, x3 = some (.int c) ∧ σ = [some (.ref a), some (.ref p), x2, x3, x4, x5] ∧ H' p = some (.lst (ms.map V.int)) ∧ G' p = none ∧ ms.length ≤ 60 * i + j)
        ⟨_, _, _, _, ms, c, rfl, rfl, hp2, gp2, by omega⟩ ?_ ?_
      · rintro j x σ' G' H' G3 H3 hj ⟨x2, x3, x4, x5, ms, c, rfl, rfl, hp1, gp1, hm⟩ N3 s3 n3 rfl
        have hp3 := n3.e _ _ hp1
        have gp3 := n3.hid hp1 gp1
        got_up
        refine t_if (fun _ => ?_) (fun _ => ?_)
        · got_up
          refine ⟨ty_l hp3, ?_⟩
          got_up
          refine .inl ⟨_, rfl, ?_⟩
          got_up
          refine mod_i (by decide) ?_
          got_up
          refine app_l hp3 (by rw [List.length_map]; omega) ?_
          obtain ⟨H4, e, N4, hp4⟩ := mobj N3 h0 gp3 (.lst (ms.map V.int ++ [.int (c % 5040)]))
          rw [e]; clear e
          got_up
          refine ⟨_, _, rfl, rfl, ⟨by decide, by decide⟩, ?_⟩
          got_up
          exact ⟨G3, N4, s3, _, _, _, _, ms ++ [c % 5040], _, rfl, rfl, by rw [List.map_append]; exact hp4, gp3, by simp; omega⟩
        · got_up
          refine ⟨_, _, rfl, rfl, ⟨by decide, by decide⟩, ?_⟩
          got_up
          exact ⟨G3, N3, s3, _, _, _, _, ms, _, rfl, rfl, hp3, gp3, by omega⟩
      · rintro σ' G' H' ⟨x2, x3, x4, x5, ms, c, rfl, rfl, hp1, gp1, hm⟩ N3 s3
        got_up
        exact ⟨G', N3, s2.trans s3, _, _, _, _, ms, rfl, hp1, gp1, by omega⟩
    · got_up
      refine ⟨_, rfl, by omega, by omega, ?_⟩
      refine frb (src_rng (n := 6) rfl) N2 (fun j σ G' H' => ∃ x4 x5 ms, σ = [some (.ref a), some (.ref p), some (.int (i : Nat)), some (.int c), x4, x5] ∧ H' p = some (.lst (ms.map V.int)) ∧ G' p = none ∧ ms.length ≤ 60 * i + j)
        ⟨_, _, ms, rfl, hp2, gp2, by omega⟩ ?_ ?_
      · rintro j x σ' G' H' G3 H3 hj ⟨x4, x5, ms, rfl, hp1, gp1, hm⟩ N3 s3 n3 rfl
        have hp3 := n3.e _ _ hp1
        have gp3 := n3.hid hp1 gp1
        got_up
        refine mul_i (.inr (by decide)) ?_
        got_up
        refine mul_i (.inr (by decide)) ?_
        got_up
        refine .inl ⟨_, rfl, ?_⟩
        got_up
        refine mod_i (by decide) ?_
        generalize (c * 6 + (j : Nat) + 1) * 48271 % 2147483647 = m1
        got_up
        refine mul_i (.inr (by decide)) ?_
        got_up
        refine mul_i (.inr (by decide)) ?_
        got_up
        refine .inl ⟨_, rfl, ?_⟩
        got_up
        refine mod_i (by decide) ?_
        got_up
        refine ⟨ty_l hp3, ?_⟩
        got_up
        refine ⟨_, _, rfl, rfl, ⟨by decide, by decide⟩, ?_⟩
        got_up
        refine .inl ⟨_, rfl, ?_⟩
        got_up
        refine mod_i (by decide) ?_
        got_up
        refine app_l hp3 (by rw [List.length_map]; omega) ?_
        obtain ⟨H4, e, N4, hp4⟩ := mobj N3 h0 gp3 (.lst (ms.map V.int ++ [.int ((m1 + (i : Int) * 7919 + 11) * 69621 % 2147483629 / 13 % 5040)]))
        rw [e]; clear e
        got_up
        exact ⟨G3, N4, s3, _, _, ms ++ [_], rfl, by rw [List.map_append]; exact hp4, gp3, by simp; omega⟩
      · rintro σ' G' H' ⟨x4, x5, ms, rfl, hp1, gp1, hm⟩ N3 s3
        got_up
        exact ⟨G', N3, s2.trans s3, _, _, _, _, ms, rfl, hp1, gp1, by omega⟩
  · rintro σ' G' H' ⟨x2, x3, x4, x5, ms, rfl, hp1, gp1, hm⟩ N2 s2
    got_up
    refine pool_ext (K := K) hp1 N2 gp1 h0 hm [0, 0, 0, 0, 0, 0, 0, 0, 0, 2, 0, 0, 1, 2, 0, 0, 2, 1, 0, 0, 1, 1, 0, 1, 1, 1, 0, 0, 1, 0, 1] rfl (by simp only [List.length]; omega) fun ms1 G3 H3 N3 hp3 gp3 hm3 => ?_
    got_up
    refine pool_ext (K := K) hp3 N3 gp3 h0 hm3 [1, 2, 4, 1, 2, 0, 1, 1, 4, 0, 0, 2, 0, 0, 1, 1, 1, 1, 1, 1, 0, 1, 0, 1, 0] rfl (by simp only [List.length]; omega) fun ms2 G4 H4 N4 hp4 gp4 hm4 => ?_
    got_up
    refine pool_ext (K := K) hp4 N4 gp4 h0 hm4 [3, 1, 4, 1, 5, 9, 2, 6, 5, 3, 5, 8, 9, 7, 9, 3, 2, 3, 8, 4, 6, 2, 6, 4, 3, 3, 8, 3, 2, 7, 9, 5] rfl (by simp only [List.length]; omega) fun ms3 G5 H5 N5 hp5 gp5 hm5 => ?_
    got_up
    refine ⟨ty_l hp5, rev_l hp5 ?_⟩
    obtain ⟨H6, e, N6, hp6⟩ := mobj N5 h0 gp5 (.lst (ms3.map V.int).reverse)
    rw [e]; clear e
    got_up
    exact hQ p _ _ ms3.reverse N6 (by rw [List.map_reverse]; exact hp6) gp5 h0
end
end Lw

namespace Lw
open PySem PySem.Spec PyProof.Rows L2 SlX StX Ax
section
variable {P : Program} {w : World} {K : PySem.W.Frag} {mg : Str → Option Value} {base : Heap}
/-! InvalidRow_init -/
theorem ok_InvalidRow_init (T : TX P K mg) : ExcOk P w K mg base (L2.CX P w) 1 T.C_InvalidRow (spEx T.C_InvalidRow [("name" : Str)]) := by
  obtain ⟨cc, c, fd, G⟩ := T.xf_InvalidRow
  rw [← T.pf] at G
  refine ⟨T.x_InvalidRow.oex, _, fd, [("self" : Str), ("name" : Str)], T.x_InvalidRow.ini, T.x_InvalidRow.tf, fnE_of T.x_InvalidRow G rfl ns_InvalidRow_init rfl rfl rfl T.b_super T.pt ⟨_, fun _ => rfl⟩ (fun _ => rfl) (spEx_len rfl) (fun A outer s H vs Q E hr h => ?_), ?_⟩
  · obtain ⟨a, ws, e, l, h, q⟩ := h
    subst e
    match ws, l with
    | [v], _ => exact ⟨a, _, rfl, h, pss_one (ps_ost (pv 0) (pv 1)), v, rfl, .ref a, rfl, a, _, rfl, T.x_InvalidRow.oex, T.na_InvalidRow_name, .inl ⟨h, fun dx hd hne => q dx hd hne⟩⟩
  · obtain ⟨kV, doc, pm, an, ctv, oc, od, osl, efd, _⟩ := G.fd
    subst efd
    exact Binds.all fun us hl => match us, hl with | [_, _], _ => rfl
end
end Lw

namespace Lw
open PySem PySem.Spec PyProof.Rows L2 SlX StX Ax
section
variable {P : Program} {w : World} {K : PySem.W.Frag} {mg : Str → Option Value} {base : Heap}
/-! UnknownTable_init -/
theorem ok_UnknownTable_init (T : TX P K mg) : ExcOk P w K mg base (L2.CX P w) 1 T.C_UnknownTable (spEx T.C_UnknownTable [("name" : Str)]) := by
  obtain ⟨cc, c, fd, G⟩ := T.xf_UnknownTable
  rw [← T.pf] at G
  refine ⟨T.x_UnknownTable.oex, _, fd, [("self" : Str), ("name" : Str)], T.x_UnknownTable.ini, T.x_UnknownTable.tf, fnE_of T.x_UnknownTable G rfl ns_UnknownTable_init rfl rfl rfl T.b_super T.pt ⟨_, fun _ => rfl⟩ (fun _ => rfl) (spEx_len rfl) (fun A outer s H vs Q E hr h => ?_), ?_⟩
  · obtain ⟨a, ws, e, l, h, q⟩ := h
    subst e
    match ws, l with
    | [v], _ => exact ⟨a, _, rfl, h, pss_one (ps_ost (pv 0) (pv 1)), v, rfl, .ref a, rfl, a, _, rfl, T.x_UnknownTable.oex, T.na_UnknownTable_name, .inl ⟨h, fun dx hd hne => q dx hd hne⟩⟩
  · obtain ⟨kV, doc, pm, an, ctv, oc, od, osl, efd, _⟩ := G.fd
    subst efd
    exact Binds.all fun us hl => match us, hl with | [_, _], _ => rfl
end
end Lw

namespace Lw
open PySem PySem.Spec PyProof.Rows L2 SlX StX Ax
section
variable {P : Program} {w : World} {K : PySem.W.Frag} {mg : Str → Option Value} {base : Heap}
/-! Schema_getitem -/
def m_Schema_getitem (self1 : Sch) (name2 : Str) : Mir Tbl :=
  (((Mir.bindO (Mir.forL (self1).tables () fun s3 x4 => (Mir.ifB (decide ((x4).name = name2)) (Mir.ret (Out.rt x4)) (Mir.ret (Out.nx ())))) fun s3 => (Mir.raise (Err.uTable name2))) : Mir (Out Unit Tbl))).exit
theorem ok_Schema_getitem (T : TX P K mg) : FnR P w K mg base (L2.CX P w) 5 T.a_Schema_getitem (spM (rx T) (TyA.cons (tSch T.C_Schema T.C_Table T.C_Columns).h (TyA.one tStr.h)) (rtF (tTbl T.C_Table T.C_Columns)) fun (a : Sch × Str) => m_Schema_getitem a.1 a.2) := by
  refine fnMX (β := Unit) (Γ0 := fun a => [.fz (tSch T.C_Schema T.C_Table T.C_Columns) a.1, .fz tStr a.2, .any]) T.d_Schema_getitem sc_Schema_getitem (fun _ _ _ _ _ _ us hl => match us, hl with | [_, _], _ => rfl) (fun {a vs G H} h => ?len) (fun {a vs G H} h => ?env) fun cdv Ar outer s H E hr => ⟨_, (pss_cons (ps_for (passes_of rfl) rfl (pi_tupK (K := K) rfl (pe_fldK (K := K) rfl (pv 0))) (pg_name (i := 2) sc_Schema_getitem.nd rfl (by first | exact Or.inl rfl | exact Or.inr rfl))
    (pss_one (ps_if (pt_cmpR (op_eqK (K := K) rfl hr.units) (pe_fldK (K := K) rfl (pv 2)) (pv 1) (nomark _)) (pss_one (ps_ret (pv 2))) pss_nil)))
    (pss_one (ps_raise rfl (takes_of rfl rfl rfl rfl) (pmk_ex (ok_UnknownTable_init T) (hr.mono (by decide)) passL rfl T.m_UnknownTable (pa_cons (pv 1) pa_nil))))), fun a => ?der⟩
  case len => obtain ⟨v0, r0, rfl, h0, ⟨v1, rfl, h1⟩⟩ := h; rfl
  case env => obtain ⟨v0, r0, rfl, h0, ⟨v1, rfl, h1⟩⟩ := h; exact Env.of ⟨⟨v0, rfl, h0⟩, ⟨⟨v1, rfl, h1⟩, ⟨True.intro, True.intro⟩⟩⟩
  case der => exact ⟨_, (SJ.forL (s0 := ()) (post0 := (fun (s3 : Unit) => [.fz (tSch T.C_Schema T.C_Table T.C_Columns) a.1, .fz tStr a.2, .any])) (IJf.tup ((PJ.fld fldSchTables T.c_Schema T.na_Schema_tables (PJ.var rfl))).e) ⟨.inr rfl, .inr rfl, .inl rfl, True.intro⟩ (fun s3 x4 => GJ.name)
   (fun s3 x4 => (SJ.if1 (TP.test (PJ.op (OpP.eq EqD.str (Nat.le_of_ble_eq_true rfl)) (PJ.fld fldTblName T.c_Table T.na_Table_name (PJ.var rfl)) (PJ.var rfl))) (SJ.retP (PJ.var rfl)) (SJ.next (b := ()) ⟨.inr rfl, .inr rfl, .inl rfl, True.intro⟩)))
   (fun s3 => (SJ.raise1 (er := fun x => Err.uTable x) (fun _ _ _ _ _ h => h) (fun r => r) ((PJ.var rfl)).e))), by simp only [m_Schema_getitem, Mir.ret_bind, Mir.bind_bind, Mir.lt_eq, Mir.chk_bind, Mir.ret_bindO_nx, Mir.ret_bindO_rt, mOr, pAnd, pSub, pLe, pLt, mAdds, mCat, mMul, mDiv, mMod, mPow, mSgn, mRng, mStr, mSort, mJoin, mSplit, mCols, mApp, mExt, mIns, mSet, id, mIsName, mPart, mLenO, mIsSet, mRowKind, mPopAt, Mir.fail_bind, mInS, mNiS, mUpper, mSet1, mSortSet, mShl, mShr, mAnd, mMulS, mPutD, pIn, pNi]⟩
end
end Lw

namespace Lw
open PySem PySem.Spec PyProof.Rows L2 SlX StX Ax
section
variable {P : Program} {w : World} {K : PySem.W.Frag} {mg : Str → Option Value} {base : Heap}
/-! Columns_contains -/
theorem ok_Columns_contains (T : TX P K mg) : FnR P w K mg base (L2.CX P w) 1 T.a_Columns_contains (spColsContains T.C_Columns) := by
  refine fnR_of T.d_Columns_contains sc_Columns_contains (fun _ _ _ _ _ _ us hl => match us, hl with | [_, _], _ => rfl) (spX_len fun a vs G h => by rw [h.1]; rfl) fun cdv A outer s H vs Q E hr hsp => ?_
  obtain ⟨⟨⟨a, xs⟩, x⟩, G, hG, ⟨rfl, ha⟩, hQ, _⟩ := hsp
  try dsimp only at *
  refine ⟨_, (pss_one (ps_ret (pe_cmpR (op_inK (K := K) rfl hr.units) (pv 1) (pe_fldK (K := K) rfl (pv 0)) rfl))), ?_⟩
  have N : Nx G H G H := Nx.refl hG
  got_up
  refine fld_v rfl T.c_Columns T.na_Columns_names ha N.h fun t ht => ?_
  refine in_d da_s (ds_ts (sqT (N.h _ _ ht))) ?_
  exact hQ _ G H N rfl
end
end Lw

namespace Lw
open PySem PySem.Spec PyProof.Rows L2 SlX StX Ax
section
variable {P : Program} {w : World} {K : PySem.W.Frag} {mg : Str → Option Value} {base : Heap}
/-! Table_clash -/
def m_Table_clash (self1 : Tbl) (rows2 : (List (List Int))) (row3 : (List Int)) : Mir (Option (List Int)) :=
  (((Mir.bindO (Mir.forL rows2 () fun s4 x5 => (Mir.ifB (decide (x5 ≠ row3)) (Mir.bindO (Mir.forL (self1).keys () fun s6 x7 => (((((Mir.comp (enumFL 0 (self1).names) (fun p8 => (Mir.ret ((decide (p8.2 ∈ x7))))) (fun p8 => (((Mir.get x5 p8.1)).bind fun v9 => (((Mir.get row3 p8.1)).bind fun v10 => Mir.ret ((decide (v9 = v10))))))).nox).bind fun v11 => Mir.ret (((v11).all id)))).bind fun v12 => (Mir.ifB v12 (Mir.ret (Out.rt (some x5))) (Mir.ret (Out.nx ()))))) fun s6 => (Mir.ret (Out.nx ()))) (Mir.ret (Out.nx ())))) fun s4 => (Mir.ret (Out.rt (none : Option (List Int))))) : Mir (Out Unit (Option (List Int))))).exit.nox
theorem ok_Table_clash (T : TX P K mg) : FnR P w K mg base (L2.CX P w) 5 T.a_Table_clash (spM (rx T) (TyA.cons (tTbl T.C_Table T.C_Columns).h (TyA.cons (tBo (tTpl tInt)) (TyA.one (tTpl tInt).h))) (rtF (tOpt (tTpl tInt))) fun (a : Tbl × (List (List Int)) × (List Int)) => m_Table_clash a.1 a.2.1 a.2.2) := by
  refine fnM (β := Unit) (Γ0 := fun a => [.fz (tTbl T.C_Table T.C_Columns) a.1, .bor (tTpl tInt) a.2.1, .fz (tTpl tInt) a.2.2, .any, .any, .any, .any]) T.d_Table_clash sc_Table_clash (fun _ _ _ _ _ _ us hl => match us, hl with | [_, _, _], _ => rfl) (fun {a vs G H} h => ?len) (fun {a vs G H} h => ?env) fun cdv Ar outer s H E hr => ⟨_, (pss_cons (ps_for (passes_of rfl) rfl (pi_listK (K := K) rfl (pv 1)) (pg_name (i := 3) sc_Table_clash.nd rfl (by first | exact Or.inl rfl | exact Or.inr rfl))
    (pss_one (ps_if (pt_cmpR (op_neK (K := K) rfl hr.units) (pv 3) (pv 2) (nomark _)) (pss_one (ps_for (passes_of rfl) rfl (pi_tupK (K := K) rfl (pe_fldK (K := K) rfl (pv 0))) (pg_name (i := 4) sc_Table_clash.nd rfl (by first | exact Or.inl rfl | exact Or.inr rfl))
    (pss_one (ps_if (pt_val (pe_callB (cr_allK (K := K) rfl rfl) rfl T.b_all (by decide +kernel) (pa_cons (pe_lc (own := [("at", 5), ("name", 6)]) rfl sc_Table_clash.nd (pi_enumA (K := K) true rfl rfl T.b_enumerate (pa_cons (pe_fldK (K := K) rfl (pv 0)) pa_nil)) (blkOk_by (own := [("at", 5), ("name", 6)]) (N := N_Table_clash) (sc := df_Table_clash.scope) (by decide +kernel)) (fun _ _ _ _ _ => (pg_tupK (K := K) (n := 2) rfl rfl (pgs_cons (pg_name (i := 5) sc_Table_clash.nd rfl (by first | exact Or.inl rfl | exact Or.inr rfl)) (pgs_cons (pg_name (i := 6) sc_Table_clash.nd rfl (by first | exact Or.inl rfl | exact Or.inr rfl)) pgs_nil)))) (fun _ _ _ _ _ => (pts_one (pt_cmpR (op_inO T.me_Columns_contains.at_ T.me_Columns_contains.fn (ok_Columns_contains T) (hr.mono (by decide)) passL) (pv 6) (pv 4) rfl))) (fun _ _ _ _ _ => (pe_cmpR (op_eqK (K := K) rfl hr.units) (pe_ix (ix_K (K := K) rfl) (pv 3) (pv 5) (fun _ _ => rfl)) (pe_ix (ix_K (K := K) rfl) (pv 2) (pv 5) (fun _ _ => rfl)) (nomark _)))) pa_nil))) (pss_one (ps_ret (pv 3))) pss_nil)))) pss_nil)))
    (pss_one (ps_ret pe_non))), fun a => ?der⟩
  case len => obtain ⟨v0, r0, rfl, h0, ⟨v1, r1, rfl, ⟨l1, w1, rfl, g1, z1, q1⟩, ⟨v2, rfl, h2⟩⟩⟩ := h; rfl
  case env => obtain ⟨v0, r0, rfl, h0, ⟨v1, r1, rfl, ⟨l1, w1, rfl, g1, z1, q1⟩, ⟨v2, rfl, h2⟩⟩⟩ := h; exact Env.of ⟨⟨v0, rfl, h0⟩, ⟨⟨l1, w1, rfl, g1, z1, q1⟩, ⟨⟨v2, rfl, h2⟩, ⟨True.intro, ⟨True.intro, ⟨True.intro, ⟨True.intro, True.intro⟩⟩⟩⟩⟩⟩⟩
  case der => exact ⟨_, (SJ.forL (s0 := ()) (post0 := (fun (s4 : Unit) => [.fz (tTbl T.C_Table T.C_Columns) a.1, .bor (tTpl tInt) a.2.1, .fz (tTpl tInt) a.2.2, .any, .any, .any, .any])) (IJf.bor rfl) ⟨.inr rfl, .inr rfl, .inr rfl, .inl rfl, .inl rfl, .inl rfl, .inl rfl, True.intro⟩ (fun s4 x5 => GJ.name)
   (fun s4 x5 => (SJ.if1 (TP.test (PJ.op (OpP.ne (EqD.tup EqD.int) (Nat.le_of_ble_eq_true rfl)) (PJ.var rfl) (PJ.var rfl))) (SJ.last (SJ.forL (s0 := ()) (post0 := (fun (s6 : Unit) => [.fz (tTbl T.C_Table T.C_Columns) a.1, .bor (tTpl tInt) a.2.1, .fz (tTpl tInt) a.2.2, .fz (tTpl tInt) x5, .any, .any, .any])) (IJf.tup ((PJ.fld fldTblKeys T.c_Table T.na_Table_key_sets (PJ.var rfl))).e) ⟨.inr rfl, .inr rfl, .inr rfl, .inr rfl, .inl rfl, .inl rfl, .inl rfl, True.intro⟩ (fun s6 x7 => GJ.name)
   (fun s6 x7 => (SJ.if1m (TJ.val (EJ.call (CP.m CP.all) (AJ.one ((LJ.lc ((IJf.enumT (k := 0) ((PJ.fld fldTblNames T.c_Table T.na_Table_names (PJ.var rfl))).e)).b (fun p8 => (GJ.tup (TyL.len_cons TyL.len_one) (GJs.cons GJ.name (GJs.one GJ.name)))) (by decide) (fun p8 => ((TP.test (PJ.op OpP.colsIn (PJ.var rfl) (PJ.var rfl)))).e) (fun p8 => (EJ.op (OpP.m (OpP.eq EqD.int (Nat.le_of_ble_eq_true rfl))) (EJ.opP OpM.ixT (PJ.var rfl) (PJ.var rfl)) (EJ.opP OpM.ixT (PJ.var rfl) (PJ.var rfl)))))).bo))) (SJ.retP (PJ.some (nn_tup) (PJ.var rfl))) (SJ.next (b := ()) ⟨.inr rfl, .inr rfl, .inr rfl, .inr rfl, .inl rfl, .inl rfl, .inl rfl, True.intro⟩)))
   (fun s6 => (SJ.next (b := ()) ⟨.inr rfl, .inr rfl, .inr rfl, .inl rfl, .inl rfl, .inl rfl, .inl rfl, True.intro⟩)))) (SJ.next (b := ()) ⟨.inr rfl, .inr rfl, .inr rfl, .inl rfl, .inl rfl, .inl rfl, .inl rfl, True.intro⟩)))
   (fun s4 => (SJ.retP PJ.nonO))), by simp only [m_Table_clash, Mir.ret_bind, Mir.bind_bind, Mir.lt_eq, Mir.chk_bind, Mir.ret_bindO_nx, Mir.ret_bindO_rt, mOr, pAnd, pSub, pLe, pLt, mAdds, mCat, mMul, mDiv, mMod, mPow, mSgn, mRng, mStr, mSort, mJoin, mSplit, mCols, mApp, mExt, mIns, mSet, id, mIsName, mPart, mLenO, mIsSet, mRowKind, mPopAt, Mir.fail_bind, mInS, mNiS, mUpper, mSet1, mSortSet, mShl, mShr, mAnd, mMulS, mPutD, pIn, pNi]⟩
end
end Lw

namespace Lw
open PySem PySem.Spec PyProof.Rows L2 SlX StX Ax
section
variable {P : Program} {w : World} {K : PySem.W.Frag} {mg : Str → Option Value} {base : Heap}
/-! Columns_and -/
theorem ok_Columns_and (T : TX P K mg) : FnR P w K mg base (L2.CX P w) 9 T.a_Columns_and (spColsAnd T.C_Columns) := by
  refine fnR_of T.d_Columns_and sc_Columns_and (fun _ _ _ _ _ _ us hl => match us, hl with | [_, _], _ => rfl) (spX_len fun a vs G h => by rw [h.1]; rfl) fun cdv A outer s H vs Q E hr hsp => ?_
  obtain ⟨⟨⟨a, xs⟩, b, ys⟩, G, hG, ⟨rfl, ha, hb⟩, hQ, _⟩ := hsp
  try dsimp only at *
  refine ⟨_, (pss_cons (ps_lcU (i := 2) (own := [("name", 3)]) rfl sc_Columns_and.nd rfl (by first | exact Or.inl ⟨rfl, rfl⟩ | exact Or.inr ⟨Or.inl rfl, rfl, Or.inl rfl⟩ | exact Or.inr ⟨Or.inr rfl, rfl, Or.inl rfl⟩) (pi_tupK (K := K) rfl (pe_fldK (K := K) rfl (pv 0))) (blkOk_by (own := [("name", 3)]) (N := N_Columns_and) (sc := df_Columns_and.scope) (by decide +kernel)) (fun _ _ _ _ _ => (pg_name (i := 3) sc_Columns_and.nd rfl (by first | exact Or.inl rfl | exact Or.inr rfl))) (fun _ _ _ _ _ => (pts_one (pt_cmpR (op_inK (K := K) rfl hr.units) (pv 3) (pe_fldK (K := K) rfl (pv 1)) rfl))) (fun _ _ _ _ _ => (pv 3)))
    (pss_one (ps_ret (pe_makeS1 T.mk_Columns (ok_Columns_init T) (hr.mono (by decide)) rfl T.m_Columns passL (pv 2))))), ?_⟩
  have N : Nx G H G H := Nx.refl hG
  got_up
  refine fld_v rfl T.c_Columns T.na_Columns_names ha N.h fun t ht => ?_
  refine ⟨t, rfl, ⟨_, sqT (N.h _ _ ht)⟩, ?_⟩
  refine lcb (src_tup (sqT ht)) N xs (fun x => decide (x ∈ ys)) (fun x v _ => v = .str x) (by rw [List.length_map]) (by rw [List.length_map]; have := ha.n; omega) (fun _ _ _ _ _ h => h) ?_ ?_
  · rintro i z v G' H' hz s1 s2 hv
    rw [List.getElem?_map, hz] at hv
    cases Option.some.inj hv
    refine ⟨_, fun Q q => w_gn q, rfl, fun Q q => ?_, fun _ G2 H2 s3 s4 Q q => ?_⟩
    · got_up
      refine fld_v rfl T.c_Columns T.na_Columns_names (hb.up s1) s2 fun u hu => ?_
      refine in_d da_s (ds_ts (sqT (s2 _ _ hu))) ?_
      got_up
      exact q G' H' (Nx.refl s2)
    · got_up
      exact q _ G2 H2 (Nx.refl s4) rfl
  · intro D L G' H' N' n' hD gD h0 hA
    have hL := All2.eq hA
    subst hL
    got_up
    refine mk_colsL N' _ hD (ha.nms.filter _) fun q G2 H2 N2 n2 hq => ?_
    exact hQ _ G2 H2 N2 ⟨q, rfl, hq⟩
end
end Lw

namespace Lw
open PySem PySem.Spec PyProof.Rows L2 SlX StX Ax
section
variable {P : Program} {w : World} {K : PySem.W.Frag} {mg : Str → Option Value} {base : Heap}
/-! Schema_iter -/
theorem ok_Schema_iter (T : TX P K mg) : FnIt P w K mg base (L2.CX P w) 1 T.a_Schema_iter (ItSch T.C_Schema) := by
  refine fnIt_of T.d_Schema_iter sc_Schema_iter (fun _ _ _ _ _ _ us hl => match us, hl with | [_], _ => rfl) fun cdv A outer s H a t Q E hr hA hQ => ?_
  obtain ⟨dx, n, c, zs, h1, h2⟩ := hA
  refine ⟨_, (pss_one (ps_ret (pe_callB (call_iterT (K := K) rfl rfl) rfl T.b_iter (by decide +kernel) (pa_cons (pe_fldK (K := K) rfl (pv 0)) pa_nil)))), ?_⟩
  got_up
  refine w_fld (w_var rfl ⟨a, _, dx, schF (.ref t) n c, .ref t, rfl, h1, T.c_Schema, T.na_Schema_tables, rfl, ?_⟩)
  got_up
  exact ⟨t, zs, rfl, sqT h2, hQ⟩
end
end Lw

namespace Lw
open PySem PySem.Spec PyProof.Rows L2 SlX StX Ax
section
variable {P : Program} {w : World} {K : PySem.W.Frag} {mg : Str → Option Value} {base : Heap}
/-! Columns_or -/
theorem ok_Columns_or (T : TX P K mg) : FnR P w K mg base (L2.CX P w) 9 T.a_Columns_or (spColsOr T.C_Columns) := by
  refine fnR_of T.d_Columns_or sc_Columns_or (fun _ _ _ _ _ _ us hl => match us, hl with | [_, _], _ => rfl) (spX_len fun a vs G h => by rw [h.1.1]; rfl) fun cdv A outer s H vs Q E hr hsp => ?_
  obtain ⟨⟨⟨a, xs⟩, b, ys⟩, G, hG, ⟨⟨rfl, ha, hb⟩, hn⟩, hQ, _⟩ := hsp
  try dsimp only at *
  refine ⟨_, (pss_cons (ps_asg (pe_op (op_addK (K := K) rfl) (pe_fldK (K := K) rfl (pv 0)) (pe_fldK (K := K) rfl (pv 1))) (pg_name (i := 2) sc_Columns_or.nd rfl (by first | exact Or.inl rfl | exact Or.inr rfl)))
    (pss_one (ps_ret (pe_makeS1 T.mk_Columns (ok_Columns_init T) (hr.mono (by decide)) rfl T.m_Columns passL (pv 2))))), ?_⟩
  have N : Nx G H G H := Nx.refl hG
  got_up
  refine fld_v rfl T.c_Columns T.na_Columns_names ha N.h fun t ht => ?_
  got_up
  refine fld_v rfl T.c_Columns T.na_Columns_names hb N.h fun u hu => ?_
  refine add_t N ht hu (by rw [List.length_map, List.length_map]; have := ha.n; have := hb.n; omega) fun p G1 H1 N1 n1 hp => ?_
  rw [← List.map_append] at hp
  got_up
  refine mk_colsT N1 _ hp hn fun q G2 H2 N2 n2 hq => ?_
  exact hQ _ G2 H2 N2 ⟨q, rfl, hq⟩
end
end Lw

namespace Lw
open PySem PySem.Spec PyProof.Rows L2 SlX StX Ax
section
variable {P : Program} {w : World} {K : PySem.W.Frag} {mg : Str → Option Value} {base : Heap}
/-! reach -/
def m_reach (columns1 : (List Str)) (tables2 : (List Tbl)) : Mir (List Str) :=
  (((Mir.lt columns1 fun reached3 => (Mir.lt true fun grown4 => (Mir.bindO (Mir.whileM (fun s5 => (Mir.ret (s5.1))) (fun s5 => (Mir.lt false fun grown6 => (Mir.bindO (Mir.forL tables2 (s5.2, grown6) fun s7 x8 => (Mir.ifB ((!((pLe (x8).cols s7.1))) && (((((x8).keys).map fun key9 => (pLe key9 s7.1))).any id)) (((mOr s7.1 (x8).cols)).bind fun reached10 => (Mir.lt true fun grown11 => (Mir.ret (Out.nx (reached10, grown11))))) (Mir.ret (Out.nx (s7.1, s7.2))))) fun s7 => (Mir.ret (Out.nx (s7.2, s7.1)))))) (grown4, reached3)) fun s5 => (Mir.ret (Out.rt s5.2))))) : Mir (Out Unit (List Str)))).exit.nox
theorem ok_reach (T : TX P K mg) : FnR P w K mg base (L2.CX P w) 13 T.a_reach (spM (rx T) (TyA.cons (tCols T.C_Columns).h (TyA.one (tList (tTbl T.C_Table T.C_Columns)).h)) (rtF (tCols T.C_Columns)) fun (a : (List Str) × (List Tbl)) => m_reach a.1 a.2) := by
  refine fnM (β := Unit) (Γ0 := fun a => [.fz (tCols T.C_Columns) a.1, .fz (tList (tTbl T.C_Table T.C_Columns)) a.2, .any, .any, .any, .any]) T.d_reach sc_reach (fun _ _ _ _ _ _ us hl => match us, hl with | [_, _], _ => rfl) (fun {a vs G H} h => ?len) (fun {a vs G H} h => ?env) fun cdv Ar outer s H E hr => ⟨_, (pss_cons (ps_asg (pv 0) (pg_name (i := 2) sc_reach.nd rfl (by first | exact Or.inl rfl | exact Or.inr rfl)))
    (pss_cons (ps_asg pe_bl (pg_name (i := 3) sc_reach.nd rfl (by first | exact Or.inl rfl | exact Or.inr rfl)))
    (pss_cons (ps_while (passes_of rfl) (pt_val (pv 3))
    (pss_cons (ps_asg pe_bl (pg_name (i := 3) sc_reach.nd rfl (by first | exact Or.inl rfl | exact Or.inr rfl)))
    (pss_one (ps_for (passes_of rfl) rfl (pi_listK (K := K) rfl (pv 1)) (pg_name (i := 4) sc_reach.nd rfl (by first | exact Or.inl rfl | exact Or.inr rfl))
    (pss_one (ps_if (PW.pt (pw_and (pt_not (pt_cmpR (op_cmp (fun _ _ => rfl) T.nf_Columns_Columns T.me_Columns_le.at_ T.me_Columns_le.fn (ok_Columns_le T) (hr.mono (by decide)) passL) (pe_fldK (K := K) rfl (pv 4)) (pv 2) (nomark _))) (pw_and1 (pt_val (pe_callB (cr_anyK (K := K) rfl rfl) rfl T.b_any (by decide +kernel) (pa_cons (pe_lc (own := [("key", 5)]) rfl sc_reach.nd (pi_tupK (K := K) rfl (pe_fldK (K := K) rfl (pv 4))) (blkOk_by (own := [("key", 5)]) (N := N_reach) (sc := df_reach.scope) (by decide +kernel)) (fun _ _ _ _ _ => (pg_name (i := 5) sc_reach.nd rfl (by first | exact Or.inl rfl | exact Or.inr rfl))) (fun _ _ _ _ _ => pts_nil) (fun _ _ _ _ _ => (pe_cmpR (op_cmp (fun _ _ => rfl) T.nf_Columns_Columns T.me_Columns_le.at_ T.me_Columns_le.fn (ok_Columns_le T) (hr.mono (by decide)) passL) (pv 5) (pv 2) (nomark _)))) pa_nil)))))) (pss_cons (ps_asg (pe_op (op_bin T.sf_Columns T.me_Columns_or.at_ T.me_Columns_or.fn (ok_Columns_or T) (hr.mono (by decide)) passL) (pv 2) (pe_fldK (K := K) rfl (pv 4))) (pg_name (i := 2) sc_reach.nd rfl (by first | exact Or.inl rfl | exact Or.inr rfl)))
    (pss_one (ps_asg pe_bl (pg_name (i := 3) sc_reach.nd rfl (by first | exact Or.inl rfl | exact Or.inr rfl))))) pss_nil))))))
    (pss_one (ps_ret (pv 2)))))), fun a => ?der⟩
  case len => obtain ⟨v0, r0, rfl, h0, ⟨v1, rfl, h1⟩⟩ := h; rfl
  case env => obtain ⟨v0, r0, rfl, h0, ⟨v1, rfl, h1⟩⟩ := h; exact Env.of ⟨⟨v0, rfl, h0⟩, ⟨⟨v1, rfl, h1⟩, ⟨True.intro, ⟨True.intro, ⟨True.intro, ⟨True.intro, True.intro⟩⟩⟩⟩⟩⟩
  case der => exact ⟨_, (SJ.asgP (PJ.var rfl) (fun reached3 => (SJ.asgP PJ.bl (fun grown4 => (SJ.whileM (s0 := (grown4, reached3)) (post0 := (fun (s5 : Bool × (List Str)) => [.fz (tCols T.C_Columns) a.1, .fz (tList (tTbl T.C_Table T.C_Columns)) a.2, .fz (tCols T.C_Columns) s5.2, .fz tBool s5.1, .any, .any])) ⟨.inr rfl, .inr rfl, .inr rfl, .inr rfl, .inl rfl, .inl rfl, True.intro⟩ (fun s5 => ((TP.val (PJ.var rfl))).e)
   (fun s5 => (SJ.asgP PJ.bl (fun grown6 => (SJ.last (SJ.forL (s0 := (s5.2, grown6)) (post0 := (fun (s7 : (List Str) × Bool) => [.fz (tCols T.C_Columns) a.1, .fz (tList (tTbl T.C_Table T.C_Columns)) a.2, .fz (tCols T.C_Columns) s7.1, .fz tBool s7.2, .any, .any])) (IJf.list ((PJ.var rfl)).e) ⟨.inr rfl, .inr rfl, .inr rfl, .inr rfl, .inl rfl, .inl rfl, True.intro⟩ (fun s7 x8 => GJ.name)
   (fun s7 x8 => (SJ.if1 (TP.and (TP.not (TP.test (PJ.op OpP.colsLe (PJ.fld fldTblCols T.c_Table T.na_Table_columns (PJ.var rfl)) (PJ.var rfl)))) (TP.val (PJ.call CP.any (AP.one ((LP.lcA ((IJf.tup ((PJ.fld fldTblKeys T.c_Table T.na_Table_key_sets (PJ.var rfl))).e)).b (fun key9 => GJ.name) (by decide) (fun key9 => (PJ.op OpP.colsLe (PJ.var rfl) (PJ.var rfl))))).bo)))) (SJ.asg (EJ.opP OpM.colsOr (PJ.var rfl) (PJ.fld fldTblCols T.c_Table T.na_Table_columns (PJ.var rfl))) (fun reached10 => (SJ.last (SJ.asgP PJ.bl (fun grown11 => (SJ.next (b := (reached10, grown11)) ⟨.inr rfl, .inr rfl, .inr rfl, .inr rfl, .inl rfl, .inl rfl, True.intro⟩)))))) (SJ.next (b := (s7.1, s7.2)) ⟨.inr rfl, .inr rfl, .inr rfl, .inr rfl, .inl rfl, .inl rfl, True.intro⟩)))
   (fun s7 => (SJ.next (b := (s7.2, s7.1)) ⟨.inr rfl, .inr rfl, .inr rfl, .inr rfl, .inl rfl, .inl rfl, True.intro⟩)))))))
   (fun s5 => (SJ.retP (PJ.var rfl)))))))), by simp only [m_reach, Mir.ret_bind, Mir.bind_bind, Mir.lt_eq, Mir.chk_bind, Mir.ret_bindO_nx, Mir.ret_bindO_rt, mOr, pAnd, pSub, pLe, pLt, mAdds, mCat, mMul, mDiv, mMod, mPow, mSgn, mRng, mStr, mSort, mJoin, mSplit, mCols, mApp, mExt, mIns, mSet, id, mIsName, mPart, mLenO, mIsSet, mRowKind, mPopAt, Mir.fail_bind, mInS, mNiS, mUpper, mSet1, mSortSet, mShl, mShr, mAnd, mMulS, mPutD, pIn, pNi]⟩
end
end Lw

namespace Lw
open PySem PySem.Spec PyProof.Rows L2 SlX StX Ax
section
variable {P : Program} {w : World} {K : PySem.W.Frag} {mg : Str → Option Value} {base : Heap}
/-! is_independent -/
def m_is_independent (schema1 : Sch) : Mir Bool :=
  (((Mir.bindO (Mir.forL (schema1).tables () fun s2 x3 => (Mir.lt (((schema1).tables).filter (fun table4 => (decide ((table4).name ≠ (x3).name)))) fun others5 => (Mir.bindO (Mir.forL others5 () fun s6 x7 => (((m_reach (x7).cols others5)).bind fun reached8 => (Mir.bindO (Mir.forL (x3).keys () fun s9 x10 => (Mir.ifB ((pLe x10 reached8) && (!((pLe (pAnd (x3).cols reached8) x10)))) (Mir.ret (Out.rt false)) (Mir.ret (Out.nx ())))) fun s9 => (Mir.ret (Out.nx ()))))) fun s6 => (Mir.ret (Out.nx ()))))) fun s2 => (Mir.ret (Out.rt true))) : Mir (Out Unit Bool))).exit.nox
theorem ok_is_independent (T : TX P K mg) : FnR P w K mg base (L2.CX P w) 17 T.a_is_independent (spM (rx T) (TyA.one (tSch T.C_Schema T.C_Table T.C_Columns).h) (rtF tBool) fun (a : Sch) => m_is_independent a) := by
  refine fnM (β := Unit) (Γ0 := fun a => [.fz (tSch T.C_Schema T.C_Table T.C_Columns) a, .any, .any, .any, .any, .any, .any]) T.d_is_independent sc_is_independent (fun _ _ _ _ _ _ us hl => match us, hl with | [_], _ => rfl) (fun {a vs G H} h => ?len) (fun {a vs G H} h => ?env) fun cdv Ar outer s H E hr => ⟨_, (pss_cons (ps_for (passes_of rfl) rfl (pi_own (K := K) rfl T.me_Schema_iter (ok_Schema_iter T) (hr.mono (by decide)) (pv 0)) (pg_name (i := 1) sc_is_independent.nd rfl (by first | exact Or.inl rfl | exact Or.inr rfl))
    (pss_cons (ps_lcU (i := 2) (own := [("table", 6)]) rfl sc_is_independent.nd rfl (by first | exact Or.inl ⟨rfl, rfl⟩ | exact Or.inr ⟨Or.inl rfl, rfl, Or.inl rfl⟩ | exact Or.inr ⟨Or.inr rfl, rfl, Or.inl rfl⟩) (pi_own (K := K) rfl T.me_Schema_iter (ok_Schema_iter T) (hr.mono (by decide)) (pv 0)) (blkOk_by (own := [("table", 6)]) (N := N_is_independent) (sc := df_is_independent.scope) (by decide +kernel)) (fun _ _ _ _ _ => (pg_name (i := 6) sc_is_independent.nd rfl (by first | exact Or.inl rfl | exact Or.inr rfl))) (fun _ _ _ _ _ => (pts_one (pt_cmpR (op_neK (K := K) rfl hr.units) (pe_fldK (K := K) rfl (pv 6)) (pe_fldK (K := K) rfl (pv 1)) (nomark _)))) (fun _ _ _ _ _ => (pv 6)))
    (pss_one (ps_for (passes_of rfl) rfl (pi_listK (K := K) rfl (pv 2)) (pg_name (i := 3) sc_is_independent.nd rfl (by first | exact Or.inl rfl | exact Or.inr rfl))
    (pss_cons (ps_asg (pe_callR (ok_reach T) (hr.mono (by decide)) T.k_reach rfl T.m_reach passL (pa_cons (pe_fldK (K := K) rfl (pv 3)) (pa_cons (pv 2) pa_nil))) (pg_name (i := 4) sc_is_independent.nd rfl (by first | exact Or.inl rfl | exact Or.inr rfl)))
    (pss_one (ps_for (passes_of rfl) rfl (pi_tupK (K := K) rfl (pe_fldK (K := K) rfl (pv 1))) (pg_name (i := 5) sc_is_independent.nd rfl (by first | exact Or.inl rfl | exact Or.inr rfl))
    (pss_one (ps_if (PW.pt (pw_and (pt_cmpR (op_cmp (fun _ _ => rfl) T.nf_Columns_Columns T.me_Columns_le.at_ T.me_Columns_le.fn (ok_Columns_le T) (hr.mono (by decide)) passL) (pv 5) (pv 4) (nomark _)) (pw_and1 (pt_not (pt_cmpR (op_cmp (fun _ _ => rfl) T.nf_Columns_Columns T.me_Columns_le.at_ T.me_Columns_le.fn (ok_Columns_le T) (hr.mono (by decide)) passL) (pe_op (op_bin T.sf_Columns T.me_Columns_and.at_ T.me_Columns_and.fn (ok_Columns_and T) (hr.mono (by decide)) passL) (pe_fldK (K := K) rfl (pv 1)) (pv 4)) (pv 5) (nomark _)))))) (pss_one (ps_ret pe_bl)) pss_nil)))))))))
    (pss_one (ps_ret pe_bl))), fun a => ?der⟩
  case len => obtain ⟨v0, rfl, h0⟩ := h; rfl
  case env => obtain ⟨v0, rfl, h0⟩ := h; exact Env.of ⟨⟨v0, rfl, h0⟩, ⟨True.intro, ⟨True.intro, ⟨True.intro, ⟨True.intro, ⟨True.intro, ⟨True.intro, True.intro⟩⟩⟩⟩⟩⟩⟩
  case der => exact ⟨_, (SJ.forL (s0 := ()) (post0 := (fun (s2 : Unit) => [.fz (tSch T.C_Schema T.C_Table T.C_Columns) a, .any, .any, .any, .any, .any, .any])) (IJf.sch ((PJ.var rfl)).e) ⟨.inr rfl, .inl rfl, .inl rfl, .inl rfl, .inl rfl, .inl rfl, .inl rfl, True.intro⟩ (fun s2 x3 => GJ.name)
   (fun s2 x3 => (SJ.asgP ((LP.lcF ((IJf.sch ((PJ.var rfl)).e)).b (fun table4 => GJ.name) (by decide) (fun table4 => (TP.test (PJ.op (OpP.ne EqD.str (Nat.le_of_ble_eq_true rfl)) (PJ.fld fldTblName T.c_Table T.na_Table_name (PJ.var rfl)) (PJ.fld fldTblName T.c_Table T.na_Table_name (PJ.var rfl))))) (fun table4 => (PJ.var rfl)))).fz (fun others5 => (SJ.last (SJ.forL (s0 := ()) (post0 := (fun (s6 : Unit) => [.fz (tSch T.C_Schema T.C_Table T.C_Columns) a, .fz (tTbl T.C_Table T.C_Columns) x3, .fz (tList (tTbl T.C_Table T.C_Columns)) others5, .any, .any, .any, .any])) (IJf.list ((PJ.var rfl)).e) ⟨.inr rfl, .inr rfl, .inr rfl, .inl rfl, .inl rfl, .inl rfl, .inl rfl, True.intro⟩ (fun s6 x7 => GJ.name)
   (fun s6 x7 => (SJ.asg (EJ.callP CM.fn (AP.cons (PJ.fld fldTblCols T.c_Table T.na_Table_columns (PJ.var rfl)) (AP.one (PJ.var rfl)))) (fun reached8 => (SJ.last (SJ.forL (s0 := ()) (post0 := (fun (s9 : Unit) => [.fz (tSch T.C_Schema T.C_Table T.C_Columns) a, .fz (tTbl T.C_Table T.C_Columns) x3, .fz (tList (tTbl T.C_Table T.C_Columns)) others5, .fz (tTbl T.C_Table T.C_Columns) x7, .fz (tCols T.C_Columns) reached8, .any, .any])) (IJf.tup ((PJ.fld fldTblKeys T.c_Table T.na_Table_key_sets (PJ.var rfl))).e) ⟨.inr rfl, .inr rfl, .inr rfl, .inr rfl, .inr rfl, .inl rfl, .inl rfl, True.intro⟩ (fun s9 x10 => GJ.name)
   (fun s9 x10 => (SJ.if1 (TP.and (TP.test (PJ.op OpP.colsLe (PJ.var rfl) (PJ.var rfl))) (TP.not (TP.test (PJ.op OpP.colsLe (PJ.op OpP.colsAnd (PJ.fld fldTblCols T.c_Table T.na_Table_columns (PJ.var rfl)) (PJ.var rfl)) (PJ.var rfl))))) (SJ.retP PJ.bl) (SJ.next (b := ()) ⟨.inr rfl, .inr rfl, .inr rfl, .inr rfl, .inr rfl, .inl rfl, .inl rfl, True.intro⟩)))
   (fun s9 => (SJ.next (b := ()) ⟨.inr rfl, .inr rfl, .inr rfl, .inl rfl, .inl rfl, .inl rfl, .inl rfl, True.intro⟩)))))))
   (fun s6 => (SJ.next (b := ()) ⟨.inr rfl, .inl rfl, .inl rfl, .inl rfl, .inl rfl, .inl rfl, .inl rfl, True.intro⟩)))))))
   (fun s2 => (SJ.retP PJ.bl))), by simp only [m_is_independent, Mir.ret_bind, Mir.bind_bind, Mir.lt_eq, Mir.chk_bind, Mir.ret_bindO_nx, Mir.ret_bindO_rt, mOr, pAnd, pSub, pLe, pLt, mAdds, mCat, mMul, mDiv, mMod, mPow, mSgn, mRng, mStr, mSort, mJoin, mSplit, mCols, mApp, mExt, mIns, mSet, id, mIsName, mPart, mLenO, mIsSet, mRowKind, mPopAt, Mir.fail_bind, mInS, mNiS, mUpper, mSet1, mSortSet, mShl, mShr, mAnd, mMulS, mPutD, pIn, pNi]⟩
end
end Lw

namespace Lw
open PySem PySem.Spec PyProof.Rows L2 SlX StX Ax
section
variable {P : Program} {w : World} {K : PySem.W.Frag} {mg : Str → Option Value} {base : Heap}
/-! check_independent -/
def m_check_independent (schema1 : Sch) : Mir Unit :=
  (((((((m_is_independent schema1)).bind fun v2 => Mir.ret (!(v2)))).bind fun v3 => (Mir.ifB v3 Mir.fail (Mir.ret (Out.nx ())))) : Mir (Out Unit Unit))).exitN.nox
theorem ok_check_independent (T : TX P K mg) : FnR P w K mg base (L2.CX P w) 21 T.a_check_independent (spM (rx T) (TyA.one (tSch T.C_Schema T.C_Table T.C_Columns).h) (rtF tUnit) fun (a : Sch) => m_check_independent a) := by
  refine fnMN (post := [.any]) (Γ0 := fun a => [.fz (tSch T.C_Schema T.C_Table T.C_Columns) a]) T.d_check_independent sc_check_independent (fun _ _ _ _ _ _ us hl => match us, hl with | [_], _ => rfl) (fun {a vs G H} h => ?len) (fun {a vs G H} h => ?env) fun cdv Ar outer s H E hr => ⟨_, (pss_one (ps_if (pt_not (pt_val (pe_callR (ok_is_independent T) (hr.mono (by decide)) T.k_is_independent rfl T.m_is_independent passL (pa_cons (pv 0) pa_nil)))) (pss_one ps_never) pss_nil)), fun a => ?der⟩
  case len => obtain ⟨v0, rfl, h0⟩ := h; rfl
  case env => obtain ⟨v0, rfl, h0⟩ := h; exact Env.of ⟨⟨v0, rfl, h0⟩, True.intro⟩
  case der => exact ⟨_, (SJ.if1m (TJ.not (TJ.val (EJ.callP CM.fn (AP.one (PJ.var rfl))))) SJ.never (SJ.next (b := ()) ⟨.inl rfl, True.intro⟩)), by simp only [m_check_independent, Mir.ret_bind, Mir.bind_bind, Mir.lt_eq, Mir.chk_bind, Mir.ret_bindO_nx, Mir.ret_bindO_rt, mOr, pAnd, pSub, pLe, pLt, mAdds, mCat, mMul, mDiv, mMod, mPow, mSgn, mRng, mStr, mSort, mJoin, mSplit, mCols, mApp, mExt, mIns, mSet, id, mIsName, mPart, mLenO, mIsSet, mRowKind, mPopAt, Mir.fail_bind, mInS, mNiS, mUpper, mSet1, mSortSet, mShl, mShr, mAnd, mMulS, mPutD, pIn, pNi]⟩
end
end Lw

namespace Lw
open PySem PySem.Spec PyProof.Rows L2 SlX StX Ax
section
variable {P : Program} {w : World} {K : PySem.W.Frag} {mg : Str → Option Value} {base : Heap}
/-! may_put -/
def m_may_put (schema1 : Sch) (name2 : Str) (rows3 : (List (List Int))) (row4 : (List Int)) : Mir Bool :=
  (((((m_check_independent schema1)).bind fun v11 => (((m_Schema_getitem schema1 name2)).bind fun table5 => (((Mir.chk (((rows3 ++ [row4])).length ≤ mxL) (Mir.ret ((rows3 ++ [row4]))))).bind fun v10 => (Mir.bindO (Mir.forL v10 () fun s6 x7 => (Mir.ifB (decide (((x7).length : Int) ≠ (((table5).names).length : Int))) (Mir.raise (Err.iRow name2)) (Mir.ret (Out.nx ())))) fun s6 => (((((m_Table_clash table5 rows3 row4)).bind fun v8 => Mir.ret ((v8).isNone))).bind fun v9 => (Mir.ret (Out.rt v9))))))) : Mir (Out Unit Bool))).exit
theorem ok_may_put (T : TX P K mg) : FnR P w K mg base (L2.CX P w) 25 T.a_may_put (spM (rx T) (TyA.cons (tSch T.C_Schema T.C_Table T.C_Columns).h (TyA.cons tStr.h (TyA.cons (tBo (tTpl tInt)) (TyA.one (tTpl tInt).h)))) (rtF tBool) fun (a : Sch × Str × (List (List Int)) × (List Int)) => m_may_put a.1 a.2.1 a.2.2.1 a.2.2.2) := by
  refine fnMX (β := Unit) (Γ0 := fun a => [.fz (tSch T.C_Schema T.C_Table T.C_Columns) a.1, .fz tStr a.2.1, .bor (tTpl tInt) a.2.2.1, .fz (tTpl tInt) a.2.2.2, .any, .any]) T.d_may_put sc_may_put (fun _ _ _ _ _ _ us hl => match us, hl with | [_, _, _, _], _ => rfl) (fun {a vs G H} h => ?len) (fun {a vs G H} h => ?env) fun cdv Ar outer s H E hr => ⟨_, (pss_cons (ps_expr (pe_callR (ok_check_independent T) (hr.mono (by decide)) T.k_check_independent rfl T.m_check_independent (passD (takes_of rfl rfl rfl rfl)) (pa_cons (pv 0) pa_nil)))
    (pss_cons (ps_asg (pe_ixO T.me_Schema_getitem.at_ (fnIn_of T.d_Schema_getitem) T.me_Schema_getitem.fn (ok_Schema_getitem T) (hr.mono (by decide)) (passD (takes_of rfl rfl rfl rfl)) (pv 0) (pv 1) (fun _ _ => rfl)) (pg_name (i := 4) sc_may_put.nd rfl (by first | exact Or.inl rfl | exact Or.inr rfl)))
    (pss_cons (ps_for (passes_of rfl) rfl (pi_listK (K := K) rfl (pe_lst (pa_star (pv 2) (pa_cons (pv 3) pa_nil)))) (pg_name (i := 5) sc_may_put.nd rfl (by first | exact Or.inl rfl | exact Or.inr rfl))
    (pss_one (ps_if (pt_cmpR (op_neK (K := K) rfl hr.units) (pe_callB (call_lenK (K := K) rfl) rfl T.b_len (by decide +kernel) (pa_cons (pv 5) pa_nil)) (pe_callB (call_lenK (K := K) rfl) rfl T.b_len (by decide +kernel) (pa_cons (pe_fldK (K := K) rfl (pv 4)) pa_nil)) (nomark _)) (pss_one (ps_raise rfl (takes_of rfl rfl rfl rfl) (pmk_ex (ok_InvalidRow_init T) (hr.mono (by decide)) passL rfl T.m_InvalidRow (pa_cons (pv 1) pa_nil)))) pss_nil)))
    (pss_one (ps_ret (pe_cmpR op_isN (pe_methR (pv 4) T.c_Table T.me_Table_clash (ok_Table_clash T) (hr.mono (by decide)) (passD (takes_of rfl rfl rfl rfl)) (pa_cons (pv 2) (pa_cons (pv 3) pa_nil))) pe_non (nomark _))))))), fun a => ?der⟩
  case len => obtain ⟨v0, r0, rfl, h0, ⟨v1, r1, rfl, h1, ⟨v2, r2, rfl, ⟨l2, w2, rfl, g2, z2, q2⟩, ⟨v3, rfl, h3⟩⟩⟩⟩ := h; rfl
  case env => obtain ⟨v0, r0, rfl, h0, ⟨v1, r1, rfl, h1, ⟨v2, r2, rfl, ⟨l2, w2, rfl, g2, z2, q2⟩, ⟨v3, rfl, h3⟩⟩⟩⟩ := h; exact Env.of ⟨⟨v0, rfl, h0⟩, ⟨⟨v1, rfl, h1⟩, ⟨⟨l2, w2, rfl, g2, z2, q2⟩, ⟨⟨v3, rfl, h3⟩, ⟨True.intro, ⟨True.intro, True.intro⟩⟩⟩⟩⟩⟩
  case der => exact ⟨_, (SJ.drop (EJ.callP CM.fn (AP.one (PJ.var rfl))) (SJ.asg (EJ.opP (OpM.ixO insSch) (PJ.var rfl) (PJ.var rfl)) (fun table5 => (SJ.forL (s0 := ()) (post0 := (fun (s6 : Unit) => [.fz (tSch T.C_Schema T.C_Table T.C_Columns) a.1, .fz tStr a.2.1, .bor (tTpl tInt) a.2.2.1, .fz (tTpl tInt) a.2.2.2, .fz (tTbl T.C_Table T.C_Columns) table5, .any])) (IJf.list ((LJ.lst (AP.lstarB1 (PJ.varB (.inr rfl)) (PJ.var rfl)).e)).fz) ⟨.inr rfl, .inr rfl, .inr rfl, .inr rfl, .inr rfl, .inl rfl, True.intro⟩ (fun s6 x7 => GJ.name)
   (fun s6 x7 => (SJ.if1 (TP.test (PJ.op (OpP.ne EqD.int (Nat.le_of_ble_eq_true rfl)) (PJ.call CP.lenT (AP.one (PJ.var rfl))) (PJ.call CP.lenT (AP.one (PJ.fld fldTblNames T.c_Table T.na_Table_names (PJ.var rfl)))))) (SJ.raise1 (er := fun x => Err.iRow x) (fun _ _ _ _ _ h => h) (fun r => r) ((PJ.var rfl)).e) (SJ.next (b := ()) ⟨.inr rfl, .inr rfl, .inr rfl, .inr rfl, .inr rfl, .inl rfl, True.intro⟩)))
   (fun s6 => (SJ.ret (EJ.op (OpP.m OpP.isN) (EJ.meth (nofTbl (by decide)) ((PJ.var rfl)).e (AP.cons (PJ.varB (.inr rfl)) (AP.one (PJ.var rfl))).e) (PJ.non).e))))))), by simp only [m_may_put, Mir.ret_bind, Mir.bind_bind, Mir.lt_eq, Mir.chk_bind, Mir.ret_bindO_nx, Mir.ret_bindO_rt, mOr, pAnd, pSub, pLe, pLt, mAdds, mCat, mMul, mDiv, mMod, mPow, mSgn, mRng, mStr, mSort, mJoin, mSplit, mCols, mApp, mExt, mIns, mSet, id, mIsName, mPart, mLenO, mIsSet, mRowKind, mPopAt, Mir.fail_bind, mInS, mNiS, mUpper, mSet1, mSortSet, mShl, mShr, mAnd, mMulS, mPutD, pIn, pNi]⟩
end
end Lw

namespace Lw
open PySem PySem.Spec PyProof.Rows L2 SlX StX Ax
section
variable {P : Program} {w : World} {K : PySem.W.Frag} {mg : Str → Option Value} {base : Heap}
/-! _law_refused -/
def m__law_refused (schema1 : Sch) (label2 : Str) (rows3 : (List (List Int))) (row4 : (List Int)) : Mir (Option (Str × Str)) :=
  (((Mir.bindO (Mir.tryM (((m_may_put schema1 label2 rows3 row4)).bind fun v5 => (Mir.ret (Out.nx ()))) (fun er => match er with | .uTable f6 => ((Mir.ret (Out.rt (some (("table" : Str), f6)))) : Mir (Out (Unit) (Option (Str × Str)))).nox | .iRow f7 => ((Mir.ret (Out.rt (some (("row" : Str), f7)))) : Mir (Out (Unit) (Option (Str × Str)))).nox | e => Mir.raise e)) fun s8 => (Mir.ret (Out.rt (none : (Option (Str × Str)))))) : Mir (Out Unit (Option (Str × Str))))).exit.nox
theorem ok__law_refused (T : TX P K mg) : FnR P w K mg base (L2.CX P w) 29 T.a__law_refused (spM (rx T) (TyA.cons (tSch T.C_Schema T.C_Table T.C_Columns).h (TyA.cons tStr.h (TyA.cons (tBo (tTpl tInt)) (TyA.one (tTpl tInt).h)))) (rtF (tOptL (TyL.cons tStr (TyL.one tStr)))) fun (a : Sch × Str × (List (List Int)) × (List Int)) => m__law_refused a.1 a.2.1 a.2.2.1 a.2.2.2) := by
  refine fnM (β := Unit) (Γ0 := fun a => [.fz (tSch T.C_Schema T.C_Table T.C_Columns) a.1, .fz tStr a.2.1, .bor (tTpl tInt) a.2.2.1, .fz (tTpl tInt) a.2.2.2, .any]) T.d__law_refused sc__law_refused (fun _ _ _ _ _ _ us hl => match us, hl with | [_, _, _, _], _ => rfl) (fun {a vs G H} h => ?len) (fun {a vs G H} h => ?env) fun cdv Ar outer s H E hr => ⟨_, (pss_cons (ps_tryAs rfl rfl sc__law_refused.nd (takes_of rfl rfl rfl rfl) (fun W pn xe tk hpa => (pss_one (ps_expr (pe_callR (ok_may_put T) (hr.mono (by decide)) T.k_may_put rfl T.m_may_put (passT (n := 5) tk rfl) (pa_cons (pv 0) (pa_cons (pv 1) (pa_cons (pv 2) (pa_cons (pv 3) pa_nil))))))))
    (HdsAs.cons (i := 4) rfl rfl ⟨rfl, by decide +kernel, .inl T.m_UnknownTable⟩ (fun a oe cls d pn hz hf => (pss_one (ps_ret (pe_lst (pa_cons pe_str (pa_cons (pe_xf T.xr_UnknownTable T.na_UnknownTable_name hz hf (pv 4)) pa_nil))))))
     (HdsAs.cons (i := 4) rfl rfl ⟨rfl, by decide +kernel, .inl T.m_InvalidRow⟩ (fun a oe cls d pn hz hf => (pss_one (ps_ret (pe_lst (pa_cons pe_str (pa_cons (pe_xf T.xr_InvalidRow T.na_InvalidRow_name hz hf (pv 4)) pa_nil))))))
     HdsAs.nil)))
    (pss_one (ps_ret (pe_lst pa_nil)))), fun a => ?der⟩
  case len => obtain ⟨v0, r0, rfl, h0, ⟨v1, r1, rfl, h1, ⟨v2, r2, rfl, ⟨l2, w2, rfl, g2, z2, q2⟩, ⟨v3, rfl, h3⟩⟩⟩⟩ := h; rfl
  case env => obtain ⟨v0, r0, rfl, h0, ⟨v1, r1, rfl, h1, ⟨v2, r2, rfl, ⟨l2, w2, rfl, g2, z2, q2⟩, ⟨v3, rfl, h3⟩⟩⟩⟩ := h; exact Env.of ⟨⟨v0, rfl, h0⟩, ⟨⟨v1, rfl, h1⟩, ⟨⟨l2, w2, rfl, g2, z2, q2⟩, ⟨⟨v3, rfl, h3⟩, ⟨True.intro, True.intro⟩⟩⟩⟩⟩
  case der => exact ⟨_, (SJ.seq (post1 := (fun (s8 : Unit) => [.fz (tSch T.C_Schema T.C_Table T.C_Columns) a.1, .fz tStr a.2.1, .bor (tTpl tInt) a.2.2.1, .fz (tTpl tInt) a.2.2.2, .any])) (SJ.tryN (n := 5) (h := (fun er => match er with | .uTable f6 => ((Mir.ret (Out.rt (some (("table" : Str), f6)))) : Mir (Out (Unit) (Option (Str × Str)))).nox | .iRow f7 => ((Mir.ret (Out.rt (some (("row" : Str), f7)))) : Mir (Out (Unit) (Option (Str × Str)))).nox | e => Mir.raise e)) (fun W => (SJ.last (SJ.drop (EJ.callP CM.fn (AP.cons (PJ.var rfl) (AP.cons (PJ.var rfl) (AP.cons (PJ.varB (.inr rfl)) (AP.one (PJ.var rfl)))))) (SJ.next (b := ()) ⟨.inr rfl, .inr rfl, .inr rfl, .inr rfl, .inl rfl, True.intro⟩))))
   (fun er => match er with | .iName _ => Hs.never (fun _ _ _ r => r) | .iTable _ => Hs.never (fun _ _ _ r => r) | .iSchema _ => Hs.never (fun _ _ _ r => r) | .uTable f6 => (Hs.hit (hu := rxup T) (fun _ _ _ r => Ex1.exm r T.xm_UnknownTable_UnknownTable) (fun ea ec ed => (SJ.retP (PJ.someL (PJ.recL (TyL.len_cons TyL.len_one) (AP.rcons PJ.str (AP.rone (PJ.xfld (RX := rx T) (er := (Err.uTable f6)) (t := tStr) (fun _ r => Ex1.fld r) (PJ.var rfl))))))))) | .uColumn _ => Hs.never (fun _ _ _ r => r) | .iRow f7 => (Hs.miss (RX := rx T) (er := Err.iRow f7) (fun _ _ _ r => Ex1.exm r T.xm_InvalidRow_UnknownTable) (Hs.hit (hu := rxup T) (fun _ _ _ r => Ex1.exm r T.xm_InvalidRow_InvalidRow) (fun ea ec ed => (SJ.retP (PJ.someL (PJ.recL (TyL.len_cons TyL.len_one) (AP.rcons PJ.str (AP.rone (PJ.xfld (RX := rx T) (er := (Err.iRow f7)) (t := tStr) (fun _ r => Ex1.fld r) (PJ.var rfl)))))))))) | .taken _ _ => Hs.never (fun _ _ _ r => r) | .noRow _ => Hs.never (fun _ _ _ r => r) | .misfit _ => Hs.never (fun _ _ _ r => r) | .notInd _ => Hs.never (fun _ _ _ r => r) | .refused _ => Hs.never (fun _ _ _ r => r))) (fun s8 => (SJ.retP (PJ.nonL (u := tInt) (LP.lst (t := tInt) AP.lnil (Nat.le_of_ble_eq_true rfl)).fz)))), by simp only [m__law_refused, Mir.ret_bind, Mir.bind_bind, Mir.lt_eq, Mir.chk_bind, Mir.ret_bindO_nx, Mir.ret_bindO_rt, mOr, pAnd, pSub, pLe, pLt, mAdds, mCat, mMul, mDiv, mMod, mPow, mSgn, mRng, mStr, mSort, mJoin, mSplit, mCols, mApp, mExt, mIns, mSet, id, mIsName, mPart, mLenO, mIsSet, mRowKind, mPopAt, Mir.fail_bind, mInS, mNiS, mUpper, mSet1, mSortSet, mShl, mShr, mAnd, mMulS, mPutD, pIn, pNi]⟩
end
end Lw

namespace Lw
open PySem PySem.Spec PyProof.Rows L2 SlX StX Ax
section
variable {P : Program} {w : World} {K : PySem.W.Frag} {mg : Str → Option Value} {base : Heap}
/-! _law_chain -/
def m__law_chain (pool1 : Unit) (names2 : (List Str)) (labels3 : (List Str)) (most4 : Int) : Mir (List (Str × (List Str) × (List (List Str)))) :=
  (((((((Mir.draw (most4 - (1 : Int)))).bind fun v5 => Mir.ret (((2 : Int) + v5)))).bind fun many6 => (Mir.lt ([] : (List (Str × (List Str) × (List (List Str))))) fun tables7 => (((mRng many6)).bind fun v35 => (Mir.bindO (Mir.forL v35 tables7 fun s8 x9 => (((((((Mir.get names2 x9)).bind fun v10 => (((Mir.get names2 (x9 + (1 : Int)))).bind fun v11 => Mir.ret [v10, v11]))).bind fun v12 => Mir.chk (v12.length ≤ mxL) (Mir.ret v12))).bind fun pair13 => (Mir.bindO (Mir.ifB (decide (x9 = (many6 - (1 : Int)))) (((((((Mir.get names2 (0 : Int))).bind fun v14 => (((Mir.get names2 x9)).bind fun v15 => Mir.ret [v14, v15]))).bind fun v16 => Mir.chk (v16.length ≤ mxL) (Mir.ret v16))).bind fun pair17 => (Mir.ret (Out.nx pair17))) (Mir.ret (Out.nx pair13))) fun s18 => (((Mir.ret s18)).bind fun columns19 => (Mir.bindO (((((Mir.draw (2 : Int))).bind fun v20 => Mir.ret ((decide (v20 = (1 : Int)))))).bind fun v34 => (Mir.ifB v34 (Mir.lt (columns19).reverse fun columns21 => (Mir.ret (Out.nx columns21))) (Mir.ret (Out.nx columns19)))) fun s22 => (Mir.bindO (((((Mir.draw (4 : Int))).bind fun v23 => Mir.ret ((decide (v23 = (1 : Int)))))).bind fun v33 => (Mir.ifB v33 (((Mir.draw (3 : Int))).bind fun v25 => (((Mir.get names2 (7 : Int))).bind fun v26 => (mIns s22 v25 v26 fun columns24 => (Mir.ret (Out.nx columns24))))) (Mir.ret (Out.nx s22)))) fun s27 => (((Mir.draw (((s8).length : Int) + (1 : Int)))).bind fun v31 => (((((Mir.get labels3 x9)).bind fun v30 => Mir.ret (v30, s27, [(cutL s18 none (some (1 : Int)))]))).bind fun v32 => (mIns s8 v31 v32 fun tables29 => (Mir.ret (Out.nx tables29))))))))))) fun s8 => (Mir.ret (Out.rt s8)))))) : Mir (Out Unit (List (Str × (List Str) × (List (List Str))))))).exit.nox
theorem ok__law_chain (T : TX P K mg) : FnR P w K mg base (L2.CX P w) 5 T.a__law_chain (spM (rx T) (TyA.cons tPool.h (TyA.cons (tList tStr).h (TyA.cons (tList tStr).h (TyA.one tInt.h)))) (rtL (tRecL (TyL.cons tStr (TyL.cons (tList tStr) (TyL.one (tList (tList tStr))))))) fun (a : Unit × (List Str) × (List Str) × Int) => m__law_chain a.1 a.2.1 a.2.2.1 a.2.2.2) := by
  refine fnM (β := Unit) (Γ0 := fun a => [.fz tPool a.1, .fz (tList tStr) a.2.1, .fz (tList tStr) a.2.2.1, .fz tInt a.2.2.2, .any, .any, .any, .any, .any]) T.d__law_chain sc__law_chain (fun _ _ _ _ _ _ us hl => match us, hl with | [_, _, _, _], _ => rfl) (fun {a vs G H} h => ?len) (fun {a vs G H} h => ?env) fun cdv Ar outer s H E hr => ⟨_, (pss_cons (ps_asg (pe_op (op_addK (K := K) rfl) pe_int (pe_callR (ok__law_draw T) (hr.mono (by decide)) T.k__law_draw rfl T.m__law_draw passL (pa_cons (pv 0) (pa_cons (pe_op op_sub (pv 3) pe_int) pa_nil)))) (pg_name (i := 4) sc__law_chain.nd rfl (by first | exact Or.inl rfl | exact Or.inr rfl)))
    (pss_cons (ps_asg (pe_lst pa_nil) (pg_name (i := 5) sc__law_chain.nd rfl (by first | exact Or.inl rfl | exact Or.inr rfl)))
    (pss_cons (ps_for (passes_of rfl) rfl (pi_range1 rfl T.b_range (pa_cons (pv 4) pa_nil)) (pg_name (i := 6) sc__law_chain.nd rfl (by first | exact Or.inl rfl | exact Or.inr rfl))
    (pss_cons (ps_asg (pe_lst (pa_cons (pe_ix (ix_K (K := K) rfl) (pv 1) (pv 6) (fun _ _ => rfl)) (pa_cons (pe_ix (ix_K (K := K) rfl) (pv 1) (pe_op (op_addK (K := K) rfl) (pv 6) pe_int) (fun _ _ => rfl)) pa_nil))) (pg_name (i := 7) sc__law_chain.nd rfl (by first | exact Or.inl rfl | exact Or.inr rfl)))
    (pss_cons (ps_if (pt_cmpR (op_eqK (K := K) rfl hr.units) (pv 6) (pe_op op_sub (pv 4) pe_int) (nomark _)) (pss_one (ps_asg (pe_lst (pa_cons (pe_ix (ix_K (K := K) rfl) (pv 1) pe_int (fun _ _ => rfl)) (pa_cons (pe_ix (ix_K (K := K) rfl) (pv 1) (pv 6) (fun _ _ => rfl)) pa_nil))) (pg_name (i := 7) sc__law_chain.nd rfl (by first | exact Or.inl rfl | exact Or.inr rfl)))) pss_nil)
    (pss_cons (ps_asg (pe_callTy (call_listK (K := K) rfl) rfl T.b_list (by decide +kernel) (pa_cons (pv 7) pa_nil)) (pg_name (i := 8) sc__law_chain.nd rfl (by first | exact Or.inl rfl | exact Or.inr rfl)))
    (pss_cons (ps_if (pt_cmpR (op_eqK (K := K) rfl hr.units) (pe_callR (ok__law_draw T) (hr.mono (by decide)) T.k__law_draw rfl T.m__law_draw passL (pa_cons (pv 0) (pa_cons pe_int pa_nil))) pe_int (nomark _)) (pss_one (ps_expr (pe_bm0 PySem.F.plainAttrs_list PySem.F.slot_list_reverse PySem.F.type_list_reverse mt_reverse (pv 8)))) pss_nil)
    (pss_cons (ps_if (pt_cmpR (op_eqK (K := K) rfl hr.units) (pe_callR (ok__law_draw T) (hr.mono (by decide)) T.k__law_draw rfl T.m__law_draw passL (pa_cons (pv 0) (pa_cons pe_int pa_nil))) pe_int (nomark _)) (pss_one (ps_expr (pe_bm PySem.F.plainAttrs_list PySem.F.slot_list_insert PySem.F.type_list_insert mt_insert (pv 8) (pa_cons (pe_callR (ok__law_draw T) (hr.mono (by decide)) T.k__law_draw rfl T.m__law_draw passL (pa_cons (pv 0) (pa_cons pe_int pa_nil))) (pa_cons (pe_ix (ix_K (K := K) rfl) (pv 1) pe_int (fun _ _ => rfl)) pa_nil))))) pss_nil)
    (pss_one (ps_expr (pe_bm PySem.F.plainAttrs_list PySem.F.slot_list_insert PySem.F.type_list_insert mt_insert (pv 5) (pa_cons (pe_callR (ok__law_draw T) (hr.mono (by decide)) T.k__law_draw rfl T.m__law_draw passL (pa_cons (pv 0) (pa_cons (pe_op (op_addK (K := K) rfl) (pe_callB (call_lenK (K := K) rfl) rfl T.b_len (by decide +kernel) (pa_cons (pv 5) pa_nil)) pe_int) pa_nil))) (pa_cons (pe_lst (pa_cons (pe_ix (ix_K (K := K) rfl) (pv 2) (pv 6) (fun _ _ => rfl)) (pa_cons (pv 8) (pa_cons (pe_lst (pa_cons (pe_slice (sl_listK (K := K) rfl) (pv 7) po_none (po_some pe_int)) pa_nil)) pa_nil)))) pa_nil)))))))))))
    (pss_one (ps_ret (pv 5)))))), fun a => ?der⟩
  case len => obtain ⟨v0, r0, rfl, h0, ⟨v1, r1, rfl, h1, ⟨v2, r2, rfl, h2, ⟨v3, rfl, h3⟩⟩⟩⟩ := h; rfl
  case env => obtain ⟨v0, r0, rfl, h0, ⟨v1, r1, rfl, h1, ⟨v2, r2, rfl, h2, ⟨v3, rfl, h3⟩⟩⟩⟩ := h; exact Env.of ⟨⟨v0, rfl, h0⟩, ⟨⟨v1, rfl, h1⟩, ⟨⟨v2, rfl, h2⟩, ⟨⟨v3, rfl, h3⟩, ⟨True.intro, ⟨True.intro, ⟨True.intro, ⟨True.intro, ⟨True.intro, True.intro⟩⟩⟩⟩⟩⟩⟩⟩⟩
  case der => exact ⟨_, (SJ.asg (EJ.op (OpP.m OpP.add) (PJ.int).e (EJ.callP CM.draw (AP.cons (PJ.var rfl) (AP.one (PJ.op OpP.sub (PJ.var rfl) PJ.int))))) (fun many6 => (SJ.asgLP (LP.lst (t := (tRecL (TyL.cons tStr (TyL.cons (tList tStr) (TyL.one (tList (tList tStr))))))) AP.lnil (Nat.le_of_ble_eq_true rfl)) (fun tables7 => (SJ.forL (s0 := tables7) (post0 := (fun (s8 : (List (Str × (List Str) × (List (List Str))))) => [.fz tPool a.1, .fz (tList tStr) a.2.1, .fz (tList tStr) a.2.2.1, .fz tInt a.2.2.2, .fz tInt many6, .own (tRecL (TyL.cons tStr (TyL.cons (tList tStr) (TyL.one (tList (tList tStr)))))) s8, .any, .any, .any])) (IJf.rng1 ((PJ.var rfl)).e) ⟨.inr rfl, .inr rfl, .inr rfl, .inr rfl, .inr rfl, .inr rfl, .inl rfl, .inl rfl, .inl rfl, True.intro⟩ (fun s8 x9 => GJ.name)
   (fun s8 x9 => (SJ.asg ((LJ.lst (AJ.lcons (EJ.opP OpM.ixB ((PJ.var rfl)).bo (PJ.var rfl)) (AJ.lcons (EJ.opP OpM.ixB ((PJ.var rfl)).bo (PJ.op OpP.add (PJ.var rfl) PJ.int)) AP.lnil.e)))).fz (fun pair13 => (SJ.seq (post1 := (fun (s18 : (List Str)) => [.fz tPool a.1, .fz (tList tStr) a.2.1, .fz (tList tStr) a.2.2.1, .fz tInt a.2.2.2, .fz tInt many6, .own (tRecL (TyL.cons tStr (TyL.cons (tList tStr) (TyL.one (tList (tList tStr)))))) s8, .fz tInt x9, .fz (tList tStr) s18, .any])) (SJ.if1 (TP.test (PJ.op (OpP.eq EqD.int (Nat.le_of_ble_eq_true rfl)) (PJ.var rfl) (PJ.op OpP.sub (PJ.var rfl) PJ.int))) (SJ.last (SJ.asg ((LJ.lst (AJ.lcons (EJ.opP OpM.ixB ((PJ.var rfl)).bo PJ.int) (AJ.lcons (EJ.opP OpM.ixB ((PJ.var rfl)).bo (PJ.var rfl)) AP.lnil.e)))).fz (fun pair17 => (SJ.next (b := pair17) ⟨.inr rfl, .inr rfl, .inr rfl, .inr rfl, .inr rfl, .inr rfl, .inr rfl, .inr rfl, .inl rfl, True.intro⟩)))) (SJ.next (b := pair13) ⟨.inr rfl, .inr rfl, .inr rfl, .inr rfl, .inr rfl, .inr rfl, .inr rfl, .inr rfl, .inl rfl, True.intro⟩)) (fun s18 => (SJ.asgL (LJ.callP CL.list (AP.one ((PJ.var rfl)).bo)) (fun columns19 => (SJ.seq (post1 := (fun (s22 : (List Str)) => [.fz tPool a.1, .fz (tList tStr) a.2.1, .fz (tList tStr) a.2.2.1, .fz tInt a.2.2.2, .fz tInt many6, .own (tRecL (TyL.cons tStr (TyL.cons (tList tStr) (TyL.one (tList (tList tStr)))))) s8, .fz tInt x9, .fz (tList tStr) s18, .own tStr s22])) (SJ.if1m (TJ.test (EJ.op (OpP.m (OpP.eq EqD.int (Nat.le_of_ble_eq_true rfl))) (EJ.callP CM.draw (AP.cons (PJ.var rfl) (AP.one PJ.int))) (PJ.int).e)) (SJ.last (SJ.reverse rfl (fun columns21 => (SJ.next (b := columns21) ⟨.inr rfl, .inr rfl, .inr rfl, .inr rfl, .inr rfl, .inr rfl, .inr rfl, .inr rfl, .inr rfl, True.intro⟩)))) (SJ.next (b := columns19) ⟨.inr rfl, .inr rfl, .inr rfl, .inr rfl, .inr rfl, .inr rfl, .inr rfl, .inr rfl, .inr rfl, True.intro⟩)) (fun s22 => (SJ.seq (post1 := (fun (s27 : (List Str)) => [.fz tPool a.1, .fz (tList tStr) a.2.1, .fz (tList tStr) a.2.2.1, .fz tInt a.2.2.2, .fz tInt many6, .own (tRecL (TyL.cons tStr (TyL.cons (tList tStr) (TyL.one (tList (tList tStr)))))) s8, .fz tInt x9, .fz (tList tStr) s18, .own tStr s27])) (SJ.if1m (TJ.test (EJ.op (OpP.m (OpP.eq EqD.int (Nat.le_of_ble_eq_true rfl))) (EJ.callP CM.draw (AP.cons (PJ.var rfl) (AP.one PJ.int))) (PJ.int).e)) (SJ.last (SJ.insert rfl (AJ.cons (EJ.callP CM.draw (AP.cons (PJ.var rfl) (AP.one PJ.int))) (AJ.one (EJ.opP OpM.ixB ((PJ.var rfl)).bo PJ.int))) (fun columns24 => (SJ.next (b := columns24) ⟨.inr rfl, .inr rfl, .inr rfl, .inr rfl, .inr rfl, .inr rfl, .inr rfl, .inr rfl, .inr rfl, True.intro⟩)))) (SJ.next (b := s22) ⟨.inr rfl, .inr rfl, .inr rfl, .inr rfl, .inr rfl, .inr rfl, .inr rfl, .inr rfl, .inr rfl, True.intro⟩)) (fun s27 => (SJ.frz 8 rfl (SJ.last (SJ.insert rfl (AJ.cons (EJ.callP CM.draw (AP.cons (PJ.var rfl) (AP.one (PJ.op OpP.add (PJ.call CP.lenB (AP.one (PJ.varB (.inl rfl)))) PJ.int)))) (AJ.one (EJ.recL (TyL.len_cons (TyL.len_cons TyL.len_one)) (AJ.rcons (EJ.opP OpM.ixB ((PJ.var rfl)).bo (PJ.var rfl)) (AJ.rcons ((PJ.var rfl)).e (AJ.rone (((LP.lst (t := (tList tStr)) (AP.lcons ((LP.sl ((PJ.var rfl)).bo BP.none (BP.some PJ.int))).fz AP.lnil) (Nat.le_of_ble_eq_true rfl))).fz).e)))))) (fun tables29 => (SJ.next (b := tables29) ⟨.inr rfl, .inr rfl, .inr rfl, .inr rfl, .inr rfl, .inr rfl, .inl rfl, .inl rfl, .inl rfl, True.intro⟩))))))))))))))))
   (fun s8 => (SJ.retO rfl))))))), by simp only [m__law_chain, Mir.ret_bind, Mir.bind_bind, Mir.lt_eq, Mir.chk_bind, Mir.ret_bindO_nx, Mir.ret_bindO_rt, mOr, pAnd, pSub, pLe, pLt, mAdds, mCat, mMul, mDiv, mMod, mPow, mSgn, mRng, mStr, mSort, mJoin, mSplit, mCols, mApp, mExt, mIns, mSet, id, mIsName, mPart, mLenO, mIsSet, mRowKind, mPopAt, Mir.fail_bind, mInS, mNiS, mUpper, mSet1, mSortSet, mShl, mShr, mAnd, mMulS, mPutD, pIn, pNi]⟩
end
end Lw

namespace Lw
open PySem PySem.Spec PyProof.Rows L2 SlX StX Ax
section
variable {P : Program} {w : World} {K : PySem.W.Frag} {mg : Str → Option Value} {base : Heap}
/-! _law_fresh -/
def m__law_fresh (pool1 : Unit) (names2 : (List Str)) (tables3 : (List (Str × (List Str) × (List (List Str))))) : Mir ((List Str) × (List Str)) :=
  (((Mir.lt ((((names2).filter (fun name6 => ((((tables3).map fun table7 => (decide (name6 ∈ table7.2.1)))).any id)))).length : Int) fun seen8 => (Mir.lt ([] : (List Str)) fun key9 => (((((((Mir.draw (2 : Int))).bind fun v10 => Mir.ret (((1 : Int) + v10)))).bind fun v11 => (mRng v11))).bind fun v30 => (Mir.bindO (Mir.forL v30 (seen8, key9) fun s12 x13 => (((Mir.draw (if (s12.1 + (1 : Int)) < ((names2).length : Int) then (s12.1 + (1 : Int)) else ((names2).length : Int)))).bind fun at14 => (Mir.bindO (Mir.ifB (decide (at14 = s12.1)) (Mir.lt (s12.1 + (1 : Int)) fun seen15 => (Mir.ret (Out.nx seen15))) (Mir.ret (Out.nx s12.1))) fun s16 => (((((Mir.get names2 at14)).bind fun v17 => Mir.ret ((decide (v17 ∉ s12.2))))).bind fun v20 => (Mir.ifB v20 (((Mir.get names2 at14)).bind fun v19 => (mApp s12.2 v19 fun key18 => (Mir.ret (Out.nx (s16, key18))))) (Mir.ret (Out.nx (s16, s12.2)))))))) fun s12 => (((Mir.ret s12.2)).bind fun columns21 => (((((Mir.draw (3 : Int))).bind fun v22 => (mRng v22))).bind fun v29 => (Mir.bindO (Mir.forL v29 (s12.1, columns21) fun s23 x24 => (Mir.ifB (decide (s23.1 < ((names2).length : Int))) (((Mir.draw (((s23.2).length : Int) + (1 : Int)))).bind fun v27 => (((Mir.get names2 s23.1)).bind fun v28 => (mIns s23.2 v27 v28 fun columns25 => (Mir.lt (s23.1 + (1 : Int)) fun seen26 => (Mir.ret (Out.nx (seen26, columns25))))))) (Mir.ret (Out.nx (s23.1, s23.2))))) fun s23 => (Mir.ret (Out.rt (s23.2, s12.2)))))))))) : Mir (Out Unit ((List Str) × (List Str))))).exit.nox
theorem ok__law_fresh (T : TX P K mg) : FnR P w K mg base (L2.CX P w) 5 T.a__law_fresh (spM (rx T) (TyA.cons tPool.h (TyA.cons (tList tStr).h (TyA.one (tBo (tRecL (TyL.cons tStr (TyL.cons (tList tStr) (TyL.one (tList (tList tStr)))))))))) (rtF (tRecL (TyL.cons (tList tStr) (TyL.one (tList tStr))))) fun (a : Unit × (List Str) × (List (Str × (List Str) × (List (List Str))))) => m__law_fresh a.1 a.2.1 a.2.2) := by
  refine fnM (β := Unit) (Γ0 := fun a => [.fz tPool a.1, .fz (tList tStr) a.2.1, .bor (tRecL (TyL.cons tStr (TyL.cons (tList tStr) (TyL.one (tList (tList tStr)))))) a.2.2, .any, .any, .any, .any, .any, .any, .any]) T.d__law_fresh sc__law_fresh (fun _ _ _ _ _ _ us hl => match us, hl with | [_, _, _], _ => rfl) (fun {a vs G H} h => ?len) (fun {a vs G H} h => ?env) fun cdv Ar outer s H E hr => ⟨_, (pss_cons (ps_asg (pe_callB (call_lenK (K := K) rfl) rfl T.b_len (by decide +kernel) (pa_cons (pe_lc (own := [("_law_name", 8)]) rfl sc__law_fresh.nd (pi_listK (K := K) rfl (pv 1)) (blkOk_by (own := [("_law_name", 8)]) (N := N__law_fresh) (sc := df__law_fresh.scope) (by decide +kernel)) (fun _ _ _ _ _ => (pg_name (i := 8) sc__law_fresh.nd rfl (by first | exact Or.inl rfl | exact Or.inr rfl))) (fun _ _ _ _ _ => (pts_one (pt_val (pe_callB (cr_anyK (K := K) rfl rfl) rfl T.b_any (by decide +kernel) (pa_cons (pe_lc (own := [("_law_table", 9)]) rfl sc__law_fresh.nd (pi_listK (K := K) rfl (pv 2)) (by dsimp only [Cx.blk, compEnvC]; exact blkOk_nest (N := N__law_fresh) (own := [("_law_table", 9)]) (by decide +kernel)) (fun _ _ _ _ _ => (pg_name (i := 9) sc__law_fresh.nd rfl (by first | exact Or.inl rfl | exact Or.inr rfl))) (fun _ _ _ _ _ => pts_nil) (fun _ _ _ _ _ => (pe_cmpR (op_inK (K := K) rfl hr.units) (pv 8) (pe_ix (ix_K (K := K) rfl) (pv 9) pe_int (fun _ _ => rfl)) rfl))) pa_nil))))) (fun _ _ _ _ _ => (pv 8))) pa_nil)) (pg_name (i := 3) sc__law_fresh.nd rfl (by first | exact Or.inl rfl | exact Or.inr rfl)))
    (pss_cons (ps_asg (pe_lst pa_nil) (pg_name (i := 4) sc__law_fresh.nd rfl (by first | exact Or.inl rfl | exact Or.inr rfl)))
    (pss_cons (ps_for (passes_of rfl) rfl (pi_range1 rfl T.b_range (pa_cons (pe_op (op_addK (K := K) rfl) pe_int (pe_callR (ok__law_draw T) (hr.mono (by decide)) T.k__law_draw rfl T.m__law_draw passL (pa_cons (pv 0) (pa_cons pe_int pa_nil)))) pa_nil)) (pg_name (i := 5) sc__law_fresh.nd rfl (by first | exact Or.inl rfl | exact Or.inr rfl))
    (pss_cons (ps_asg (pe_callR (ok__law_draw T) (hr.mono (by decide)) T.k__law_draw rfl T.m__law_draw passL (pa_cons (pv 0) (pa_cons (pe_callB (call_min2 rfl) rfl T.b_min (by decide +kernel) (pa_cons (pe_callB (call_lenK (K := K) rfl) rfl T.b_len (by decide +kernel) (pa_cons (pv 1) pa_nil)) (pa_cons (pe_op (op_addK (K := K) rfl) (pv 3) pe_int) pa_nil))) pa_nil))) (pg_name (i := 7) sc__law_fresh.nd rfl (by first | exact Or.inl rfl | exact Or.inr rfl)))
    (pss_cons (ps_if (pt_cmpR (op_eqK (K := K) rfl hr.units) (pv 7) (pv 3) (nomark _)) (pss_one (ps_asg (pe_op (op_addK (K := K) rfl) (pv 3) pe_int) (pg_name (i := 3) sc__law_fresh.nd rfl (by first | exact Or.inl rfl | exact Or.inr rfl)))) pss_nil)
    (pss_one (ps_if (pt_cmpR (op_niK (K := K) rfl hr.units) (pe_ix (ix_K (K := K) rfl) (pv 1) (pv 7) (fun _ _ => rfl)) (pv 4) rfl) (pss_one (ps_expr (pe_bm PySem.F.plainAttrs_list PySem.F.slot_list_append PySem.F.type_list_append mt_append (pv 4) (pa_cons (pe_ix (ix_K (K := K) rfl) (pv 1) (pv 7) (fun _ _ => rfl)) pa_nil)))) pss_nil)))))
    (pss_cons (ps_asg (pe_callTy (call_listK (K := K) rfl) rfl T.b_list (by decide +kernel) (pa_cons (pv 4) pa_nil)) (pg_name (i := 6) sc__law_fresh.nd rfl (by first | exact Or.inl rfl | exact Or.inr rfl)))
    (pss_cons (ps_for (passes_of rfl) rfl (pi_range1 rfl T.b_range (pa_cons (pe_callR (ok__law_draw T) (hr.mono (by decide)) T.k__law_draw rfl T.m__law_draw passL (pa_cons (pv 0) (pa_cons pe_int pa_nil))) pa_nil)) (pg_name (i := 5) sc__law_fresh.nd rfl (by first | exact Or.inl rfl | exact Or.inr rfl))
    (pss_one (ps_if (pt_cmpR op_lt (pv 3) (pe_callB (call_lenK (K := K) rfl) rfl T.b_len (by decide +kernel) (pa_cons (pv 1) pa_nil)) (nomark _)) (pss_cons (ps_expr (pe_bm PySem.F.plainAttrs_list PySem.F.slot_list_insert PySem.F.type_list_insert mt_insert (pv 6) (pa_cons (pe_callR (ok__law_draw T) (hr.mono (by decide)) T.k__law_draw rfl T.m__law_draw passL (pa_cons (pv 0) (pa_cons (pe_op (op_addK (K := K) rfl) (pe_callB (call_lenK (K := K) rfl) rfl T.b_len (by decide +kernel) (pa_cons (pv 6) pa_nil)) pe_int) pa_nil))) (pa_cons (pe_ix (ix_K (K := K) rfl) (pv 1) (pv 3) (fun _ _ => rfl)) pa_nil))))
    (pss_one (ps_asg (pe_op (op_addK (K := K) rfl) (pv 3) pe_int) (pg_name (i := 3) sc__law_fresh.nd rfl (by first | exact Or.inl rfl | exact Or.inr rfl))))) pss_nil)))
    (pss_one (ps_ret (pe_lst (pa_cons (pv 6) (pa_cons (pv 4) pa_nil)))))))))), fun a => ?der⟩
  case len => obtain ⟨v0, r0, rfl, h0, ⟨v1, r1, rfl, h1, ⟨v2, rfl, ⟨l2, w2, rfl, g2, z2, q2⟩⟩⟩⟩ := h; rfl
  case env => obtain ⟨v0, r0, rfl, h0, ⟨v1, r1, rfl, h1, ⟨v2, rfl, ⟨l2, w2, rfl, g2, z2, q2⟩⟩⟩⟩ := h; exact Env.of ⟨⟨v0, rfl, h0⟩, ⟨⟨v1, rfl, h1⟩, ⟨⟨l2, w2, rfl, g2, z2, q2⟩, ⟨True.intro, ⟨True.intro, ⟨True.intro, ⟨True.intro, ⟨True.intro, ⟨True.intro, ⟨True.intro, True.intro⟩⟩⟩⟩⟩⟩⟩⟩⟩⟩
  case der => exact ⟨_, (SJ.asgP (PJ.call CP.lenB (AP.one ((LP.lcF ((IJf.list ((PJ.var rfl)).e)).b (fun name6 => GJ.name) (by decide) (fun name6 => (TP.val (PJ.call CP.any (AP.one ((LP.lcA ((IJf.bor rfl)).b (fun table7 => GJ.name) (by decide) (fun table7 => (PJ.op (OpP.inB EqD.str (Nat.le_of_ble_eq_true rfl)) (PJ.var rfl) ((OpP.selL (Sel.there Sel.here) (PJ.var rfl) rfl)).bo)))).bo)))) (fun name6 => (PJ.var rfl)))).bo)) (fun seen8 => (SJ.asgLP (LP.lst (t := tStr) AP.lnil (Nat.le_of_ble_eq_true rfl)) (fun key9 => (SJ.forL (s0 := (seen8, key9)) (post0 := (fun (s12 : Int × (List Str)) => [.fz tPool a.1, .fz (tList tStr) a.2.1, .bor (tRecL (TyL.cons tStr (TyL.cons (tList tStr) (TyL.one (tList (tList tStr)))))) a.2.2, .fz tInt s12.1, .own tStr s12.2, .any, .any, .any, .any, .any])) (IJf.rng1 (EJ.op (OpP.m OpP.add) (PJ.int).e (EJ.callP CM.draw (AP.cons (PJ.var rfl) (AP.one PJ.int))))) ⟨.inr rfl, .inr rfl, .inr rfl, .inr rfl, .inr rfl, .inl rfl, .inl rfl, .inl rfl, .inl rfl, .inl rfl, True.intro⟩ (fun s12 x13 => GJ.name)
   (fun s12 x13 => (SJ.asg (EJ.callP CM.draw (AP.cons (PJ.var rfl) (AP.one (PJ.call CP.min2 (AP.cons (PJ.call CP.lenB (AP.one ((PJ.var rfl)).bo)) (AP.one (PJ.op OpP.add (PJ.var rfl) PJ.int))))))) (fun at14 => (SJ.seq (post1 := (fun (s16 : Int) => [.fz tPool a.1, .fz (tList tStr) a.2.1, .bor (tRecL (TyL.cons tStr (TyL.cons (tList tStr) (TyL.one (tList (tList tStr)))))) a.2.2, .fz tInt s16, .own tStr s12.2, .fz tInt x13, .any, .fz tInt at14, .any, .any])) (SJ.if1 (TP.test (PJ.op (OpP.eq EqD.int (Nat.le_of_ble_eq_true rfl)) (PJ.var rfl) (PJ.var rfl))) (SJ.last (SJ.asgP (PJ.op OpP.add (PJ.var rfl) PJ.int) (fun seen15 => (SJ.next (b := seen15) ⟨.inr rfl, .inr rfl, .inr rfl, .inr rfl, .inr rfl, .inr rfl, .inl rfl, .inr rfl, .inl rfl, .inl rfl, True.intro⟩)))) (SJ.next (b := s12.1) ⟨.inr rfl, .inr rfl, .inr rfl, .inr rfl, .inr rfl, .inr rfl, .inl rfl, .inr rfl, .inl rfl, .inl rfl, True.intro⟩)) (fun s16 => (SJ.if1m (TJ.test (EJ.op (OpP.m (OpP.niB EqD.str (Nat.le_of_ble_eq_true rfl))) (EJ.opP OpM.ixB ((PJ.var rfl)).bo (PJ.var rfl)) ((PJ.varB (.inl rfl))).e)) (SJ.last (SJ.append rfl (EJ.opP OpM.ixB ((PJ.var rfl)).bo (PJ.var rfl)) (fun key18 => (SJ.next (b := (s16, key18)) ⟨.inr rfl, .inr rfl, .inr rfl, .inr rfl, .inr rfl, .inl rfl, .inl rfl, .inl rfl, .inl rfl, .inl rfl, True.intro⟩)))) (SJ.next (b := (s16, s12.2)) ⟨.inr rfl, .inr rfl, .inr rfl, .inr rfl, .inr rfl, .inl rfl, .inl rfl, .inl rfl, .inl rfl, .inl rfl, True.intro⟩)))))))
   (fun s12 => (SJ.asgL (LJ.callP CL.list (AP.one (PJ.varB (.inl rfl)))) (fun columns21 => (SJ.forL (s0 := (s12.1, columns21)) (post0 := (fun (s23 : Int × (List Str)) => [.fz tPool a.1, .fz (tList tStr) a.2.1, .bor (tRecL (TyL.cons tStr (TyL.cons (tList tStr) (TyL.one (tList (tList tStr)))))) a.2.2, .fz tInt s23.1, .own tStr s12.2, .any, .own tStr s23.2, .any, .any, .any])) (IJf.rng1 (EJ.callP CM.draw (AP.cons (PJ.var rfl) (AP.one PJ.int)))) ⟨.inr rfl, .inr rfl, .inr rfl, .inr rfl, .inr rfl, .inl rfl, .inr rfl, .inl rfl, .inl rfl, .inl rfl, True.intro⟩ (fun s23 x24 => GJ.name)
   (fun s23 x24 => (SJ.if1 (TP.test (PJ.op OpP.lt (PJ.var rfl) (PJ.call CP.lenB (AP.one ((PJ.var rfl)).bo)))) (SJ.insert rfl (AJ.cons (EJ.callP CM.draw (AP.cons (PJ.var rfl) (AP.one (PJ.op OpP.add (PJ.call CP.lenB (AP.one (PJ.varB (.inl rfl)))) PJ.int)))) (AJ.one (EJ.opP OpM.ixB ((PJ.var rfl)).bo (PJ.var rfl)))) (fun columns25 => (SJ.last (SJ.asgP (PJ.op OpP.add (PJ.var rfl) PJ.int) (fun seen26 => (SJ.next (b := (seen26, columns25)) ⟨.inr rfl, .inr rfl, .inr rfl, .inr rfl, .inr rfl, .inl rfl, .inr rfl, .inl rfl, .inl rfl, .inl rfl, True.intro⟩)))))) (SJ.next (b := (s23.1, s23.2)) ⟨.inr rfl, .inr rfl, .inr rfl, .inr rfl, .inr rfl, .inl rfl, .inr rfl, .inl rfl, .inl rfl, .inl rfl, True.intro⟩)))
   (fun s23 => (SJ.frz 6 rfl (SJ.frz 4 rfl (SJ.retP (PJ.recL (TyL.len_cons TyL.len_one) (AP.rcons (PJ.var rfl) (AP.rone (PJ.var rfl))))))))))))))))), by simp only [m__law_fresh, Mir.ret_bind, Mir.bind_bind, Mir.lt_eq, Mir.chk_bind, Mir.ret_bindO_nx, Mir.ret_bindO_rt, mOr, pAnd, pSub, pLe, pLt, mAdds, mCat, mMul, mDiv, mMod, mPow, mSgn, mRng, mStr, mSort, mJoin, mSplit, mCols, mApp, mExt, mIns, mSet, id, mIsName, mPart, mLenO, mIsSet, mRowKind, mPopAt, Mir.fail_bind, mInS, mNiS, mUpper, mSet1, mSortSet, mShl, mShr, mAnd, mMulS, mPutD, pIn, pNi]⟩
end
end Lw

namespace Lw
open PySem PySem.Spec PyProof.Rows L2 SlX StX Ax
section
variable {P : Program} {w : World} {K : PySem.W.Frag} {mg : Str → Option Value} {base : Heap}
/-! _law_within -/
def m__law_within (some1 : (List Str)) (others2 : (List Str)) : Mir Bool :=
  (((Mir.ret (Out.rt ((((some1).map fun name3 => (decide (name3 ∈ others2)))).all id))) : Mir (Out Unit Bool))).exit.nox
theorem ok__law_within (T : TX P K mg) : FnR P w K mg base (L2.CX P w) 1 T.a__law_within (spM (rx T) (TyA.cons (tBo tStr) (TyA.one (tBo tStr))) (rtF tBool) fun (a : (List Str) × (List Str)) => m__law_within a.1 a.2) := by
  refine fnM (β := Unit) (Γ0 := fun a => [.bor tStr a.1, .bor tStr a.2, .any]) T.d__law_within sc__law_within (fun _ _ _ _ _ _ us hl => match us, hl with | [_, _], _ => rfl) (fun {a vs G H} h => ?len) (fun {a vs G H} h => ?env) fun cdv Ar outer s H E hr => ⟨_, (pss_one (ps_ret (pe_callB (cr_allK (K := K) rfl rfl) rfl T.b_all (by decide +kernel) (pa_cons (pe_lc (own := [("_law_name", 2)]) rfl sc__law_within.nd (pi_listK (K := K) rfl (pv 0)) (blkOk_by (own := [("_law_name", 2)]) (N := N__law_within) (sc := df__law_within.scope) (by decide +kernel)) (fun _ _ _ _ _ => (pg_name (i := 2) sc__law_within.nd rfl (by first | exact Or.inl rfl | exact Or.inr rfl))) (fun _ _ _ _ _ => pts_nil) (fun _ _ _ _ _ => (pe_cmpR (op_inK (K := K) rfl hr.units) (pv 2) (pv 1) rfl))) pa_nil)))), fun a => ?der⟩
  case len => obtain ⟨v0, r0, rfl, ⟨l0, w0, rfl, g0, z0, q0⟩, ⟨v1, rfl, ⟨l1, w1, rfl, g1, z1, q1⟩⟩⟩ := h; rfl
  case env => obtain ⟨v0, r0, rfl, ⟨l0, w0, rfl, g0, z0, q0⟩, ⟨v1, rfl, ⟨l1, w1, rfl, g1, z1, q1⟩⟩⟩ := h; exact Env.of ⟨⟨l0, w0, rfl, g0, z0, q0⟩, ⟨⟨l1, w1, rfl, g1, z1, q1⟩, ⟨True.intro, True.intro⟩⟩⟩
  case der => exact ⟨_, (SJ.retP (PJ.call CP.all (AP.one ((LP.lcA ((IJf.bor rfl)).b (fun name3 => GJ.name) (by decide) (fun name3 => (PJ.op (OpP.inB EqD.str (Nat.le_of_ble_eq_true rfl)) (PJ.var rfl) (PJ.varB (.inr rfl)))))).bo))), by simp only [m__law_within, Mir.ret_bind, Mir.bind_bind, Mir.lt_eq, Mir.chk_bind, Mir.ret_bindO_nx, Mir.ret_bindO_rt, mOr, pAnd, pSub, pLe, pLt, mAdds, mCat, mMul, mDiv, mMod, mPow, mSgn, mRng, mStr, mSort, mJoin, mSplit, mCols, mApp, mExt, mIns, mSet, id, mIsName, mPart, mLenO, mIsSet, mRowKind, mPopAt, Mir.fail_bind, mInS, mNiS, mUpper, mSet1, mSortSet, mShl, mShr, mAnd, mMulS, mPutD, pIn, pNi]⟩
end
end Lw

namespace Lw
open PySem PySem.Spec PyProof.Rows L2 SlX StX Ax
section
variable {P : Program} {w : World} {K : PySem.W.Frag} {mg : Str → Option Value} {base : Heap}
/-! _law_keys -/
def m__law_keys (pool1 : Unit) (columns2 : (List Str)) (key3 : (List Str)) (room4 : Int) : Mir (List (List Str)) :=
  (((Mir.lt [key3] fun keys5 => (((((((((((Mir.draw (4 : Int))).bind fun v7 => Mir.ret ((decide (v7 = (1 : Int)))))).bind fun v8 => Mir.ret ((if v8 = true then (1 : Int) else 0)))).bind fun v9 => (Mir.get [(2 : Int), (7 : Int)] v9))).bind fun v10 => (mRng v10))).bind fun v22 => (Mir.bindO (Mir.forL v22 keys5 fun s11 x12 => (((Mir.ifB (decide (((s11).length : Int) ≤ room4)) (((Mir.draw (3 : Int))).bind fun v13 => Mir.ret ((decide (v13 = (0 : Int))))) (Mir.ret false))).bind fun v21 => (Mir.ifB v21 (((Mir.comp columns2 (fun name14 => (((Mir.draw (2 : Int))).bind fun v15 => Mir.ret ((decide (v15 = (0 : Int)))))) (fun name14 => (Mir.ret (name14)))).nox).bind fun other16 => (((Mir.comp s11 (fun one17 => (((m__law_within one17 other16)).bind fun v18 => (Mir.ifB v18 (Mir.ret true) (m__law_within other16 one17)))) (fun one17 => (Mir.ret (one17)))).nox).bind fun near19 => (Mir.ifB ((decide (other16 ≠ ([] : (List Str)))) && (decide (near19 = ([] : (List (List Str)))))) (mApp s11 other16 fun keys20 => (Mir.ret (Out.nx keys20))) (Mir.ret (Out.nx s11))))) (Mir.ret (Out.nx s11))))) fun s11 => (Mir.ret (Out.rt s11))))) : Mir (Out Unit (List (List Str))))).exit.nox
theorem ok__law_keys (T : TX P K mg) : FnR P w K mg base (L2.CX P w) 5 T.a__law_keys (spM (rx T) (TyA.cons tPool.h (TyA.cons (tList tStr).h (TyA.cons (tList tStr).h (TyA.one tInt.h)))) (rtL (tList tStr)) fun (a : Unit × (List Str) × (List Str) × Int) => m__law_keys a.1 a.2.1 a.2.2.1 a.2.2.2) := by
  refine fnM (β := Unit) (Γ0 := fun a => [.fz tPool a.1, .fz (tList tStr) a.2.1, .fz (tList tStr) a.2.2.1, .fz tInt a.2.2.2, .any, .any, .any, .any, .any, .any]) T.d__law_keys sc__law_keys (fun _ _ _ _ _ _ us hl => match us, hl with | [_, _, _, _], _ => rfl) (fun {a vs G H} h => ?len) (fun {a vs G H} h => ?env) fun cdv Ar outer s H E hr => ⟨_, (pss_cons (ps_asg (pe_lst (pa_cons (pv 2) pa_nil)) (pg_name (i := 4) sc__law_keys.nd rfl (by first | exact Or.inl rfl | exact Or.inr rfl)))
    (pss_cons (ps_for (passes_of rfl) rfl (pi_range1 rfl T.b_range (pa_cons (pe_ix (ix_K (K := K) rfl) (pe_lst (pa_cons pe_int (pa_cons pe_int pa_nil))) (pe_callTy (call_int1) rfl T.b_int (by decide +kernel) (pa_cons (pe_cmpR (op_eqK (K := K) rfl hr.units) (pe_callR (ok__law_draw T) (hr.mono (by decide)) T.k__law_draw rfl T.m__law_draw passL (pa_cons (pv 0) (pa_cons pe_int pa_nil))) pe_int (nomark _)) pa_nil)) (fun _ _ => rfl)) pa_nil)) (pg_name (i := 5) sc__law_keys.nd rfl (by first | exact Or.inl rfl | exact Or.inr rfl))
    (pss_one (ps_if (PW.pt (pw_and (pt_cmpR op_le (pe_callB (call_lenK (K := K) rfl) rfl T.b_len (by decide +kernel) (pa_cons (pv 4) pa_nil)) (pv 3) (nomark _)) (pw_and1 (pt_cmpR (op_eqK (K := K) rfl hr.units) (pe_callR (ok__law_draw T) (hr.mono (by decide)) T.k__law_draw rfl T.m__law_draw passL (pa_cons (pv 0) (pa_cons pe_int pa_nil))) pe_int (nomark _))))) (pss_cons (ps_lcU (i := 6) (own := [("_law_name", 8)]) rfl sc__law_keys.nd rfl (by first | exact Or.inl ⟨rfl, rfl⟩ | exact Or.inr ⟨Or.inl rfl, rfl, Or.inl rfl⟩ | exact Or.inr ⟨Or.inr rfl, rfl, Or.inl rfl⟩) (pi_listK (K := K) rfl (pv 1)) (blkOk_by (own := [("_law_name", 8)]) (N := N__law_keys) (sc := df__law_keys.scope) (by decide +kernel)) (fun _ _ _ _ _ => (pg_name (i := 8) sc__law_keys.nd rfl (by first | exact Or.inl rfl | exact Or.inr rfl))) (fun _ _ _ _ _ => (pts_one (pt_cmpR (op_eqK (K := K) rfl hr.units) (pe_callR (ok__law_draw T) (hr.mono (by decide)) T.k__law_draw rfl T.m__law_draw passL (pa_cons (pv 0) (pa_cons pe_int pa_nil))) pe_int (nomark _)))) (fun _ _ _ _ _ => (pv 8)))
    (pss_cons (ps_lcU (i := 7) (own := [("_law_one", 9)]) rfl sc__law_keys.nd rfl (by first | exact Or.inl ⟨rfl, rfl⟩ | exact Or.inr ⟨Or.inl rfl, rfl, Or.inl rfl⟩ | exact Or.inr ⟨Or.inr rfl, rfl, Or.inl rfl⟩) (pi_listK (K := K) rfl (pv 4)) (blkOk_by (own := [("_law_one", 9)]) (N := N__law_keys) (sc := df__law_keys.scope) (by decide +kernel)) (fun _ _ _ _ _ => (pg_name (i := 9) sc__law_keys.nd rfl (by first | exact Or.inl rfl | exact Or.inr rfl))) (fun _ _ _ _ _ => (pts_one (PW.pt (pw_or (pt_val (pe_callR (ok__law_within T) (hr.mono (by decide)) T.k__law_within rfl T.m__law_within passL (pa_cons (pv 9) (pa_cons (pv 6) pa_nil)))) (pw_or1 (pt_val (pe_callR (ok__law_within T) (hr.mono (by decide)) T.k__law_within rfl T.m__law_within passL (pa_cons (pv 6) (pa_cons (pv 9) pa_nil))))))))) (fun _ _ _ _ _ => (pv 9)))
    (pss_one (ps_if (PW.pt (pw_and (pt_cmpR (op_neK (K := K) rfl hr.units) (pv 6) (pe_lst pa_nil) (nomark _)) (pw_and1 (pt_cmpR (op_eqK (K := K) rfl hr.units) (pv 7) (pe_lst pa_nil) (nomark _))))) (pss_one (ps_expr (pe_bm PySem.F.plainAttrs_list PySem.F.slot_list_append PySem.F.type_list_append mt_append (pv 4) (pa_cons (pv 6) pa_nil)))) pss_nil)))) pss_nil)))
    (pss_one (ps_ret (pv 4))))), fun a => ?der⟩
  case len => obtain ⟨v0, r0, rfl, h0, ⟨v1, r1, rfl, h1, ⟨v2, r2, rfl, h2, ⟨v3, rfl, h3⟩⟩⟩⟩ := h; rfl
  case env => obtain ⟨v0, r0, rfl, h0, ⟨v1, r1, rfl, h1, ⟨v2, r2, rfl, h2, ⟨v3, rfl, h3⟩⟩⟩⟩ := h; exact Env.of ⟨⟨v0, rfl, h0⟩, ⟨⟨v1, rfl, h1⟩, ⟨⟨v2, rfl, h2⟩, ⟨⟨v3, rfl, h3⟩, ⟨True.intro, ⟨True.intro, ⟨True.intro, ⟨True.intro, ⟨True.intro, ⟨True.intro, True.intro⟩⟩⟩⟩⟩⟩⟩⟩⟩⟩
  case der => exact ⟨_, (SJ.asgLP (LP.lst (t := (tList tStr)) (AP.lcons (PJ.var rfl) AP.lnil) (Nat.le_of_ble_eq_true rfl)) (fun keys5 => (SJ.forL (s0 := keys5) (post0 := (fun (s11 : (List (List Str))) => [.fz tPool a.1, .fz (tList tStr) a.2.1, .fz (tList tStr) a.2.2.1, .fz tInt a.2.2.2, .own (tList tStr) s11, .any, .any, .any, .any, .any])) (IJf.rng1 (EJ.op OpM.ixB (((LP.lst (t := tInt) (AP.lcons PJ.int (AP.lcons PJ.int AP.lnil)) (Nat.le_of_ble_eq_true rfl))).bo).e (EJ.call (CP.m CP.intB) (AJ.one (EJ.op (OpP.m (OpP.eq EqD.int (Nat.le_of_ble_eq_true rfl))) (EJ.callP CM.draw (AP.cons (PJ.var rfl) (AP.one PJ.int))) (PJ.int).e))))) ⟨.inr rfl, .inr rfl, .inr rfl, .inr rfl, .inr rfl, .inl rfl, .inl rfl, .inl rfl, .inl rfl, .inl rfl, True.intro⟩ (fun s11 x12 => GJ.name)
   (fun s11 x12 => (SJ.if1m (TJ.and ((TP.test (PJ.op OpP.le (PJ.call CP.lenB (AP.one (PJ.varB (.inl rfl)))) (PJ.var rfl)))).e (TJ.test (EJ.op (OpP.m (OpP.eq EqD.int (Nat.le_of_ble_eq_true rfl))) (EJ.callP CM.draw (AP.cons (PJ.var rfl) (AP.one PJ.int))) (PJ.int).e))) (SJ.asg ((LJ.lc ((IJf.list ((PJ.var rfl)).e)).b (fun name14 => GJ.name) (by decide) (fun name14 => (TJ.test (EJ.op (OpP.m (OpP.eq EqD.int (Nat.le_of_ble_eq_true rfl))) (EJ.callP CM.draw (AP.cons (PJ.var rfl) (AP.one PJ.int))) (PJ.int).e))) (fun name14 => ((PJ.var rfl)).e))).fz (fun other16 => (SJ.asg ((LJ.lc (IJb.list ((PJ.varB (.inl rfl))).e) (fun one17 => GJ.name) (by decide) (fun one17 => (TJ.or (TJ.val (EJ.callP CM.fn (AP.cons ((PJ.var rfl)).bo (AP.one ((PJ.var rfl)).bo)))) (TJ.val (EJ.callP CM.fn (AP.cons ((PJ.var rfl)).bo (AP.one ((PJ.var rfl)).bo)))))) (fun one17 => ((PJ.var rfl)).e))).fz (fun near19 => (SJ.if1 (TP.and (TP.test (PJ.op (OpP.neB EqD.str (Nat.le_of_ble_eq_true rfl)) ((PJ.var rfl)).bo ((LP.lst (t := tStr) AP.lnil (Nat.le_of_ble_eq_true rfl))).bo)) (TP.test (PJ.op (OpP.eqB (EqD.list EqD.str) (Nat.le_of_ble_eq_true rfl)) ((PJ.var rfl)).bo ((LP.lst (t := (tList tStr)) AP.lnil (Nat.le_of_ble_eq_true rfl))).bo))) (SJ.last (SJ.appendP rfl (PJ.var rfl) (fun keys20 => (SJ.next (b := keys20) ⟨.inr rfl, .inr rfl, .inr rfl, .inr rfl, .inr rfl, .inl rfl, .inl rfl, .inl rfl, .inl rfl, .inl rfl, True.intro⟩)))) (SJ.next (b := s11) ⟨.inr rfl, .inr rfl, .inr rfl, .inr rfl, .inr rfl, .inl rfl, .inl rfl, .inl rfl, .inl rfl, .inl rfl, True.intro⟩)))))) (SJ.next (b := s11) ⟨.inr rfl, .inr rfl, .inr rfl, .inr rfl, .inr rfl, .inl rfl, .inl rfl, .inl rfl, .inl rfl, .inl rfl, True.intro⟩)))
   (fun s11 => (SJ.retO rfl))))), by simp only [m__law_keys, Mir.ret_bind, Mir.bind_bind, Mir.lt_eq, Mir.chk_bind, Mir.ret_bindO_nx, Mir.ret_bindO_rt, mOr, pAnd, pSub, pLe, pLt, mAdds, mCat, mMul, mDiv, mMod, mPow, mSgn, mRng, mStr, mSort, mJoin, mSplit, mCols, mApp, mExt, mIns, mSet, id, mIsName, mPart, mLenO, mIsSet, mRowKind, mPopAt, Mir.fail_bind, mInS, mNiS, mUpper, mSet1, mSortSet, mShl, mShr, mAnd, mMulS, mPutD, pIn, pNi]⟩
end
end Lw

namespace Lw
open PySem PySem.Spec PyProof.Rows L2 SlX StX Ax
section
variable {P : Program} {w : World} {K : PySem.W.Frag} {mg : Str → Option Value} {base : Heap}
/-! _law_wild -/
theorem ok__law_wild (T : TX P K mg) : FnR P w K mg base (L2.CX P w) 5 T.a__law_wild spWild := by
  refine fnR_of T.d__law_wild sc__law_wild (fun _ _ _ _ _ _ us hl => match us, hl with | [_, _], _ => rfl) (spX_len fun a vs G h => by rw [h.1]; rfl) fun cdv A outer s H vs Q E hr hsp => ?_
  obtain ⟨⟨p, b, nm⟩, G, hG, ⟨rfl, hp, hb, hne, hl, hnd⟩, hQ, _⟩ := hsp
  try dsimp only at *
  refine ⟨_, (pss_cons (ps_asg (pe_lst pa_nil) (pg_name (i := 2) sc__law_wild.nd rfl (by first | exact Or.inl rfl | exact Or.inr rfl)))
    (pss_cons (ps_for (passes_of rfl) rfl (pi_listK (K := K) rfl (pv 1)) (pg_name (i := 3) sc__law_wild.nd rfl (by first | exact Or.inl rfl | exact Or.inr rfl))
    (pss_one (ps_if (pt_cmpR (op_eqK (K := K) rfl hr.units) (pe_callR (ok__law_draw T) (hr.mono (by decide)) T.k__law_draw rfl T.m__law_draw passL (pa_cons (pv 0) (pa_cons pe_int pa_nil))) pe_int (nomark _)) (pss_one (ps_expr (pe_bm PySem.F.plainAttrs_list PySem.F.slot_list_insert PySem.F.type_list_insert mt_insert (pv 2) (pa_cons (pe_callR (ok__law_draw T) (hr.mono (by decide)) T.k__law_draw rfl T.m__law_draw passL (pa_cons (pv 0) (pa_cons (pe_op (op_addK (K := K) rfl) (pe_callB (call_lenK (K := K) rfl) rfl T.b_len (by decide +kernel) (pa_cons (pv 2) pa_nil)) pe_int) pa_nil))) (pa_cons (pv 3) pa_nil))))) pss_nil)))
    (pss_cons (ps_if (pt_cmpR (op_eqK (K := K) rfl hr.units) (pv 2) (pe_lst pa_nil) (nomark _)) (pss_one (ps_expr (pe_bm PySem.F.plainAttrs_list PySem.F.slot_list_append PySem.F.type_list_append mt_append (pv 2) (pa_cons (pe_ix (ix_K (K := K) rfl) (pv 1) (pe_callR (ok__law_draw T) (hr.mono (by decide)) T.k__law_draw rfl T.m__law_draw passL (pa_cons (pv 0) (pa_cons (pe_callB (call_lenK (K := K) rfl) rfl T.b_len (by decide +kernel) (pa_cons (pv 1) pa_nil)) pa_nil))) (fun _ _ => rfl)) pa_nil)))) pss_nil)
    (pss_cons (ps_lcU (i := 4) (own := [("_law_name", 3)]) rfl sc__law_wild.nd rfl (by first | exact Or.inl ⟨rfl, rfl⟩ | exact Or.inr ⟨Or.inl rfl, rfl, Or.inl rfl⟩ | exact Or.inr ⟨Or.inr rfl, rfl, Or.inl rfl⟩) (pi_listK (K := K) rfl (pv 2)) (blkOk_by (own := [("_law_name", 3)]) (N := N__law_wild) (sc := df__law_wild.scope) (by decide +kernel)) (fun _ _ _ _ _ => (pg_name (i := 3) sc__law_wild.nd rfl (by first | exact Or.inl rfl | exact Or.inr rfl))) (fun _ _ _ _ _ => (pts_one (pt_cmpR (op_eqK (K := K) rfl hr.units) (pe_callR (ok__law_draw T) (hr.mono (by decide)) T.k__law_draw rfl T.m__law_draw passL (pa_cons (pv 0) (pa_cons pe_int pa_nil))) pe_int (nomark _)))) (fun _ _ _ _ _ => (pv 3)))
    (pss_cons (ps_if (pt_cmpR (op_eqK (K := K) rfl hr.units) (pv 4) (pe_lst pa_nil) (nomark _)) (pss_one (ps_asg (pe_lst (pa_cons (pe_ix (ix_K (K := K) rfl) (pv 2) (pe_callR (ok__law_draw T) (hr.mono (by decide)) T.k__law_draw rfl T.m__law_draw passL (pa_cons (pv 0) (pa_cons (pe_callB (call_lenK (K := K) rfl) rfl T.b_len (by decide +kernel) (pa_cons (pv 2) pa_nil)) pa_nil))) (fun _ _ => rfl)) pa_nil)) (pg_name (i := 4) sc__law_wild.nd rfl (by first | exact Or.inl rfl | exact Or.inr rfl)))) pss_nil)
    (pss_one (ps_ret (pe_lst (pa_cons (pv 2) (pa_cons (pv 4) pa_nil)))))))))), ?_⟩
  have N : Nx G H G H := Nx.refl hG
  got_up
  refine ⟨Nat.zero_le _, fun c hc0 => ?_⟩
  obtain ⟨H1, e, N1, n1, hc, gc, h0⟩ := nobjm N hc0 (.lst [])
  rw [e]; clear e
  got_up
  refine ⟨b, rfl, ⟨_, sqL (N1.h _ _ hb)⟩, ?_⟩
  refine frb (src_list (sqL hb)) N1 (fun i σ G' H' => ∃ x3 x4, ∃ cols : List Str, σ = [some (.ref p), some (.ref b), some (.ref c), x3, x4] ∧ H' c = some (.lst (cols.map V.str)) ∧ G' c = none ∧ (∀ x ∈ cols, x ∈ nm.take i) ∧ cols.Nodup)
    ⟨_, _, [], rfl, hc, gc, (fun x h => by cases h), List.nodup_nil⟩ ?_ ?_
  · rintro i v σ' G' H' Ga Ha hi ⟨x3, x4, cols, rfl, hca, gca, hs, hd⟩ Na sa na hv
    rw [List.length_map] at hi
    rw [List.getElem?_map] at hv
    obtain ⟨z, hz, rfl⟩ := Option.map_eq_some_iff.mp hv
    have hcb := na.e _ _ hca
    have gcb := na.hid hca gca
    have htk := take_succ' hz
    have hznot : z ∉ cols := fun hm => by
      have h1 := hs z hm
      have h2 : (nm.take (i + 1)).Nodup := hnd.sublist (List.take_sublist _ _)
      rw [htk] at h2
      exact (List.nodup_append.mp h2).2.2 z h1 z (by simp) rfl
    have hcl : cols.length ≤ i := by
      have := nd_len hd hs
      rw [List.length_take] at this; omega
    got_up
    refine dr Na (sa _ _ hp) (by decide) fun r Gb Hb Nb nb ra rb => ?_
    have hcc := nb.e _ _ hcb
    have gcc := nb.hid hcb gcb
    have sb := sa.trans nb.g
    got_up
    refine t_if (fun _ => ?_) (fun _ => ?_)
    · got_up
      refine ⟨ty_l hcc, ?_⟩
      got_up
      refine len_l (sqL hcc) ?_
      got_up
      refine dr Nb (sb _ _ hp) (by omega) fun r2 Gc Hc Nc nc r2a r2b => ?_
      rw [List.length_map] at r2b
      have hcd := nc.e _ _ hcc
      have gcd := nc.hid hcc gcc
      got_up
      refine ⟨c, _, r2, _, rfl, rfl, hcd, szl (by rw [List.length_map]; omega), r2a, by omega, ?_⟩
      have e1 : (cols.map V.str).take r2.toNat ++ [V.str z] ++ (cols.map V.str).drop r2.toNat = (cols.take r2.toNat ++ [z] ++ cols.drop r2.toNat).map V.str := by simp
      rw [e1]
      obtain ⟨Hd, e, Nd, hce⟩ := mobj Nc h0 gcd (.lst ((cols.take r2.toNat ++ [z] ++ cols.drop r2.toNat).map V.str))
      rw [e]; clear e
      got_up
      have pm := ins_perm (xs := cols) (k := r2.toNat) (y := z)
      refine ⟨Gc, Nd, sb.trans nc.g, _, _, _, rfl, hce, gcd, fun x hx => ?_, pm.nodup_iff.mpr (List.nodup_cons.mpr ⟨hznot, hd⟩)⟩
      rw [htk]
      rcases List.mem_cons.mp (pm.mem_iff.mp hx) with e | e
      · subst e; simp
      · exact List.mem_append_left _ (hs x e)
    · got_up
      exact ⟨Gb, Nb, sb, _, _, cols, rfl, hcc, gcc, fun x hx => by rw [htk]; exact List.mem_append_left _ (hs x hx), hd⟩
  rintro σ' G' H' ⟨x3, x4, cols, rfl, hca, gca, hs, hd⟩ Na sa
  have hs : ∀ x ∈ cols, x ∈ nm := fun x hx => List.mem_of_mem_take (hs x hx)
  have hcl : cols.length ≤ nm.length := nd_len hd hs
  let Mid : L2.St → Hp → Prop := fun σ' H' => ∃ x3 x4, ∃ cols : List Str, ∃ G', Nx G H G' H' ∧ Same G G' ∧ σ' = [some (.ref p), some (.ref b), some (.ref c), x3, x4] ∧ G' c = some (.lst (cols.map V.str)) ∧ (∀ x ∈ cols, x ∈ nm) ∧ cols.Nodup ∧ cols ≠ []
  with_reducible refine w_seqK Mid ?_ (fun R hR => ?_)
  rotate_left
  · got_up
    refine ⟨Nat.zero_le _, fun q hq0 => ?_⟩
    obtain ⟨Gb, Hb, e, Nb, nb, hq⟩ := nobj Na hq0 (.lst [])
    rw [e]; clear e
    have hcb := nb.e _ _ hca
    have gcb := nb.hid hca gca
    refine eq_d (α := List Str) (x := cols) (y := []) (da_ls (sqL hcb)) (.lst (sqL (Nb.h _ _ hq)) .nil) ?_
    got_up
    refine t_if (fun e => ?_) (fun e => ?_)
    · have e := of_decide_eq_true e
      subst e
      got_up
      refine ⟨ty_l hcb, ?_⟩
      got_up
      have sb := sa.trans nb.g
      refine len_l (sqL (Nb.h _ _ (sb _ _ hb))) ?_
      rw [List.length_map]
      have hpos : 0 < nm.length := List.length_pos_iff.mpr hne
      got_up
      refine dr Nb (sb _ _ hp) (by omega) fun r Gc Hc Nc nc ra rb => ?_
      obtain ⟨k, rfl⟩ := Int.eq_ofNat_of_zero_le ra
      have hk : k < nm.length := by omega
      refine ix_l (v := .str nm[k]) (sqL (Nc.h _ _ (nc.g _ _ (sb _ _ hb)))) (Ax.atI_nat (by rw [List.getElem?_map, List.getElem?_eq_getElem hk]; rfl)) ?_
      have hcc := nc.e _ _ hcb
      have gcc := nc.hid hcb gcb
      got_up
      refine app_l hcc (by simp) ?_
      obtain ⟨Hd, e, Nd, hcd⟩ := mobj Nc h0 gcc (.lst (([] : List Str).map V.str ++ [.str nm[k]]))
      rw [e]; clear e
      got_up
      exact hR _ _ ⟨_, _, [nm[k]], _, Nd.fz hcd h0 gcc, (sb.trans nc.g).trans (same_new gcc), rfl, upd_same, (fun x hx => by rw [List.mem_singleton.mp hx]; exact List.getElem_mem hk), (by simp), by simp⟩
    · got_up
      exact hR _ _ ⟨_, _, cols, _, Nb.fz hcb h0 gcb, (sa.trans nb.g).trans (same_new gcb), rfl, upd_same, hs, hd, of_decide_eq_false e⟩
  rintro σ' H' ⟨x3, x4, cols, G', Na, sa, rfl, hca, hs, hd, hcne⟩
  have hcn : cols.length ≤ nm.length := nd_len hd hs
  have fin : ∀ (bk : Addr) (key : List Str) (G1 H1 : Hp), Nx G H G1 H1 → Same G' G1 → G1 bk = some (.lst (key.map V.str)) → key.Sublist cols → key ≠ [] → ∀ q, H1 q = none → Q (.ref q) (upd H1 q (.lst [.ref c, .ref bk])) := by
    intro bk key G1 H1 N1 s1 hk hsub hkn q hq
    obtain ⟨G2, H2, e, N2, n2, hq2⟩ := nobj N1 hq (.lst [.ref c, .ref bk])
    rw [e]
    exact hQ _ G2 H2 N2 ⟨q, c, bk, cols, key, rfl, hq2, n2.g _ _ (s1 _ _ hca), n2.g _ _ hk, hs, hd, hcne, hsub, hkn⟩
  got_up
  refine ⟨c, rfl, ⟨_, sqL (Na.h _ _ hca)⟩, ?_⟩
  refine lcbN (src_list (sqL hca)) Na cols (fun x v _ => v = .str x) (by rw [List.length_map]) (by rw [List.length_map]; omega) (fun _ _ _ _ _ h => h) ?_ ?_
  · rintro i z v G1 H1 hz s1 s2 hv
    rw [List.getElem?_map, hz] at hv
    cases Option.some.inj hv
    refine ⟨_, fun Q q => w_gn q, rfl, fun Q q => ?_, fun G2 H2 s3 s4 Q q => ?_⟩
    · got_up
      refine dr (Nx.refl s2) ((sa.trans s1) _ _ hp) (by decide) fun r G5 H5 N5 n5 _ _ => ?_
      got_up
      exact q _ G5 H5 N5
    · got_up
      exact q _ G2 H2 (Nx.refl s4) rfl
  intro bk L key G1 H1 N1 s1 hk hsub hA
  have hL := All2.eq hA
  subst hL
  got_up
  refine ⟨Nat.zero_le _, fun q hq0 => ?_⟩
  obtain ⟨Gb, Hb, e, Nb, nb, hq⟩ := nobj N1 hq0 (.lst [])
  rw [e]; clear e
  refine eq_d (α := List Str) (x := key) (y := []) (da_ls (sqL (Nb.h _ _ (nb.g _ _ hk)))) (.lst (sqL (Nb.h _ _ hq)) .nil) ?_
  got_up
  refine t_if (fun e => ?_) (fun e => ?_)
  · have sb := s1.trans nb.g
    got_up
    refine len_l (sqL (Nb.h _ _ (sb _ _ hca))) ?_
    rw [List.length_map]
    have hpos : 0 < cols.length := List.length_pos_iff.mpr hcne
    got_up
    refine dr Nb ((sa.trans sb) _ _ hp) (by omega) fun r Gc Hc Nc nc ra rb => ?_
    obtain ⟨k, rfl⟩ := Int.eq_ofNat_of_zero_le ra
    have hk : k < cols.length := by omega
    refine ix_l (v := .str cols[k]) (sqL (Nc.h _ _ (nc.g _ _ (sb _ _ hca)))) (Ax.atI_nat (by rw [List.getElem?_map, List.getElem?_eq_getElem hk]; rfl)) ?_
    got_up
    refine ⟨sz (by simp), fun bk2 hbk => ?_⟩
    obtain ⟨Gd, Hd, e, Nd, nd, hbk2⟩ := nobj Nc hbk (.lst [.str cols[k]])
    rw [e]; clear e
    got_up
    exact ⟨sz (by simp), fin bk2 [cols[k]] Gd Hd Nd ((sb.trans nc.g).trans nd.g) hbk2 (List.singleton_sublist.mpr (List.getElem_mem hk)) (by simp)⟩
  · got_up
    exact ⟨sz (by simp), fin bk key Gb Hb Nb (s1.trans nb.g) (nb.g _ _ hk) hsub (of_decide_eq_false e)⟩
end
end Lw

namespace Lw
open PySem PySem.Spec PyProof.Rows L2 SlX StX Ax
section
variable {P : Program} {w : World} {K : PySem.W.Frag} {mg : Str → Option Value} {base : Heap}
/-! _law_tables -/
def m__law_tables (pool1 : Unit) (names2 : (List Str)) (labels3 : (List Str)) (most4 : Int) : Mir (List (Str × (List Str) × (List (List Str)))) :=
  (((((((Mir.draw (3 : Int))).bind fun v5 => Mir.ret ((decide (v5 = (0 : Int)))))).bind fun wild6 => (((((Mir.draw most4)).bind fun v7 => Mir.ret (((1 : Int) + v7)))).bind fun many8 => (Mir.lt ((8 : Int) - many8) fun room9 => (Mir.lt ([] : (List (Str × (List Str) × (List (List Str))))) fun tables10 => (((mRng many8)).bind fun v21 => (Mir.bindO (Mir.forL v21 (room9, tables10) fun s11 x12 => (Mir.bindO (Mir.ifB wild6 (((mWild names2)).bind fun made13 => (Mir.ret (Out.nx made13))) (((m__law_fresh pool1 names2 s11.2)).bind fun made14 => (Mir.ret (Out.nx made14)))) fun s15 => (((m__law_keys pool1 s15.1 s15.2 s11.1)).bind fun keys16 => (Mir.lt ((s11.1 + (1 : Int)) - ((keys16).length : Int)) fun room17 => (((((Mir.get labels3 x12)).bind fun v19 => Mir.ret (v19, s15.1, keys16))).bind fun v20 => (mApp s11.2 v20 fun tables18 => (Mir.ret (Out.nx (room17, tables18))))))))) fun s11 => (Mir.ret (Out.rt s11.2)))))))) : Mir (Out Unit (List (Str × (List Str) × (List (List Str))))))).exit.nox
theorem ok__law_tables (T : TX P K mg) : FnR P w K mg base (L2.CX P w) 9 T.a__law_tables (spM (rx T) (TyA.cons tPool.h (TyA.cons (tList tStr).h (TyA.cons (tList tStr).h (TyA.one tInt.h)))) (rtL (tRecL (TyL.cons tStr (TyL.cons (tList tStr) (TyL.one (tList (tList tStr))))))) fun (a : Unit × (List Str) × (List Str) × Int) => m__law_tables a.1 a.2.1 a.2.2.1 a.2.2.2) := by
  refine fnM (β := Unit) (Γ0 := fun a => [.fz tPool a.1, .fz (tList tStr) a.2.1, .fz (tList tStr) a.2.2.1, .fz tInt a.2.2.2, .any, .any, .any, .any, .any, .any, .any]) T.d__law_tables sc__law_tables (fun _ _ _ _ _ _ us hl => match us, hl with | [_, _, _, _], _ => rfl) (fun {a vs G H} h => ?len) (fun {a vs G H} h => ?env) fun cdv Ar outer s H E hr => ⟨_, (pss_cons (ps_asg (pe_cmpR (op_eqK (K := K) rfl hr.units) (pe_callR (ok__law_draw T) (hr.mono (by decide)) T.k__law_draw rfl T.m__law_draw passL (pa_cons (pv 0) (pa_cons pe_int pa_nil))) pe_int (nomark _)) (pg_name (i := 4) sc__law_tables.nd rfl (by first | exact Or.inl rfl | exact Or.inr rfl)))
    (pss_cons (ps_asg (pe_op (op_addK (K := K) rfl) pe_int (pe_callR (ok__law_draw T) (hr.mono (by decide)) T.k__law_draw rfl T.m__law_draw passL (pa_cons (pv 0) (pa_cons (pv 3) pa_nil)))) (pg_name (i := 5) sc__law_tables.nd rfl (by first | exact Or.inl rfl | exact Or.inr rfl)))
    (pss_cons (ps_asg (pe_op op_sub pe_int (pv 5)) (pg_name (i := 6) sc__law_tables.nd rfl (by first | exact Or.inl rfl | exact Or.inr rfl)))
    (pss_cons (ps_asg (pe_lst pa_nil) (pg_name (i := 7) sc__law_tables.nd rfl (by first | exact Or.inl rfl | exact Or.inr rfl)))
    (pss_cons (ps_for (passes_of rfl) rfl (pi_range1 rfl T.b_range (pa_cons (pv 5) pa_nil)) (pg_name (i := 8) sc__law_tables.nd rfl (by first | exact Or.inl rfl | exact Or.inr rfl))
    (pss_cons (ps_if (pt_val (pv 4)) (pss_one (ps_asg (pe_callR (ok__law_wild T) (hr.mono (by decide)) T.k__law_wild rfl T.m__law_wild passL (pa_cons (pv 0) (pa_cons (pv 1) pa_nil))) (pg_name (i := 10) sc__law_tables.nd rfl (by first | exact Or.inl rfl | exact Or.inr rfl)))) (pss_one (ps_asg (pe_callR (ok__law_fresh T) (hr.mono (by decide)) T.k__law_fresh rfl T.m__law_fresh passL (pa_cons (pv 0) (pa_cons (pv 1) (pa_cons (pv 7) pa_nil)))) (pg_name (i := 10) sc__law_tables.nd rfl (by first | exact Or.inl rfl | exact Or.inr rfl)))))
    (pss_cons (ps_asg (pe_callR (ok__law_keys T) (hr.mono (by decide)) T.k__law_keys rfl T.m__law_keys passL (pa_cons (pv 0) (pa_cons (pe_ix (ix_K (K := K) rfl) (pv 10) pe_int (fun _ _ => rfl)) (pa_cons (pe_ix (ix_K (K := K) rfl) (pv 10) pe_int (fun _ _ => rfl)) (pa_cons (pv 6) pa_nil))))) (pg_name (i := 9) sc__law_tables.nd rfl (by first | exact Or.inl rfl | exact Or.inr rfl)))
    (pss_cons (ps_asg (pe_op op_sub (pe_op (op_addK (K := K) rfl) (pv 6) pe_int) (pe_callB (call_lenK (K := K) rfl) rfl T.b_len (by decide +kernel) (pa_cons (pv 9) pa_nil))) (pg_name (i := 6) sc__law_tables.nd rfl (by first | exact Or.inl rfl | exact Or.inr rfl)))
    (pss_one (ps_expr (pe_bm PySem.F.plainAttrs_list PySem.F.slot_list_append PySem.F.type_list_append mt_append (pv 7) (pa_cons (pe_lst (pa_cons (pe_ix (ix_K (K := K) rfl) (pv 2) (pv 8) (fun _ _ => rfl)) (pa_cons (pe_ix (ix_K (K := K) rfl) (pv 10) pe_int (fun _ _ => rfl)) (pa_cons (pv 9) pa_nil)))) pa_nil))))))))
    (pss_one (ps_ret (pv 7)))))))), fun a => ?der⟩
  case len => obtain ⟨v0, r0, rfl, h0, ⟨v1, r1, rfl, h1, ⟨v2, r2, rfl, h2, ⟨v3, rfl, h3⟩⟩⟩⟩ := h; rfl
  case env => obtain ⟨v0, r0, rfl, h0, ⟨v1, r1, rfl, h1, ⟨v2, r2, rfl, h2, ⟨v3, rfl, h3⟩⟩⟩⟩ := h; exact Env.of ⟨⟨v0, rfl, h0⟩, ⟨⟨v1, rfl, h1⟩, ⟨⟨v2, rfl, h2⟩, ⟨⟨v3, rfl, h3⟩, ⟨True.intro, ⟨True.intro, ⟨True.intro, ⟨True.intro, ⟨True.intro, ⟨True.intro, ⟨True.intro, True.intro⟩⟩⟩⟩⟩⟩⟩⟩⟩⟩⟩
  case der => exact ⟨_, (SJ.asg (EJ.op (OpP.m (OpP.eq EqD.int (Nat.le_of_ble_eq_true rfl))) (EJ.callP CM.draw (AP.cons (PJ.var rfl) (AP.one PJ.int))) (PJ.int).e) (fun wild6 => (SJ.asg (EJ.op (OpP.m OpP.add) (PJ.int).e (EJ.callP CM.draw (AP.cons (PJ.var rfl) (AP.one (PJ.var rfl))))) (fun many8 => (SJ.asgP (PJ.op OpP.sub PJ.int (PJ.var rfl)) (fun room9 => (SJ.asgLP (LP.lst (t := (tRecL (TyL.cons tStr (TyL.cons (tList tStr) (TyL.one (tList (tList tStr))))))) AP.lnil (Nat.le_of_ble_eq_true rfl)) (fun tables10 => (SJ.forL (s0 := (room9, tables10)) (post0 := (fun (s11 : Int × (List (Str × (List Str) × (List (List Str))))) => [.fz tPool a.1, .fz (tList tStr) a.2.1, .fz (tList tStr) a.2.2.1, .fz tInt a.2.2.2, .fz tBool wild6, .fz tInt many8, .fz tInt s11.1, .own (tRecL (TyL.cons tStr (TyL.cons (tList tStr) (TyL.one (tList (tList tStr)))))) s11.2, .any, .any, .any])) (IJf.rng1 ((PJ.var rfl)).e) ⟨.inr rfl, .inr rfl, .inr rfl, .inr rfl, .inr rfl, .inr rfl, .inr rfl, .inr rfl, .inl rfl, .inl rfl, .inl rfl, True.intro⟩ (fun s11 x12 => GJ.name)
   (fun s11 x12 => (SJ.seq (post1 := (fun (s15 : ((List Str) × (List Str))) => [.fz tPool a.1, .fz (tList tStr) a.2.1, .fz (tList tStr) a.2.2.1, .fz tInt a.2.2.2, .fz tBool wild6, .fz tInt many8, .fz tInt s11.1, .own (tRecL (TyL.cons tStr (TyL.cons (tList tStr) (TyL.one (tList (tList tStr)))))) s11.2, .fz tInt x12, .any, .fz (tRecL (TyL.cons (tList tStr) (TyL.one (tList tStr)))) s15])) (SJ.if1 (TP.val (PJ.var rfl)) (SJ.last (SJ.asg (EJ.callP CM.wild (AP.cons (PJ.var rfl) (AP.one (PJ.var rfl)))) (fun made13 => (SJ.next (b := made13) ⟨.inr rfl, .inr rfl, .inr rfl, .inr rfl, .inr rfl, .inr rfl, .inr rfl, .inr rfl, .inr rfl, .inl rfl, .inr rfl, True.intro⟩)))) (SJ.last (SJ.asg (EJ.callP CM.fn (AP.cons (PJ.var rfl) (AP.cons (PJ.var rfl) (AP.one (PJ.varB (.inl rfl)))))) (fun made14 => (SJ.next (b := made14) ⟨.inr rfl, .inr rfl, .inr rfl, .inr rfl, .inr rfl, .inr rfl, .inr rfl, .inr rfl, .inr rfl, .inl rfl, .inr rfl, True.intro⟩))))) (fun s15 => (SJ.asg ((LJ.callP CL.fn (AP.cons (PJ.var rfl) (AP.cons (OpP.selL Sel.here (PJ.var rfl) rfl) (AP.cons (OpP.selL (Sel.there Sel.one) (PJ.var rfl) rfl) (AP.one (PJ.var rfl))))))).fz (fun keys16 => (SJ.asgP (PJ.op OpP.sub (PJ.op OpP.add (PJ.var rfl) PJ.int) (PJ.call CP.lenB (AP.one ((PJ.var rfl)).bo))) (fun room17 => (SJ.last (SJ.append rfl (EJ.recL (TyL.len_cons (TyL.len_cons TyL.len_one)) (AJ.rcons (EJ.opP OpM.ixB ((PJ.var rfl)).bo (PJ.var rfl)) (AJ.rcons ((OpP.selL Sel.here (PJ.var rfl) rfl)).e (AJ.rone ((PJ.var rfl)).e)))) (fun tables18 => (SJ.next (b := (room17, tables18)) ⟨.inr rfl, .inr rfl, .inr rfl, .inr rfl, .inr rfl, .inr rfl, .inr rfl, .inr rfl, .inl rfl, .inl rfl, .inl rfl, True.intro⟩)))))))))))
   (fun s11 => (SJ.retO rfl))))))))))), by simp only [m__law_tables, Mir.ret_bind, Mir.bind_bind, Mir.lt_eq, Mir.chk_bind, Mir.ret_bindO_nx, Mir.ret_bindO_rt, mOr, pAnd, pSub, pLe, pLt, mAdds, mCat, mMul, mDiv, mMod, mPow, mSgn, mRng, mStr, mSort, mJoin, mSplit, mCols, mApp, mExt, mIns, mSet, id, mIsName, mPart, mLenO, mIsSet, mRowKind, mPopAt, Mir.fail_bind, mInS, mNiS, mUpper, mSet1, mSortSet, mShl, mShr, mAnd, mMulS, mPutD, pIn, pNi]⟩
end
end Lw

namespace Lw
open PySem PySem.Spec PyProof.Rows L2 SlX StX Ax
section
variable {P : Program} {w : World} {K : PySem.W.Frag} {mg : Str → Option Value} {base : Heap}
/-! _law_schema -/
def m__law_schema (pool1 : Unit) (names2 : (List Str)) (labels3 : (List Str)) (most4 : Int) : Mir (List (Str × (List Str) × (List (List Str)))) :=
  (((((m__law_tables pool1 names2 labels3 most4)).bind fun tables5 => (((Mir.draw (4 : Int))).bind fun kind6 => (Mir.ifB (decide (kind6 = (1 : Int))) (((m__law_chain pool1 names2 labels3 most4)).bind fun v7 => (Mir.ret (Out.rt v7))) (Mir.bindO (Mir.ifB ((decide (kind6 = (2 : Int))) && ((decide (((tables5).length : Int) < most4)) && (decide (((((tables5).map fun table8 => ((table8.2.2).length : Int))).sum) < (8 : Int))))) (((((Mir.draw ((tables5).length : Int))).bind fun v9 => (Mir.get tables5 v9))).bind fun table10 => (((((Mir.draw ((table10.2.2).length : Int))).bind fun v11 => (Mir.get table10.2.2 v11))).bind fun key12 => (((((Mir.draw ((table10.2.1).length : Int))).bind fun v13 => (Mir.get table10.2.1 v13))).bind fun one14 => (((mCat key12 (([one14]).filter (fun name15 => (decide (name15 ∉ key12)))))).bind fun columns16 => (((Mir.draw (((tables5).length : Int) + (1 : Int)))).bind fun v22 => (((((Mir.get labels3 ((tables5).length : Int))).bind fun v20 => (((((((Mir.ret columns16)).bind fun v18 => Mir.ret [v18])).bind fun v19 => Mir.chk (v19.length ≤ mxL) (Mir.ret v19))).bind fun v21 => Mir.ret (v20, columns16, v21)))).bind fun v23 => (mIns tables5 v22 v23 fun tables17 => (Mir.ret (Out.nx tables17))))))))) (Mir.ret (Out.nx tables5))) fun s24 => (Mir.ret (Out.rt s24)))))) : Mir (Out Unit (List (Str × (List Str) × (List (List Str))))))).exit.nox
theorem ok__law_schema (T : TX P K mg) : FnR P w K mg base (L2.CX P w) 13 T.a__law_schema (spM (rx T) (TyA.cons tPool.h (TyA.cons (tList tStr).h (TyA.cons (tList tStr).h (TyA.one tInt.h)))) (rtL (tRecL (TyL.cons tStr (TyL.cons (tList tStr) (TyL.one (tList (tList tStr))))))) fun (a : Unit × (List Str) × (List Str) × Int) => m__law_schema a.1 a.2.1 a.2.2.1 a.2.2.2) := by
  refine fnM (β := Unit) (Γ0 := fun a => [.fz tPool a.1, .fz (tList tStr) a.2.1, .fz (tList tStr) a.2.2.1, .fz tInt a.2.2.2, .any, .any, .any, .any, .any, .any, .any]) T.d__law_schema sc__law_schema (fun _ _ _ _ _ _ us hl => match us, hl with | [_, _, _, _], _ => rfl) (fun {a vs G H} h => ?len) (fun {a vs G H} h => ?env) fun cdv Ar outer s H E hr => ⟨_, (pss_cons (ps_asg (pe_callR (ok__law_tables T) (hr.mono (by decide)) T.k__law_tables rfl T.m__law_tables passL (pa_cons (pv 0) (pa_cons (pv 1) (pa_cons (pv 2) (pa_cons (pv 3) pa_nil))))) (pg_name (i := 4) sc__law_schema.nd rfl (by first | exact Or.inl rfl | exact Or.inr rfl)))
    (pss_cons (ps_asg (pe_callR (ok__law_draw T) (hr.mono (by decide)) T.k__law_draw rfl T.m__law_draw passL (pa_cons (pv 0) (pa_cons pe_int pa_nil))) (pg_name (i := 5) sc__law_schema.nd rfl (by first | exact Or.inl rfl | exact Or.inr rfl)))
    (pss_cons (ps_if (pt_cmpR (op_eqK (K := K) rfl hr.units) (pv 5) pe_int (nomark _)) (pss_one (ps_ret (pe_callR (ok__law_chain T) (hr.mono (by decide)) T.k__law_chain rfl T.m__law_chain passL (pa_cons (pv 0) (pa_cons (pv 1) (pa_cons (pv 2) (pa_cons (pv 3) pa_nil))))))) pss_nil)
    (pss_cons (ps_if (PW.pt (pw_and (pt_cmpR (op_eqK (K := K) rfl hr.units) (pv 5) pe_int (nomark _)) (pw_and (pt_cmpR op_lt (pe_callB (call_lenK (K := K) rfl) rfl T.b_len (by decide +kernel) (pa_cons (pv 4) pa_nil)) (pv 3) (nomark _)) (pw_and1 (pt_cmpR op_lt (pe_callB (cr_sumK (K := K) rfl rfl) rfl T.b_sum (by decide +kernel) (pa_cons (pe_lc (own := [("_law_table", 6)]) rfl sc__law_schema.nd (pi_listK (K := K) rfl (pv 4)) (blkOk_by (own := [("_law_table", 6)]) (N := N__law_schema) (sc := df__law_schema.scope) (by decide +kernel)) (fun _ _ _ _ _ => (pg_name (i := 6) sc__law_schema.nd rfl (by first | exact Or.inl rfl | exact Or.inr rfl))) (fun _ _ _ _ _ => pts_nil) (fun _ _ _ _ _ => (pe_callB (call_lenK (K := K) rfl) rfl T.b_len (by decide +kernel) (pa_cons (pe_ix (ix_K (K := K) rfl) (pv 6) pe_int (fun _ _ => rfl)) pa_nil)))) pa_nil)) pe_int (nomark _)))))) (pss_cons (ps_asg (pe_ix (ix_K (K := K) rfl) (pv 4) (pe_callR (ok__law_draw T) (hr.mono (by decide)) T.k__law_draw rfl T.m__law_draw passL (pa_cons (pv 0) (pa_cons (pe_callB (call_lenK (K := K) rfl) rfl T.b_len (by decide +kernel) (pa_cons (pv 4) pa_nil)) pa_nil))) (fun _ _ => rfl)) (pg_name (i := 6) sc__law_schema.nd rfl (by first | exact Or.inl rfl | exact Or.inr rfl)))
    (pss_cons (ps_asg (pe_ix (ix_K (K := K) rfl) (pe_ix (ix_K (K := K) rfl) (pv 6) pe_int (fun _ _ => rfl)) (pe_callR (ok__law_draw T) (hr.mono (by decide)) T.k__law_draw rfl T.m__law_draw passL (pa_cons (pv 0) (pa_cons (pe_callB (call_lenK (K := K) rfl) rfl T.b_len (by decide +kernel) (pa_cons (pe_ix (ix_K (K := K) rfl) (pv 6) pe_int (fun _ _ => rfl)) pa_nil)) pa_nil))) (fun _ _ => rfl)) (pg_name (i := 7) sc__law_schema.nd rfl (by first | exact Or.inl rfl | exact Or.inr rfl)))
    (pss_cons (ps_asg (pe_ix (ix_K (K := K) rfl) (pe_ix (ix_K (K := K) rfl) (pv 6) pe_int (fun _ _ => rfl)) (pe_callR (ok__law_draw T) (hr.mono (by decide)) T.k__law_draw rfl T.m__law_draw passL (pa_cons (pv 0) (pa_cons (pe_callB (call_lenK (K := K) rfl) rfl T.b_len (by decide +kernel) (pa_cons (pe_ix (ix_K (K := K) rfl) (pv 6) pe_int (fun _ _ => rfl)) pa_nil)) pa_nil))) (fun _ _ => rfl)) (pg_name (i := 8) sc__law_schema.nd rfl (by first | exact Or.inl rfl | exact Or.inr rfl)))
    (pss_cons (ps_asg (pe_op (op_addK (K := K) rfl) (pv 7) (pe_lc (own := [("_law_name", 10)]) rfl sc__law_schema.nd (pi_listK (K := K) rfl (pe_lst (pa_cons (pv 8) pa_nil))) (blkOk_by (own := [("_law_name", 10)]) (N := N__law_schema) (sc := df__law_schema.scope) (by decide +kernel)) (fun _ _ _ _ _ => (pg_name (i := 10) sc__law_schema.nd rfl (by first | exact Or.inl rfl | exact Or.inr rfl))) (fun _ _ _ _ _ => (pts_one (pt_cmpR (op_niK (K := K) rfl hr.units) (pv 10) (pv 7) rfl))) (fun _ _ _ _ _ => (pv 10)))) (pg_name (i := 9) sc__law_schema.nd rfl (by first | exact Or.inl rfl | exact Or.inr rfl)))
    (pss_one (ps_expr (pe_bm PySem.F.plainAttrs_list PySem.F.slot_list_insert PySem.F.type_list_insert mt_insert (pv 4) (pa_cons (pe_callR (ok__law_draw T) (hr.mono (by decide)) T.k__law_draw rfl T.m__law_draw passL (pa_cons (pv 0) (pa_cons (pe_op (op_addK (K := K) rfl) (pe_callB (call_lenK (K := K) rfl) rfl T.b_len (by decide +kernel) (pa_cons (pv 4) pa_nil)) pe_int) pa_nil))) (pa_cons (pe_lst (pa_cons (pe_ix (ix_K (K := K) rfl) (pv 2) (pe_callB (call_lenK (K := K) rfl) rfl T.b_len (by decide +kernel) (pa_cons (pv 4) pa_nil)) (fun _ _ => rfl)) (pa_cons (pv 9) (pa_cons (pe_lst (pa_cons (pe_callTy (call_listK (K := K) rfl) rfl T.b_list (by decide +kernel) (pa_cons (pv 9) pa_nil)) pa_nil)) pa_nil)))) pa_nil))))))))) pss_nil)
    (pss_one (ps_ret (pv 4))))))), fun a => ?der⟩
  case len => obtain ⟨v0, r0, rfl, h0, ⟨v1, r1, rfl, h1, ⟨v2, r2, rfl, h2, ⟨v3, rfl, h3⟩⟩⟩⟩ := h; rfl
  case env => obtain ⟨v0, r0, rfl, h0, ⟨v1, r1, rfl, h1, ⟨v2, r2, rfl, h2, ⟨v3, rfl, h3⟩⟩⟩⟩ := h; exact Env.of ⟨⟨v0, rfl, h0⟩, ⟨⟨v1, rfl, h1⟩, ⟨⟨v2, rfl, h2⟩, ⟨⟨v3, rfl, h3⟩, ⟨True.intro, ⟨True.intro, ⟨True.intro, ⟨True.intro, ⟨True.intro, ⟨True.intro, ⟨True.intro, True.intro⟩⟩⟩⟩⟩⟩⟩⟩⟩⟩⟩
  case der => exact ⟨_, (SJ.asgL (LJ.callP CL.fn (AP.cons (PJ.var rfl) (AP.cons (PJ.var rfl) (AP.cons (PJ.var rfl) (AP.one (PJ.var rfl)))))) (fun tables5 => (SJ.asg (EJ.callP CM.draw (AP.cons (PJ.var rfl) (AP.one PJ.int))) (fun kind6 => (SJ.guard (TP.test (PJ.op (OpP.eq EqD.int (Nat.le_of_ble_eq_true rfl)) (PJ.var rfl) PJ.int)) (SJ.retL (LJ.callP CL.fn (AP.cons (PJ.var rfl) (AP.cons (PJ.var rfl) (AP.cons (PJ.var rfl) (AP.one (PJ.var rfl))))))) (SJ.seq (post1 := (fun (s24 : (List (Str × (List Str) × (List (List Str))))) => [.fz tPool a.1, .fz (tList tStr) a.2.1, .fz (tList tStr) a.2.2.1, .fz tInt a.2.2.2, .own (tRecL (TyL.cons tStr (TyL.cons (tList tStr) (TyL.one (tList (tList tStr)))))) s24, .fz tInt kind6, .any, .any, .any, .any, .any])) (SJ.if1 (TP.and (TP.test (PJ.op (OpP.eq EqD.int (Nat.le_of_ble_eq_true rfl)) (PJ.var rfl) PJ.int)) (TP.and (TP.test (PJ.op OpP.lt (PJ.call CP.lenB (AP.one (PJ.varB (.inl rfl)))) (PJ.var rfl))) (TP.test (PJ.op OpP.lt (PJ.call CP.sum (AP.one ((LP.lcA (IJb.list ((PJ.varB (.inl rfl))).e) (fun table8 => GJ.name) (by decide) (fun table8 => (PJ.call CP.lenB (AP.one ((OpP.selL (Sel.there (Sel.there Sel.one)) (PJ.var rfl) rfl)).bo))))).bo)) PJ.int)))) (SJ.asg (EJ.op OpM.ixB ((PJ.varB (.inl rfl))).e (EJ.callP CM.draw (AP.cons (PJ.var rfl) (AP.one (PJ.call CP.lenB (AP.one (PJ.varB (.inl rfl)))))))) (fun table10 => (SJ.asg (EJ.op OpM.ixB (((OpP.selL (Sel.there (Sel.there Sel.one)) (PJ.var rfl) rfl)).bo).e (EJ.callP CM.draw (AP.cons (PJ.var rfl) (AP.one (PJ.call CP.lenB (AP.one ((OpP.selL (Sel.there (Sel.there Sel.one)) (PJ.var rfl) rfl)).bo)))))) (fun key12 => (SJ.asg (EJ.op OpM.ixB (((OpP.selL (Sel.there Sel.here) (PJ.var rfl) rfl)).bo).e (EJ.callP CM.draw (AP.cons (PJ.var rfl) (AP.one (PJ.call CP.lenB (AP.one ((OpP.selL (Sel.there Sel.here) (PJ.var rfl) rfl)).bo)))))) (fun one14 => (SJ.asg ((LJ.opP OpL.cat ((PJ.var rfl)).bo ((LP.lcF ((IJf.list (((LP.lst (t := tStr) (AP.lcons (PJ.var rfl) AP.lnil) (Nat.le_of_ble_eq_true rfl))).fz).e)).b (fun name15 => GJ.name) (by decide) (fun name15 => (TP.test (PJ.op (OpP.niB EqD.str (Nat.le_of_ble_eq_true rfl)) (PJ.var rfl) ((PJ.var rfl)).bo))) (fun name15 => (PJ.var rfl)))).bo)).fz (fun columns16 => (SJ.last (SJ.insert rfl (AJ.cons (EJ.callP CM.draw (AP.cons (PJ.var rfl) (AP.one (PJ.op OpP.add (PJ.call CP.lenB (AP.one (PJ.varB (.inl rfl)))) PJ.int)))) (AJ.one (EJ.recL (TyL.len_cons (TyL.len_cons TyL.len_one)) (AJ.rcons (EJ.opP OpM.ixB ((PJ.var rfl)).bo (PJ.call CP.lenB (AP.one (PJ.varB (.inl rfl))))) (AJ.rcons ((PJ.var rfl)).e (AJ.rone ((LJ.lst (AJ.lcons ((LJ.callP CL.list (AP.one ((PJ.var rfl)).bo))).fz AP.lnil.e))).fz)))))) (fun tables17 => (SJ.next (b := tables17) ⟨.inr rfl, .inr rfl, .inr rfl, .inr rfl, .inr rfl, .inr rfl, .inl rfl, .inl rfl, .inl rfl, .inl rfl, .inl rfl, True.intro⟩)))))))))))) (SJ.next (b := tables5) ⟨.inr rfl, .inr rfl, .inr rfl, .inr rfl, .inr rfl, .inr rfl, .inl rfl, .inl rfl, .inl rfl, .inl rfl, .inl rfl, True.intro⟩)) (fun s24 => (SJ.retO rfl)))))))), by simp only [m__law_schema, Mir.ret_bind, Mir.bind_bind, Mir.lt_eq, Mir.chk_bind, Mir.ret_bindO_nx, Mir.ret_bindO_rt, mOr, pAnd, pSub, pLe, pLt, mAdds, mCat, mMul, mDiv, mMod, mPow, mSgn, mRng, mStr, mSort, mJoin, mSplit, mCols, mApp, mExt, mIns, mSet, id, mIsName, mPart, mLenO, mIsSet, mRowKind, mPopAt, Mir.fail_bind, mInS, mNiS, mUpper, mSet1, mSortSet, mShl, mShr, mAnd, mMulS, mPutD, pIn, pNi]⟩
end
end Lw

namespace Lw
open PySem PySem.Spec PyProof.Rows L2 SlX StX Ax
section
variable {P : Program} {w : World} {K : PySem.W.Frag} {mg : Str → Option Value} {base : Heap}
/-! _law_reach -/
def m__law_reach (columns1 : (List Str)) (tables2 : (List (Str × (List Str) × (List (List Str))))) : Mir (List Str) :=
  (((((Mir.ret columns1)).bind fun reached3 => (Mir.bindO (Mir.forL (rangeL 0 (tables2).length) reached3 fun s4 x5 => (Mir.bindO (Mir.forL tables2 s4 fun s6 x7 => (Mir.bindO (Mir.forL x7.2.2 s6 fun s8 x9 => (((m__law_within x9 s8)).bind fun v12 => (Mir.ifB v12 (((mCat s8 ((x7.2.1).filter (fun name10 => (decide (name10 ∉ s8)))))).bind fun reached11 => (Mir.ret (Out.nx reached11))) (Mir.ret (Out.nx s8))))) fun s8 => (Mir.ret (Out.nx s8)))) fun s6 => (Mir.ret (Out.nx s6)))) fun s4 => (Mir.ret (Out.rt s4)))) : Mir (Out Unit (List Str)))).exit.nox
theorem ok__law_reach (T : TX P K mg) : FnR P w K mg base (L2.CX P w) 5 T.a__law_reach (spM (rx T) (TyA.cons (tBo tStr) (TyA.one (tList (tRecL (TyL.cons tStr (TyL.cons (tList tStr) (TyL.one (tList (tList tStr))))))).h)) (rtF (tList tStr)) fun (a : (List Str) × (List (Str × (List Str) × (List (List Str))))) => m__law_reach a.1 a.2) := by
  refine fnM (β := Unit) (Γ0 := fun a => [.bor tStr a.1, .fz (tList (tRecL (TyL.cons tStr (TyL.cons (tList tStr) (TyL.one (tList (tList tStr))))))) a.2, .any, .any, .any, .any, .any]) T.d__law_reach sc__law_reach (fun _ _ _ _ _ _ us hl => match us, hl with | [_, _], _ => rfl) (fun {a vs G H} h => ?len) (fun {a vs G H} h => ?env) fun cdv Ar outer s H E hr => ⟨_, (pss_cons (ps_asg (pe_callTy (call_listK (K := K) rfl) rfl T.b_list (by decide +kernel) (pa_cons (pv 0) pa_nil)) (pg_name (i := 2) sc__law_reach.nd rfl (by first | exact Or.inl rfl | exact Or.inr rfl)))
    (pss_cons (ps_for (passes_of rfl) rfl (pi_range1 rfl T.b_range (pa_cons (pe_callB (call_lenK (K := K) rfl) rfl T.b_len (by decide +kernel) (pa_cons (pv 1) pa_nil)) pa_nil)) (pg_name (i := 3) sc__law_reach.nd rfl (by first | exact Or.inl rfl | exact Or.inr rfl))
    (pss_one (ps_for (passes_of rfl) rfl (pi_listK (K := K) rfl (pv 1)) (pg_name (i := 4) sc__law_reach.nd rfl (by first | exact Or.inl rfl | exact Or.inr rfl))
    (pss_one (ps_for (passes_of rfl) rfl (pi_listK (K := K) rfl (pe_ix (ix_K (K := K) rfl) (pv 4) pe_int (fun _ _ => rfl))) (pg_name (i := 5) sc__law_reach.nd rfl (by first | exact Or.inl rfl | exact Or.inr rfl))
    (pss_one (ps_if (pt_val (pe_callR (ok__law_within T) (hr.mono (by decide)) T.k__law_within rfl T.m__law_within passL (pa_cons (pv 5) (pa_cons (pv 2) pa_nil)))) (pss_one (ps_asg (pe_op (op_addK (K := K) rfl) (pv 2) (pe_lc (own := [("_law_name", 6)]) rfl sc__law_reach.nd (pi_listK (K := K) rfl (pe_ix (ix_K (K := K) rfl) (pv 4) pe_int (fun _ _ => rfl))) (blkOk_by (own := [("_law_name", 6)]) (N := N__law_reach) (sc := df__law_reach.scope) (by decide +kernel)) (fun _ _ _ _ _ => (pg_name (i := 6) sc__law_reach.nd rfl (by first | exact Or.inl rfl | exact Or.inr rfl))) (fun _ _ _ _ _ => (pts_one (pt_cmpR (op_niK (K := K) rfl hr.units) (pv 6) (pv 2) rfl))) (fun _ _ _ _ _ => (pv 6)))) (pg_name (i := 2) sc__law_reach.nd rfl (by first | exact Or.inl rfl | exact Or.inr rfl)))) pss_nil)))))))
    (pss_one (ps_ret (pv 2))))), fun a => ?der⟩
  case len => obtain ⟨v0, r0, rfl, ⟨l0, w0, rfl, g0, z0, q0⟩, ⟨v1, rfl, h1⟩⟩ := h; rfl
  case env => obtain ⟨v0, r0, rfl, ⟨l0, w0, rfl, g0, z0, q0⟩, ⟨v1, rfl, h1⟩⟩ := h; exact Env.of ⟨⟨l0, w0, rfl, g0, z0, q0⟩, ⟨⟨v1, rfl, h1⟩, ⟨True.intro, ⟨True.intro, ⟨True.intro, ⟨True.intro, ⟨True.intro, True.intro⟩⟩⟩⟩⟩⟩⟩
  case der => exact ⟨_, (SJ.asg ((LJ.callP CL.list (AP.one (PJ.varB (.inr rfl))))).fz (fun reached3 => (SJ.forL (s0 := reached3) (post0 := (fun (s4 : (List Str)) => [.bor tStr a.1, .fz (tList (tRecL (TyL.cons tStr (TyL.cons (tList tStr) (TyL.one (tList (tList tStr))))))) a.2, .fz (tList tStr) s4, .any, .any, .any, .any])) (IJf.rngB (((PJ.var rfl)).bo).e) ⟨.inr rfl, .inr rfl, .inr rfl, .inl rfl, .inl rfl, .inl rfl, .inl rfl, True.intro⟩ (fun s4 x5 => GJ.name)
   (fun s4 x5 => (SJ.last (SJ.forL (s0 := s4) (post0 := (fun (s6 : (List Str)) => [.bor tStr a.1, .fz (tList (tRecL (TyL.cons tStr (TyL.cons (tList tStr) (TyL.one (tList (tList tStr))))))) a.2, .fz (tList tStr) s6, .fz tInt x5, .any, .any, .any])) (IJf.list ((PJ.var rfl)).e) ⟨.inr rfl, .inr rfl, .inr rfl, .inr rfl, .inl rfl, .inl rfl, .inl rfl, True.intro⟩ (fun s6 x7 => GJ.name)
   (fun s6 x7 => (SJ.last (SJ.forL (s0 := s6) (post0 := (fun (s8 : (List Str)) => [.bor tStr a.1, .fz (tList (tRecL (TyL.cons tStr (TyL.cons (tList tStr) (TyL.one (tList (tList tStr))))))) a.2, .fz (tList tStr) s8, .fz tInt x5, .fz (tRecL (TyL.cons tStr (TyL.cons (tList tStr) (TyL.one (tList (tList tStr)))))) x7, .any, .any])) (IJf.list ((OpP.selL (Sel.there (Sel.there Sel.one)) (PJ.var rfl) rfl)).e) ⟨.inr rfl, .inr rfl, .inr rfl, .inr rfl, .inr rfl, .inl rfl, .inl rfl, True.intro⟩ (fun s8 x9 => GJ.name)
   (fun s8 x9 => (SJ.if1m (TJ.val (EJ.callP CM.fn (AP.cons ((PJ.var rfl)).bo (AP.one ((PJ.var rfl)).bo)))) (SJ.last (SJ.asg ((LJ.opP OpL.cat ((PJ.var rfl)).bo ((LP.lcF ((IJf.list ((OpP.selL (Sel.there Sel.here) (PJ.var rfl) rfl)).e)).b (fun name10 => GJ.name) (by decide) (fun name10 => (TP.test (PJ.op (OpP.niB EqD.str (Nat.le_of_ble_eq_true rfl)) (PJ.var rfl) ((PJ.var rfl)).bo))) (fun name10 => (PJ.var rfl)))).bo)).fz (fun reached11 => (SJ.next (b := reached11) ⟨.inr rfl, .inr rfl, .inr rfl, .inr rfl, .inr rfl, .inl rfl, .inl rfl, True.intro⟩)))) (SJ.next (b := s8) ⟨.inr rfl, .inr rfl, .inr rfl, .inr rfl, .inr rfl, .inl rfl, .inl rfl, True.intro⟩)))
   (fun s8 => (SJ.next (b := s8) ⟨.inr rfl, .inr rfl, .inr rfl, .inr rfl, .inl rfl, .inl rfl, .inl rfl, True.intro⟩)))))
   (fun s6 => (SJ.next (b := s6) ⟨.inr rfl, .inr rfl, .inr rfl, .inl rfl, .inl rfl, .inl rfl, .inl rfl, True.intro⟩)))))
   (fun s4 => (SJ.retP (PJ.var rfl)))))), by simp only [m__law_reach, Mir.ret_bind, Mir.bind_bind, Mir.lt_eq, Mir.chk_bind, Mir.ret_bindO_nx, Mir.ret_bindO_rt, mOr, pAnd, pSub, pLe, pLt, mAdds, mCat, mMul, mDiv, mMod, mPow, mSgn, mRng, mStr, mSort, mJoin, mSplit, mCols, mApp, mExt, mIns, mSet, id, mIsName, mPart, mLenO, mIsSet, mRowKind, mPopAt, Mir.fail_bind, mInS, mNiS, mUpper, mSet1, mSortSet, mShl, mShr, mAnd, mMulS, mPutD, pIn, pNi]⟩
end
end Lw

namespace Lw
open PySem PySem.Spec PyProof.Rows L2 SlX StX Ax
section
variable {P : Program} {w : World} {K : PySem.W.Frag} {mg : Str → Option Value} {base : Heap}
/-! _law_independent -/
def m__law_independent (tables1 : (List (Str × (List Str) × (List (List Str))))) : Mir Bool :=
  (((Mir.bindO (Mir.forL tables1 () fun s2 x3 => (Mir.lt ((tables1).filter (fun table4 => (decide (table4.1 ≠ x3.1)))) fun others5 => (Mir.bindO (Mir.forL others5 () fun s6 x7 => (((m__law_reach x7.2.1 others5)).bind fun reached8 => (Mir.bindO (Mir.forL x3.2.2 () fun s9 x10 => (Mir.lt ((x3.2.1).filter (fun name11 => ((decide (name11 ∈ reached8)) && (decide (name11 ∉ x10))))) fun more12 => (((((m__law_within x10 reached8)).bind fun v13 => (Mir.ifB v13 (Mir.ret ((decide (more12 ≠ ([] : (List Str)))))) (Mir.ret false)))).bind fun v14 => (Mir.ifB v14 (Mir.ret (Out.rt false)) (Mir.ret (Out.nx ())))))) fun s9 => (Mir.ret (Out.nx ()))))) fun s6 => (Mir.ret (Out.nx ()))))) fun s2 => (Mir.ret (Out.rt true))) : Mir (Out Unit Bool))).exit.nox
theorem ok__law_independent (T : TX P K mg) : FnR P w K mg base (L2.CX P w) 9 T.a__law_independent (spM (rx T) (TyA.one (tList (tRecL (TyL.cons tStr (TyL.cons (tList tStr) (TyL.one (tList (tList tStr))))))).h) (rtF tBool) fun (a : (List (Str × (List Str) × (List (List Str))))) => m__law_independent a) := by
  refine fnM (β := Unit) (Γ0 := fun a => [.fz (tList (tRecL (TyL.cons tStr (TyL.cons (tList tStr) (TyL.one (tList (tList tStr))))))) a, .any, .any, .any, .any, .any, .any, .any, .any]) T.d__law_independent sc__law_independent (fun _ _ _ _ _ _ us hl => match us, hl with | [_], _ => rfl) (fun {a vs G H} h => ?len) (fun {a vs G H} h => ?env) fun cdv Ar outer s H E hr => ⟨_, (pss_cons (ps_for (passes_of rfl) rfl (pi_listK (K := K) rfl (pv 0)) (pg_name (i := 1) sc__law_independent.nd rfl (by first | exact Or.inl rfl | exact Or.inr rfl))
    (pss_cons (ps_lcU (i := 2) (own := [("_law_table", 6)]) rfl sc__law_independent.nd rfl (by first | exact Or.inl ⟨rfl, rfl⟩ | exact Or.inr ⟨Or.inl rfl, rfl, Or.inl rfl⟩ | exact Or.inr ⟨Or.inr rfl, rfl, Or.inl rfl⟩) (pi_listK (K := K) rfl (pv 0)) (blkOk_by (own := [("_law_table", 6)]) (N := N__law_independent) (sc := df__law_independent.scope) (by decide +kernel)) (fun _ _ _ _ _ => (pg_name (i := 6) sc__law_independent.nd rfl (by first | exact Or.inl rfl | exact Or.inr rfl))) (fun _ _ _ _ _ => (pts_one (pt_cmpR (op_neK (K := K) rfl hr.units) (pe_ix (ix_K (K := K) rfl) (pv 6) pe_int (fun _ _ => rfl)) (pe_ix (ix_K (K := K) rfl) (pv 1) pe_int (fun _ _ => rfl)) (nomark _)))) (fun _ _ _ _ _ => (pv 6)))
    (pss_one (ps_for (passes_of rfl) rfl (pi_listK (K := K) rfl (pv 2)) (pg_name (i := 3) sc__law_independent.nd rfl (by first | exact Or.inl rfl | exact Or.inr rfl))
    (pss_cons (ps_asg (pe_callR (ok__law_reach T) (hr.mono (by decide)) T.k__law_reach rfl T.m__law_reach passL (pa_cons (pe_ix (ix_K (K := K) rfl) (pv 3) pe_int (fun _ _ => rfl)) (pa_cons (pv 2) pa_nil))) (pg_name (i := 4) sc__law_independent.nd rfl (by first | exact Or.inl rfl | exact Or.inr rfl)))
    (pss_one (ps_for (passes_of rfl) rfl (pi_listK (K := K) rfl (pe_ix (ix_K (K := K) rfl) (pv 1) pe_int (fun _ _ => rfl))) (pg_name (i := 5) sc__law_independent.nd rfl (by first | exact Or.inl rfl | exact Or.inr rfl))
    (pss_cons (ps_lcU (i := 7) (own := [("_law_name", 8)]) rfl sc__law_independent.nd rfl (by first | exact Or.inl ⟨rfl, rfl⟩ | exact Or.inr ⟨Or.inl rfl, rfl, Or.inl rfl⟩ | exact Or.inr ⟨Or.inr rfl, rfl, Or.inl rfl⟩) (pi_listK (K := K) rfl (pe_ix (ix_K (K := K) rfl) (pv 1) pe_int (fun _ _ => rfl))) (blkOk_by (own := [("_law_name", 8)]) (N := N__law_independent) (sc := df__law_independent.scope) (by decide +kernel)) (fun _ _ _ _ _ => (pg_name (i := 8) sc__law_independent.nd rfl (by first | exact Or.inl rfl | exact Or.inr rfl))) (fun _ _ _ _ _ => (pts_one (PW.pt (pw_and (pt_cmpR (op_inK (K := K) rfl hr.units) (pv 8) (pv 4) rfl) (pw_and1 (pt_cmpR (op_niK (K := K) rfl hr.units) (pv 8) (pv 5) rfl)))))) (fun _ _ _ _ _ => (pv 8)))
    (pss_one (ps_if (PW.pt (pw_and (pt_val (pe_callR (ok__law_within T) (hr.mono (by decide)) T.k__law_within rfl T.m__law_within passL (pa_cons (pv 5) (pa_cons (pv 4) pa_nil)))) (pw_and1 (pt_cmpR (op_neK (K := K) rfl hr.units) (pv 7) (pe_lst pa_nil) (nomark _))))) (pss_one (ps_ret pe_bl)) pss_nil))))))))))
    (pss_one (ps_ret pe_bl))), fun a => ?der⟩
  case len => obtain ⟨v0, rfl, h0⟩ := h; rfl
  case env => obtain ⟨v0, rfl, h0⟩ := h; exact Env.of ⟨⟨v0, rfl, h0⟩, ⟨True.intro, ⟨True.intro, ⟨True.intro, ⟨True.intro, ⟨True.intro, ⟨True.intro, ⟨True.intro, ⟨True.intro, True.intro⟩⟩⟩⟩⟩⟩⟩⟩⟩
  case der => exact ⟨_, (SJ.forL (s0 := ()) (post0 := (fun (s2 : Unit) => [.fz (tList (tRecL (TyL.cons tStr (TyL.cons (tList tStr) (TyL.one (tList (tList tStr))))))) a, .any, .any, .any, .any, .any, .any, .any, .any])) (IJf.list ((PJ.var rfl)).e) ⟨.inr rfl, .inl rfl, .inl rfl, .inl rfl, .inl rfl, .inl rfl, .inl rfl, .inl rfl, .inl rfl, True.intro⟩ (fun s2 x3 => GJ.name)
   (fun s2 x3 => (SJ.asgP ((LP.lcF ((IJf.list ((PJ.var rfl)).e)).b (fun table4 => GJ.name) (by decide) (fun table4 => (TP.test (PJ.op (OpP.ne EqD.str (Nat.le_of_ble_eq_true rfl)) (OpP.selL Sel.here (PJ.var rfl) rfl) (OpP.selL Sel.here (PJ.var rfl) rfl)))) (fun table4 => (PJ.var rfl)))).fz (fun others5 => (SJ.last (SJ.forL (s0 := ()) (post0 := (fun (s6 : Unit) => [.fz (tList (tRecL (TyL.cons tStr (TyL.cons (tList tStr) (TyL.one (tList (tList tStr))))))) a, .fz (tRecL (TyL.cons tStr (TyL.cons (tList tStr) (TyL.one (tList (tList tStr)))))) x3, .fz (tList (tRecL (TyL.cons tStr (TyL.cons (tList tStr) (TyL.one (tList (tList tStr))))))) others5, .any, .any, .any, .any, .any, .any])) (IJf.list ((PJ.var rfl)).e) ⟨.inr rfl, .inr rfl, .inr rfl, .inl rfl, .inl rfl, .inl rfl, .inl rfl, .inl rfl, .inl rfl, True.intro⟩ (fun s6 x7 => GJ.name)
   (fun s6 x7 => (SJ.asg (EJ.callP CM.fn (AP.cons ((OpP.selL (Sel.there Sel.here) (PJ.var rfl) rfl)).bo (AP.one (PJ.var rfl)))) (fun reached8 => (SJ.last (SJ.forL (s0 := ()) (post0 := (fun (s9 : Unit) => [.fz (tList (tRecL (TyL.cons tStr (TyL.cons (tList tStr) (TyL.one (tList (tList tStr))))))) a, .fz (tRecL (TyL.cons tStr (TyL.cons (tList tStr) (TyL.one (tList (tList tStr)))))) x3, .fz (tList (tRecL (TyL.cons tStr (TyL.cons (tList tStr) (TyL.one (tList (tList tStr))))))) others5, .fz (tRecL (TyL.cons tStr (TyL.cons (tList tStr) (TyL.one (tList (tList tStr)))))) x7, .fz (tList tStr) reached8, .any, .any, .any, .any])) (IJf.list ((OpP.selL (Sel.there (Sel.there Sel.one)) (PJ.var rfl) rfl)).e) ⟨.inr rfl, .inr rfl, .inr rfl, .inr rfl, .inr rfl, .inl rfl, .inl rfl, .inl rfl, .inl rfl, True.intro⟩ (fun s9 x10 => GJ.name)
   (fun s9 x10 => (SJ.asgP ((LP.lcF ((IJf.list ((OpP.selL (Sel.there Sel.here) (PJ.var rfl) rfl)).e)).b (fun name11 => GJ.name) (by decide) (fun name11 => (TP.and (TP.test (PJ.op (OpP.inB EqD.str (Nat.le_of_ble_eq_true rfl)) (PJ.var rfl) ((PJ.var rfl)).bo)) (TP.test (PJ.op (OpP.niB EqD.str (Nat.le_of_ble_eq_true rfl)) (PJ.var rfl) ((PJ.var rfl)).bo)))) (fun name11 => (PJ.var rfl)))).fz (fun more12 => (SJ.if1m (TJ.and (TJ.val (EJ.callP CM.fn (AP.cons ((PJ.var rfl)).bo (AP.one ((PJ.var rfl)).bo)))) ((TP.test (PJ.op (OpP.neB EqD.str (Nat.le_of_ble_eq_true rfl)) ((PJ.var rfl)).bo ((LP.lst (t := tStr) AP.lnil (Nat.le_of_ble_eq_true rfl))).bo))).e) (SJ.retP PJ.bl) (SJ.next (b := ()) ⟨.inr rfl, .inr rfl, .inr rfl, .inr rfl, .inr rfl, .inl rfl, .inl rfl, .inl rfl, .inl rfl, True.intro⟩)))))
   (fun s9 => (SJ.next (b := ()) ⟨.inr rfl, .inr rfl, .inr rfl, .inl rfl, .inl rfl, .inl rfl, .inl rfl, .inl rfl, .inl rfl, True.intro⟩)))))))
   (fun s6 => (SJ.next (b := ()) ⟨.inr rfl, .inl rfl, .inl rfl, .inl rfl, .inl rfl, .inl rfl, .inl rfl, .inl rfl, .inl rfl, True.intro⟩)))))))
   (fun s2 => (SJ.retP PJ.bl))), by simp only [m__law_independent, Mir.ret_bind, Mir.bind_bind, Mir.lt_eq, Mir.chk_bind, Mir.ret_bindO_nx, Mir.ret_bindO_rt, mOr, pAnd, pSub, pLe, pLt, mAdds, mCat, mMul, mDiv, mMod, mPow, mSgn, mRng, mStr, mSort, mJoin, mSplit, mCols, mApp, mExt, mIns, mSet, id, mIsName, mPart, mLenO, mIsSet, mRowKind, mPopAt, Mir.fail_bind, mInS, mNiS, mUpper, mSet1, mSortSet, mShl, mShr, mAnd, mMulS, mPutD, pIn, pNi]⟩
end
end Lw

namespace Lw
open PySem PySem.Spec PyProof.Rows L2 SlX StX Ax
section
variable {P : Program} {w : World} {K : PySem.W.Frag} {mg : Str → Option Value} {base : Heap}
/-! _law_sound -/
def m__law_sound (tables1 : (List (Str × (List Str) × (List (List Str))))) : Mir (List (Str × (List Str) × (List (List Str)))) :=
  (((Mir.lt ([] : (List (Str × (List Str) × (List (List Str))))) fun kept2 => (Mir.bindO (Mir.forL tables1 kept2 fun s3 x4 => (((((mCat s3 [x4])).bind fun v5 => (m__law_independent v5))).bind fun v7 => (Mir.ifB v7 (((mCat s3 [x4])).bind fun kept6 => (Mir.ret (Out.nx kept6))) (Mir.ret (Out.nx s3))))) fun s3 => (Mir.ret (Out.rt s3)))) : Mir (Out Unit (List (Str × (List Str) × (List (List Str))))))).exit.nox
theorem ok__law_sound (T : TX P K mg) : FnR P w K mg base (L2.CX P w) 13 T.a__law_sound (spM (rx T) (TyA.one (tList (tRecL (TyL.cons tStr (TyL.cons (tList tStr) (TyL.one (tList (tList tStr))))))).h) (rtF (tList (tRecL (TyL.cons tStr (TyL.cons (tList tStr) (TyL.one (tList (tList tStr)))))))) fun (a : (List (Str × (List Str) × (List (List Str))))) => m__law_sound a) := by
  refine fnM (β := Unit) (Γ0 := fun a => [.fz (tList (tRecL (TyL.cons tStr (TyL.cons (tList tStr) (TyL.one (tList (tList tStr))))))) a, .any, .any]) T.d__law_sound sc__law_sound (fun _ _ _ _ _ _ us hl => match us, hl with | [_], _ => rfl) (fun {a vs G H} h => ?len) (fun {a vs G H} h => ?env) fun cdv Ar outer s H E hr => ⟨_, (pss_cons (ps_asg (pe_lst pa_nil) (pg_name (i := 1) sc__law_sound.nd rfl (by first | exact Or.inl rfl | exact Or.inr rfl)))
    (pss_cons (ps_for (passes_of rfl) rfl (pi_listK (K := K) rfl (pv 0)) (pg_name (i := 2) sc__law_sound.nd rfl (by first | exact Or.inl rfl | exact Or.inr rfl))
    (pss_one (ps_if (pt_val (pe_callR (ok__law_independent T) (hr.mono (by decide)) T.k__law_independent rfl T.m__law_independent passL (pa_cons (pe_op (op_addK (K := K) rfl) (pv 1) (pe_lst (pa_cons (pv 2) pa_nil))) pa_nil))) (pss_one (ps_asg (pe_op (op_addK (K := K) rfl) (pv 1) (pe_lst (pa_cons (pv 2) pa_nil))) (pg_name (i := 1) sc__law_sound.nd rfl (by first | exact Or.inl rfl | exact Or.inr rfl)))) pss_nil)))
    (pss_one (ps_ret (pv 1))))), fun a => ?der⟩
  case len => obtain ⟨v0, rfl, h0⟩ := h; rfl
  case env => obtain ⟨v0, rfl, h0⟩ := h; exact Env.of ⟨⟨v0, rfl, h0⟩, ⟨True.intro, ⟨True.intro, True.intro⟩⟩⟩
  case der => exact ⟨_, (SJ.asgP ((LP.lst (t := (tRecL (TyL.cons tStr (TyL.cons (tList tStr) (TyL.one (tList (tList tStr))))))) AP.lnil (Nat.le_of_ble_eq_true rfl))).fz (fun kept2 => (SJ.forL (s0 := kept2) (post0 := (fun (s3 : (List (Str × (List Str) × (List (List Str))))) => [.fz (tList (tRecL (TyL.cons tStr (TyL.cons (tList tStr) (TyL.one (tList (tList tStr))))))) a, .fz (tList (tRecL (TyL.cons tStr (TyL.cons (tList tStr) (TyL.one (tList (tList tStr))))))) s3, .any])) (IJf.list ((PJ.var rfl)).e) ⟨.inr rfl, .inr rfl, .inl rfl, True.intro⟩ (fun s3 x4 => GJ.name)
   (fun s3 x4 => (SJ.if1m (TJ.val (EJ.call CM.fn (AJ.one ((LJ.opP OpL.cat ((PJ.var rfl)).bo ((LP.lst (t := (tRecL (TyL.cons tStr (TyL.cons (tList tStr) (TyL.one (tList (tList tStr))))))) (AP.lcons (PJ.var rfl) AP.lnil) (Nat.le_of_ble_eq_true rfl))).bo)).fz))) (SJ.last (SJ.asg ((LJ.opP OpL.cat ((PJ.var rfl)).bo ((LP.lst (t := (tRecL (TyL.cons tStr (TyL.cons (tList tStr) (TyL.one (tList (tList tStr))))))) (AP.lcons (PJ.var rfl) AP.lnil) (Nat.le_of_ble_eq_true rfl))).bo)).fz (fun kept6 => (SJ.next (b := kept6) ⟨.inr rfl, .inr rfl, .inl rfl, True.intro⟩)))) (SJ.next (b := s3) ⟨.inr rfl, .inr rfl, .inl rfl, True.intro⟩)))
   (fun s3 => (SJ.retP (PJ.var rfl)))))), by simp only [m__law_sound, Mir.ret_bind, Mir.bind_bind, Mir.lt_eq, Mir.chk_bind, Mir.ret_bindO_nx, Mir.ret_bindO_rt, mOr, pAnd, pSub, pLe, pLt, mAdds, mCat, mMul, mDiv, mMod, mPow, mSgn, mRng, mStr, mSort, mJoin, mSplit, mCols, mApp, mExt, mIns, mSet, id, mIsName, mPart, mLenO, mIsSet, mRowKind, mPopAt, Mir.fail_bind, mInS, mNiS, mUpper, mSet1, mSortSet, mShl, mShr, mAnd, mMulS, mPutD, pIn, pNi]⟩
end
end Lw

namespace Lw
open PySem PySem.Spec PyProof.Rows L2 SlX StX Ax
section
variable {P : Program} {w : World} {K : PySem.W.Frag} {mg : Str → Option Value} {base : Heap}
/-! _law_text -/
def m__law_text (tables1 : (List (Str × (List Str) × (List (List Str))))) : Mir Str :=
  (((Mir.lt ([] : (List Str)) fun lines2 => (Mir.bindO (Mir.forL tables1 lines2 fun s3 x4 => (((((((((mAdds x4.1 (": " : Str))).bind fun v5 => (((mJoin (" " : Str) x4.2.1)).bind fun v6 => (mAdds v5 v6)))).bind fun v7 => Mir.ret [v7])).bind fun v8 => Mir.chk (v8.length ≤ mxL) (Mir.ret v8))).bind fun parts9 => (Mir.bindO (Mir.forL x4.2.2 parts9 fun s10 x11 => (((((mSort ((x11).map fun name13 => name13))).bind fun v14 => (mJoin (" " : Str) v14))).bind fun v15 => (mApp s10 v15 fun parts12 => (Mir.ret (Out.nx parts12))))) fun s10 => (((mJoin (" / " : Str) s10)).bind fun v17 => (mApp s3 v17 fun lines16 => (Mir.ret (Out.nx lines16))))))) fun s3 => (((mJoin ("\n" : Str) s3)).bind fun v18 => (Mir.ret (Out.rt v18))))) : Mir (Out Unit Str))).exit.nox
theorem ok__law_text (T : TX P K mg) : FnR P w K mg base (L2.CX P w) 1 T.a__law_text (spM (rx T) (TyA.one (tList (tRecL (TyL.cons tStr (TyL.cons (tList tStr) (TyL.one (tList (tList tStr))))))).h) (rtF tStr) fun (a : (List (Str × (List Str) × (List (List Str))))) => m__law_text a) := by
  refine fnM (β := Unit) (Γ0 := fun a => [.fz (tList (tRecL (TyL.cons tStr (TyL.cons (tList tStr) (TyL.one (tList (tList tStr))))))) a, .any, .any, .any, .any, .any]) T.d__law_text sc__law_text (fun _ _ _ _ _ _ us hl => match us, hl with | [_], _ => rfl) (fun {a vs G H} h => ?len) (fun {a vs G H} h => ?env) fun cdv Ar outer s H E hr => ⟨_, (pss_cons (ps_asg (pe_lst pa_nil) (pg_name (i := 1) sc__law_text.nd rfl (by first | exact Or.inl rfl | exact Or.inr rfl)))
    (pss_cons (ps_for (passes_of rfl) rfl (pi_listK (K := K) rfl (pv 0)) (pg_name (i := 2) sc__law_text.nd rfl (by first | exact Or.inl rfl | exact Or.inr rfl))
    (pss_cons (ps_asg (pe_lst (pa_cons (pe_op (op_addK (K := K) rfl) (pe_op (op_addK (K := K) rfl) (pe_ix (ix_K (K := K) rfl) (pv 2) pe_int (fun _ _ => rfl)) pe_str) (pe_joinK (K := K) rfl pe_str (pe_ix (ix_K (K := K) rfl) (pv 2) pe_int (fun _ _ => rfl)))) pa_nil)) (pg_name (i := 3) sc__law_text.nd rfl (by first | exact Or.inl rfl | exact Or.inr rfl)))
    (pss_cons (ps_for (passes_of rfl) rfl (pi_listK (K := K) rfl (pe_ix (ix_K (K := K) rfl) (pv 2) pe_int (fun _ _ => rfl))) (pg_name (i := 4) sc__law_text.nd rfl (by first | exact Or.inl rfl | exact Or.inr rfl))
    (pss_one (ps_expr (pe_bm PySem.F.plainAttrs_list PySem.F.slot_list_append PySem.F.type_list_append mt_append (pv 3) (pa_cons (pe_joinK (K := K) rfl pe_str (pe_callB (cr_sortedSK (K := K) rfl) rfl T.b_sorted (by decide +kernel) (pa_cons (pe_lc (own := [("_law_name", 5)]) rfl sc__law_text.nd (pi_listK (K := K) rfl (pv 4)) (blkOk_by (own := [("_law_name", 5)]) (N := N__law_text) (sc := df__law_text.scope) (by decide +kernel)) (fun _ _ _ _ _ => (pg_name (i := 5) sc__law_text.nd rfl (by first | exact Or.inl rfl | exact Or.inr rfl))) (fun _ _ _ _ _ => pts_nil) (fun _ _ _ _ _ => (pe_callTy (SkE.call_str_str) rfl T.b_str (by decide +kernel) (pa_cons (pv 5) pa_nil)))) pa_nil))) pa_nil)))))
    (pss_one (ps_expr (pe_bm PySem.F.plainAttrs_list PySem.F.slot_list_append PySem.F.type_list_append mt_append (pv 1) (pa_cons (pe_joinK (K := K) rfl pe_str (pv 3)) pa_nil)))))))
    (pss_one (ps_ret (pe_joinK (K := K) rfl pe_str (pv 1)))))), fun a => ?der⟩
  case len => obtain ⟨v0, rfl, h0⟩ := h; rfl
  case env => obtain ⟨v0, rfl, h0⟩ := h; exact Env.of ⟨⟨v0, rfl, h0⟩, ⟨True.intro, ⟨True.intro, ⟨True.intro, ⟨True.intro, ⟨True.intro, True.intro⟩⟩⟩⟩⟩⟩
  case der => exact ⟨_, (SJ.asgLP (LP.lst (t := tStr) AP.lnil (Nat.le_of_ble_eq_true rfl)) (fun lines2 => (SJ.forL (s0 := lines2) (post0 := (fun (s3 : (List Str)) => [.fz (tList (tRecL (TyL.cons tStr (TyL.cons (tList tStr) (TyL.one (tList (tList tStr))))))) a, .own tStr s3, .any, .any, .any, .any])) (IJf.list ((PJ.var rfl)).e) ⟨.inr rfl, .inr rfl, .inl rfl, .inl rfl, .inl rfl, .inl rfl, True.intro⟩ (fun s3 x4 => GJ.name)
   (fun s3 x4 => (SJ.asgL (LJ.lst (AJ.lcons (EJ.op OpM.adds (EJ.opP OpM.adds (OpP.selL Sel.here (PJ.var rfl) rfl) PJ.str) (EJ.join PJ.str (((OpP.selL (Sel.there Sel.here) (PJ.var rfl) rfl)).bo).e)) AP.lnil.e)) (fun parts9 => (SJ.forL (s0 := parts9) (post0 := (fun (s10 : (List Str)) => [.fz (tList (tRecL (TyL.cons tStr (TyL.cons (tList tStr) (TyL.one (tList (tList tStr))))))) a, .own tStr s3, .fz (tRecL (TyL.cons tStr (TyL.cons (tList tStr) (TyL.one (tList (tList tStr)))))) x4, .own tStr s10, .any, .any])) (IJf.list ((OpP.selL (Sel.there (Sel.there Sel.one)) (PJ.var rfl) rfl)).e) ⟨.inr rfl, .inr rfl, .inr rfl, .inr rfl, .inl rfl, .inl rfl, True.intro⟩ (fun s10 x11 => GJ.name)
   (fun s10 x11 => (SJ.last (SJ.append rfl (EJ.join PJ.str ((LJ.callP CL.sorted (AP.one ((LP.lcA ((IJf.list ((PJ.var rfl)).e)).b (fun name13 => GJ.name) (by decide) (fun name13 => (PJ.call CP.strS (AP.one (PJ.var rfl)))))).bo))).bo) (fun parts12 => (SJ.next (b := parts12) ⟨.inr rfl, .inr rfl, .inr rfl, .inr rfl, .inl rfl, .inl rfl, True.intro⟩)))))
   (fun s10 => (SJ.last (SJ.append rfl (EJ.join PJ.str ((PJ.varB (.inl rfl))).e) (fun lines16 => (SJ.next (b := lines16) ⟨.inr rfl, .inr rfl, .inl rfl, .inl rfl, .inl rfl, .inl rfl, True.intro⟩)))))))))
   (fun s3 => (SJ.ret (EJ.join PJ.str ((PJ.varB (.inl rfl))).e)))))), by simp only [m__law_text, Mir.ret_bind, Mir.bind_bind, Mir.lt_eq, Mir.chk_bind, Mir.ret_bindO_nx, Mir.ret_bindO_rt, mOr, pAnd, pSub, pLe, pLt, mAdds, mCat, mMul, mDiv, mMod, mPow, mSgn, mRng, mStr, mSort, mJoin, mSplit, mCols, mApp, mExt, mIns, mSet, id, mIsName, mPart, mLenO, mIsSet, mRowKind, mPopAt, Mir.fail_bind, mInS, mNiS, mUpper, mSet1, mSortSet, mShl, mShr, mAnd, mMulS, mPutD, pIn, pNi]⟩
end
end Lw

namespace Lw
open PySem PySem.Spec PyProof.Rows L2 SlX StX Ax
section
variable {P : Program} {w : World} {K : PySem.W.Frag} {mg : Str → Option Value} {base : Heap}
/-! law -/
def m_law : Mir Bool :=
  (((((Mir.ret ())).bind fun pool1 => (((mNames (16 : Int))).bind fun names2 => (((((((m__law_labels pool1 names2)).bind fun v3 => (m__law_schema pool1 (cutL names2 none (some (8 : Int))) v3 (6 : Int)))).bind fun v4 => (m__law_sound v4))).bind fun tables5 => (((((m__law_text tables5)).bind fun v6 => (m_Schema_read v6))).bind fun schema7 => (((((Mir.draw ((tables5).length : Int))).bind fun v8 => (Mir.get tables5 v8))).bind fun table9 => (((((m__law_filling pool1 [table9] (11 : Int))).bind fun v10 => (mDix v10 table9.1))).bind fun rows11 => (((Mir.comp table9.2.1 (fun name12 => (Mir.ret (true))) (fun name12 => (Mir.draw (3 : Int)))).nox).bind fun cells13 => (Mir.bindO (((Mir.ifB (decide (rows11 ≠ ([] : (List (List Int))))) (((Mir.draw (3 : Int))).bind fun v14 => Mir.ret ((decide ((0 : Int) < v14)))) (Mir.ret false))).bind fun v63 => (Mir.ifB v63 (((((((Mir.draw ((rows11).length : Int))).bind fun v16 => (Mir.get rows11 v16))).bind fun v17 => (Mir.ret v17))).bind fun cells18 => (((Mir.draw ((cells18).length : Int))).bind fun v21 => (Mir.chk (0 ≤ v21) ((Mir.get cells18 v21).bind fun c20 => (((Mir.draw (2 : Int))).bind fun v22 => (mSet cells18 v21 (c20 + v22) fun cells19 => (Mir.ret (Out.nx cells19)))))))) (Mir.ret (Out.nx cells13)))) fun s23 => (Mir.lt s23 fun row24 => (((Mir.ret rows11)).bind fun kept25 => (((((((((m_may_put schema7 table9.1 rows11 row24)).bind fun v27 => (((((m__law_clash table9 rows11 row24)).bind fun v26 => Mir.ret ((v26).isNone))).bind fun v28 => (m__law_flag v27 v28)))).bind fun v29 => Mir.ret (!(v29)))).bind fun v30 => (Mir.ifB v30 (Mir.ret true) (Mir.ret ((decide (rows11 ≠ kept25))))))).bind fun v62 => (Mir.ifB v62 (Mir.ret (Out.rt false)) (Mir.bindO (Mir.ifB (decide (rows11 ≠ ([] : (List (List Int))))) (((Mir.draw ((rows11).length : Int))).bind fun v32 => (mPopAt rows11 v32 fun rows31 => (Mir.ret (Out.nx rows31)))) (Mir.ret (Out.nx rows11))) fun s33 => (((((((m_may_put schema7 table9.1 s33 row24)).bind fun v35 => (((((m__law_clash table9 s33 row24)).bind fun v34 => Mir.ret ((v34).isNone))).bind fun v36 => (m__law_flag v35 v36)))).bind fun v37 => Mir.ret (!(v37)))).bind fun v61 => (Mir.ifB v61 (Mir.ret (Out.rt false)) (((((((((mCat row24 [(0 : Int)])).bind fun v38 => Mir.ret [(cutL row24 (some (1 : Int)) none), v38])).bind fun v39 => Mir.chk (v39.length ≤ mxL) (Mir.ret v39))).bind fun v40 => (((Mir.draw (2 : Int))).bind fun v41 => (Mir.get v40 v41)))).bind fun bad42 => (((((((Mir.get names2 (14 : Int))).bind fun v45 => (((((((Mir.get names2 (0 : Int))).bind fun v43 => Mir.ret (cutS v43 none (some (7 : Int))))).bind fun v44 => (mAdds ("A" : Str) v44))).bind fun v46 => Mir.ret [v45, ("" : Str), v46]))).bind fun v47 => Mir.chk (v47.length ≤ mxL) (Mir.ret v47))).bind fun v60 => (Mir.bindO (Mir.forL v60 () fun s48 x49 => (((((m__law_refused schema7 x49 s33 bad42)).bind fun v50 => Mir.ret ((decide (v50 ≠ (some (("table" : Str), x49))))))).bind fun v51 => (Mir.ifB v51 (Mir.ret (Out.rt false)) (Mir.ret (Out.nx ()))))) fun s48 => (((((m__law_refused schema7 table9.1 s33 bad42)).bind fun v52 => Mir.ret ((decide (v52 ≠ (some (("row" : Str), table9.1))))))).bind fun v59 => (Mir.ifB v59 (Mir.ret (Out.rt false)) (((((m__law_refused schema7 table9.1 s33 row24)).bind fun v53 => Mir.ret ((decide (v53 ≠ (none : (Option (Str × Str)))))))).bind fun v58 => (Mir.ifB v58 (Mir.ret (Out.rt false)) (((Mir.draw (((s33).length : Int) + (1 : Int)))).bind fun v57 => (mIns s33 v57 bad42 fun rows54 => (((((m__law_refused schema7 table9.1 rows54 row24)).bind fun v55 => Mir.ret ((decide (v55 = (some (("row" : Str), table9.1))))))).bind fun v56 => (Mir.ret (Out.rt v56))))))))))))))))))))))))))) : Mir (Out Unit Bool))).exit.nox
theorem okM_law (T : TX P K mg) (hm : m_law.run (fun r => r = true) fun _ => False) {fd : FuncData} (F : FunD K df_law.name df_law.qual df_law.params df_law.body df_law.scope [] [] T.a_law fd) : FnOk P w K mg base (L2.CX P w) 33 T.a_law fd ["_law_script"] (spLaw K) := by
  refine lawM (d := df_law) (RX := rx T) (β := Unit) (Γ0 := fun ns => [.fz (tScr K) ns, .any, .any, .any, .any, .any, .any, .any, .any, .any, .any, .any, .any]) F sc_law (fun h l => Env.of ⟨⟨.ref _, rfl, _, rfl, h, l⟩, ⟨True.intro, ⟨True.intro, ⟨True.intro, ⟨True.intro, ⟨True.intro, ⟨True.intro, ⟨True.intro, ⟨True.intro, ⟨True.intro, ⟨True.intro, ⟨True.intro, ⟨True.intro, True.intro⟩⟩⟩⟩⟩⟩⟩⟩⟩⟩⟩⟩⟩) hm fun cdv Ar outer s H E hr => ⟨_, (pss_cons (ps_asg (pe_callR (ok__law_pool T) (hr.mono (by decide)) T.k__law_pool rfl T.m__law_pool passL (pa_cons (pv 0) pa_nil)) (pg_name (i := 1) sc_law.nd rfl (by first | exact Or.inl rfl | exact Or.inr rfl)))
    (pss_cons (ps_asg (pe_callR (ok__law_names T) (hr.mono (by decide)) T.k__law_names rfl T.m__law_names passL (pa_cons (pv 1) (pa_cons pe_int pa_nil))) (pg_name (i := 2) sc_law.nd rfl (by first | exact Or.inl rfl | exact Or.inr rfl)))
    (pss_cons (ps_asg (pe_callR (ok__law_sound T) (hr.mono (by decide)) T.k__law_sound rfl T.m__law_sound passL (pa_cons (pe_callR (ok__law_schema T) (hr.mono (by decide)) T.k__law_schema rfl T.m__law_schema passL (pa_cons (pv 1) (pa_cons (pe_slice (sl_listK (K := K) rfl) (pv 2) po_none (po_some pe_int)) (pa_cons (pe_callR (ok__law_labels T) (hr.mono (by decide)) T.k__law_labels rfl T.m__law_labels passL (pa_cons (pv 1) (pa_cons (pv 2) pa_nil))) (pa_cons pe_int pa_nil))))) pa_nil)) (pg_name (i := 3) sc_law.nd rfl (by first | exact Or.inl rfl | exact Or.inr rfl)))
    (pss_cons (ps_asg (ClX.pe_cmeth (pe_glob (v := .ref T.C_Schema) rfl T.m_Schema rfl) T.cr_Schema T.cm_Schema_read (ok_Schema_read T) (hr.mono (by decide)) passL (pa_cons (pe_callR (ok__law_text T) (hr.mono (by decide)) T.k__law_text rfl T.m__law_text passL (pa_cons (pv 3) pa_nil)) pa_nil)) (pg_name (i := 4) sc_law.nd rfl (by first | exact Or.inl rfl | exact Or.inr rfl)))
    (pss_cons (ps_asg (pe_ix (ix_K (K := K) rfl) (pv 3) (pe_callR (ok__law_draw T) (hr.mono (by decide)) T.k__law_draw rfl T.m__law_draw passL (pa_cons (pv 1) (pa_cons (pe_callB (call_lenK (K := K) rfl) rfl T.b_len (by decide +kernel) (pa_cons (pv 3) pa_nil)) pa_nil))) (fun _ _ => rfl)) (pg_name (i := 5) sc_law.nd rfl (by first | exact Or.inl rfl | exact Or.inr rfl)))
    (pss_cons (ps_asg (pe_dget (units1 hr.units) (pe_callR (ok__law_filling T) (hr.mono (by decide)) T.k__law_filling rfl T.m__law_filling passL (pa_cons (pv 1) (pa_cons (pe_lst (pa_cons (pv 5) pa_nil)) (pa_cons pe_int pa_nil)))) (pe_ix (ix_K (K := K) rfl) (pv 5) pe_int (fun _ _ => rfl)) (fun _ _ => rfl)) (pg_name (i := 6) sc_law.nd rfl (by first | exact Or.inl rfl | exact Or.inr rfl)))
    (pss_cons (ps_lcU (i := 7) (own := [("_law_name", 12)]) rfl sc_law.nd rfl (by first | exact Or.inl ⟨rfl, rfl⟩ | exact Or.inr ⟨Or.inl rfl, rfl, Or.inl rfl⟩ | exact Or.inr ⟨Or.inr rfl, rfl, Or.inl rfl⟩) (pi_listK (K := K) rfl (pe_ix (ix_K (K := K) rfl) (pv 5) pe_int (fun _ _ => rfl))) (blkOk_by (own := [("_law_name", 12)]) (N := N_law) (sc := df_law.scope) (by decide +kernel)) (fun _ _ _ _ _ => (pg_name (i := 12) sc_law.nd rfl (by first | exact Or.inl rfl | exact Or.inr rfl))) (fun _ _ _ _ _ => pts_nil) (fun _ _ _ _ _ => (pe_callR (ok__law_draw T) (hr.mono (by decide)) T.k__law_draw rfl T.m__law_draw passL (pa_cons (pv 1) (pa_cons pe_int pa_nil)))))
    (pss_cons (ps_if (PW.pt (pw_and (pt_cmpR (op_neK (K := K) rfl hr.units) (pv 6) (pe_lst pa_nil) (nomark _)) (pw_and1 (pt_cmpR op_gt (pe_callR (ok__law_draw T) (hr.mono (by decide)) T.k__law_draw rfl T.m__law_draw passL (pa_cons (pv 1) (pa_cons pe_int pa_nil))) pe_int (nomark _))))) (pss_cons (ps_asg (pe_callTy (call_listK (K := K) rfl) rfl T.b_list (by decide +kernel) (pa_cons (pe_ix (ix_K (K := K) rfl) (pv 6) (pe_callR (ok__law_draw T) (hr.mono (by decide)) T.k__law_draw rfl T.m__law_draw passL (pa_cons (pv 1) (pa_cons (pe_callB (call_lenK (K := K) rfl) rfl T.b_len (by decide +kernel) (pa_cons (pv 6) pa_nil)) pa_nil))) (fun _ _ => rfl)) pa_nil)) (pg_name (i := 7) sc_law.nd rfl (by first | exact Or.inl rfl | exact Or.inr rfl)))
    (pss_one (ps_augS (pv 7) (pe_callR (ok__law_draw T) (hr.mono (by decide)) T.k__law_draw rfl T.m__law_draw passL (pa_cons (pv 1) (pa_cons (pe_callB (call_lenK (K := K) rfl) rfl T.b_len (by decide +kernel) (pa_cons (pv 7) pa_nil)) pa_nil))) (pget_list (K := K) rfl) (pe_callR (ok__law_draw T) (hr.mono (by decide)) T.k__law_draw rfl T.m__law_draw passL (pa_cons (pv 1) (pa_cons pe_int pa_nil))) ip_add set_list))) pss_nil)
    (pss_cons (ps_asg (pe_callTy (call_tupleK (K := K) rfl) rfl T.b_tuple (by decide +kernel) (pa_cons (pv 7) pa_nil)) (pg_name (i := 8) sc_law.nd rfl (by first | exact Or.inl rfl | exact Or.inr rfl)))
    (pss_cons (ps_asg (pe_callTy (call_listK (K := K) rfl) rfl T.b_list (by decide +kernel) (pa_cons (pv 6) pa_nil)) (pg_name (i := 9) sc_law.nd rfl (by first | exact Or.inl rfl | exact Or.inr rfl)))
    (pss_cons (ps_if (PW.pt (pw_or (pt_not (pt_val (pe_callR (ok__law_flag T) (hr.mono (by decide)) T.k__law_flag rfl T.m__law_flag passL (pa_cons (pe_callR (ok_may_put T) (hr.mono (by decide)) T.k_may_put rfl T.m_may_put passL (pa_cons (pv 4) (pa_cons (pe_ix (ix_K (K := K) rfl) (pv 5) pe_int (fun _ _ => rfl)) (pa_cons (pv 6) (pa_cons (pv 8) pa_nil))))) (pa_cons (pe_cmpR op_isN (pe_callR (ok__law_clash T) (hr.mono (by decide)) T.k__law_clash rfl T.m__law_clash passL (pa_cons (pv 5) (pa_cons (pv 6) (pa_cons (pv 8) pa_nil)))) pe_non (nomark _)) pa_nil))))) (pw_or1 (pt_cmpR (op_neK (K := K) rfl hr.units) (pv 6) (pv 9) (nomark _))))) (pss_one (ps_ret pe_bl)) pss_nil)
    (pss_cons (ps_if (pt_cmpR (op_neK (K := K) rfl hr.units) (pv 6) (pe_lst pa_nil) (nomark _)) (pss_one (ps_expr (pe_bm PySem.F.plainAttrs_list PySem.F.slot_list_pop PySem.F.type_list_pop mt_popAt (pv 6) (pa_cons (pe_callR (ok__law_draw T) (hr.mono (by decide)) T.k__law_draw rfl T.m__law_draw passL (pa_cons (pv 1) (pa_cons (pe_callB (call_lenK (K := K) rfl) rfl T.b_len (by decide +kernel) (pa_cons (pv 6) pa_nil)) pa_nil))) pa_nil)))) pss_nil)
    (pss_cons (ps_if (pt_not (pt_val (pe_callR (ok__law_flag T) (hr.mono (by decide)) T.k__law_flag rfl T.m__law_flag passL (pa_cons (pe_callR (ok_may_put T) (hr.mono (by decide)) T.k_may_put rfl T.m_may_put passL (pa_cons (pv 4) (pa_cons (pe_ix (ix_K (K := K) rfl) (pv 5) pe_int (fun _ _ => rfl)) (pa_cons (pv 6) (pa_cons (pv 8) pa_nil))))) (pa_cons (pe_cmpR op_isN (pe_callR (ok__law_clash T) (hr.mono (by decide)) T.k__law_clash rfl T.m__law_clash passL (pa_cons (pv 5) (pa_cons (pv 6) (pa_cons (pv 8) pa_nil)))) pe_non (nomark _)) pa_nil))))) (pss_one (ps_ret pe_bl)) pss_nil)
    (pss_cons (ps_asg (pe_ix (ix_K (K := K) rfl) (pe_lst (pa_cons (pe_slice (sl_tupK (K := K) rfl) (pv 8) (po_some pe_int) po_none) (pa_cons (pe_op (op_addK (K := K) rfl) (pv 8) (pe_tup (pa_cons pe_int pa_nil))) pa_nil))) (pe_callR (ok__law_draw T) (hr.mono (by decide)) T.k__law_draw rfl T.m__law_draw passL (pa_cons (pv 1) (pa_cons pe_int pa_nil))) (fun _ _ => rfl)) (pg_name (i := 10) sc_law.nd rfl (by first | exact Or.inl rfl | exact Or.inr rfl)))
    (pss_cons (ps_for (passes_of rfl) rfl (pi_listK (K := K) rfl (pe_lst (pa_cons (pe_ix (ix_K (K := K) rfl) (pv 2) pe_int (fun _ _ => rfl)) (pa_cons pe_str (pa_cons (pe_op (op_addK (K := K) rfl) pe_str (pe_slice sl_str (pe_ix (ix_K (K := K) rfl) (pv 2) pe_int (fun _ _ => rfl)) po_none (po_some pe_int))) pa_nil))))) (pg_name (i := 11) sc_law.nd rfl (by first | exact Or.inl rfl | exact Or.inr rfl))
    (pss_one (ps_if (pt_cmpR (op_neK (K := K) rfl hr.units) (pe_callR (ok__law_refused T) (hr.mono (by decide)) T.k__law_refused rfl T.m__law_refused passL (pa_cons (pv 4) (pa_cons (pv 11) (pa_cons (pv 6) (pa_cons (pv 10) pa_nil))))) (pe_lst (pa_cons pe_str (pa_cons (pv 11) pa_nil))) (nomark _)) (pss_one (ps_ret pe_bl)) pss_nil)))
    (pss_cons (ps_if (pt_cmpR (op_neK (K := K) rfl hr.units) (pe_callR (ok__law_refused T) (hr.mono (by decide)) T.k__law_refused rfl T.m__law_refused passL (pa_cons (pv 4) (pa_cons (pe_ix (ix_K (K := K) rfl) (pv 5) pe_int (fun _ _ => rfl)) (pa_cons (pv 6) (pa_cons (pv 10) pa_nil))))) (pe_lst (pa_cons pe_str (pa_cons (pe_ix (ix_K (K := K) rfl) (pv 5) pe_int (fun _ _ => rfl)) pa_nil))) (nomark _)) (pss_one (ps_ret pe_bl)) pss_nil)
    (pss_cons (ps_if (pt_cmpR (op_neK (K := K) rfl hr.units) (pe_callR (ok__law_refused T) (hr.mono (by decide)) T.k__law_refused rfl T.m__law_refused passL (pa_cons (pv 4) (pa_cons (pe_ix (ix_K (K := K) rfl) (pv 5) pe_int (fun _ _ => rfl)) (pa_cons (pv 6) (pa_cons (pv 8) pa_nil))))) (pe_lst pa_nil) (nomark _)) (pss_one (ps_ret pe_bl)) pss_nil)
    (pss_cons (ps_expr (pe_bm PySem.F.plainAttrs_list PySem.F.slot_list_insert PySem.F.type_list_insert mt_insert (pv 6) (pa_cons (pe_callR (ok__law_draw T) (hr.mono (by decide)) T.k__law_draw rfl T.m__law_draw passL (pa_cons (pv 1) (pa_cons (pe_op (op_addK (K := K) rfl) (pe_callB (call_lenK (K := K) rfl) rfl T.b_len (by decide +kernel) (pa_cons (pv 6) pa_nil)) pe_int) pa_nil))) (pa_cons (pv 10) pa_nil))))
    (pss_one (ps_ret (pe_cmpR (op_eqK (K := K) rfl hr.units) (pe_callR (ok__law_refused T) (hr.mono (by decide)) T.k__law_refused rfl T.m__law_refused passL (pa_cons (pv 4) (pa_cons (pe_ix (ix_K (K := K) rfl) (pv 5) pe_int (fun _ _ => rfl)) (pa_cons (pv 6) (pa_cons (pv 8) pa_nil))))) (pe_lst (pa_cons pe_str (pa_cons (pe_ix (ix_K (K := K) rfl) (pv 5) pe_int (fun _ _ => rfl)) pa_nil))) (nomark _)))))))))))))))))))))), fun ns => ?der⟩
  case der => exact ⟨_, (SJ.asg (EJ.callP CM.pool (AP.one (PJ.var rfl))) (fun pool1 => (SJ.asg (EJ.callP CM.names (AP.cons (PJ.var rfl) (AP.one PJ.int))) (fun names2 => (SJ.asg (EJ.call CM.fn (AJ.one ((LJ.call CL.fn (AJ.cons ((PJ.var rfl)).e (AJ.cons (((LP.sl ((PJ.var rfl)).bo BP.none (BP.some PJ.int))).fz).e (AJ.cons ((LJ.callP CL.fn (AP.cons (PJ.var rfl) (AP.one (PJ.var rfl))))).fz (AJ.one (PJ.int).e)))))).fz)) (fun tables5 => (SJ.asg (EJ.cmeth1 tC_ref (EJ.callP CM.fn (AP.one (PJ.var rfl)))) (fun schema7 => (SJ.asg (EJ.op OpM.ixB (((PJ.var rfl)).bo).e (EJ.callP CM.draw (AP.cons (PJ.var rfl) (AP.one (PJ.call CP.lenB (AP.one ((PJ.var rfl)).bo)))))) (fun table9 => (SJ.asgL (LJ.dix (EJT.callP CT.fn (AP.cons (PJ.var rfl) (AP.cons ((LP.lst (t := (tRecL (TyL.cons tStr (TyL.cons (tList tStr) (TyL.one (tList (tList tStr))))))) (AP.lcons (PJ.var rfl) AP.lnil) (Nat.le_of_ble_eq_true rfl))).fz (AP.one PJ.int)))) ((OpP.selL Sel.here (PJ.var rfl) rfl)).e) (fun rows11 => (SJ.asgL (LJ.lc ((IJf.list ((OpP.selL (Sel.there Sel.here) (PJ.var rfl) rfl)).e)).b (fun name12 => GJ.name) (by decide) (fun name12 => (TP.yes).e) (fun name12 => (EJ.callP CM.draw (AP.cons (PJ.var rfl) (AP.one PJ.int))))) (fun cells13 => (SJ.seq (post1 := (fun (s23 : (List Int)) => [.fz (tScr K) ns, .fz tPool pool1, .fz (tList tStr) names2, .fz (tList (tRecL (TyL.cons tStr (TyL.cons (tList tStr) (TyL.one (tList (tList tStr))))))) tables5, .fz (tSch T.C_Schema T.C_Table T.C_Columns) schema7, .fz (tRecL (TyL.cons tStr (TyL.cons (tList tStr) (TyL.one (tList (tList tStr)))))) table9, .own (tTpl tInt) rows11, .own tInt s23, .any, .any, .any, .any, .any])) (SJ.if1m (TJ.and ((TP.test (PJ.op (OpP.neB (EqD.tup EqD.int) (Nat.le_of_ble_eq_true rfl)) (PJ.varB (.inl rfl)) ((LP.lst (t := (tTpl tInt)) AP.lnil (Nat.le_of_ble_eq_true rfl))).bo))).e (TJ.test (EJ.op (OpP.m OpP.gt) (EJ.callP CM.draw (AP.cons (PJ.var rfl) (AP.one PJ.int))) (PJ.int).e))) (SJ.asgL (LJ.call CL.listT (AJ.one (EJ.op OpM.ixB ((PJ.varB (.inl rfl))).e (EJ.callP CM.draw (AP.cons (PJ.var rfl) (AP.one (PJ.call CP.lenB (AP.one (PJ.varB (.inl rfl)))))))))) (fun cells18 => (SJ.last (SJ.augAt rfl (EJ.callP CM.draw (AP.cons (PJ.var rfl) (AP.one (PJ.call CP.lenB (AP.one (PJ.varB (.inl rfl))))))) (EJ.callP CM.draw (AP.cons (PJ.var rfl) (AP.one PJ.int))) (fun cells19 => (SJ.next (b := cells19) ⟨.inr rfl, .inr rfl, .inr rfl, .inr rfl, .inr rfl, .inr rfl, .inr rfl, .inr rfl, .inl rfl, .inl rfl, .inl rfl, .inl rfl, .inl rfl, True.intro⟩)))))) (SJ.next (b := cells13) ⟨.inr rfl, .inr rfl, .inr rfl, .inr rfl, .inr rfl, .inr rfl, .inr rfl, .inr rfl, .inl rfl, .inl rfl, .inl rfl, .inl rfl, .inl rfl, True.intro⟩)) (fun s23 => (SJ.asgP (PJ.call CP.tuple (AP.one (PJ.varB (.inl rfl)))) (fun row24 => (SJ.asg ((LJ.callP CL.list (AP.one (PJ.varB (.inl rfl))))).fz (fun kept25 => (SJ.guardM (TJ.or (TJ.not (TJ.val (EJ.call CM.fn (AJ.cons (EJ.callP CM.fn (AP.cons (PJ.var rfl) (AP.cons (OpP.selL Sel.here (PJ.var rfl) rfl) (AP.cons (PJ.varB (.inl rfl)) (AP.one (PJ.var rfl)))))) (AJ.one (EJ.op (OpP.m OpP.isN) (EJ.callP CM.fn (AP.cons (PJ.var rfl) (AP.cons (PJ.varB (.inl rfl)) (AP.one (PJ.var rfl))))) (PJ.non).e)))))) ((TP.test (PJ.op (OpP.neB (EqD.tup EqD.int) (Nat.le_of_ble_eq_true rfl)) (PJ.varB (.inl rfl)) ((PJ.var rfl)).bo))).e) (SJ.retP PJ.bl) (SJ.seq (post1 := (fun (s33 : (List (List Int))) => [.fz (tScr K) ns, .fz tPool pool1, .fz (tList tStr) names2, .fz (tList (tRecL (TyL.cons tStr (TyL.cons (tList tStr) (TyL.one (tList (tList tStr))))))) tables5, .fz (tSch T.C_Schema T.C_Table T.C_Columns) schema7, .fz (tRecL (TyL.cons tStr (TyL.cons (tList tStr) (TyL.one (tList (tList tStr)))))) table9, .own (tTpl tInt) s33, .own tInt s23, .fz (tTpl tInt) row24, .fz (tList (tTpl tInt)) kept25, .any, .any, .any])) (SJ.if1 (TP.test (PJ.op (OpP.neB (EqD.tup EqD.int) (Nat.le_of_ble_eq_true rfl)) (PJ.varB (.inl rfl)) ((LP.lst (t := (tTpl tInt)) AP.lnil (Nat.le_of_ble_eq_true rfl))).bo)) (SJ.last (SJ.popAt rfl (EJ.callP CM.draw (AP.cons (PJ.var rfl) (AP.one (PJ.call CP.lenB (AP.one (PJ.varB (.inl rfl))))))) (fun rows31 => (SJ.next (b := rows31) ⟨.inr rfl, .inr rfl, .inr rfl, .inr rfl, .inr rfl, .inr rfl, .inr rfl, .inr rfl, .inr rfl, .inr rfl, .inl rfl, .inl rfl, .inl rfl, True.intro⟩)))) (SJ.next (b := rows11) ⟨.inr rfl, .inr rfl, .inr rfl, .inr rfl, .inr rfl, .inr rfl, .inr rfl, .inr rfl, .inr rfl, .inr rfl, .inl rfl, .inl rfl, .inl rfl, True.intro⟩)) (fun s33 => (SJ.guardM (TJ.not (TJ.val (EJ.call CM.fn (AJ.cons (EJ.callP CM.fn (AP.cons (PJ.var rfl) (AP.cons (OpP.selL Sel.here (PJ.var rfl) rfl) (AP.cons (PJ.varB (.inl rfl)) (AP.one (PJ.var rfl)))))) (AJ.one (EJ.op (OpP.m OpP.isN) (EJ.callP CM.fn (AP.cons (PJ.var rfl) (AP.cons (PJ.varB (.inl rfl)) (AP.one (PJ.var rfl))))) (PJ.non).e)))))) (SJ.retP PJ.bl) (SJ.asg (EJ.op OpM.ixB ((LJ.lst (AJ.lcons ((PJ.slT (PJ.var rfl) (BP.some PJ.int) BP.none)).e (AJ.lcons (EJ.opP OpM.catT (PJ.var rfl) (PJ.tup (AP.lcons PJ.int AP.lnil) (Nat.le_of_ble_eq_true rfl))) AP.lnil.e)))).bo (EJ.callP CM.draw (AP.cons (PJ.var rfl) (AP.one PJ.int)))) (fun bad42 => (SJ.forL (s0 := ()) (post0 := (fun (s48 : Unit) => [.fz (tScr K) ns, .fz tPool pool1, .fz (tList tStr) names2, .fz (tList (tRecL (TyL.cons tStr (TyL.cons (tList tStr) (TyL.one (tList (tList tStr))))))) tables5, .fz (tSch T.C_Schema T.C_Table T.C_Columns) schema7, .fz (tRecL (TyL.cons tStr (TyL.cons (tList tStr) (TyL.one (tList (tList tStr)))))) table9, .own (tTpl tInt) s33, .own tInt s23, .fz (tTpl tInt) row24, .fz (tList (tTpl tInt)) kept25, .fz (tTpl tInt) bad42, .any, .any])) (IJf.list ((LJ.lst (AJ.lcons (EJ.opP OpM.ixB ((PJ.var rfl)).bo PJ.int) (AJ.lcons (PJ.str).e (AJ.lcons (EJ.op OpM.adds (PJ.str).e (EJ.slS (EJ.opP OpM.ixB ((PJ.var rfl)).bo PJ.int) BP.none.e (BP.some PJ.int).e)) AP.lnil.e))))).fz) ⟨.inr rfl, .inr rfl, .inr rfl, .inr rfl, .inr rfl, .inr rfl, .inr rfl, .inr rfl, .inr rfl, .inr rfl, .inr rfl, .inl rfl, .inl rfl, True.intro⟩ (fun s48 x49 => GJ.name)
   (fun s48 x49 => (SJ.if1m (TJ.test (EJ.op (OpP.m (OpP.ne (EqD.optL (EqL.cons EqD.str (EqL.one EqD.str)) (fun _ => ⟨eqv_nc, eqv_cn⟩)) (Nat.le_of_ble_eq_true rfl))) (EJ.callP CM.fn (AP.cons (PJ.var rfl) (AP.cons (PJ.var rfl) (AP.cons (PJ.varB (.inl rfl)) (AP.one (PJ.var rfl)))))) ((PJ.someL (PJ.recL (TyL.len_cons TyL.len_one) (AP.rcons PJ.str (AP.rone (PJ.var rfl)))))).e)) (SJ.retP PJ.bl) (SJ.next (b := ()) ⟨.inr rfl, .inr rfl, .inr rfl, .inr rfl, .inr rfl, .inr rfl, .inr rfl, .inr rfl, .inr rfl, .inr rfl, .inr rfl, .inl rfl, .inl rfl, True.intro⟩)))
   (fun s48 => (SJ.guardM (TJ.test (EJ.op (OpP.m (OpP.ne (EqD.optL (EqL.cons EqD.str (EqL.one EqD.str)) (fun _ => ⟨eqv_nc, eqv_cn⟩)) (Nat.le_of_ble_eq_true rfl))) (EJ.callP CM.fn (AP.cons (PJ.var rfl) (AP.cons (OpP.selL Sel.here (PJ.var rfl) rfl) (AP.cons (PJ.varB (.inl rfl)) (AP.one (PJ.var rfl)))))) ((PJ.someL (PJ.recL (TyL.len_cons TyL.len_one) (AP.rcons PJ.str (AP.rone (OpP.selL Sel.here (PJ.var rfl) rfl)))))).e)) (SJ.retP PJ.bl) (SJ.guardM (TJ.test (EJ.op (OpP.m (OpP.ne (EqD.optL (EqL.cons EqD.str (EqL.one EqD.str)) (fun _ => ⟨eqv_nc, eqv_cn⟩)) (Nat.le_of_ble_eq_true rfl))) (EJ.callP CM.fn (AP.cons (PJ.var rfl) (AP.cons (OpP.selL Sel.here (PJ.var rfl) rfl) (AP.cons (PJ.varB (.inl rfl)) (AP.one (PJ.var rfl)))))) ((PJ.nonL (u := tInt) (LP.lst (t := tInt) AP.lnil (Nat.le_of_ble_eq_true rfl)).fz)).e)) (SJ.retP PJ.bl) (SJ.insert rfl (AJ.cons (EJ.callP CM.draw (AP.cons (PJ.var rfl) (AP.one (PJ.op OpP.add (PJ.call CP.lenB (AP.one (PJ.varB (.inl rfl)))) PJ.int)))) (AJ.one ((PJ.var rfl)).e)) (fun rows54 => (SJ.ret (EJ.op (OpP.m (OpP.eq (EqD.optL (EqL.cons EqD.str (EqL.one EqD.str)) (fun _ => ⟨eqv_nc, eqv_cn⟩)) (Nat.le_of_ble_eq_true rfl))) (EJ.callP CM.fn (AP.cons (PJ.var rfl) (AP.cons (OpP.selL Sel.here (PJ.var rfl) rfl) (AP.cons (PJ.varB (.inl rfl)) (AP.one (PJ.var rfl)))))) ((PJ.someL (PJ.recL (TyL.len_cons TyL.len_one) (AP.rcons PJ.str (AP.rone (OpP.selL Sel.here (PJ.var rfl) rfl)))))).e)))))))))))))))))))))))))))))))))), by simp only [m_law, Mir.ret_bind, Mir.bind_bind, Mir.lt_eq, Mir.chk_bind, Mir.ret_bindO_nx, Mir.ret_bindO_rt, mOr, pAnd, pSub, pLe, pLt, mAdds, mCat, mMul, mDiv, mMod, mPow, mSgn, mRng, mStr, mSort, mJoin, mSplit, mCols, mApp, mExt, mIns, mSet, id, mIsName, mPart, mLenO, mIsSet, mRowKind, mPopAt, Mir.fail_bind, mInS, mNiS, mUpper, mSet1, mSortSet, mShl, mShr, mAnd, mMulS, mPutD, pIn, pNi]⟩
end
end Lw

namespace Lw
open PySem PySem.Spec PyProof.Rows
open L2 (cutS)
theorem r__law_labels2 {ns : List Str} (hn : ns.Nodup) (hl : 14 ≤ ns.length) (ok : ∀ x ∈ ns, isNm x = true) {E : Err → Prop} :
    (m__law_labels () ns).run (fun ls => ls.length = 6 ∧ ls.Nodup ∧ (∀ x ∈ ls, isNm x = true) ∧ ∀ x ∈ ls, x ∈ ns.take 14) E := by
  have fin : ∀ ls : List Str, ls.Nodup → (∀ x ∈ ls, x ∈ ns.take 14) → ls.length = 6 → ls.length = 6 ∧ ls.Nodup ∧ (∀ x ∈ ls, isNm x = true) ∧ ∀ x ∈ ls, x ∈ ns.take 14 := fun ls h1 h2 h3 => ⟨h3, h1, fun x hx => ok x (List.mem_of_mem_take (h2 x hx)), h2⟩
  unfold m__law_labels
  try simp only [Mir.run_exit, Mir.run_nox, Mir.run_bind, Mir.run_chk, Mir.run_ret, Mir.run_draw, Mir.run_ifB, Mir.run_any, Mir.run_bindO, Mir.lt_eq, mApp, mExt, mIns, mSet, mRng, mCat, mAdds]
  refine ⟨by decide, fun r _ _ => ?_⟩
  split
  · match ns, hl with
    | a0 :: a1 :: a2 :: a3 :: a4 :: a5 :: a6 :: a7 :: b0 :: b1 :: b2 :: b3 :: b4 :: b5 :: rs, _ =>
      have e : Mir.comp (rangeL 0 6) (fun k4 => (Mir.ret (true))) (fun k4 => (Mir.get (a0 :: a1 :: a2 :: a3 :: a4 :: a5 :: a6 :: a7 :: b0 :: b1 :: b2 :: b3 :: b4 :: b5 :: rs) ((7 : Int) - k4))) = .ret [a7, a6, a5, a4, a3, a2] := by
        have z := Mir.comp_ret (xs := rangeL 0 6) (t := fun _ => Mir.ret true) (e := fun k4 => (Mir.get (a0 :: a1 :: a2 :: a3 :: a4 :: a5 :: a6 :: a7 :: b0 :: b1 :: b2 :: b3 :: b4 :: b5 :: rs) ((7 : Int) - k4))) (p := fun _ => true)
          (g := fun k => (a0 :: a1 :: a2 :: a3 :: a4 :: a5 :: a6 :: a7 :: b0 :: b1 :: b2 :: b3 :: b4 :: b5 :: rs).getD (7 - k).toNat a0) (fun _ _ => rfl) fun k hk _ => by
            obtain ⟨h1, h2⟩ := rangeL_mem.mp hk
            have hlt : 7 - k < ((a0 :: a1 :: a2 :: a3 :: a4 :: a5 :: a6 :: a7 :: b0 :: b1 :: b2 :: b3 :: b4 :: b5 :: rs).length : Int) := by simp only [List.length_cons]; omega
            refine (get_int (by omega) hlt).trans ?_
            congr 1
            rw [List.getD_eq_getElem?_getD, List.getElem?_eq_getElem (by omega)]
            rfl
        rw [z]; rfl
      rw [e]
      refine fin _ ?_ (fun x hx => ?_) rfl
      · have q : ([a7, a6, a5, a4, a3, a2] : List Str) = [a2, a3, a4, a5, a6, a7].reverse := rfl
        rw [q]; refine (List.reverse_perm _).nodup_iff.mpr ?_
        exact hn.sublist (by
          have : [a2, a3, a4, a5, a6, a7] = (((a0 :: a1 :: a2 :: a3 :: a4 :: a5 :: a6 :: a7 :: b0 :: b1 :: b2 :: b3 :: b4 :: b5 :: rs).take 8).drop 2) := rfl
          rw [this]
          exact (List.drop_sublist _ _).trans (List.take_sublist _ _))
      · show x ∈ [a0, a1, a2, a3, a4, a5, a6, a7, b0, b1, b2, b3, b4, b5]
        simp only [List.mem_cons, List.not_mem_nil, or_false] at hx ⊢
        rcases hx with h | h | h | h | h | h <;> simp [h]
  · have e : cutL ns (some (8 : Int)) (some (14 : Int)) = (ns.take 14).drop 8 := cutL_mid ns 8 14
    rw [e]
    have s : ((ns.take 14).drop 8).Sublist ns := (List.drop_sublist _ _).trans (List.take_sublist _ _)
    exact fin _ (hn.sublist s) (fun x hx => List.mem_of_mem_drop hx) (by rw [List.length_drop, List.length_take]; omega)

end Lw

namespace Lw
open PySem PySem.Spec PyProof.Rows
open L2 (cutS)
theorem e__law_within (a b : List Str) : m__law_within a b = .ret (pLe a b) := by
  unfold m__law_within pLe
  show Mir.ret _ = _
  congr 1
  rw [List.all_map]
  rfl
theorem r__law_keys {cols key : List Str} {room : Int} (hc : cols.Nodup) (hk : key ≠ [] ∧ key.Nodup ∧ ∀ x ∈ key, x ∈ cols) (hr : 0 ≤ room) (hr2 : room ≤ 100) {E : Err → Prop} :
    (m__law_keys () cols key room).run (fun ks => KeysOk cols ks ∧ ks ≠ [] ∧ (ks.length : Int) ≤ room + 1) E := by
  unfold m__law_keys
  try simp only [Mir.run_exit, Mir.run_nox, Mir.run_bind, Mir.run_chk, Mir.run_ret, Mir.run_draw, Mir.run_ifB, Mir.run_any, Mir.run_bindO, Mir.lt_eq, mApp, mExt, mIns, mSet, mRng, mCat, mAdds]
  refine ⟨by decide, fun r h0 h1 => ?_⟩
  have hv : ∀ b : Bool, (Mir.get [(2 : Int), (7 : Int)] (if b = true then (1 : Int) else 0)) = .ret (if b = true then 7 else 2) := by intro b; cases b <;> exact Mir.get_t rfl
  rw [hv]
  try simp only [Mir.run_exit, Mir.run_nox, Mir.run_bind, Mir.run_chk, Mir.run_ret, Mir.run_draw, Mir.run_ifB, Mir.run_any, Mir.run_bindO, Mir.lt_eq, mApp, mExt, mIns, mSet, mRng, mCat, mAdds]
  refine ⟨⟨by split <;> decide, by split <;> decide⟩, ?_⟩
  refine Mir.forQ (fun _ ks => KeysOk cols ks ∧ ks ≠ [] ∧ (ks.length : Int) ≤ room + 1) ⟨⟨fun k h => by rw [List.mem_singleton.mp h]; exact hk, List.pairwise_singleton _ _⟩, by simp, by simp; omega⟩ (fun pre x suf ks e i => ?_) fun ks i => ?_
  · obtain ⟨i1, i2, i3⟩ := i
    try simp only [Mir.run_exit, Mir.run_nox, Mir.run_bind, Mir.run_chk, Mir.run_ret, Mir.run_draw, Mir.run_ifB, Mir.run_any, Mir.run_bindO, Mir.lt_eq, mApp, mExt, mIns, mSet, mRng, mCat, mAdds]
    by_cases hl : (decide ((ks.length : Int) ≤ room)) = true
    · rw [if_pos hl]
      refine ⟨by decide, fun r _ _ => ?_⟩
      split
      · refine Mir.comp_sub (fun x _ => ⟨by decide, fun _ _ _ => True.intro⟩) fun other ho => ?_
        rw [show Mir.comp ks (fun one17 => (((m__law_within one17 other)).bind fun v18 => (Mir.ifB v18 (Mir.ret true) (m__law_within other one17)))) (fun one17 => (Mir.ret (one17))) = .ret ((ks.filter fun k => pLe k other || pLe other k).map id) from Mir.comp_ret (fun k _ => by
          rw [e__law_within, e__law_within, Mir.ret_bind]; cases pLe k other <;> rfl) fun _ _ _ => rfl]
        try simp only [Mir.run_exit, Mir.run_nox, Mir.run_bind, Mir.run_chk, Mir.run_ret, Mir.run_draw, Mir.run_ifB, Mir.run_any, Mir.run_bindO, Mir.lt_eq, mApp, mExt, mIns, mSet, mRng, mCat, mAdds]
        rw [List.map_id]
        split
        · rename_i hh
          simp only [Bool.and_eq_true, decide_eq_true_eq] at hh
          obtain ⟨h1, h2⟩ := hh
          have hl := of_decide_eq_true hl
          refine ⟨by show ks.length < 90000; omega, ⟨fun k h => ?_, ?_⟩, by simp, by rw [List.length_append]; show ((ks.length + 1 : Nat) : Int) ≤ _; omega⟩
          · rcases List.mem_append.mp h with h | h
            · exact i1.key k h
            · rw [List.mem_singleton.mp h]
              exact ⟨h1, hc.sublist ho, fun x hx => ho.subset hx⟩
          · refine List.pairwise_append.mpr ⟨i1.anti, List.pairwise_singleton _ _, fun a ha b hb => ?_⟩
            rw [List.mem_singleton.mp hb]
            have z : ¬ (pLe a other || pLe other a) = true := fun q => by
              have : a ∈ ks.filter fun k => pLe k other || pLe other k := List.mem_filter.mpr ⟨ha, q⟩
              rw [h2] at this; cases this
            rw [Bool.or_eq_true] at z
            exact ⟨fun q => z (.inl (pLe_iff.mpr q)), fun q => z (.inr (pLe_iff.mpr q))⟩
        · exact ⟨i1, i2, i3⟩
      · exact ⟨i1, i2, i3⟩
    · rw [if_neg hl]
      simp only [Bool.false_eq_true, if_false]
      exact ⟨i1, i2, i3⟩
  · try simp only [Mir.run_exit, Mir.run_nox, Mir.run_bind, Mir.run_chk, Mir.run_ret, Mir.run_draw, Mir.run_ifB, Mir.run_any, Mir.run_bindO, Mir.lt_eq, mApp, mExt, mIns, mSet, mRng, mCat, mAdds]
    exact i

end Lw

namespace Lw
open PySem PySem.Spec PyProof.Rows
open L2 (cutS)
theorem r__law_fresh {nm : List Str} {ts : List LT} (hn : nm.Nodup) (hne : nm ≠ []) (hl : nm.length ≤ 16) {E : Err → Prop} :
    (m__law_fresh () nm ts).run (fun r => MadeOk nm r.1 r.2) E := by
  have hpos := List.length_pos_iff.mpr hne
  unfold m__law_fresh
  try simp only [Mir.run_exit, Mir.run_nox, Mir.run_bind, Mir.run_chk, Mir.run_ret, Mir.run_draw, Mir.run_ifB, Mir.run_any, Mir.run_bindO, Mir.lt_eq, mApp, mExt, mIns, mSet, mRng, mCat, mAdds]
  refine ⟨by decide, fun n0 hn0 hn1 => ⟨by omega, ?_⟩⟩
  generalize hseen : (List.filter (fun name6 => (List.map (fun table7 => decide (name6 ∈ table7.2.1)) ts).any id) nm).length = seen
  have hsl : seen ≤ nm.length := by rw [← hseen]; exact List.length_filter_le _ _
  refine Mir.forQ (fun pre (s : Int × List Str) => ∃ k : Nat, s.1 = (k : Int) ∧ k ≤ nm.length ∧ (∀ x ∈ s.2, x ∈ nm.take k) ∧ s.2.Nodup ∧ (pre ≠ [] → s.2 ≠ [])) ⟨seen, rfl, hsl, fun x h => (by simp at h), List.nodup_nil, fun h => absurd rfl h⟩ (fun pre x suf s e i => ?_) fun s i => ?_
  · obtain ⟨k, hk, hkl, hs, hsn, _⟩ := i
    obtain ⟨s1, key⟩ := s
    have hk : s1 = (k : Int) := hk
    subst hk
    have hs : ∀ x ∈ key, x ∈ nm.take k := hs
    have hsn : key.Nodup := hsn
    try simp only [Mir.run_exit, Mir.run_nox, Mir.run_bind, Mir.run_chk, Mir.run_ret, Mir.run_draw, Mir.run_ifB, Mir.run_any, Mir.run_bindO, Mir.lt_eq, mApp, mExt, mIns, mSet, mRng, mCat, mAdds]
    refine ⟨by split <;> omega, fun at_ ha0 ha1 => ?_⟩
    have hat : at_ ≤ (k : Int) ∧ at_ < (nm.length : Int) := by
      split at ha1
      · omega
      · exact ⟨by omega, ha1⟩
    -- the place after
    have fin : ∀ k' : Nat, k' ≤ nm.length → k ≤ k' → at_ < (k' : Int) →
        (Mir.get nm at_).run (fun a => if decide (a ∉ key) = true then (Mir.get nm at_).run (fun a => key.length < mxL ∧ ∃ k : Nat, ((k' : Int)) = (k : Int) ∧ k ≤ nm.length ∧ (∀ x ∈ key ++ [a], x ∈ nm.take k) ∧ (key ++ [a]).Nodup ∧ (pre ++ [x] ≠ [] → key ++ [a] ≠ [])) E else ∃ k : Nat, ((k' : Int)) = (k : Int) ∧ k ≤ nm.length ∧ (∀ x ∈ key, x ∈ nm.take k) ∧ key.Nodup ∧ (pre ++ [x] ≠ [] → key ≠ [])) E := by
      intro k' h1 h2 h3
      refine Mir.run_get_of ha0 hat.2 fun a ha hm => ?_
      split
      · rename_i hq
        have hq := of_decide_eq_true hq
        refine Mir.run_get_of ha0 hat.2 fun b hb _ => ?_
        have hab : b = a := by rw [ha] at hb; exact (Option.some.inj hb).symm
        subst hab
        have hkl2 : key.length ≤ nm.length := nd_len hsn fun x hx => List.mem_of_mem_take (hs x hx)
        refine ⟨by show _ < 90000; omega, k', rfl, h1, fun y hy => ?_, ?_, fun _ => by simp⟩
        · rcases List.mem_append.mp hy with h | h
          · exact take_up (hs y h) h2
          · rw [List.mem_singleton.mp h]; exact mem_take ha (by omega)
        · exact List.nodup_append.mpr ⟨hsn, by simp, fun y hy z hz e => hq (by rw [List.mem_singleton.mp hz] at e; rw [← e]; exact hy)⟩
      · rename_i hq
        have hq : a ∈ key := Decidable.byContradiction fun z => hq (decide_eq_true z)
        exact ⟨k', rfl, h1, fun y hy => take_up (hs y hy) h2, hsn, fun _ e => by rw [e] at hq; simp at hq⟩
    by_cases hq : at_ = (k : Int)
    · rw [if_pos (decide_eq_true hq)]
      have z := fin (k + 1) (by omega) (by omega) (by omega)
      rw [show (((k + 1 : Nat)) : Int) = (k : Int) + 1 by omega] at z
      exact z
    · rw [if_neg (by simpa using hq)]
      exact fin k hkl (Nat.le_refl _) (by omega)
  · obtain ⟨k, hk, hkl, hs, hsn, hkne⟩ := i
    obtain ⟨s1, key⟩ := s
    have hk : s1 = (k : Int) := hk
    subst hk
    have hs : ∀ x ∈ key, x ∈ nm.take k := hs
    have hsn : key.Nodup := hsn
    have hkne : key ≠ [] := hkne fun e => by
      have := congrArg List.length e
      rw [rangeL_len] at this
      simp at this
      omega
    try simp only [Mir.run_exit, Mir.run_nox, Mir.run_bind, Mir.run_chk, Mir.run_ret, Mir.run_draw, Mir.run_ifB, Mir.run_any, Mir.run_bindO, Mir.lt_eq, mApp, mExt, mIns, mSet, mRng, mCat, mAdds]
    refine ⟨by decide, fun m0 hm0 hm1 => ⟨by omega, ?_⟩⟩
    refine Mir.forQ (fun _ (s : Int × List Str) => ∃ k : Nat, s.1 = (k : Int) ∧ k ≤ nm.length ∧ (∀ x ∈ s.2, x ∈ nm.take k) ∧ s.2.Nodup ∧ ∀ x ∈ key, x ∈ s.2) ⟨k, rfl, hkl, hs, hsn, fun _ h => h⟩ (fun pre x suf s e i => ?_) fun s i => ?_
    · obtain ⟨j, hj, hjl, ct, cn, ck⟩ := i
      obtain ⟨s1, cols⟩ := s
      have hj : s1 = (j : Int) := hj
      subst hj
      have ct : ∀ x ∈ cols, x ∈ nm.take j := ct
      have cn : cols.Nodup := cn
      have ck : ∀ x ∈ key, x ∈ cols := ck
      try simp only [Mir.run_exit, Mir.run_nox, Mir.run_bind, Mir.run_chk, Mir.run_ret, Mir.run_draw, Mir.run_ifB, Mir.run_any, Mir.run_bindO, Mir.lt_eq, mApp, mExt, mIns, mSet, mRng, mCat, mAdds]
      split
      · rename_i hq
        have hq : (j : Int) < (nm.length : Int) := of_decide_eq_true hq
        have hcl : cols.length ≤ nm.length := nd_len cn fun x hx => List.mem_of_mem_take (ct x hx)
        refine ⟨by show (0 : Int) < (cols.length : Int) + 1; omega, fun r hr0 hr1 => ?_⟩
        have hr1 : r < (cols.length : Int) + 1 := hr1
        refine Mir.run_get_of (by omega) hq fun a ha hm => ?_
        have ha : nm[j]? = some a := ha
        refine ⟨⟨by show cols.length < 90000; omega, hr0, by omega⟩, j + 1, by omega, by omega, fun y hy => ?_, ?_, fun y hy => insAt_mem.mpr (.inr (ck y hy))⟩
        · rcases insAt_mem.mp hy with h | h
          · rw [h]; exact mem_take ha (by omega)
          · exact take_up (ct y h) (by omega)
        · exact insAt_perm.nodup_iff.mpr (List.nodup_cons.mpr ⟨fun z => nd_take hn ha (ct a z), cn⟩)
      · exact ⟨j, rfl, hjl, ct, cn, ck⟩
    · obtain ⟨j, hj, hjl, ct, cn, ck⟩ := i
      try simp only [Mir.run_exit, Mir.run_nox, Mir.run_bind, Mir.run_chk, Mir.run_ret, Mir.run_draw, Mir.run_ifB, Mir.run_any, Mir.run_bindO, Mir.lt_eq, mApp, mExt, mIns, mSet, mRng, mCat, mAdds]
      exact ⟨fun x hx => List.mem_of_mem_take (ct x hx), cn, fun e => hkne (List.eq_nil_iff_forall_not_mem.mpr fun y hy => by have := ck y hy; rw [e] at this; simp at this), hkne, hsn, ck⟩

end Lw

namespace Lw
open PySem PySem.Spec PyProof.Rows
open L2 (cutS)
theorem r__law_tables {nm labels : List Str} {most : Int} (hn : nm.Nodup) (hne : nm ≠ []) (hl : nm.length ≤ 8) (hok : ∀ x ∈ nm, isNm x = true) (lok : ∀ x ∈ labels, isNm x = true) (ll : most ≤ labels.length) (h1 : 1 ≤ most) (h2 : most ≤ 8) {E : Err → Prop} :
    (m__law_tables () nm labels most).run (fun ts => Drawn nm labels most ts ∧ ts.map (·.1) = labels.take ts.length) E := by
  unfold m__law_tables
  try simp only [Mir.run_exit, Mir.run_nox, Mir.run_bind, Mir.run_chk, Mir.run_ret, Mir.run_draw, Mir.run_ifB, Mir.run_any, Mir.run_bindO, Mir.lt_eq, mApp, mExt, mIns, mSet, mRng, mCat, mAdds]
  refine ⟨by decide, fun w _ _ => ⟨by omega, fun n0 hn0 hn1 => ⟨by omega, ?_⟩⟩⟩
  refine Mir.forQ (fun pre (s : Int × List LT) => s.2.length = pre.length ∧ s.2.map (·.1) = labels.take pre.length ∧ (∀ t ∈ s.2, OkT t) ∧ (∀ t ∈ s.2, ∀ x ∈ t.2.1, x ∈ nm) ∧ (keyN s.2 : Int) + s.1 + (1 + n0 - (pre.length : Int)) = 8 ∧ 0 ≤ s.1)
    ⟨rfl, rfl, fun t h => by simp at h, fun t h => by simp at h, by show (0 : Int) + (8 - (1 + n0)) + (1 + n0 - 0) = 8; omega, by show 0 ≤ 8 - (1 + n0); omega⟩ (fun pre x suf s e i => ?_) fun s i => ?_
  · obtain ⟨i1, i2, i3, i4, i5, i6⟩ := i
    obtain ⟨room, ts⟩ := s
    obtain ⟨ex, hx, _⟩ := rangeL_pre e
    have i1 : ts.length = pre.length := i1
    have i2 : ts.map (·.1) = labels.take pre.length := i2
    have i3 : ∀ t ∈ ts, OkT t := i3
    have i4 : ∀ t ∈ ts, ∀ x ∈ t.2.1, x ∈ nm := i4
    have i5 : (keyN ts : Int) + room + (1 + n0 - (pre.length : Int)) = 8 := i5
    have i6 : 0 ≤ room := i6
    have hx2 : (pre.length : Int) < 1 + n0 := by omega
    have step : ∀ (cols key : List Str), MadeOk nm cols key → (m__law_keys () cols key room).run (fun a => (Mir.get labels x).run (fun a_1 => ts.length < mxL ∧ ((ts ++ [(a_1, cols, a)]).length = (pre ++ [x]).length ∧ (ts ++ [(a_1, cols, a)]).map (·.1) = labels.take (pre ++ [x]).length ∧ (∀ t ∈ ts ++ [(a_1, cols, a)], OkT t) ∧ (∀ t ∈ ts ++ [(a_1, cols, a)], ∀ x ∈ t.2.1, x ∈ nm) ∧
        (keyN (ts ++ [(a_1, cols, a)]) : Int) + (room + 1 - (a.length : Int)) + (1 + n0 - ((pre ++ [x]).length : Int)) = 8 ∧ 0 ≤ room + 1 - (a.length : Int))) E) E := by
      intro cols key m
      refine Mir.ret_of (r__law_keys m.nd m.key i6 (by omega)) fun ks ⟨k1, k2, k3⟩ => ?_
      refine Mir.run_get_of (by omega) (by omega) fun lb hlb hmem => ?_
      have o : OkT (lb, cols, ks) := okT_of hok hl (lok lb hmem) m k1 k2 (by omega)
      have el : (pre ++ [x]).length = pre.length + 1 := by simp
      refine ⟨by show _ < 90000; omega, by rw [List.length_append, el, i1]; rfl, ?_, ?_, ?_, ?_, by omega⟩
      · rw [el, List.map_append, i2, List.take_add_one]
        congr 1
        have : labels[pre.length]? = some lb := by rw [ex] at hlb; exact hlb
        rw [this]; rfl
      · intro t ht
        rcases List.mem_append.mp ht with h | h
        · exact i3 t h
        · rw [List.mem_singleton.mp h]; exact o
      · intro t ht
        rcases List.mem_append.mp ht with h | h
        · exact i4 t h
        · rw [List.mem_singleton.mp h]; exact m.sub
      · rw [el, keyN_snoc]
        show ((keyN ts + ks.length : Nat) : Int) + _ + _ = 8
        omega
    try simp only [Mir.run_exit, Mir.run_nox, Mir.run_bind, Mir.run_chk, Mir.run_ret, Mir.run_draw, Mir.run_ifB, Mir.run_any, Mir.run_bindO, Mir.lt_eq, mApp, mExt, mIns, mSet, mRng, mCat, mAdds]
    split
    · unfold mWild
      try simp only [Mir.run_exit, Mir.run_nox, Mir.run_bind, Mir.run_chk, Mir.run_ret, Mir.run_draw, Mir.run_ifB, Mir.run_any, Mir.run_bindO, Mir.lt_eq, mApp, mExt, mIns, mSet, mRng, mCat, mAdds]
      exact ⟨⟨hne, by omega, hn⟩, fun r hr => step r.1 r.2 (MadeOk.wild hr)⟩
    · exact Mir.ret_of (r__law_fresh hn hne (by omega)) fun r hr => step r.1 r.2 hr
  · obtain ⟨i1, i2, i3, i4, i5, i6⟩ := i
    rw [rangeL_len] at i1 i2 i5
    try simp only [Mir.run_exit, Mir.run_nox, Mir.run_bind, Mir.run_chk, Mir.run_ret, Mir.run_draw, Mir.run_ifB, Mir.run_any, Mir.run_bindO, Mir.lt_eq, mApp, mExt, mIns, mSet, mRng, mCat, mAdds]
    exact ⟨⟨i3, i4, by rw [i1, i2], by omega, by rw [i1]; omega, fun z => by rw [z] at i1; simp at i1; omega⟩, by rw [i1]; exact i2⟩

end Lw

namespace Lw
open PySem PySem.Spec PyProof.Rows
open L2 (cutS)
theorem two_nd {a b : Str} (h : a ≠ b) : [a, b].Nodup := by simp [h]
theorem r__law_chain {nm labels : List Str} {most : Int} (hn : nm.Nodup) (hl : nm.length = 8) (hok : ∀ x ∈ nm, isNm x = true) (lok : ∀ x ∈ labels, isNm x = true) (ll : most ≤ labels.length) (h1 : 2 ≤ most) (h2 : most ≤ 7) {E : Err → Prop} :
    (m__law_chain () nm labels most).run (fun ts => Drawn nm labels most ts) E := by
  have neq : ∀ {i j : Nat} {a b : Str}, nm[i]? = some a → nm[j]? = some b → i ≠ j → a ≠ b := by
    intro i j a b ha hb hij e
    subst e
    have pw := List.pairwise_iff_getElem.mp hn
    obtain ⟨hi, ei⟩ := List.getElem?_eq_some_iff.mp ha
    obtain ⟨hj, ej⟩ := List.getElem?_eq_some_iff.mp hb
    rcases Nat.lt_or_gt_of_ne hij with q | q
    · exact pw i j hi hj q (by rw [ei, ej])
    · exact pw j i hj hi q (by rw [ei, ej])
  unfold m__law_chain
  try simp only [Mir.run_exit, Mir.run_nox, Mir.run_bind, Mir.run_chk, Mir.run_ret, Mir.run_draw, Mir.run_ifB, Mir.run_any, Mir.run_bindO, Mir.lt_eq, mApp, mExt, mIns, mSet, mRng, mCat, mAdds]
  refine ⟨by omega, fun n0 hn0 hn1 => ⟨by omega, ?_⟩⟩
  refine Mir.forQ (fun pre (ts : List LT) => ts.length = pre.length ∧ (ts.map (·.1)).Perm (labels.take pre.length) ∧ (∀ t ∈ ts, OkT t) ∧ (∀ t ∈ ts, ∀ x ∈ t.2.1, x ∈ nm) ∧ keyN ts = pre.length)
    ⟨rfl, List.Perm.refl _, fun t h => by simp at h, fun t h => by simp at h, rfl⟩ (fun pre x suf ts e i => ?_) fun s i => ?_
  · obtain ⟨i1, i2, i3, i4, i5⟩ := i
    obtain ⟨ex, hx, _⟩ := rangeL_pre e
    have hx0 : 0 ≤ x := by omega
    have hx2 : x < 2 + n0 := by omega
    have xn : x.toNat = pre.length := by omega
    -- a pair, its columns, the table
    have step : ∀ (a b : Str), a ∈ nm → b ∈ nm → a ≠ b → (∀ z, nm[7]? = some z → z ≠ a ∧ z ≠ b) → ∀ c0 : List Str, c0.Perm [a, b] → ∀ E : Err → Prop,
        (((Mir.draw (4 : Int))).bind fun v23 => Mir.ret ((decide (v23 = (1 : Int))))).run (fun a_1 => (Mir.ifB a_1 (((Mir.draw (3 : Int))).bind fun v25 => (((Mir.get nm (7 : Int))).bind fun v26 => (mIns c0 v25 v26 fun columns24 => (Mir.ret (Out.nx (ρ := List LT) columns24))))) (Mir.ret (Out.nx c0))).run (fun o => match o with
          | .nx s27 => (((Mir.draw (((ts).length : Int) + (1 : Int)))).bind fun v31 => (((((Mir.get labels x)).bind fun v30 => Mir.ret (v30, s27, [(cutL [a, b] none (some (1 : Int)))]))).bind fun v32 => (mIns ts v31 v32 fun tables29 => (Mir.ret (Out.nx (ρ := List LT) tables29))))).run (fun o => match o with | .nx s' => s'.length = (pre ++ [x]).length ∧ (s'.map (·.1)).Perm (labels.take (pre ++ [x]).length) ∧ (∀ t ∈ s', OkT t) ∧ (∀ t ∈ s', ∀ x ∈ t.2.1, x ∈ nm) ∧ keyN s' = (pre ++ [x]).length | .rt r => Drawn nm labels most r) E
          | .rt r => Drawn nm labels most r) E) E := by
      intro a b ha hb hab h7 c0 p0 E
      have last : ∀ cols : List Str, cols.Nodup → (∀ x ∈ cols, x ∈ nm) → a ∈ cols → cols ≠ [] → (((Mir.draw (((ts).length : Int) + (1 : Int)))).bind fun v31 => (((((Mir.get labels x)).bind fun v30 => Mir.ret (v30, cols, [(cutL [a, b] none (some (1 : Int)))]))).bind fun v32 => (mIns ts v31 v32 fun tables29 => (Mir.ret (Out.nx (ρ := List LT) tables29))))).run (fun o => match o with | .nx s' => s'.length = (pre ++ [x]).length ∧ (s'.map (·.1)).Perm (labels.take (pre ++ [x]).length) ∧ (∀ t ∈ s', OkT t) ∧ (∀ t ∈ s', ∀ x ∈ t.2.1, x ∈ nm) ∧ keyN s' = (pre ++ [x]).length | .rt r => Drawn nm labels most r) E := by
        intro cols cn cs ca cne
        try simp only [Mir.run_exit, Mir.run_nox, Mir.run_bind, Mir.run_chk, Mir.run_ret, Mir.run_draw, Mir.run_ifB, Mir.run_any, Mir.run_bindO, Mir.lt_eq, mApp, mExt, mIns, mSet, mRng, mCat, mAdds]
        refine ⟨by omega, fun r hr0 hr1 => ?_⟩
        refine Mir.run_get_of hx0 (by omega) fun lb hlb hmem => ?_
        have ek : cutL [a, b] none (some (1 : Int)) = [a] := cutL_to [a, b] 1
        have o : OkT (lb, cols, [cutL [a, b] none (some (1 : Int))]) := by
          rw [ek]
          exact okT_of (key := [a]) hok (by omega) (lok lb hmem) ⟨cs, cn, cne, by simp, by simp, fun y hy => by rw [List.mem_singleton.mp hy]; exact ca⟩ ⟨fun k hk => by rw [List.mem_singleton.mp hk]; exact ⟨by simp, by simp, fun y hy => by rw [List.mem_singleton.mp hy]; exact ca⟩, List.pairwise_singleton _ _⟩ (by simp) (Nat.le_of_ble_eq_true rfl)
        have el : (pre ++ [x]).length = pre.length + 1 := by simp
        refine ⟨⟨by show ts.length < 90000; omega, hr0, by omega⟩, by rw [insAt_len, el, i1], ?_, fun t ht => ?_, fun t ht => ?_, ?_⟩
        · have hlb' : labels[pre.length]? = some lb := by rw [← xn]; exact hlb
          rw [el, List.take_add_one, hlb']
          refine (insAt_perm.map _).trans ?_
          rw [List.map_cons]
          refine (List.Perm.cons _ i2).trans ?_
          exact (List.perm_append_comm (l₁ := [lb]) (l₂ := labels.take pre.length))
        · rcases insAt_mem.mp ht with h | h
          · rw [h]; exact o
          · exact i3 t h
        · rcases insAt_mem.mp ht with h | h
          · rw [h]; exact cs
          · exact i4 t h
        · unfold keyN
          rw [(insAt_perm.map _).sum_nat, List.map_cons, List.sum_cons, el]
          have := i5
          unfold keyN at this
          rw [this]
          show 1 + _ = _
          omega
      have c0n : c0.Nodup := p0.nodup_iff.mpr (two_nd hab)
      have c0s : ∀ x ∈ c0, x ∈ nm := fun y hy => by
        have := p0.mem_iff.mp hy
        simp only [List.mem_cons, List.not_mem_nil, or_false] at this
        rcases this with h | h <;> rw [h] <;> assumption
      have c0a : a ∈ c0 := p0.mem_iff.mpr (by simp)
      have c0l : c0.length = 2 := p0.length_eq
      refine ⟨by decide, fun r _ _ => ?_⟩
      show (Mir.ifB (decide (r = 1)) _ _).run _ E
      rw [Mir.run_ifB]
      split
      · refine ⟨by decide, fun r2 hr0 hr1 => ?_⟩
        refine Mir.run_get_of (E := E) (by decide) (by omega) fun z hz hzm => ?_
        refine ⟨⟨by show c0.length < 90000; omega, hr0, by omega⟩, ?_⟩
        refine last _ (insAt_perm.nodup_iff.mpr (List.nodup_cons.mpr ⟨fun q => ?_, c0n⟩)) (fun y hy => ?_) (insAt_mem.mpr (.inr c0a)) (fun q => by have := congrArg List.length q; rw [insAt_len] at this; simp at this)
        · have := p0.mem_iff.mp q
          simp only [List.mem_cons, List.not_mem_nil, or_false] at this
          have h7 := h7 z hz
          exact this.elim h7.1 h7.2
        · rcases insAt_mem.mp hy with h | h
          · rw [h]; exact hzm
          · exact c0s y h
      · exact last c0 c0n c0s c0a (fun q => by rw [q] at c0a; simp at c0a)
    have mid : ∀ (a b : Str), a ∈ nm → b ∈ nm → a ≠ b → (∀ z, nm[7]? = some z → z ≠ a ∧ z ≠ b) → ∀ E : Err → Prop,
        (0 < (2 : Int)) ∧ ∀ r : Int, 0 ≤ r → r < 2 → if decide (r = 1) = true then (((Mir.draw (4 : Int))).bind fun v23 => Mir.ret ((decide (v23 = (1 : Int))))).run (fun a_1 => (Mir.ifB a_1 (((Mir.draw (3 : Int))).bind fun v25 => (((Mir.get nm (7 : Int))).bind fun v26 => (mIns [a, b].reverse v25 v26 fun columns24 => (Mir.ret (Out.nx (ρ := List LT) columns24))))) (Mir.ret (Out.nx [a, b].reverse))).run (fun o => match o with
          | .nx s27 => (((Mir.draw (((ts).length : Int) + (1 : Int)))).bind fun v31 => (((((Mir.get labels x)).bind fun v30 => Mir.ret (v30, s27, [(cutL [a, b] none (some (1 : Int)))]))).bind fun v32 => (mIns ts v31 v32 fun tables29 => (Mir.ret (Out.nx (ρ := List LT) tables29))))).run (fun o => match o with | .nx s' => s'.length = (pre ++ [x]).length ∧ (s'.map (·.1)).Perm (labels.take (pre ++ [x]).length) ∧ (∀ t ∈ s', OkT t) ∧ (∀ t ∈ s', ∀ x ∈ t.2.1, x ∈ nm) ∧ keyN s' = (pre ++ [x]).length | .rt r => Drawn nm labels most r) E
          | .rt r => Drawn nm labels most r) E) E else (((Mir.draw (4 : Int))).bind fun v23 => Mir.ret ((decide (v23 = (1 : Int))))).run (fun a_1 => (Mir.ifB a_1 (((Mir.draw (3 : Int))).bind fun v25 => (((Mir.get nm (7 : Int))).bind fun v26 => (mIns [a, b] v25 v26 fun columns24 => (Mir.ret (Out.nx (ρ := List LT) columns24))))) (Mir.ret (Out.nx [a, b]))).run (fun o => match o with
          | .nx s27 => (((Mir.draw (((ts).length : Int) + (1 : Int)))).bind fun v31 => (((((Mir.get labels x)).bind fun v30 => Mir.ret (v30, s27, [(cutL [a, b] none (some (1 : Int)))]))).bind fun v32 => (mIns ts v31 v32 fun tables29 => (Mir.ret (Out.nx (ρ := List LT) tables29))))).run (fun o => match o with | .nx s' => s'.length = (pre ++ [x]).length ∧ (s'.map (·.1)).Perm (labels.take (pre ++ [x]).length) ∧ (∀ t ∈ s', OkT t) ∧ (∀ t ∈ s', ∀ x ∈ t.2.1, x ∈ nm) ∧ keyN s' = (pre ++ [x]).length | .rt r => Drawn nm labels most r) E
          | .rt r => Drawn nm labels most r) E) E := fun a b ha hb hab h7 E => ⟨by decide, fun r _ _ => by
            split
            · exact step a b ha hb hab h7 _ (List.reverse_perm _) E
            · exact step a b ha hb hab h7 _ (List.Perm.refl _) E⟩
    try simp only [Mir.run_exit, Mir.run_nox, Mir.run_bind, Mir.run_chk, Mir.run_ret, Mir.run_draw, Mir.run_ifB, Mir.run_any, Mir.run_bindO, Mir.lt_eq, mApp, mExt, mIns, mSet, mRng, mCat, mAdds]
    refine Mir.run_get_of hx0 (by omega) fun a ha ham => ?_
    refine Mir.run_get_of (by omega) (by omega) fun b hb hbm => ?_
    refine ⟨by show 2 ≤ 90000; decide, ?_⟩
    have hb' : nm[pre.length + 1]? = some b := by rw [← hb]; congr 1; omega
    rw [xn] at ha
    split
    · rename_i hq
      have hq := of_decide_eq_true hq
      refine Mir.run_get_of (by decide) (by omega) fun a0 ha0 ham0 => ?_
      refine Mir.run_get_of hx0 (by omega) fun a1 ha1 ham1 => ?_
      refine ⟨by show 2 ≤ 90000; decide, ?_⟩
      rw [xn] at ha1
      have z := mid a0 a1 ham0 ham1 (neq ha0 ha1 (by show (0 : Int).toNat ≠ _; simp; omega)) (fun z hz => ⟨neq hz ha0 (by decide), neq hz ha1 (by omega)⟩) E
      try simp only [Mir.run_exit, Mir.run_nox, Mir.run_bind, Mir.run_chk, Mir.run_ret, Mir.run_draw, Mir.run_ifB, Mir.run_any, Mir.run_bindO, Mir.lt_eq, mApp, mExt, mIns, mSet, mRng, mCat, mAdds] at z
      exact z
    · have z := mid a b ham hbm (neq ha hb' (by omega)) (fun z hz => ⟨neq hz ha (by omega), neq hz hb' (by rename_i hq; have hq := of_decide_eq_false (Bool.eq_false_iff.mpr hq); omega)⟩) E
      try simp only [Mir.run_exit, Mir.run_nox, Mir.run_bind, Mir.run_chk, Mir.run_ret, Mir.run_draw, Mir.run_ifB, Mir.run_any, Mir.run_bindO, Mir.lt_eq, mApp, mExt, mIns, mSet, mRng, mCat, mAdds] at z
      exact z
  · obtain ⟨i1, i2, i3, i4, i5⟩ := i
    rw [rangeL_len] at i1 i2 i5
    try simp only [Mir.run_exit, Mir.run_nox, Mir.run_bind, Mir.run_chk, Mir.run_ret, Mir.run_draw, Mir.run_ifB, Mir.run_any, Mir.run_bindO, Mir.lt_eq, mApp, mExt, mIns, mSet, mRng, mCat, mAdds]
    exact ⟨i3, i4, by rw [i1]; exact i2, by omega, by rw [i1]; omega, fun z => by rw [z] at i1; simp at i1; omega⟩

end Lw

namespace Lw
open PySem PySem.Spec PyProof.Rows
open L2 (cutS)
theorem r__law_schema {nm labels : List Str} {most : Int} (hn : nm.Nodup) (hl : nm.length = 8) (hok : ∀ x ∈ nm, isNm x = true) (lok : ∀ x ∈ labels, isNm x = true) (ll : most ≤ labels.length) (h1 : 2 ≤ most) (h2 : most ≤ 7) {E : Err → Prop} :
    (m__law_schema () nm labels most).run (fun ts => Drawn nm labels most ts) E := by
  have hne : nm ≠ [] := fun e => by rw [e] at hl; simp at hl
  unfold m__law_schema
  try simp only [Mir.run_exit, Mir.run_nox, Mir.run_bind, Mir.run_chk, Mir.run_ret, Mir.run_draw, Mir.run_ifB, Mir.run_any, Mir.run_bindO, Mir.lt_eq, mApp, mExt, mIns, mSet, mRng, mCat, mAdds]
  refine Mir.ret_of (r__law_tables hn hne (by omega) hok lok ll (by omega) (by omega)) fun ts ⟨d, dl⟩ => ?_
  refine ⟨by decide, fun kd _ _ => ?_⟩
  split
  · exact r__law_chain hn hl hok lok ll h1 h2
  · split
    · rename_i hq
      simp only [Bool.and_eq_true, decide_eq_true_eq] at hq
      obtain ⟨_, q1, q2⟩ := hq
      have hpos := List.length_pos_iff.mpr d.pos
      have hsum : keyN ts < 8 := by
        have e : ∀ us : List LT, (us.map fun t => ((t.2.2.length : Nat) : Int)).sum = ((keyN us : Nat) : Int) := by
          intro us
          induction us with
          | nil => rfl
          | cons u us ih =>
            rw [List.map_cons, List.sum_cons, ih]
            unfold keyN
            rw [List.map_cons, List.sum_cons]
            omega
        rw [e] at q2
        omega
      refine ⟨by omega, fun i hi0 hi1 => ?_⟩
      refine Mir.run_get_of hi0 hi1 fun t ht htm => ?_
      have o := d.ok t htm
      have hk := List.length_pos_iff.mpr o.kpos
      refine ⟨by omega, fun j hj0 hj1 => ?_⟩
      refine Mir.run_get_of hj0 hj1 fun key hkey hkm => ?_
      have hc := List.length_pos_iff.mpr o.pos
      refine ⟨by omega, fun l hl0 hl1 => ?_⟩
      refine Mir.run_get_of hl0 hl1 fun one hone hom => ?_
      obtain ⟨k1, k2, k3⟩ := o.key key hkm
      have hkl := o.klen hkm
      have hcl : ([one].filter fun x => decide (x ∉ key)).length ≤ 1 := List.length_filter_le _ [one]
      refine ⟨by show _ ≤ 90000; omega, by omega, fun r hr0 hr1 => ?_⟩
      refine Mir.run_get_of (by omega) (by omega) fun lb hlb hlm => ?_
      have hlb' : labels[ts.length]? = some lb := by rw [← hlb]; congr 1
      generalize hcs : key ++ ([one].filter fun x => decide (x ∉ key)) = cols
      have cn : cols.Nodup := by rw [← hcs]; exact addC_nd k2 (by simp)
      have cs : ∀ x ∈ cols, x ∈ nm := fun x hx => by
        rw [← hcs] at hx
        rcases addC_mem.mp hx with h | h
        · exact d.sub t htm x (k3 x h)
        · rw [List.mem_singleton.mp h]; exact d.sub t htm one hom
      have cne : cols ≠ [] := fun e => by rw [← hcs] at e; exact k1 (List.append_eq_nil_iff.mp e).1
      have on : OkT (lb, cols, [cols]) := okT_of (key := cols) hok (by omega) (lok lb hlm) ⟨cs, cn, cne, cne, cn, fun _ h => h⟩ ⟨fun k hk => by rw [List.mem_singleton.mp hk]; exact ⟨cne, cn, fun _ h => h⟩, List.pairwise_singleton _ _⟩ (by simp) (Nat.le_of_ble_eq_true rfl)
      refine ⟨by show 1 ≤ 90000; decide, ⟨by show ts.length < 90000; have := d.len; omega, hr0, by omega⟩, ?_⟩
      refine ⟨fun u hu => ?_, fun u hu => ?_, ?_, ?_, by rw [insAt_len]; omega, fun e => by have := congrArg List.length e; rw [insAt_len] at this; simp at this⟩
      · rcases insAt_mem.mp hu with h | h
        · rw [h]; exact on
        · exact d.ok u h
      · rcases insAt_mem.mp hu with h | h
        · rw [h]; exact cs
        · exact d.sub u h
      · rw [insAt_len, List.take_add_one, hlb']
        refine (insAt_perm.map _).trans ?_
        rw [List.map_cons]
        refine (List.Perm.cons _ d.lab).trans ?_
        exact (List.perm_append_comm (l₁ := [lb]) (l₂ := labels.take ts.length))
      · unfold keyN
        rw [(insAt_perm.map _).sum_nat, List.map_cons, List.sum_cons]
        have := hsum
        unfold keyN at this
        show 1 + _ ≤ 8
        omega
    · exact d

end Lw

namespace Lw
open PySem PySem.Spec PyProof.Rows
open L2 (cutS)
def PassL (ts : List LT) (R cur : List Str) (P : LT → List Str → Prop) : Prop := opn ts cur < opn ts R ∨ (cur = R ∧ ∀ t k, P t k → Sub k R → Sub t.2.1 R)
theorem r__law_reach {c0 : List Str} {ts : List LT} {B : List Str} (hc : c0.Nodup) (hB : Sub c0 B) (hT : ∀ t ∈ ts, t.2.1.Nodup ∧ Sub t.2.1 B) (hl : B.length ≤ 1000) {E : Err → Prop} :
    (m__law_reach c0 ts).run (fun R => ∀ x, x ∈ R ↔ Rch c0 ts x) E := by
  unfold m__law_reach
  try simp only [Mir.run_exit, Mir.run_nox, Mir.run_bind, Mir.run_chk, Mir.run_ret, Mir.run_draw, Mir.run_ifB, Mir.run_any, Mir.run_bindO, Mir.lt_eq, mApp, mExt, mIns, mSet, mRng, mCat, mAdds]
  refine Mir.forQ (fun pre (R : List Str) => R.Nodup ∧ Sub c0 R ∧ Sub R B ∧ (∀ x ∈ R, Rch c0 ts x) ∧ (opn ts R ≤ ts.length - pre.length ∨ Clo ts R)) ⟨hc, fun _ h => h, hB, fun x hx => .base hx, .inl (opn_le ts c0)⟩ (fun pre x suf R e i => ?_) fun R i => ?_
  · obtain ⟨i1, i2, i3, i4, i5⟩ := i
    obtain ⟨_, hpl, _⟩ := rangeL_pre e
    try simp only [Mir.run_exit, Mir.run_nox, Mir.run_bind, Mir.run_chk, Mir.run_ret, Mir.run_draw, Mir.run_ifB, Mir.run_any, Mir.run_bindO, Mir.lt_eq, mApp, mExt, mIns, mSet, mRng, mCat, mAdds]
    refine Mir.forQ (fun pre2 (cur : List Str) => cur.Nodup ∧ Sub R cur ∧ Sub cur B ∧ (∀ x ∈ cur, Rch c0 ts x) ∧ PassL ts R cur fun t k => t ∈ pre2 ∧ k ∈ t.2.2) ⟨i1, fun _ h => h, i3, i4, .inr ⟨rfl, fun t k h => by simp at h⟩⟩ (fun pre2 t suf2 cur e2 j => ?_) fun cur j => ?_
    · obtain ⟨j1, j2, j3, j4, j5⟩ := j
      have htm : t ∈ ts := by rw [e2]; simp
      try simp only [Mir.run_exit, Mir.run_nox, Mir.run_bind, Mir.run_chk, Mir.run_ret, Mir.run_draw, Mir.run_ifB, Mir.run_any, Mir.run_bindO, Mir.lt_eq, mApp, mExt, mIns, mSet, mRng, mCat, mAdds]
      refine Mir.forQ (fun pre3 (cur : List Str) => cur.Nodup ∧ Sub R cur ∧ Sub cur B ∧ (∀ x ∈ cur, Rch c0 ts x) ∧ PassL ts R cur fun u k => (u ∈ pre2 ∧ k ∈ u.2.2) ∨ (u = t ∧ k ∈ pre3)) ⟨j1, j2, j3, j4, ?_⟩ (fun pre3 k suf3 cur e3 l => ?_) fun cur l => ?_
      · rcases j5 with z | ⟨z1, z2⟩
        · exact .inl z
        · exact .inr ⟨z1, fun u k h => h.elim (z2 u k) fun h => by simp at h⟩
      · obtain ⟨l1, l2, l3, l4, l5⟩ := l
        have hkm : k ∈ t.2.2 := by rw [e3]; simp
        try simp only [Mir.run_exit, Mir.run_nox, Mir.run_bind, Mir.run_chk, Mir.run_ret, Mir.run_draw, Mir.run_ifB, Mir.run_any, Mir.run_bindO, Mir.lt_eq, mApp, mExt, mIns, mSet, mRng, mCat, mAdds]
        rw [e__law_within]
        try simp only [Mir.run_exit, Mir.run_nox, Mir.run_bind, Mir.run_chk, Mir.run_ret, Mir.run_draw, Mir.run_ifB, Mir.run_any, Mir.run_bindO, Mir.lt_eq, mApp, mExt, mIns, mSet, mRng, mCat, mAdds]
        split
        · rename_i hq
          have hq : Sub k cur := pLe_iff.mp hq
          have mm : ∀ x, x ∈ cur ++ (t.2.1.filter fun x => decide (x ∉ cur)) ↔ x ∈ cur ∨ x ∈ t.2.1 := fun x => addC_mem
          have nd : (cur ++ (t.2.1.filter fun x => decide (x ∉ cur))).Nodup := addC_nd l1 (hT t htm).1
          have sB : Sub (cur ++ (t.2.1.filter fun x => decide (x ∉ cur))) B := fun x hx => ((mm x).mp hx).elim (l3 x) ((hT t htm).2 x)
          have len := nd_len nd sB
          rw [List.length_append] at len
          refine ⟨by show _ ≤ 90000; omega, nd, fun x hx => (mm x).mpr (.inl (l2 x hx)), sB, fun x hx => ((mm x).mp hx).elim (l4 x) fun h => .step htm hkm (fun y hy => l4 y (hq y hy)) h, ?_⟩
          rcases l5 with z | ⟨z1, z2⟩
          · exact .inl (Nat.lt_of_le_of_lt (opn_mono fun x hx => (mm x).mpr (.inl hx)) z)
          · subst z1
            by_cases hs : Sub t.2.1 cur
            · refine .inr ⟨?_, fun u k' h hk' => ?_⟩
              · have : (t.2.1.filter fun x => decide (x ∉ cur)) = [] := List.filter_eq_nil_iff.mpr fun x hx => by simpa using hs x hx
                rw [this, List.append_nil]
              · rcases h with h | ⟨h1, h2⟩
                · exact z2 u k' (.inl h) hk'
                · rw [h1]; exact hs
            · exact .inl (opn_lt (fun x hx => (mm x).mpr (.inl hx)) htm hs fun x hx => (mm x).mpr (.inr hx))
        · rename_i hq
          refine ⟨l1, l2, l3, l4, ?_⟩
          rcases l5 with z | ⟨z1, z2⟩
          · exact .inl z
          · subst z1
            refine .inr ⟨rfl, fun u k' h hk' => ?_⟩
            rcases h with h | ⟨h1, h2⟩
            · exact z2 u k' (.inl h) hk'
            · rcases List.mem_append.mp h2 with h2 | h2
              · exact z2 u k' (.inr ⟨h1, h2⟩) hk'
              · rw [List.mem_singleton.mp h2] at hk'
                exact absurd (pLe_iff.mpr hk') hq
      · obtain ⟨l1, l2, l3, l4, l5⟩ := l
        try simp only [Mir.run_exit, Mir.run_nox, Mir.run_bind, Mir.run_chk, Mir.run_ret, Mir.run_draw, Mir.run_ifB, Mir.run_any, Mir.run_bindO, Mir.lt_eq, mApp, mExt, mIns, mSet, mRng, mCat, mAdds]
        refine ⟨l1, l2, l3, l4, ?_⟩
        rcases l5 with z | ⟨z1, z2⟩
        · exact .inl z
        · refine .inr ⟨z1, fun u k h => z2 u k ?_⟩
          rcases List.mem_append.mp h.1 with q | q
          · exact .inl ⟨q, h.2⟩
          · have q := List.mem_singleton.mp q
            exact .inr ⟨q, by rw [← q]; exact h.2⟩
    · obtain ⟨j1, j2, j3, j4, j5⟩ := j
      try simp only [Mir.run_exit, Mir.run_nox, Mir.run_bind, Mir.run_chk, Mir.run_ret, Mir.run_draw, Mir.run_ifB, Mir.run_any, Mir.run_bindO, Mir.lt_eq, mApp, mExt, mIns, mSet, mRng, mCat, mAdds]
      refine ⟨j1, i2.trans j2, j3, j4, ?_⟩
      rw [List.length_append]
      show opn ts cur ≤ ts.length - (pre.length + 1) ∨ _
      rcases i5 with i5 | i5
      · rcases j5 with z | ⟨z1, z2⟩
        · exact .inl (by omega)
        · exact .inr (by rw [z1]; exact fun t ht k hk => z2 t k ⟨ht, hk⟩)
      · rcases j5 with z | ⟨z1, z2⟩
        · refine .inr fun t ht k hk hs => ?_
          -- a closed R grows by nothing
          apply Decidable.byContradiction
          intro hn
          have : Sub cur R := fun x hx => (rch_of i2 i5 i4 x).mpr (j4 x hx)
          have := opn_mono (ts := ts) this
          omega
        · exact .inr (by rw [z1]; exact i5)
  · obtain ⟨i1, i2, i3, i4, i5⟩ := i
    try simp only [Mir.run_exit, Mir.run_nox, Mir.run_bind, Mir.run_chk, Mir.run_ret, Mir.run_draw, Mir.run_ifB, Mir.run_any, Mir.run_bindO, Mir.lt_eq, mApp, mExt, mIns, mSet, mRng, mCat, mAdds]
    rw [rangeL_len] at i5
    exact rch_of i2 (i5.elim (fun h => opn_zero (by omega)) id) i4

end Lw

namespace Lw
open PySem PySem.Spec PyProof.Rows
open L2 (cutS)
theorem r__law_independent {ts : List LT} (hn : ∀ t ∈ ts, t.2.1.Nodup) (hl : (allC ts).length ≤ 1000) {E : Err → Prop} : (m__law_independent ts).run (fun b => b = true ↔ ¬ Bad ts) E := by
  unfold m__law_independent
  try simp only [Mir.run_exit, Mir.run_nox, Mir.run_bind, Mir.run_chk, Mir.run_ret, Mir.run_draw, Mir.run_ifB, Mir.run_any, Mir.run_bindO, Mir.lt_eq, mApp, mExt, mIns, mSet, mRng, mCat, mAdds]
  refine Mir.forQ (fun pre _ => ∀ b ∈ ts.take pre.length, ¬ BadT ts b) (fun b h => by simp at h) (fun pre b suf s e i => ?_) fun s i => ?_
  · obtain ⟨hb, hbm⟩ := app_pre e
    try simp only [Mir.run_exit, Mir.run_nox, Mir.run_bind, Mir.run_chk, Mir.run_ret, Mir.run_draw, Mir.run_ifB, Mir.run_any, Mir.run_bindO, Mir.lt_eq, mApp, mExt, mIns, mSet, mRng, mCat, mAdds]
    rw [show List.filter (fun table4 : LT => decide (table4.1 ≠ b.1)) ts = othersT ts b.1 from rfl]
    refine Mir.forQ (fun pre2 _ => ∀ s ∈ (othersT ts b.1).take pre2.length, ∀ k ∈ b.2.2, (∀ x ∈ k, Rch s.2.1 (othersT ts b.1) x) → ∀ x ∈ b.2.1, Rch s.2.1 (othersT ts b.1) x → x ∈ k) (fun b h => by simp at h) (fun pre2 st suf2 s2 e2 i2 => ?_) fun s2 i2 => ?_
    · obtain ⟨hs, hsm⟩ := app_pre e2
      try simp only [Mir.run_exit, Mir.run_nox, Mir.run_bind, Mir.run_chk, Mir.run_ret, Mir.run_draw, Mir.run_ifB, Mir.run_any, Mir.run_bindO, Mir.lt_eq, mApp, mExt, mIns, mSet, mRng, mCat, mAdds]
      refine Mir.ret_of (r__law_reach (B := allC ts) (hn st (others_mem hsm)) (fun x hx => allC_mem.mpr ⟨st, others_mem hsm, hx⟩) (fun t ht => ⟨hn t (others_mem ht), fun x hx => allC_mem.mpr ⟨t, others_mem ht, hx⟩⟩) hl) fun R hR => ?_
      refine Mir.forQ (fun pre3 _ => ∀ k ∈ b.2.2.take pre3.length, (∀ x ∈ k, Rch st.2.1 (othersT ts b.1) x) → ∀ x ∈ b.2.1, Rch st.2.1 (othersT ts b.1) x → x ∈ k) (fun b h => by simp at h) (fun pre3 k suf3 s3 e3 i3 => ?_) fun s3 i3 => ?_
      · obtain ⟨hk, hkm⟩ := app_pre e3
        have h1 : pLe k R = true ↔ ∀ x ∈ k, Rch st.2.1 (othersT ts b.1) x := by
          rw [pLe_iff]
          exact ⟨fun h x hx => (hR x).mp (h x hx), fun h x hx => (hR x).mpr (h x hx)⟩
        have h2 : (b.2.1.filter fun x => decide (x ∈ R) && decide (x ∉ k)) ≠ [] ↔ ∃ x ∈ b.2.1, Rch st.2.1 (othersT ts b.1) x ∧ x ∉ k := by
          constructor
          · intro h
            obtain ⟨x, hx⟩ := List.exists_mem_of_ne_nil _ h
            obtain ⟨z1, z2⟩ := List.mem_filter.mp hx
            rw [Bool.and_eq_true, decide_eq_true_eq, decide_eq_true_eq] at z2
            exact ⟨x, z1, (hR x).mp z2.1, z2.2⟩
          · rintro ⟨x, hx, hr, hn⟩ z
            have : x ∈ (b.2.1.filter fun x => decide (x ∈ R) && decide (x ∉ k)) := List.mem_filter.mpr ⟨hx, by rw [Bool.and_eq_true, decide_eq_true_eq, decide_eq_true_eq]; exact ⟨(hR x).mpr hr, hn⟩⟩
            rw [z] at this; simp at this
        try simp only [Mir.run_exit, Mir.run_nox, Mir.run_bind, Mir.run_chk, Mir.run_ret, Mir.run_draw, Mir.run_ifB, Mir.run_any, Mir.run_bindO, Mir.lt_eq, mApp, mExt, mIns, mSet, mRng, mCat, mAdds]
        rw [e__law_within]
        try simp only [Mir.run_exit, Mir.run_nox, Mir.run_bind, Mir.run_chk, Mir.run_ret, Mir.run_draw, Mir.run_ifB, Mir.run_any, Mir.run_bindO, Mir.lt_eq, mApp, mExt, mIns, mSet, mRng, mCat, mAdds]
        have key : ∀ p : Bool, (p = true ↔ (∀ x ∈ k, Rch st.2.1 (othersT ts b.1) x) ∧ ∃ x ∈ b.2.1, Rch st.2.1 (othersT ts b.1) x ∧ x ∉ k) →
            (if p = true then (false = true ↔ ¬ Bad ts) else ∀ k' ∈ b.2.2.take (pre3 ++ [k]).length, (∀ x ∈ k', Rch st.2.1 (othersT ts b.1) x) → ∀ x ∈ b.2.1, Rch st.2.1 (othersT ts b.1) x → x ∈ k') := by
          intro p hp
          cases p with
          | true =>
            have z := hp.mp rfl
            simp only [if_true]
            exact ⟨fun h => (by cases h), fun h => absurd ⟨b, hbm, st, hsm, k, hkm, z.1, z.2⟩ h⟩
          | false =>
            simp only [Bool.false_eq_true, if_false]
            intro k' hk'
            rw [List.length_append] at hk'
            rcases take_snoc hk hk' with h | h
            · exact i3 k' h
            · rw [h]
              intro hr x hx hrx
              apply Classical.byContradiction
              intro hn
              have := hp.mpr ⟨hr, x, hx, hrx, hn⟩
              cases this
        split
        · rename_i hq
          refine key _ ?_
          rw [decide_eq_true_eq, h2]
          exact ⟨fun h => ⟨h1.mp hq, h⟩, fun h => h.2⟩
        · rename_i hq
          exact key false ⟨fun h => (by cases h), fun h => absurd (h1.mpr h.1) hq⟩
      · try simp only [Mir.run_exit, Mir.run_nox, Mir.run_bind, Mir.run_chk, Mir.run_ret, Mir.run_draw, Mir.run_ifB, Mir.run_any, Mir.run_bindO, Mir.lt_eq, mApp, mExt, mIns, mSet, mRng, mCat, mAdds]
        intro s' hs'
        rw [List.length_append] at hs'
        rcases take_snoc hs hs' with h | h
        · exact i2 s' h
        · rw [h]
          rw [List.take_length] at i3
          exact i3
    · try simp only [Mir.run_exit, Mir.run_nox, Mir.run_bind, Mir.run_chk, Mir.run_ret, Mir.run_draw, Mir.run_ifB, Mir.run_any, Mir.run_bindO, Mir.lt_eq, mApp, mExt, mIns, mSet, mRng, mCat, mAdds]
      intro b' hb'
      rw [List.length_append] at hb'
      rcases take_snoc hb hb' with h | h
      · exact i b' h
      · rw [h]
        rw [List.take_length] at i2
        rintro ⟨st, hst, k, hk, hr, x, hx, hrx, hn⟩
        exact hn (i2 st hst k hk hr x hx hrx)
  · try simp only [Mir.run_exit, Mir.run_nox, Mir.run_bind, Mir.run_chk, Mir.run_ret, Mir.run_draw, Mir.run_ifB, Mir.run_any, Mir.run_bindO, Mir.lt_eq, mApp, mExt, mIns, mSet, mRng, mCat, mAdds]
    rw [List.take_length] at i
    exact ⟨fun _ ⟨b, hb, z⟩ => i b hb z, fun _ => by first | rfl | trivial⟩

end Lw

namespace Lw
open PySem PySem.Spec PyProof.Rows
open L2 (cutS)
/-- one table alone is independent -/
theorem bad_nil : ¬ Bad ([] : List LT) := fun ⟨b, hb, _⟩ => by simp at hb
theorem bad_one (t : LT) : ¬ Bad [t] := fun ⟨b, hb, s, hs, _⟩ => by
  rw [List.mem_singleton.mp hb] at hs
  obtain ⟨h1, h2⟩ := List.mem_filter.mp hs
  rw [List.mem_singleton.mp h1] at h2
  simp at h2
theorem r__law_sound {ts : List LT} (o : OkS ts) {E : Err → Prop} : (m__law_sound ts).run (fun us => us.Sublist ts ∧ ¬ Bad us ∧ (ts ≠ [] → us ≠ [])) E := by
  unfold m__law_sound
  try simp only [Mir.run_exit, Mir.run_nox, Mir.run_bind, Mir.run_chk, Mir.run_ret, Mir.run_draw, Mir.run_ifB, Mir.run_any, Mir.run_bindO, Mir.lt_eq, mApp, mExt, mIns, mSet, mRng, mCat, mAdds]
  refine Mir.forQ (fun pre (us : List LT) => us.Sublist pre ∧ ¬ Bad us ∧ (pre ≠ [] → us ≠ [])) ⟨List.Sublist.refl _, bad_nil, fun h => h⟩ (fun pre t suf us e i => ?_) fun us i => ?_
  · obtain ⟨i1, i2, i3⟩ := i
    have hp : pre.Sublist ts := by rw [e]; exact List.sublist_append_left _ _
    have hpl : (pre ++ [t]).Sublist ts := by rw [e]; exact List.Sublist.append (List.Sublist.refl _) (List.singleton_sublist.mpr List.mem_cons_self)
    have h1 : (us ++ [t]).Sublist (pre ++ [t]) := List.Sublist.append i1 (List.Sublist.refl _)
    have ou := o.sub (h1.trans hpl)
    have hl := ou.len
    try simp only [Mir.run_exit, Mir.run_nox, Mir.run_bind, Mir.run_chk, Mir.run_ret, Mir.run_draw, Mir.run_ifB, Mir.run_any, Mir.run_bindO, Mir.lt_eq, mApp, mExt, mIns, mSet, mRng, mCat, mAdds]
    rw [List.length_append] at hl
    refine ⟨by show us.length + 1 ≤ 90000; simp only [List.length_cons, List.length_nil] at hl; omega, ?_⟩
    refine Mir.ret_of (r__law_independent (fun t ht => (ou.ok t ht).nd) (by have := ou.cols; omega)) fun b hb => ?_
    split
    · rename_i hq
      exact ⟨by show us.length + 1 ≤ 90000; simp only [List.length_cons, List.length_nil] at hl; omega, h1, hb.mp hq, fun _ => by simp⟩
    · rename_i hq
      refine ⟨i1.trans (List.sublist_append_left _ _), i2, fun _ hn => ?_⟩
      subst hn
      exact hq (hb.mpr (bad_one t))
  · try simp only [Mir.run_exit, Mir.run_nox, Mir.run_bind, Mir.run_chk, Mir.run_ret, Mir.run_draw, Mir.run_ifB, Mir.run_any, Mir.run_bindO, Mir.lt_eq, mApp, mExt, mIns, mSet, mRng, mCat, mAdds]
    exact i

end Lw

namespace Lw
open PySem PySem.Spec PyProof.Rows
open L2 (cutS)
/-- what a search hands on -/
def outO {ρ : Type} : Option ρ → Mir (Out Unit ρ)
  | some r => .ret (.rt r)
  | none => .ret (.nx ())
/-- a search whose finds are told by the item -/
theorem forL_some {α ρ : Type} {f : Unit → α → Mir (Out Unit ρ)} (g : α → Option ρ) {xs : List α} (h : ∀ s x, x ∈ xs → f s x = outO (g x)) : Mir.forL xs () f = outO (xs.findSome? g) := by
  induction xs with
  | nil => rfl
  | cons x xs ih =>
    rw [Mir.forL_cons, h () x List.mem_cons_self, List.findSome?_cons]
    cases q : g x with
    | some r => rfl
    | none => exact ih fun s y hy => h s y (List.mem_cons_of_mem _ hy)
/-- r and row are alike at k's columns -/
def likeK (names k : List Str) (r row : List Int) : Prop := ∀ (i : Nat) (x : Str), names[i]? = some x → x ∈ k → r[i]? = row[i]?
noncomputable instance (names k : List Str) (r row : List Int) : Decidable (likeK names k r row) := Classical.propDecidable _
noncomputable def clashG (t : LT) (row r : List Int) : Option (List Int) := open Classical in if r ≠ row ∧ ∃ k ∈ t.2.2, likeK t.2.1 k r row then some r else none
noncomputable def clashF (t : LT) (rows : List (List Int)) (row : List Int) : Option (List Int) := rows.findSome? (clashG t row)
theorem getD_some {α : Type} {xs : List α} {i : Nat} {d : α} (h : i < xs.length) : xs[i]? = some (xs.getD i d) := by rw [List.getD_eq_getElem?_getD, List.getElem?_eq_getElem h]; rfl
theorem like_tbl {names k : List Str} {r row : List Int} (h1 : r.length = names.length) (h2 : row.length = names.length) :
    Mir.comp (enumFL 0 names) (fun p8 => (Mir.ret ((decide (p8.2 ∈ cset k))))) (fun p8 => (((Mir.get r p8.1)).bind fun v9 => (((Mir.get row p8.1)).bind fun v10 => Mir.ret ((decide (v9 = v10)))))) = .ret (((enumFL 0 names).filter fun p => decide (p.2 ∈ cset k)).map fun p => decide (r.getD p.1.toNat 0 = row.getD p.1.toNat 0)) ∧
    ((((enumFL 0 names).filter fun p => decide (p.2 ∈ cset k)).map fun p => decide (r.getD p.1.toNat 0 = row.getD p.1.toNat 0)).all id = true ↔ likeK names k r row) := by
  constructor
  · refine Mir.comp_ret (fun _ _ => rfl) fun p hp _ => ?_
    obtain ⟨i, hi, e⟩ := enumFL_mem hp
    have hil := (List.getElem?_eq_some_iff.mp hi).1
    have e : p.1 = (i : Int) := by omega
    rw [e, get_nat (by omega), Mir.ret_bind, get_nat (by omega), Mir.ret_bind]
    congr 2
    rw [Int.toNat_natCast, List.getD_eq_getElem?_getD, List.getD_eq_getElem?_getD, List.getElem?_eq_getElem (by omega), List.getElem?_eq_getElem (by omega)]
    rfl
  · rw [List.all_eq_true]
    constructor
    · intro h i x hx hk
      have hil := (List.getElem?_eq_some_iff.mp hx).1
      have hm : ((0 : Int) + (i : Int), x) ∈ enumFL 0 names := List.mem_of_getElem? (i := i) (by rw [enumFL_get, hx]; rfl)
      have z := h _ (List.mem_map_of_mem (List.mem_filter.mpr ⟨hm, decide_eq_true (cset_mem.mpr hk)⟩))
      have z := of_decide_eq_true z
      rw [show ((0 : Int) + (i : Int)).toNat = i by omega] at z
      rw [getD_some (d := 0) (by omega), getD_some (d := 0) (by omega), z]
    · intro h b hb
      obtain ⟨p, hp, e⟩ := List.mem_map.mp hb
      subst e
      obtain ⟨hp1, hp2⟩ := List.mem_filter.mp hp
      obtain ⟨i, hi, e⟩ := enumFL_mem hp1
      have hil := (List.getElem?_eq_some_iff.mp hi).1
      have z := h i p.2 hi (cset_mem.mp (of_decide_eq_true hp2))
      rw [getD_some (d := 0) (by omega), getD_some (d := 0) (by omega)] at z
      rw [show p.1.toNat = i by omega]
      exact decide_eq_true (Option.some.inj z)
theorem like_law {names k : List Str} {r row : List Int} (h1 : r.length = names.length) (h2 : row.length = names.length) :
    Mir.comp (rangeL 0 names.length) (fun at8 => (((Mir.get names at8)).bind fun v9 => Mir.ret ((decide (v9 ∈ k))))) (fun at8 => (Mir.ret (at8))) = .ret ((rangeL 0 names.length).filter fun i => decide (names.getD i.toNat "" ∈ k)) ∧
    Mir.comp ((rangeL 0 names.length).filter fun i => decide (names.getD i.toNat "" ∈ k)) (fun at11 => (Mir.ret (true))) (fun at11 => (((Mir.get r at11)).bind fun v12 => (((Mir.get row at11)).bind fun v13 => Mir.ret ((decide (v12 = v13)))))) = .ret (((rangeL 0 names.length).filter fun i => decide (names.getD i.toNat "" ∈ k)).map fun i => decide (r.getD i.toNat 0 = row.getD i.toNat 0)) ∧
    ((((rangeL 0 names.length).filter fun i => decide (names.getD i.toNat "" ∈ k)).map fun i => decide (r.getD i.toNat 0 = row.getD i.toNat 0)).all id = true ↔ likeK names k r row) := by
  refine ⟨?_, ?_, ?_⟩
  · refine (Mir.comp_ret (p := fun i => decide (names.getD i.toNat "" ∈ k)) (g := id) (fun i hi => ?_) fun _ _ _ => rfl).trans (by rw [List.map_id])
    obtain ⟨h0, h3⟩ := rangeL_mem.mp hi
    rw [get_int h0 h3, Mir.ret_bind, List.getD_eq_getElem?_getD, List.getElem?_eq_getElem (by omega)]
    rfl
  · refine (Mir.comp_ret (p := fun _ => true) (g := fun i => decide (r.getD i.toNat 0 = row.getD i.toNat 0)) (fun _ _ => rfl) fun i hi _ => ?_).trans (by rw [List.filter_eq_self.mpr fun _ _ => rfl])
    obtain ⟨h0, h3⟩ := rangeL_mem.mp (List.mem_filter.mp hi).1
    rw [get_int h0 (by omega), Mir.ret_bind, get_int h0 (by omega), Mir.ret_bind]
    congr 2
    rw [List.getD_eq_getElem?_getD, List.getD_eq_getElem?_getD, List.getElem?_eq_getElem (by omega), List.getElem?_eq_getElem (by omega)]
    rfl
  · rw [List.all_eq_true]
    constructor
    · intro h i x hx hk
      have hil := (List.getElem?_eq_some_iff.mp hx).1
      have hm : (i : Int) ∈ rangeL 0 names.length := rangeL_mem.mpr ⟨by omega, by omega⟩
      have hn : names.getD (i : Int).toNat "" = x := by rw [Int.toNat_natCast, List.getD_eq_getElem?_getD, hx]; rfl
      have z := of_decide_eq_true (h _ (List.mem_map_of_mem (List.mem_filter.mpr ⟨hm, decide_eq_true (by rw [hn]; exact hk)⟩)))
      rw [Int.toNat_natCast] at z
      rw [getD_some (d := 0) (by omega), getD_some (d := 0) (by omega), z]
    · intro h b hb
      obtain ⟨i, hi, e⟩ := List.mem_map.mp hb
      subst e
      obtain ⟨hi1, hi2⟩ := List.mem_filter.mp hi
      obtain ⟨h0, h3⟩ := rangeL_mem.mp hi1
      have z := h i.toNat (names.getD i.toNat "") (getD_some (by omega)) (of_decide_eq_true hi2)
      rw [getD_some (d := 0) (by omega), getD_some (d := 0) (by omega)] at z
      exact decide_eq_true (Option.some.inj z)

end Lw

namespace Lw
open PySem PySem.Spec PyProof.Rows
open L2 (cutS)
theorem forL_any {α ρ : Type} {f : Unit → α → Mir (Out Unit ρ)} {P : α → Prop} [DecidablePred P] {r : ρ} {xs : List α} (h : ∀ s x, x ∈ xs → f s x = if P x then .ret (.rt r) else .ret (.nx ())) : Mir.forL xs () f = if ∃ x ∈ xs, P x then .ret (.rt r) else .ret (.nx ()) := by
  induction xs with
  | nil => simp
  | cons x xs ih =>
    rw [Mir.forL_cons, h () x List.mem_cons_self]
    by_cases q : P x
    · rw [if_pos q, if_pos ⟨x, List.mem_cons_self, q⟩]; rfl
    · rw [if_neg q, Mir.ret_bindO_nx, ih fun s y hy => h s y (List.mem_cons_of_mem _ hy)]
      have e : (∃ y ∈ x :: xs, P y) ↔ ∃ y ∈ xs, P y := by
        constructor
        · rintro ⟨y, hy, z⟩
          rcases List.mem_cons.mp hy with e | e
          · rw [e] at z; exact absurd z q
          · exact ⟨y, e, z⟩
        · rintro ⟨y, hy, z⟩; exact ⟨y, List.mem_cons_of_mem _ hy, z⟩
      simp only [e]
open Classical in
theorem clash_fin {t : LT} {r row : List Int} {m : Mir (Out Unit (Option (List Int)))} (hm : m = if ∃ k ∈ t.2.2, likeK t.2.1 k r row then .ret (.rt (some r)) else .ret (.nx ())) :
    Mir.ifB (decide (r ≠ row)) (Mir.bindO m fun _ => .ret (.nx ())) (.ret (.nx ())) = outO ((clashG t row r).map some) := by
  unfold clashG
  by_cases h : r ≠ row
  · rw [Mir.ifB_true _ _ (decide_eq_true h), hm]
    by_cases q : ∃ k ∈ t.2.2, likeK t.2.1 k r row
    · rw [if_pos q, if_pos ⟨h, q⟩]; rfl
    · rw [if_neg q, if_neg fun z => q z.2]; rfl
  · rw [Mir.ifB_false _ _ (decide_eq_false h), if_neg fun z => h z.1]; rfl
theorem clash_end {t : LT} {rows : List (List Int)} {row : List Int} : (Mir.bindO (outO (rows.findSome? fun r => (clashG t row r).map some)) fun (_ : Unit) => (Mir.ret (Out.rt (β := Unit) (none : Option (List Int))))).exit.nox = .ret (clashF t rows row) := by
  unfold clashF
  induction rows with
  | nil => rfl
  | cons r rows ih =>
    rw [List.findSome?_cons, List.findSome?_cons]
    cases h : clashG t row r with
    | some z => rfl
    | none => exact ih
open Classical in
theorem e_Table_clash {t : LT} {rows : List (List Int)} {row : List Int} (h1 : ∀ r ∈ rows, r.length = t.2.1.length) (h2 : row.length = t.2.1.length) : m_Table_clash (tblOf t) rows row = .ret (clashF t rows row) := by
  unfold m_Table_clash
  rw [forL_some (fun r => (clashG t row r).map some) fun s r hr => clash_fin (t := t) (r := r) (row := row) ?_]
  · exact clash_end
  · rw [show (tblOf t).keys = t.2.2.map cset from rfl]
    rw [forL_any (P := fun c => ∃ k ∈ t.2.2, cset k = c ∧ likeK t.2.1 k r row) (r := some r) fun s c hc => ?_]
    · have e : (∃ c ∈ t.2.2.map cset, ∃ k ∈ t.2.2, cset k = c ∧ likeK t.2.1 k r row) ↔ ∃ k ∈ t.2.2, likeK t.2.1 k r row := ⟨fun ⟨_, _, k, hk, _, z⟩ => ⟨k, hk, z⟩, fun ⟨k, hk, z⟩ => ⟨_, List.mem_map_of_mem hk, k, hk, rfl, z⟩⟩
      by_cases q : ∃ k ∈ t.2.2, likeK t.2.1 k r row
      · rw [if_pos q, if_pos (e.mpr q)]
      · rw [if_neg q, if_neg fun z => q (e.mp z)]
    · obtain ⟨k, hk, ec⟩ := List.mem_map.mp hc
      subst ec
      obtain ⟨l1, l2⟩ := like_tbl (k := k) (h1 r hr) h2
      rw [show (tblOf t).names = t.2.1 from rfl, l1]
      simp only [Mir.nox_ret, Mir.ret_bind]
      have e : (∃ k' ∈ t.2.2, cset k' = cset k ∧ likeK t.2.1 k' r row) ↔ likeK t.2.1 k r row := ⟨fun ⟨k', _, e, z⟩ i x hx hk => z i x hx (cset_mem.mp (by rw [e]; exact cset_mem.mpr hk)), fun z => ⟨k, hk, rfl, z⟩⟩
      by_cases q : likeK t.2.1 k r row
      · rw [Mir.ifB_true _ _ (l2.mpr q), if_pos (e.mpr q)]
      · rw [Mir.ifB_false _ _ (Bool.eq_false_iff.mpr fun z => q (l2.mp z)), if_neg fun z => q (e.mp z)]
open Classical in
theorem e__law_clash {t : LT} {rows : List (List Int)} {row : List Int} (h1 : ∀ r ∈ rows, r.length = t.2.1.length) (h2 : row.length = t.2.1.length) : m__law_clash t rows row = .ret (clashF t rows row) := by
  unfold m__law_clash
  rw [forL_some (fun r => (clashG t row r).map some) fun s r hr => clash_fin (t := t) (r := r) (row := row) ?_]
  · exact clash_end
  · rw [forL_any (P := fun k => likeK t.2.1 k r row) (r := some r) fun s k hk => ?_]
    · obtain ⟨l1, l2, l3⟩ := like_law (k := k) (h1 r hr) h2
      rw [l1]
      simp only [Mir.nox_ret, Mir.ret_bind]
      rw [l2]
      simp only [Mir.nox_ret, Mir.ret_bind]
      by_cases q : likeK t.2.1 k r row
      · rw [Mir.ifB_true _ _ (l3.mpr q), if_pos q]
      · rw [Mir.ifB_false _ _ (Bool.eq_false_iff.mpr fun z => q (l3.mp z)), if_neg q]

end Lw

namespace Lw
open PySem PySem.Spec PyProof.Rows
open L2 (cutS)
/-- the pass of reach: an invariant -/
def PassR (ts : List LT) (R : List Str) (done : List LT) (s : List Str × Bool) : Prop :=
  (s.2 = true ∧ opn ts s.1 < opn ts R) ∨ (s.2 = false ∧ s.1 = R ∧ ∀ t ∈ done, ∀ k ∈ t.2.2, Sub k R → Sub t.2.1 R)
theorem r_reach {c0 : List Str} {ts : List LT} {B : List Str} (hB : Sub c0 B) (hT : ∀ t ∈ ts, Sub t.2.1 B) (hl : (cset B).length < 64) {E : Err → Prop} :
    (m_reach (cset c0) (ts.map tblOf)).run (fun R => Ss R ∧ ∀ x, x ∈ R ↔ Rch c0 ts x) E := by
  unfold m_reach
  try simp only [Mir.run_exit, Mir.run_nox, Mir.run_bind, Mir.run_chk, Mir.run_ret, Mir.run_draw, Mir.run_ifB, Mir.run_any, Mir.run_bindO, Mir.lt_eq, mApp, mExt, mIns, mSet, mRng, mCat, mAdds]
  refine Mir.while_of (R := fun _ => False) (I := fun (s : Bool × List Str) => Ss s.2 ∧ Sub c0 s.2 ∧ Sub s.2 B ∧ (∀ x ∈ s.2, Rch c0 ts x) ∧ (s.1 = false → Clo ts s.2)) (μ := fun s => opn ts s.2 + if s.1 = true then 1 else 0)
    ⟨cset_ss c0, fun x hx => cset_mem.mpr hx, fun x hx => hB x (cset_mem.mp hx), fun x hx => .base (cset_mem.mp hx), fun h => by cases h⟩ (fun s i => ?_) fun r z => z.elim
  obtain ⟨g, R⟩ := s
  obtain ⟨i1, i2, i3, i4, i5⟩ := i
  try simp only [Mir.run_exit, Mir.run_nox, Mir.run_bind, Mir.run_chk, Mir.run_ret, Mir.run_draw, Mir.run_ifB, Mir.run_any, Mir.run_bindO, Mir.lt_eq, mApp, mExt, mIns, mSet, mRng, mCat, mAdds]
  cases g with
  | false => exact ⟨i1, rch_of i2 (i5 rfl) i4⟩
  | true =>
    simp only [if_true]
    refine Mir.forQ (fun pre (s : List Str × Bool) => Ss s.1 ∧ Sub c0 s.1 ∧ Sub s.1 B ∧ (∀ x ∈ s.1, Rch c0 ts x) ∧ Sub R s.1 ∧ ∃ done, pre = done.map tblOf ∧ PassR ts R done s) ⟨i1, i2, i3, i4, fun _ h => h, [], rfl, .inr ⟨rfl, rfl, fun t h => by simp at h⟩⟩ (fun pre x suf s e j => ?_) fun s j => ?_
    · obtain ⟨cur, g⟩ := s
      obtain ⟨j1, j2, j3, j4, j5, done, j6, j7⟩ := j
      have j1 : Ss cur := j1
      have j2 : Sub c0 cur := j2
      have j3 : Sub cur B := j3
      have j4 : ∀ x ∈ cur, Rch c0 ts x := j4
      have j5 : Sub R cur := j5
      subst j6
      obtain ⟨d', r', hts, e1, e2⟩ := List.map_eq_append_iff.mp e
      obtain ⟨t, us, er, e3, e4⟩ := List.map_eq_cons_iff.mp e2
      subst er; subst e3
      have htm : t ∈ ts := by rw [hts]; simp
      have hd : (done.map tblOf) ++ [tblOf t] = (d' ++ [t]).map tblOf := by rw [List.map_append, e1]; rfl
      have hdone : ∀ u ∈ d', ∃ v ∈ done, tblOf u = tblOf v := fun u hu => by
        have : tblOf u ∈ done.map tblOf := by rw [← e1]; exact List.mem_map_of_mem hu
        obtain ⟨v, hv, e⟩ := List.mem_map.mp this
        exact ⟨v, hv, e.symm⟩
      have tr : ∀ {u v : LT}, tblOf u = tblOf v → (∀ k ∈ v.2.2, Sub k R → Sub v.2.1 R) → ∀ k ∈ u.2.2, Sub k R → Sub u.2.1 R := by
        intro u v e h k hk hs
        have e1 : cset u.2.1 = cset v.2.1 := congrArg Tbl.cols e
        have e2 : u.2.2.map cset = v.2.2.map cset := congrArg Tbl.keys e
        have : cset k ∈ v.2.2.map cset := by rw [← e2]; exact List.mem_map_of_mem hk
        obtain ⟨k', hk', e3⟩ := List.mem_map.mp this
        have z := h k' hk' fun x hx => hs x (by rw [← cset_mem, ← e3, cset_mem]; exact hx)
        exact fun x hx => z x (by rw [← cset_mem, ← e1, cset_mem]; exact hx)
      have anyk : ((List.map (fun key9 => pLe key9 cur) (tblOf t).keys).any id = true) ↔ ∃ k ∈ t.2.2, Sub k cur := by
        rw [List.any_eq_true]
        constructor
        · rintro ⟨b, hb, hb2⟩
          obtain ⟨k', hk', e⟩ := List.mem_map.mp hb
          obtain ⟨k, hk, e2⟩ := List.mem_map.mp hk'
          subst e; subst e2
          exact ⟨k, hk, fun x hx => pLe_iff.mp hb2 x (cset_mem.mpr hx)⟩
        · rintro ⟨k, hk, hs⟩
          exact ⟨_, List.mem_map_of_mem (List.mem_map_of_mem hk), pLe_iff.mpr fun x hx => hs x (cset_mem.mp hx)⟩
      have lec : (pLe (tblOf t).cols cur = true) ↔ Sub t.2.1 cur := ⟨fun h x hx => pLe_iff.mp h x (cset_mem.mpr hx), fun h => pLe_iff.mpr fun x hx => h x (cset_mem.mp hx)⟩
      try simp only [Mir.run_exit, Mir.run_nox, Mir.run_bind, Mir.run_chk, Mir.run_ret, Mir.run_draw, Mir.run_ifB, Mir.run_any, Mir.run_bindO, Mir.lt_eq, mApp, mExt, mIns, mSet, mRng, mCat, mAdds]
      split
      · rename_i hq
        rw [Bool.and_eq_true, Bool.not_eq_true', Bool.eq_false_iff] at hq
        obtain ⟨q1, q2⟩ := hq
        obtain ⟨k, hk, hs⟩ := anyk.mp q2
        have hn : ¬ Sub t.2.1 cur := fun z => q1 (lec.mpr z)
        unfold mOr
        try simp only [Mir.run_exit, Mir.run_nox, Mir.run_bind, Mir.run_chk, Mir.run_ret, Mir.run_draw, Mir.run_ifB, Mir.run_any, Mir.run_bindO, Mir.lt_eq, mApp, mExt, mIns, mSet, mRng, mCat, mAdds]
        have mm : ∀ x, x ∈ cset (cur ++ (tblOf t).cols) ↔ x ∈ cur ∨ x ∈ t.2.1 := fun x => by rw [cset_mem, List.mem_append]; show _ ∨ x ∈ cset t.2.1 ↔ _; rw [cset_mem]
        have sB : Sub (cset (cur ++ (tblOf t).cols)) B := fun x hx => ((mm x).mp hx).elim (j3 x) (hT t htm x)
        refine ⟨Nat.lt_of_le_of_lt ?_ hl, cset_ss _, fun x hx => (mm x).mpr (.inl (j2 x hx)), sB, fun x hx => ?_, fun x hx => (mm x).mpr (.inl (j5 x hx)), d' ++ [t], hd, .inl ⟨rfl, ?_⟩⟩
        · exact nd_len (ss_nodup (cset_ss _)) fun x hx => cset_mem.mpr (sB x hx)
        · exact ((mm x).mp hx).elim (j4 x) fun h => .step htm hk (fun y hy => j4 y (hs y hy)) h
        · have : opn ts (cset (cur ++ (tblOf t).cols)) < opn ts cur := opn_lt (fun x hx => (mm x).mpr (.inl hx)) htm hn fun x hx => (mm x).mpr (.inr hx)
          exact Nat.lt_of_lt_of_le this (opn_mono j5)
      · rename_i hq
        refine ⟨j1, j2, j3, j4, j5, d' ++ [t], hd, ?_⟩
        rcases j7 with ⟨z1, z2⟩ | ⟨z1, z2, z3⟩
        · exact .inl ⟨z1, z2⟩
        · have z2 : cur = R := z2
          subst z2
          refine .inr ⟨z1, rfl, fun u hu => ?_⟩
          rcases List.mem_append.mp hu with h | h
          · obtain ⟨v, hv, e⟩ := hdone u h
            exact tr e (z3 v hv)
          · rw [List.mem_singleton.mp h]
            intro k hk hs
            apply Decidable.byContradiction
            intro hn
            refine hq ?_
            rw [Bool.and_eq_true, Bool.not_eq_true', Bool.eq_false_iff]
            exact ⟨fun z => hn (lec.mp z), anyk.mpr ⟨k, hk, hs⟩⟩
    · obtain ⟨cur, g⟩ := s
      obtain ⟨j1, j2, j3, j4, j5, done, j6, j7⟩ := j
      try simp only [Mir.run_exit, Mir.run_nox, Mir.run_bind, Mir.run_chk, Mir.run_ret, Mir.run_draw, Mir.run_ifB, Mir.run_any, Mir.run_bindO, Mir.lt_eq, mApp, mExt, mIns, mSet, mRng, mCat, mAdds]
      refine ⟨⟨j1, j2, j3, j4, fun hg => ?_⟩, ?_⟩
      · rcases j7 with ⟨z1, z2⟩ | ⟨z1, z2, z3⟩
        · have z1 : g = true := z1
          have hg : g = false := hg
          rw [hg] at z1; cases z1
        · have z2 : cur = R := z2
          subst z2
          intro t ht k hk hs
          have : tblOf t ∈ done.map tblOf := by rw [← j6]; exact List.mem_map_of_mem ht
          obtain ⟨v, hv, e⟩ := List.mem_map.mp this
          have e1 : cset v.2.1 = cset t.2.1 := congrArg Tbl.cols e
          have e2 : v.2.2.map cset = t.2.2.map cset := congrArg Tbl.keys e
          have : cset k ∈ v.2.2.map cset := by rw [e2]; exact List.mem_map_of_mem hk
          obtain ⟨k', hk', e3⟩ := List.mem_map.mp this
          have z := z3 v hv k' hk' fun x hx => hs x (by rw [← cset_mem, ← e3, cset_mem]; exact hx)
          exact fun x hx => z x (by rw [← cset_mem, e1, cset_mem]; exact hx)
      · rcases j7 with ⟨z1, z2⟩ | ⟨z1, z2, z3⟩
        · have z1 : g = true := z1
          have z2 : opn ts cur < opn ts R := z2
          subst z1
          show opn ts cur + (if true = true then 1 else 0) < _
          simp only [if_true]
          omega
        · have z1 : g = false := z1
          have z2 : cur = R := z2
          subst z1; subst z2
          show opn ts cur + (if false = true then 1 else 0) < _
          simp

end Lw

namespace Lw
open PySem PySem.Spec PyProof.Rows
open L2 (cutS)
theorem r_is_independent {ts : List LT} (hl : (allC ts).length < 64) {E : Err → Prop} : (m_is_independent (schOf ts)).run (fun b => b = true ↔ ¬ Bad ts) E := by
  unfold m_is_independent
  try simp only [Mir.run_exit, Mir.run_nox, Mir.run_bind, Mir.run_chk, Mir.run_ret, Mir.run_draw, Mir.run_ifB, Mir.run_any, Mir.run_bindO, Mir.lt_eq, mApp, mExt, mIns, mSet, mRng, mCat, mAdds]
  refine Mir.forQ (fun pre _ => ∀ b ∈ ts.take pre.length, ¬ BadT ts b) (fun b h => by simp at h) (fun pre x suf s e i => ?_) fun s i => ?_
  · obtain ⟨b, hb, hbm, eb⟩ := map_pre e
    subst eb
    try simp only [Mir.run_exit, Mir.run_nox, Mir.run_bind, Mir.run_chk, Mir.run_ret, Mir.run_draw, Mir.run_ifB, Mir.run_any, Mir.run_bindO, Mir.lt_eq, mApp, mExt, mIns, mSet, mRng, mCat, mAdds]
    have eo : List.filter (fun table4 => decide (table4.name ≠ (tblOf b).name)) (schOf ts).tables = (othersT ts b.1).map tblOf := others_map ts b.1
    rw [eo]
    refine Mir.forQ (fun pre2 _ => ∀ s ∈ (othersT ts b.1).take pre2.length, ∀ k ∈ b.2.2, (∀ x ∈ k, Rch s.2.1 (othersT ts b.1) x) → ∀ x ∈ b.2.1, Rch s.2.1 (othersT ts b.1) x → x ∈ k) (fun b h => by simp at h) (fun pre2 x2 suf2 s2 e2 i2 => ?_) fun s2 i2 => ?_
    · obtain ⟨st, hs, hsm, es⟩ := map_pre e2
      subst es
      try simp only [Mir.run_exit, Mir.run_nox, Mir.run_bind, Mir.run_chk, Mir.run_ret, Mir.run_draw, Mir.run_ifB, Mir.run_any, Mir.run_bindO, Mir.lt_eq, mApp, mExt, mIns, mSet, mRng, mCat, mAdds]
      refine Mir.ret_of (r_reach (B := allC ts) (fun x hx => allC_mem.mpr ⟨st, others_mem hsm, hx⟩) (fun t ht x hx => allC_mem.mpr ⟨t, others_mem ht, hx⟩) (Nat.lt_of_le_of_lt (cset_len _) hl)) fun R ⟨_, hR⟩ => ?_
      refine Mir.forQ (fun pre3 _ => ∀ k ∈ b.2.2.take pre3.length, (∀ x ∈ k, Rch st.2.1 (othersT ts b.1) x) → ∀ x ∈ b.2.1, Rch st.2.1 (othersT ts b.1) x → x ∈ k) (fun b h => by simp at h) (fun pre3 x3 suf3 s3 e3 i3 => ?_) fun s3 i3 => ?_
      · obtain ⟨k, hk, hkm, ek⟩ := map_pre e3
        subst ek
        have h1 : pLe (cset k) R = true ↔ ∀ x ∈ k, Rch st.2.1 (othersT ts b.1) x := by
          rw [pLe_iff]
          exact ⟨fun h x hx => (hR x).mp (h x (cset_mem.mpr hx)), fun h x hx => (hR x).mpr (h x (cset_mem.mp hx))⟩
        have h2 : pLe (pAnd (tblOf b).cols R) (cset k) = true ↔ ∀ x ∈ b.2.1, Rch st.2.1 (othersT ts b.1) x → x ∈ k := by
          rw [pLe_iff]
          constructor
          · intro h x hx hr
            exact cset_mem.mp (h x (cset_mem.mpr (List.mem_filter.mpr ⟨cset_mem.mpr hx, decide_eq_true ((hR x).mpr hr)⟩)))
          · intro h x hx
            obtain ⟨z1, z2⟩ := List.mem_filter.mp (cset_mem.mp hx)
            exact cset_mem.mpr (h x (cset_mem.mp z1) ((hR x).mp (of_decide_eq_true z2)))
        try simp only [Mir.run_exit, Mir.run_nox, Mir.run_bind, Mir.run_chk, Mir.run_ret, Mir.run_draw, Mir.run_ifB, Mir.run_any, Mir.run_bindO, Mir.lt_eq, mApp, mExt, mIns, mSet, mRng, mCat, mAdds]
        split
        · rename_i hq
          rw [Bool.and_eq_true, Bool.not_eq_true', Bool.eq_false_iff] at hq
          constructor
          · intro h; cases h
          · intro h
            refine absurd ⟨b, hbm, st, hsm, k, hkm, h1.mp hq.1, ?_⟩ h
            apply Classical.byContradiction
            intro hn
            refine hq.2 (h2.mpr fun x hx hr => ?_)
            apply Classical.byContradiction
            intro hnk
            exact hn ⟨x, hx, hr, hnk⟩
        · rename_i hq
          intro k' hk'
          rw [List.length_append] at hk'
          rcases take_snoc hk hk' with h | h
          · exact i3 k' h
          · rw [h]
            intro hr
            apply Classical.byContradiction
            intro hn
            refine hq ?_
            rw [Bool.and_eq_true, Bool.not_eq_true', Bool.eq_false_iff]
            exact ⟨h1.mpr hr, fun z => hn (h2.mp z)⟩
      · try simp only [Mir.run_exit, Mir.run_nox, Mir.run_bind, Mir.run_chk, Mir.run_ret, Mir.run_draw, Mir.run_ifB, Mir.run_any, Mir.run_bindO, Mir.lt_eq, mApp, mExt, mIns, mSet, mRng, mCat, mAdds]
        intro s' hs'
        rw [List.length_append] at hs'
        rcases take_snoc hs hs' with h | h
        · exact i2 s' h
        · rw [h]
          have : (tblOf b).keys.length = b.2.2.length := List.length_map _
          rw [this, List.take_length] at i3
          exact i3
    · try simp only [Mir.run_exit, Mir.run_nox, Mir.run_bind, Mir.run_chk, Mir.run_ret, Mir.run_draw, Mir.run_ifB, Mir.run_any, Mir.run_bindO, Mir.lt_eq, mApp, mExt, mIns, mSet, mRng, mCat, mAdds]
      intro b' hb'
      rw [List.length_append] at hb'
      rcases take_snoc hb hb' with h | h
      · exact i b' h
      · rw [h]
        rw [List.length_map, List.take_length] at i2
        rintro ⟨st, hst, k, hk, hr, x, hx, hrx, hn⟩
        exact hn (i2 st hst k hk hr x hx hrx)
  · try simp only [Mir.run_exit, Mir.run_nox, Mir.run_bind, Mir.run_chk, Mir.run_ret, Mir.run_draw, Mir.run_ifB, Mir.run_any, Mir.run_bindO, Mir.lt_eq, mApp, mExt, mIns, mSet, mRng, mCat, mAdds]
    have : (schOf ts).tables.length = ts.length := List.length_map _
    rw [this, List.take_length] at i
    exact ⟨fun _ ⟨b, hb, z⟩ => i b hb z, fun _ => by first | rfl | trivial⟩

end Lw

namespace Lw
open PySem PySem.Spec PyProof.Rows
open L2 (cutS)
theorem r_check {ts : List LT} (o : OkS ts) (nb : ¬ Bad ts) {E : Err → Prop} : (m_check_independent (schOf ts)).run (fun _ => True) E := by
  unfold m_check_independent Mir.exitN
  try simp only [Mir.run_exit, Mir.run_nox, Mir.run_bind, Mir.run_chk, Mir.run_ret, Mir.run_draw, Mir.run_ifB, Mir.run_any, Mir.run_bindO, Mir.lt_eq, mApp, mExt, mIns, mSet, mRng, mCat, mAdds]
  refine Mir.ret_of (r_is_independent (ts := ts) (by have := o.cols; omega)) fun b hb => ?_
  rw [if_neg (by rw [hb.mpr nb]; simp)]
  exact True.intro
theorem e_getitem {ts : List LT} (l : Str) : m_Schema_getitem (schOf ts) l = match ts.find? (fun t => decide (t.1 = l)) with | some t => .ret (tblOf t) | none => .raise (.uTable l) := by
  unfold m_Schema_getitem
  have key : ∀ us : List LT, (Mir.bindO (Mir.forL (us.map tblOf) () (fun s3 x4 => (Mir.ifB (decide ((x4).name = l)) (Mir.ret (Out.rt x4)) (Mir.ret (Out.nx (β := Unit) ()))))) fun (_ : Unit) => (Mir.raise (Err.uTable l) : Mir (Out Unit Tbl))).exit = match us.find? (fun t => decide (t.1 = l)) with | some t => .ret (tblOf t) | none => .raise (.uTable l) := by
    intro us
    induction us with
    | nil => rfl
    | cons u us ih =>
      rw [List.map_cons, Mir.forL_cons, List.find?_cons]
      by_cases e : u.1 = l
      · rw [Mir.ifB_true _ _ (decide_eq_true (show (tblOf u).name = l from e)), decide_eq_true e]
        rfl
      · rw [Mir.ifB_false _ _ (decide_eq_false (show ¬ (tblOf u).name = l from e)), decide_eq_false e, Mir.ret_bindO_nx]
        exact ih
  exact key ts
theorem find_lab {ts : List LT} (nd : (ts.map (·.1)).Nodup) {t : LT} (ht : t ∈ ts) : ts.find? (fun u => decide (u.1 = t.1)) = some t := by
  induction ts with
  | nil => simp at ht
  | cons u ts ih =>
    rw [List.map_cons] at nd
    obtain ⟨n1, n2⟩ := List.nodup_cons.mp nd
    rw [List.find?_cons]
    by_cases e : u.1 = t.1
    · rw [decide_eq_true e]
      rcases List.mem_cons.mp ht with h | h
      · rw [h]
      · exact absurd (by rw [e]; exact List.mem_map_of_mem h) n1
    · rw [decide_eq_false e]
      rcases List.mem_cons.mp ht with h | h
      · exact absurd (by rw [h]) e
      · exact ih n2 h
theorem find_nolab {ts : List LT} {l : Str} (h : l ∉ ts.map (·.1)) : ts.find? (fun u => decide (u.1 = l)) = none := List.find?_eq_none.mpr fun u hu => by
  rw [decide_eq_true_iff]
  exact fun e => h (by rw [← e]; exact List.mem_map_of_mem hu)
section
variable {ts : List LT} (o : OkS ts) (nb : ¬ Bad ts) {t : LT} (ht : t ∈ ts) {rows : List (List Int)} {row : List Int} (hl : rows.length < 90000)
include o nb
theorem may_table {l : Str} (h : l ∉ ts.map (·.1)) {Q : Bool → Prop} {E : Err → Prop} (k : E (.uTable l)) : (m_may_put (schOf ts) l rows row).run Q E := by
  unfold m_may_put
  try simp only [Mir.run_exit, Mir.run_nox, Mir.run_bind, Mir.run_chk, Mir.run_ret, Mir.run_draw, Mir.run_ifB, Mir.run_any, Mir.run_bindO, Mir.lt_eq, mApp, mExt, mIns, mSet, mRng, mCat, mAdds]
  refine Mir.ret_of (r_check o nb) fun _ _ => ?_
  rw [e_getitem, find_nolab h]
  exact k
include ht hl
theorem may_ok (h1 : ∀ r ∈ rows, r.length = t.2.1.length) (h2 : row.length = t.2.1.length) {Q : Bool → Prop} {E : Err → Prop} (k : Q (clashF t rows row).isNone) : (m_may_put (schOf ts) t.1 rows row).run Q E := by
  unfold m_may_put
  try simp only [Mir.run_exit, Mir.run_nox, Mir.run_bind, Mir.run_chk, Mir.run_ret, Mir.run_draw, Mir.run_ifB, Mir.run_any, Mir.run_bindO, Mir.lt_eq, mApp, mExt, mIns, mSet, mRng, mCat, mAdds]
  refine Mir.ret_of (r_check o nb) fun _ _ => ?_
  rw [e_getitem, find_lab o.lab ht]
  show (Mir.ret (tblOf t)).run _ _
  rw [Mir.run_ret]
  refine ⟨by rw [List.length_append]; exact hl, ?_⟩
  refine Mir.forQ (fun _ _ => True) True.intro (fun pre x suf s e i => ?_) fun s i => ?_
  · have hx : x.length = t.2.1.length := by
      have : x ∈ rows ++ [row] := by rw [e]; simp
      rcases List.mem_append.mp this with h | h
      · exact h1 x h
      · rw [List.mem_singleton.mp h]; exact h2
    try simp only [Mir.run_exit, Mir.run_nox, Mir.run_bind, Mir.run_chk, Mir.run_ret, Mir.run_draw, Mir.run_ifB, Mir.run_any, Mir.run_bindO, Mir.lt_eq, mApp, mExt, mIns, mSet, mRng, mCat, mAdds]
    rw [if_neg (by show ¬ decide ((x.length : Int) ≠ (t.2.1.length : Int)) = true; rw [hx]; simp)]
    exact True.intro
  · rw [e_Table_clash h1 h2]
    exact k
theorem may_row (h : ∃ r ∈ rows ++ [row], r.length ≠ t.2.1.length) {Q : Bool → Prop} {E : Err → Prop} (k : E (.iRow t.1)) : (m_may_put (schOf ts) t.1 rows row).run Q E := by
  unfold m_may_put
  try simp only [Mir.run_exit, Mir.run_nox, Mir.run_bind, Mir.run_chk, Mir.run_ret, Mir.run_draw, Mir.run_ifB, Mir.run_any, Mir.run_bindO, Mir.lt_eq, mApp, mExt, mIns, mSet, mRng, mCat, mAdds]
  refine Mir.ret_of (r_check o nb) fun _ _ => ?_
  rw [e_getitem, find_lab o.lab ht]
  show (Mir.ret (tblOf t)).run _ _
  rw [Mir.run_ret]
  refine ⟨by rw [List.length_append]; exact hl, ?_⟩
  refine Mir.forQ (fun pre _ => ∀ r ∈ pre, r.length = t.2.1.length) (fun r h => by simp at h) (fun pre x suf s e i => ?_) fun s i => ?_
  · try simp only [Mir.run_exit, Mir.run_nox, Mir.run_bind, Mir.run_chk, Mir.run_ret, Mir.run_draw, Mir.run_ifB, Mir.run_any, Mir.run_bindO, Mir.lt_eq, mApp, mExt, mIns, mSet, mRng, mCat, mAdds]
    split
    · exact k
    · rename_i hq
      intro r hr
      rcases List.mem_append.mp hr with h | h
      · exact i r h
      · rw [List.mem_singleton.mp h]
        apply Decidable.byContradiction
        intro hne
        refine hq (decide_eq_true ?_)
        show (x.length : Int) ≠ (t.2.1.length : Int)
        omega
  · obtain ⟨r, hr, hne⟩ := h
    exact absurd (i r hr) hne
end

end Lw

namespace Lw
open PySem PySem.Spec PyProof.Rows
open L2 (cutS)
/-- rows over a table's columns -/
def RowsF (t : LT) (rows : List (List Int)) : Prop := ∀ r ∈ rows, r.length = t.2.1.length
theorem comp_anyF {α β : Type} {xs : List α} {e : α → Mir β} {P : β → Prop} {Q : List β → Prop} {E : Err → Prop} (he : ∀ x ∈ xs, (e x).run P E) (k : ∀ ys, ys.length = xs.length → (∀ y ∈ ys, P y) → Q ys) : (Mir.comp xs (fun _ => Mir.ret true) e).run Q E := by
  induction xs generalizing Q with
  | nil => exact k [] rfl fun y h => by simp at h
  | cons x xs ih =>
    show ((e x).bind fun y => (Mir.comp xs _ e).bind fun ys => Mir.ret (y :: ys)).run Q E
    refine Mir.bind_of (he x List.mem_cons_self) fun y hy => ?_
    refine ih (Q := fun ys => Q (y :: ys)) (fun z hz => he z (List.mem_cons_of_mem _ hz)) fun ys h1 h2 => k (y :: ys) (by rw [List.length_cons, h1, List.length_cons]) fun z hz => ?_
    rcases List.mem_cons.mp hz with q | q
    · rw [q]; exact hy
    · exact h2 z q
theorem look_none {α : Type} {d : List (Str × α)} {l : Str} (h : l ∉ d.map (·.1)) : lookD d l = none := by
  unfold lookD
  rw [List.find?_eq_none.mpr fun p hp => ?_]
  · rfl
  · rw [decide_eq_true_iff]
    exact fun e => h (by rw [← e]; exact List.mem_map_of_mem hp)
theorem r__law_filling {ts : List LT} {most : Int} (nd : (ts.map (·.1)).Nodup) (hl : ts.length ≤ 1000) (h0 : 0 ≤ most) (h1 : most ≤ 1000) {E : Err → Prop} :
    (m__law_filling () ts most).run (fun d => d.map (·.1) = ts.map (·.1) ∧ ∀ (i : Nat) t p, ts[i]? = some t → d[i]? = some p → RowsF t p.2 ∧ (p.2.length : Int) ≤ most) E := by
  unfold m__law_filling mValues
  try simp only [Mir.run_exit, Mir.run_nox, Mir.run_bind, Mir.run_chk, Mir.run_ret, Mir.run_draw, Mir.run_ifB, Mir.run_any, Mir.run_bindO, Mir.lt_eq, mApp, mExt, mIns, mSet, mRng, mCat, mAdds]
  refine fun vals hv => ⟨by decide, fun s0 hs0 hs1 => ?_⟩
  refine Mir.forQ (fun pre (d : List (Str × List (List Int))) => d.map (·.1) = pre.map (·.1) ∧ ∀ (i : Nat) t p, pre[i]? = some t → d[i]? = some p → RowsF t p.2 ∧ (p.2.length : Int) ≤ most) ⟨rfl, fun i t p h => by simp at h⟩ (fun pre t suf d e i => ?_) fun d i => ?_
  · obtain ⟨i1, i2⟩ := i
    try simp only [Mir.run_exit, Mir.run_nox, Mir.run_bind, Mir.run_chk, Mir.run_ret, Mir.run_draw, Mir.run_ifB, Mir.run_any, Mir.run_bindO, Mir.lt_eq, mApp, mExt, mIns, mSet, mRng, mCat, mAdds]
    refine ⟨by omega, fun w hw0 hw1 => ⟨⟨by omega, by omega⟩, ?_⟩⟩
    refine Mir.forQ (fun pre2 (rows : List (List Int)) => rows.length ≤ pre2.length ∧ RowsF t rows) ⟨Nat.le_refl _, fun r h => by simp at h⟩ (fun pre2 x suf2 rows e2 j => ?_) fun rows j => ?_
    · obtain ⟨j1, j2⟩ := j
      obtain ⟨_, hp, _⟩ := rangeL_pre e2
      try simp only [Mir.run_exit, Mir.run_nox, Mir.run_bind, Mir.run_chk, Mir.run_ret, Mir.run_draw, Mir.run_ifB, Mir.run_any, Mir.run_bindO, Mir.lt_eq, mApp, mExt, mIns, mSet, mRng, mCat, mAdds]
      refine comp_anyF (P := fun _ => True) (fun _ _ => ?_) fun row hr _ => ?_
      · try simp only [Mir.run_exit, Mir.run_nox, Mir.run_bind, Mir.run_chk, Mir.run_ret, Mir.run_draw, Mir.run_ifB, Mir.run_any, Mir.run_bindO, Mir.lt_eq, mApp, mExt, mIns, mSet, mRng, mCat, mAdds]
        exact ⟨by omega, fun k hk0 hk1 => Mir.run_get_of hk0 (by omega) fun _ _ _ => True.intro⟩
      · have el : (pre2 ++ [x]).length = pre2.length + 1 := List.length_append
        have keep : rows.length ≤ (pre2 ++ [x]).length ∧ RowsF t rows := ⟨by omega, j2⟩
        have add : rows.length < mxL ∧ (rows ++ [row]).length ≤ (pre2 ++ [x]).length ∧ RowsF t (rows ++ [row]) := ⟨by show rows.length < 90000; omega, by rw [List.length_append, el]; exact Nat.succ_le_succ j1, fun r h => by
          rcases List.mem_append.mp h with q | q
          · exact j2 r q
          · rw [List.mem_singleton.mp q]; exact hr⟩
        split
        · rw [e__law_clash j2 hr, Mir.run_ret]
          split
          · exact add
          · exact keep
        · exact keep
    · obtain ⟨j1, j2⟩ := j
      rw [rangeL_len] at j1
      unfold mPutD
      try simp only [Mir.run_exit, Mir.run_nox, Mir.run_bind, Mir.run_chk, Mir.run_ret, Mir.run_draw, Mir.run_ifB, Mir.run_any, Mir.run_bindO, Mir.lt_eq, mApp, mExt, mIns, mSet, mRng, mCat, mAdds]
      have hn : t.1 ∉ d.map (·.1) := by
        rw [i1]
        intro h
        rw [e, List.map_append, List.map_cons] at nd
        exact (List.nodup_append.mp nd).2.2 _ h _ List.mem_cons_self rfl
      have hdl : d.length = pre.length := by
        have := congrArg List.length i1
        rw [List.length_map, List.length_map] at this
        exact this
      have hpl : pre.length < ts.length := by rw [e, List.length_append, List.length_cons]; omega
      refine ⟨⟨look_none hn, by show d.length < 90000; omega⟩, by rw [List.map_append, List.map_append, i1]; rfl, fun k u p hu hp => ?_⟩
      by_cases hk : k < pre.length
      · rw [List.getElem?_append_left hk] at hu
        rw [List.getElem?_append_left (by omega)] at hp
        exact i2 k u p hu hp
      · have hk2 : k < (pre ++ [t]).length := (List.getElem?_eq_some_iff.mp hu).1
        rw [List.length_append] at hk2
        have hk3 : k = pre.length := by simp only [List.length_cons, List.length_nil] at hk2; omega
        subst hk3
        rw [List.getElem?_append_right (Nat.le_refl _), Nat.sub_self] at hu
        rw [List.getElem?_append_right (by omega), hdl, Nat.sub_self] at hp
        cases hu
        cases hp
        exact ⟨j2, by show (rows.length : Int) ≤ most; omega⟩
  · try simp only [Mir.run_exit, Mir.run_nox, Mir.run_bind, Mir.run_chk, Mir.run_ret, Mir.run_draw, Mir.run_ifB, Mir.run_any, Mir.run_bindO, Mir.lt_eq, mApp, mExt, mIns, mSet, mRng, mCat, mAdds]
    exact i

end Lw

namespace Lw
open PySem PySem.Spec PyProof.Rows
open L2 (cutS)
theorem e_Table_init {t : LT} (o : OkT t) : m_Table_init t.1 t.2.1 (t.2.2.map cset) = .ret (tblOf t) := by
  have hl : t.1.length ≤ 1000 := Nat.le_trans (isNm_iff o.nm).2.2.2 (by decide)
  have hk : (decide ((0 : Int) < ((t.2.2.map cset).length : Int))) = true := by
    have := List.length_pos_iff.mpr o.kpos
    rw [List.length_map]; exact decide_eq_true (by omega)
  have hc : ((!((decide ((0 : Int) < ((t.2.1).length : Int)) && decide (((t.2.1).length : Int) ≤ (8 : Int))))) || ((decide (((cset t.2.1).length : Int) < ((t.2.1).length : Int))) || (decide ((8 : Int) < ((t.2.2.map cset).length : Int))))) = false := by
    have h1 := List.length_pos_iff.mpr o.pos
    have h2 := o.le
    have h3 := o.kle
    have h4 := cset_nd_len o.nd
    simp only [Bool.or_eq_false_iff, Bool.not_eq_false', Bool.and_eq_true, decide_eq_true_eq, decide_eq_false_iff_not, List.length_map]
    omega
  unfold m_Table_init
  simp only [mIsName, Mir.chk_t hl, Mir.ret_bind, o.nm, Bool.not_true, Mir.ifB_f, mCols, Mir.chk_t o.nms, hk, if_true, hc]
  rw [Mir.forL_foldS (g := fun _ _ => ()) fun s x hx => ?_]
  · rfl
  · obtain ⟨i, hi, e⟩ := enumFL_mem hx
    obtain ⟨i', k⟩ := x
    rw [Int.zero_add] at e
    have e : i' = (i : Int) := e
    subst e
    have hi : (t.2.2.map cset)[i]? = some k := hi
    rw [List.getElem?_map] at hi
    obtain ⟨k0, hk0, e⟩ := Option.map_eq_some_iff.mp hi
    subst e
    have hm := List.mem_of_getElem? hk0
    have hil : i < t.2.2.length := (List.getElem?_eq_some_iff.mp hk0).1
    show (mCat (cutL (t.2.2.map cset) none (some (i : Int))) (cutL (t.2.2.map cset) (some ((i : Int) + 1)) none)).bind _ = _
    rw [cutL_to, show ((i : Int) + 1) = ((i + 1 : Nat) : Int) by omega, cutL_from]
    unfold mCat
    rw [Mir.chk_t (by
      have := o.kle
      rw [List.length_take, List.length_drop, List.length_map]
      show _ ≤ 90000
      omega), Mir.ret_bind]
    refine Mir.ifB_false _ _ ?_
    have h1 : decide ((((cset k0)).length : Int) = (0 : Int)) = false := decide_eq_false fun z => by
      have : cset k0 = [] := List.length_eq_zero_iff.mp (by omega)
      exact (o.key k0 hm).1 (cset_eq_nil.mp this)
    have h2 : pLe (cset k0) (cset t.2.1) = true := pLe_cset.mpr (o.key k0 hm).2.2
    rw [h1, h2]
    simp only [Bool.not_true, Bool.false_or]
    apply Bool.eq_false_iff.mpr
    intro z
    obtain ⟨b, hb, z⟩ := List.any_eq_true.mp z
    obtain ⟨l, hl2, e⟩ := List.mem_map.mp hb
    subst e
    have pw := List.pairwise_iff_getElem.mp o.anti
    have hget : ∀ (l : List Str) (j : Nat) (hj : j < t.2.2.length), j ≠ i → cset t.2.2[j] = l → pLe (cset k0) l = true → False := by
      intro l j hj hne e z
      subst e
      have z := pLe_cset.mp z
      have ek : t.2.2[i] = k0 := (List.getElem?_eq_some_iff.mp hk0).2
      rcases Nat.lt_or_gt_of_ne hne with q | q
      · exact (pw j i hj hil q).2 (by rw [ek]; exact z)
      · exact (pw i j hil hj q).1 (by rw [ek]; exact z)
    rcases List.mem_append.mp hl2 with h | h
    · obtain ⟨j, hj⟩ := List.getElem?_of_mem h
      rw [List.getElem?_take] at hj
      split at hj
      · rename_i q
        rw [List.getElem?_map] at hj
        obtain ⟨l0, hl0, e⟩ := Option.map_eq_some_iff.mp hj
        exact hget l j (by omega) (by omega) (by rw [← e]; congr 1; exact (List.getElem?_eq_some_iff.mp hl0).2) z
      · cases hj
    · obtain ⟨j, hj⟩ := List.getElem?_of_mem h
      rw [List.getElem?_drop, List.getElem?_map] at hj
      obtain ⟨l0, hl0, e⟩ := Option.map_eq_some_iff.mp hj
      exact hget l (i + 1 + j) (List.getElem?_eq_some_iff.mp hl0).1 (by omega) (by rw [← e]; congr 1; exact (List.getElem?_eq_some_iff.mp hl0).2) z

end Lw

namespace Lw
open PySem PySem.Spec PyProof.Rows
open L2 (cutS)
theorem e_Table_text {t : LT} (o : OkT t) : m_Table_text (tblOf t) = .ret (lineT t) := by
  have hn := (isNm_iff o.nm).2.2.2
  have h2 : (": " : Str).length = 2 := by decide +kernel
  have hh := head_len o
  have h3 : headT t = t.1 ++ (": " : Str) ++ Txt.join " " t.2.1 := rfl
  have hk : (t.2.2.map cset).map (fun k => Txt.join " " k) = t.2.2.map keyT := by rw [List.map_map]; rfl
  unfold m_Table_text mJoin mExt
  simp only [tblOf, empty_app]
  rw [Mir.chk_t (show t.1.length ≤ mxL by show _ ≤ 90000; omega), Mir.chk_t (show (t.1 ++ (": " : Str)).length ≤ mxL by rw [app_len]; show _ ≤ 90000; omega), Mir.chk_t (nms_jn o.cols o.le)]
  simp only [Mir.ret_bind]
  rw [Mir.chk_t (show (t.1 ++ (": " : Str) ++ Txt.join " " t.2.1).length ≤ mxL by rw [← h3]; exact Nat.le_trans hh (by decide))]
  simp only [Mir.ret_bind]
  rw [Mir.chk_t (show ([t.1 ++ (": " : Str) ++ Txt.join " " t.2.1]).length ≤ mxL from (by show 1 ≤ 90000; decide))]
  simp only [Mir.ret_bind]
  rw [hk, Mir.chk_t (by rw [List.length_map]; have := o.kle; show 1 + _ ≤ 90000; omega)]
  rw [← h3]
  show (((Mir.chk (jnOk " / " (lineP t)) _).bind _)).exit.nox = _
  rw [Mir.chk_t (line_jn o)]
  rfl

end Lw

namespace Lw
open PySem PySem.Spec PyProof.Rows
open L2 (cutS)
abbrev sinitF : (List Str × Int × List Str) → (Int × Tbl) → Mir (Out (List Str × Int × List Str) Unit) := fun s5 x6 => (mExt s5.1 (((x6.2).names).filter (fun name8 => (decide (name8 ∉ s5.1)))) fun names7 => (Mir.lt (s5.2.1 + (((x6.2).keys).length : Int)) fun keys9 => (Mir.ifB ((decide ((x6.2).name ∈ s5.2.2)) || (decide ((6 : Int) < x6.1))) Mir.fail (Mir.ifB ((decide ((8 : Int) < ((names7).length : Int))) || (decide ((8 : Int) < keys9))) Mir.fail (mApp s5.2.2 (x6.2).name fun labels10 => (Mir.ret (Out.nx (names7, keys9, labels10))))))))
theorem sinit_loop : ∀ (us pre : List LT), OkS (pre ++ us) → Mir.forL (enumFL (1 + (pre.length : Int)) (us.map tblOf)) (allC pre, (keyN pre : Int), pre.map (·.1)) sinitF = .ret (.nx (allC (pre ++ us), (keyN (pre ++ us) : Int), (pre ++ us).map (·.1)))
  | [], pre, _ => by rw [List.append_nil]; rfl
  | t :: us, pre, o => by
    have o' : OkS (pre ++ [t] ++ us) := by rw [List.append_assoc]; exact o
    have o1 : OkS (pre ++ [t]) := o'.sub (List.sublist_append_left _ _)
    have ih := sinit_loop us (pre ++ [t]) o'
    have e1 : addC (allC pre) t.2.1 = allC pre ++ (t.2.1.filter fun x => decide (x ∉ allC pre)) := rfl
    have l1 : (allC pre ++ (t.2.1.filter fun x => decide (x ∉ allC pre))).length ≤ 8 := by have := o1.cols; rw [allC_snoc, e1] at this; exact this
    have l2 : keyN pre + t.2.2.length ≤ 8 := by have := o1.keys; rw [keyN_snoc] at this; exact this
    have l3 : pre.length + 1 ≤ 6 := by have := o1.len; rw [List.length_append] at this; exact this
    have l4 : t.1 ∉ pre.map (·.1) := by
      have := o1.lab
      rw [List.map_append] at this
      intro z
      exact (List.nodup_append.mp this).2.2 _ z t.1 (by simp) rfl
    rw [List.map_cons, enumFL_cons, Mir.forL_cons]
    have e : sinitF (allC pre, (keyN pre : Int), pre.map (·.1)) (1 + (pre.length : Int), tblOf t) = .ret (.nx (allC (pre ++ [t]), (keyN (pre ++ [t]) : Int), (pre ++ [t]).map (·.1))) := by
      show Mir.chk ((allC pre).length + (t.2.1.filter fun x => decide (x ∉ allC pre)).length ≤ mxL) _ = _
      rw [Mir.chk_t (by rw [← List.length_append]; exact Nat.le_trans l1 (by decide))]
      show Mir.ifB ((decide (t.1 ∈ pre.map (·.1))) || (decide ((6 : Int) < 1 + (pre.length : Int)))) Mir.fail _ = _
      rw [Mir.ifB_false _ _ (by simp only [Bool.or_eq_false_iff, decide_eq_false_iff_not]; exact ⟨l4, by omega⟩)]
      rw [Mir.ifB_false _ _ (by
        simp only [Bool.or_eq_false_iff, decide_eq_false_iff_not]
        refine ⟨by have l1 : (allC pre ++ List.filter (fun name8 => decide (name8 ∉ allC pre)) (tblOf t).names).length ≤ 8 := l1; omega, ?_⟩
        show ¬ (8 : Int) < (keyN pre : Int) + ((t.2.2.map cset).length : Int)
        rw [List.length_map]; omega)]
      show Mir.chk ((pre.map (·.1)).length < mxL) _ = _
      rw [Mir.chk_t (by rw [List.length_map]; show _ < 90000; omega), allC_snoc, keyN_snoc, List.map_append]
      show Mir.ret (Out.nx (_, (keyN pre : Int) + ((t.2.2.map cset).length : Int), _)) = _
      rw [List.length_map]
      rfl
    rw [e, Mir.ret_bindO_nx]
    have e2 : 1 + (pre.length : Int) + 1 = 1 + ((pre ++ [t]).length : Int) := by rw [List.length_append]; show _ = 1 + ((pre.length + 1 : Nat) : Int); omega
    rw [e2, ih, List.append_assoc]
    rfl
theorem allC_nms {ts : List LT} (o : OkS ts) : Nms (allC ts) := by
  have nd := allC_nd fun t ht => (o.ok t ht).nd
  refine ⟨fun x hx => ?_, Nat.le_trans o.cols (by decide), ?_⟩
  · obtain ⟨t, ht, z⟩ := allC_mem.mp hx
    exact (o.ok t ht).cols x z
  · rw [cset_nd_len nd]; have := o.cols; omega
theorem e_Schema_init {ts : List LT} (o : OkS ts) : m_Schema_init (ts.map tblOf) = .ret (schOf ts) := by
  have z := sinit_loop ts [] o
  unfold m_Schema_init
  simp only [Mir.lt_eq]
  show (Mir.bindO (Mir.forL (enumFL 1 (ts.map tblOf)) (([] : List Str), (0 : Int), ([] : List Str)) sinitF) _).ini = _
  rw [show Mir.forL (enumFL 1 (ts.map tblOf)) (([] : List Str), (0 : Int), ([] : List Str)) sinitF = _ from z, Mir.ret_bindO_nx]
  show (((mCols (allC ts)).bind _)).ini = _
  unfold mCols
  rw [Mir.chk_t (allC_nms o)]
  rfl

end Lw

namespace Lw
open PySem PySem.Spec PyProof.Rows
open L2 (cutS)
theorem e_read_table {t : LT} (o : OkT t) : m_read_table (lineT t) = .ret (tblOf t) := by
  have hh := head_len o
  have hs := line_split o
  have hn := (isNm_iff o.nm).2.2.2
  unfold m_read_table mSplit
  rw [hs, Mir.chk_t ⟨Nat.le_trans (lineP_n o) (by decide), fun x hx => Nat.le_trans (lineP_len o x hx) (by decide)⟩]
  simp only [Mir.ret_bind]
  have hhead : ∀ f : Str → List Str → Mir (Out Unit Tbl), mHead (lineP t) f = f (headT t) (t.2.2.map keyT) := fun f => Mir.ext fun Q E => propext ⟨fun ⟨x, r, e, _, q⟩ => by
    unfold lineP at e
    injection e with e1 e2
    subst e1; subst e2
    exact q, fun q => ⟨_, _, rfl, by rw [List.length_map]; have := o.kle; omega, q⟩⟩
  rw [hhead]
  unfold mPart
  rw [head_part o]
  have hnl := nms_len o.cols o.le
  rw [Mir.chk_t (by
    refine ⟨?_, ?_, ?_⟩
    · show t.1.length ≤ 90000; omega
    · show (": " : Str).length ≤ 90000; decide +kernel
    · show (Txt.join " " t.2.1).length ≤ 90000; omega)]
  simp only [Mir.ret_bind]
  have hc : Mir.comp (t.2.2.map keyT) (fun _ => Mir.ret true) (fun key5 => readC key5) = .ret (t.2.2.map cset) := by
    have key : ∀ ks : List (List Str), (∀ k ∈ ks, k ∈ t.2.2) → Mir.comp (ks.map keyT) (fun _ => Mir.ret true) (fun key5 => readC key5) = .ret (ks.map cset) := by
      intro ks
      induction ks with
      | nil => intro _; rfl
      | cons k ks ih =>
        intro h
        have hk := h k List.mem_cons_self
        show ((readC (keyT k)).bind fun y => (Mir.comp (ks.map keyT) _ _).bind fun ys => Mir.ret (y :: ys)) = _
        rw [show readC (keyT k) = .ret (cset (cset k)) from readC_eq (o.knms hk).cset, Mir.ret_bind, ih fun k hk => h k (List.mem_cons_of_mem _ hk), cset_cset]
        rfl
    exact key _ fun _ h => h
  rw [hc, Mir.nox_ret, Mir.ret_bind, read_split o.cols o.pos, Mir.chk_t ⟨Nat.le_trans o.le (by decide), fun x hx => by have := (isNm_iff (o.cols x hx)).2.2.2; show _ ≤ 90000; omega⟩]
  simp only [Mir.ret_bind]
  rw [e_Table_init o]
  simp only [Mir.ret_bind]
  rw [e_Table_text o]
  simp only [Mir.ret_bind]
  rw [Mir.ifB_false _ _ (by simp)]
  rfl
theorem e_Schema_add {ts : List LT} {t : LT} (o : OkS (ts ++ [t])) : m_Schema_add (schOf ts) (tblOf t) = .ret (schOf (ts ++ [t])) := by
  have hl : ts.length ≤ 6 := Nat.le_trans (List.Sublist.length_le (List.sublist_append_left ts [t])) o.len
  have e : (schOf ts).tables ++ [tblOf t] = (ts ++ [t]).map tblOf := by rw [List.map_append]; rfl
  unfold m_Schema_add
  rw [Mir.chk_t (by show (ts.map tblOf).length < 90000; rw [List.length_map]; omega), e, e_Schema_init o]
  rfl
theorem tryM_ret {α : Type} (a : α) (h : Err → Mir α) : Mir.tryM (.ret a) h = .ret a := rfl
theorem sread_loop {h : Err → Mir (Out Tbl Sch)} : ∀ (us pre : List LT) (k : Int), OkS (pre ++ us) → Mir.forL (enumFL k (us.map lineT)) (schOf pre) (fun s5 x6 => (Mir.bindO (Mir.tryM (((m_read_table x6.2)).bind fun table7 => (Mir.ret (Out.nx table7))) h) fun s8 => (((m_Schema_add s5 s8)).bind fun schema9 => (Mir.ret (Out.nx (ρ := Sch) schema9))))) = .ret (.nx (schOf (pre ++ us)))
  | [], pre, k, _ => by rw [List.append_nil]; rfl
  | t :: us, pre, k, o => by
    have o' : OkS (pre ++ [t] ++ us) := by rw [List.append_assoc]; exact o
    have ih := sread_loop (h := h) us (pre ++ [t]) (k + 1) o'
    rw [List.map_cons, enumFL_cons, Mir.forL_cons]
    show Mir.bindO (Mir.bindO (Mir.tryM ((m_read_table (lineT t)).bind _) _) _) _ = _
    rw [e_read_table (o.ok t (by simp))]
    simp only [Mir.ret_bind, tryM_ret, Mir.ret_bindO_nx]
    rw [e_Schema_add (o'.sub (List.sublist_append_left _ _))]
    simp only [Mir.ret_bind, Mir.ret_bindO_nx]
    rw [List.append_assoc] at ih
    exact ih
theorem e_Schema_nil : m_Schema_init [] = .ret (schOf []) := e_Schema_init OkS.nil
theorem e_Schema_read {ts : List LT} (o : OkS ts) : m_Schema_read (textT ts) = .ret (schOf ts) := by
  unfold m_Schema_read
  rw [e_Schema_nil]
  simp only [Mir.ret_bind]
  have hs : Mir.ifB (decide (textT ts ≠ ("" : Str))) (mSplit (textT ts) ("\n" : Str)) (Mir.ret (([] : (List Str)))) = .ret (ts.map lineT) := by
    by_cases h : ts = []
    · subst h
      rfl
    · rw [Mir.ifB_true _ _ (decide_eq_true (show textT ts ≠ ("" : Str) from fun e => h (text_ne o.ok e)))]
      unfold mSplit
      rw [text_split o.ok h, Mir.chk_t ⟨by rw [List.length_map]; exact Nat.le_trans o.len (by decide), fun x hx => by
        obtain ⟨t, ht, rfl⟩ := List.mem_map.mp hx
        exact Nat.le_trans (line_len (o.ok t ht)) (by decide)⟩]
  rw [hs]
  simp only [Mir.ret_bind]
  rw [show schOf [] = schOf ([] : List LT) from rfl, sread_loop ts [] 1 o]
  rfl

end Lw

namespace Lw
open PySem PySem.Spec PyProof.Rows
open L2 (cutS)
theorem e__law_text {ts : List LT} (h : ∀ t ∈ ts, OkT t) (hl : ts.length ≤ 100) : m__law_text ts = .ret (textT ts) := by
  unfold m__law_text
  have hin : ∀ {t : LT}, OkT t → Mir.forL t.2.2 [headT t] (fun s10 x11 => (((((mSort ((x11).map fun name13 => name13))).bind fun v14 => (mJoin (" " : Str) v14))).bind fun v15 => (mApp s10 v15 fun parts12 => (Mir.ret (Out.nx (ρ := Str) parts12))))) = .ret (.nx (lineP t)) := by
    intro t o
    have z := Mir.forL_fold (ρ := Str) (f := fun s10 x11 => (((((mSort ((x11).map fun name13 => name13))).bind fun v14 => (mJoin (" " : Str) v14))).bind fun v15 => (mApp s10 v15 fun parts12 => (Mir.ret (Out.nx parts12))))) (g := fun s k => s ++ [keyT k]) (I := fun pre s => s.length = pre.length + 1) (xs := t.2.2) (s := [headT t]) rfl fun pre k suf s e i => ⟨by
      have hk : k ∈ t.2.2 := by rw [e]; simp
      have hlen : pre.length < 8 := by have := o.kle; rw [e] at this; simp at this; omega
      unfold mSort mJoin mApp
      rw [List.map_id'', Mir.chk_t (show k.length < 64 by have := o.klen hk; omega)]
      · simp only [Mir.ret_bind]
        rw [ssort_cset (o.key k hk).2.1, Mir.chk_t (nms_jn (fun x hx => o.knm hk x (cset_mem.mp hx)) (Nat.le_trans (cset_len k) (o.klen hk)))]
        simp only [Mir.ret_bind]
        rw [Mir.chk_t (show s.length < mxL by rw [i]; show _ < 90000; omega)]
        rfl
      · exact fun _ => rfl, by rw [List.length_append, List.length_append, i]; rfl⟩
    rw [z.1, foldl_snoc]
    rfl
  have z := Mir.forL_fold (ρ := Str) (f := fun s3 (x4 : LT) => (((((((((mAdds x4.1 (": " : Str))).bind fun v5 => (((mJoin (" " : Str) x4.2.1)).bind fun v6 => (mAdds v5 v6)))).bind fun v7 => Mir.ret [v7])).bind fun v8 => Mir.chk (v8.length ≤ mxL) (Mir.ret v8))).bind fun parts9 => (Mir.bindO (Mir.forL x4.2.2 parts9 fun s10 x11 => (((((mSort ((x11).map fun name13 => name13))).bind fun v14 => (mJoin (" " : Str) v14))).bind fun v15 => (mApp s10 v15 fun parts12 => (Mir.ret (Out.nx parts12))))) fun s10 => (((mJoin (" / " : Str) s10)).bind fun v17 => (mApp s3 v17 fun lines16 => (Mir.ret (Out.nx lines16)))))))
    (g := fun s t => s ++ [lineT t]) (I := fun pre s => s.length = pre.length) (xs := ts) (s := []) rfl fun pre t suf s e i => ⟨by
      have o := h t (by rw [e]; simp)
      have hn := (isNm_iff o.nm).2.2.2
      have h2 : (": " : Str).length = 2 := by decide +kernel
      have hh := nms_len o.cols o.le
      have hlen : pre.length < 100 := by rw [e] at hl; simp at hl; omega
      unfold mAdds mJoin mApp
      rw [Mir.chk_t (show t.1.length + (": " : Str).length ≤ mxL by show _ ≤ 90000; omega)]
      simp only [Mir.ret_bind]
      rw [Mir.chk_t (nms_jn o.cols o.le)]
      simp only [Mir.ret_bind]
      rw [Mir.chk_t (show (t.1 ++ (": " : Str)).length + (Txt.join " " t.2.1).length ≤ mxL by rw [app_len]; show _ ≤ 90000; omega)]
      simp only [Mir.ret_bind]
      rw [Mir.chk_t (show ([t.1 ++ (": " : Str) ++ Txt.join " " t.2.1]).length ≤ mxL from (by show 1 ≤ 90000; decide))]
      simp only [Mir.ret_bind]
      have hin := hin o
      unfold mJoin mApp at hin
      rw [show t.1 ++ (": " : Str) ++ Txt.join " " t.2.1 = headT t from rfl, hin, Mir.ret_bindO_nx, Mir.chk_t (line_jn o)]
      simp only [Mir.ret_bind]
      rw [Mir.chk_t (show s.length < mxL by rw [i]; show _ < 90000; omega)]
      rfl, by rw [List.length_append, List.length_append, i]; rfl⟩
  rw [Mir.lt_eq, z.1, foldl_snoc, Mir.ret_bindO_nx]
  unfold mJoin
  rw [List.nil_append, Mir.chk_t (text_jn h hl)]
  rfl

end Lw

namespace Lw
open PySem PySem.Spec PyProof.Rows
open L2 (cutS)
theorem e__law_flag27 (a b : Bool) : m__law_flag a b = .ret (decide (a = b)) := by
  unfold m__law_flag
  simp
theorem ref_run {sc : Sch} {l : Str} {rows : List (List Int)} {row : List Int} {X : Option (Str × Str)} (h : (m_may_put sc l rows row).run (fun _ => X = none) (fun e => match e with | .uTable f => X = some (("table" : Str), f) | .iRow f => X = some (("row" : Str), f) | _ => False)) {E : Err → Prop} :
    (m__law_refused sc l rows row).run (fun r => r = X) E := by
  unfold m__law_refused
  try simp only [Mir.run_exit, Mir.run_nox, Mir.run_bind, Mir.run_chk, Mir.run_ret, Mir.run_draw, Mir.run_ifB, Mir.run_any, Mir.run_bindO, Mir.lt_eq, mApp, mExt, mIns, mSet, mRng, mCat, mAdds]
  simp only [Mir.run_tryM]
  refine (m_may_put sc l rows row).mono (fun b z => z.symm) (fun e z => ?_) h
  cases e <;> first | exact z.symm | exact z.elim
def k27tail (names2 : List Str) (schema7 : Sch) (table9 : LT) (row24 : List Int) (s33 : List (List Int)) : Mir (Out Unit Bool) := (((((((m_may_put schema7 table9.1 s33 row24)).bind fun v35 => (((((m__law_clash table9 s33 row24)).bind fun v34 => Mir.ret ((v34).isNone))).bind fun v36 => (m__law_flag v35 v36)))).bind fun v37 => Mir.ret (!(v37)))).bind fun v61 => (Mir.ifB v61 (Mir.ret (Out.rt false)) (((((((((mCat row24 [(0 : Int)])).bind fun v38 => Mir.ret [(cutL row24 (some (1 : Int)) none), v38])).bind fun v39 => Mir.chk (v39.length ≤ mxL) (Mir.ret v39))).bind fun v40 => (((Mir.draw (2 : Int))).bind fun v41 => (Mir.get v40 v41)))).bind fun bad42 => (((((((Mir.get names2 (14 : Int))).bind fun v45 => (((((((Mir.get names2 (0 : Int))).bind fun v43 => Mir.ret (cutS v43 none (some (7 : Int))))).bind fun v44 => (mAdds ("A" : Str) v44))).bind fun v46 => Mir.ret [v45, ("" : Str), v46]))).bind fun v47 => Mir.chk (v47.length ≤ mxL) (Mir.ret v47))).bind fun v60 => (Mir.bindO (Mir.forL v60 () fun s48 x49 => (((((m__law_refused schema7 x49 s33 bad42)).bind fun v50 => Mir.ret ((decide (v50 ≠ (some (("table" : Str), x49))))))).bind fun v51 => (Mir.ifB v51 (Mir.ret (Out.rt false)) (Mir.ret (Out.nx ()))))) fun s48 => (((((m__law_refused schema7 table9.1 s33 bad42)).bind fun v52 => Mir.ret ((decide (v52 ≠ (some (("row" : Str), table9.1))))))).bind fun v59 => (Mir.ifB v59 (Mir.ret (Out.rt false)) (((((m__law_refused schema7 table9.1 s33 row24)).bind fun v53 => Mir.ret ((decide (v53 ≠ (none : (Option (Str × Str)))))))).bind fun v58 => (Mir.ifB v58 (Mir.ret (Out.rt false)) (((Mir.draw (((s33).length : Int) + (1 : Int)))).bind fun v57 => (mIns s33 v57 bad42 fun rows54 => (((((m__law_refused schema7 table9.1 rows54 row24)).bind fun v55 => Mir.ret ((decide (v55 = (some (("row" : Str), table9.1))))))).bind fun v56 => (Mir.ret (Out.rt v56))))))))))))))
def k27rest (names2 : List Str) (schema7 : Sch) (table9 : LT) (rows11 : List (List Int)) (row24 : List Int) : Mir (Out Unit Bool) := (((Mir.ret rows11)).bind fun kept25 => (((((((((m_may_put schema7 table9.1 rows11 row24)).bind fun v27 => (((((m__law_clash table9 rows11 row24)).bind fun v26 => Mir.ret ((v26).isNone))).bind fun v28 => (m__law_flag v27 v28)))).bind fun v29 => Mir.ret (!(v29)))).bind fun v30 => (Mir.ifB v30 (Mir.ret true) (Mir.ret ((decide (rows11 ≠ kept25))))))).bind fun v62 => (Mir.ifB v62 (Mir.ret (Out.rt false)) (Mir.bindO (Mir.ifB (decide (rows11 ≠ ([] : (List (List Int))))) (((Mir.draw ((rows11).length : Int))).bind fun v32 => (mPopAt rows11 v32 fun rows31 => (Mir.ret (Out.nx rows31)))) (Mir.ret (Out.nx rows11))) fun s33 => (((((((m_may_put schema7 table9.1 s33 row24)).bind fun v35 => (((((m__law_clash table9 s33 row24)).bind fun v34 => Mir.ret ((v34).isNone))).bind fun v36 => (m__law_flag v35 v36)))).bind fun v37 => Mir.ret (!(v37)))).bind fun v61 => (Mir.ifB v61 (Mir.ret (Out.rt false)) (((((((((mCat row24 [(0 : Int)])).bind fun v38 => Mir.ret [(cutL row24 (some (1 : Int)) none), v38])).bind fun v39 => Mir.chk (v39.length ≤ mxL) (Mir.ret v39))).bind fun v40 => (((Mir.draw (2 : Int))).bind fun v41 => (Mir.get v40 v41)))).bind fun bad42 => (((((((Mir.get names2 (14 : Int))).bind fun v45 => (((((((Mir.get names2 (0 : Int))).bind fun v43 => Mir.ret (cutS v43 none (some (7 : Int))))).bind fun v44 => (mAdds ("A" : Str) v44))).bind fun v46 => Mir.ret [v45, ("" : Str), v46]))).bind fun v47 => Mir.chk (v47.length ≤ mxL) (Mir.ret v47))).bind fun v60 => (Mir.bindO (Mir.forL v60 () fun s48 x49 => (((((m__law_refused schema7 x49 s33 bad42)).bind fun v50 => Mir.ret ((decide (v50 ≠ (some (("table" : Str), x49))))))).bind fun v51 => (Mir.ifB v51 (Mir.ret (Out.rt false)) (Mir.ret (Out.nx ()))))) fun s48 => (((((m__law_refused schema7 table9.1 s33 bad42)).bind fun v52 => Mir.ret ((decide (v52 ≠ (some (("row" : Str), table9.1))))))).bind fun v59 => (Mir.ifB v59 (Mir.ret (Out.rt false)) (((((m__law_refused schema7 table9.1 s33 row24)).bind fun v53 => Mir.ret ((decide (v53 ≠ (none : (Option (Str × Str)))))))).bind fun v58 => (Mir.ifB v58 (Mir.ret (Out.rt false)) (((Mir.draw (((s33).length : Int) + (1 : Int)))).bind fun v57 => (mIns s33 v57 bad42 fun rows54 => (((((m__law_refused schema7 table9.1 rows54 row24)).bind fun v55 => Mir.ret ((decide (v55 = (some (("row" : Str), table9.1))))))).bind fun v56 => (Mir.ret (Out.rt v56))))))))))))))))))
theorem no_lab {us : List LT} (ok : ∀ t ∈ us, OkT t) {w : Str} (h : isNm w = false) : w ∉ us.map (·.1) := fun z => by
  obtain ⟨t, ht, e⟩ := List.mem_map.mp z
  have := (ok t ht).nm
  rw [e, h] at this; cases this
theorem tail27 {us : List LT} {nm : List Str} (o : OkS us) (nb : ¬ Bad us) {t : LT} (ht : t ∈ us) {rows : List (List Int)} {row : List Int} (hn : nm.length = 16) (hok : ∀ x ∈ nm, isNm x = true) (h14 : ∀ w, nm[14]? = some w → w ∉ us.map (·.1))
    (hl : rows.length ≤ 11) (h1 : RowsF t rows) (h2 : row.length = t.2.1.length) : (k27rest nm (schOf us) t rows row).run (fun o => match o with | .nx _ => False | .rt r => r = true) fun _ => False := by
  have ot := o.ok t ht
  have hpos := List.length_pos_iff.mpr ot.pos
  have hle := ot.le
  unfold k27rest mPopAt
  try simp only [Mir.run_exit, Mir.run_nox, Mir.run_bind, Mir.run_chk, Mir.run_ret, Mir.run_draw, Mir.run_ifB, Mir.run_any, Mir.run_bindO, Mir.lt_eq, mApp, mExt, mIns, mSet, mRng, mCat, mAdds]
  refine may_ok o nb ht (by omega) h1 h2 ?_
  rw [e__law_clash h1 h2, Mir.run_ret, e__law_flag27, Mir.run_ret, decide_eq_true rfl, if_neg (show ¬ (!true) = true by decide), if_neg (show ¬ decide (rows ≠ rows) = true by simp)]
  -- what is left behind the pop
  have key : ∀ rs : List (List Int), rs.length ≤ 11 → RowsF t rs → (k27tail nm (schOf us) t row rs).run (fun o => match o with | .nx _ => False | .rt r => r = true) fun _ => False := by
    unfold k27tail
    intro rs hrl hrs
    try simp only [Mir.run_exit, Mir.run_nox, Mir.run_bind, Mir.run_chk, Mir.run_ret, Mir.run_draw, Mir.run_ifB, Mir.run_any, Mir.run_bindO, Mir.lt_eq, mApp, mExt, mIns, mSet, mRng, mCat, mAdds]
    refine may_ok o nb ht (by omega) hrs h2 ?_
    rw [e__law_clash hrs h2, Mir.run_ret, e__law_flag27, Mir.run_ret]
    simp only [decide_true, Bool.not_true, Bool.false_eq_true, if_false]
    refine ⟨by show row.length + 1 ≤ 90000; omega, by show 2 ≤ 90000; decide, by decide, fun k hk0 hk1 => ?_⟩
    refine Mir.run_get_of hk0 (by show k < 2; omega) fun bad _ hbad => ?_
    have hb : bad.length ≠ t.2.1.length := by
      rcases List.mem_cons.mp hbad with h | h
      · rw [h, show cutL row (some (1 : Int)) none = row.drop 1 from cutL_from row 1, List.length_drop]; omega
      · rw [List.mem_singleton.mp h, List.length_append]
        simp only [List.length_cons, List.length_nil]
        omega
    refine Mir.run_get_of (by decide) (by rw [hn]; decide) fun w14 hw14 _ => ?_
    refine Mir.run_get_of (by decide) (by rw [hn]; decide) fun w0 _ hw0 => ?_
    have l0 := (isNm_iff (hok _ hw0)).2.2.2
    have lc : (cutS w0 none (some (7 : Int))).length ≤ 8 := Nat.le_trans (cut_len_le _ _ _) l0
    refine ⟨by show 1 + (cutS w0 none (some (7 : Int))).length ≤ 90000; omega, by show 3 ≤ 90000; decide, ?_⟩
    have badn : ∀ y : Str, isNm ("A" ++ y) = false := fun y => by
      have e : ("A" ++ y : Str).cps.toList = 65 :: y.cps.toList := by rw [Str.cps_append, Array.toList_append]; rfl
      unfold isNm
      rw [e]
      show (decide _ && (lowB 65 && _)) = false
      rw [show lowB 65 = false by decide, Bool.false_and, Bool.and_false]
    refine Mir.forQ (fun _ _ => True) True.intro (fun pre x suf s e i => ?_) fun s i => ?_
    · have hx : x ∉ us.map (·.1) := by
        have hm : x ∈ [w14, ("" : Str), "A" ++ cutS w0 none (some (7 : Int))] := by rw [e]; simp
        rcases List.mem_cons.mp hm with h | h
        · rw [h]; exact h14 w14 hw14
        · rcases List.mem_cons.mp h with h | h
          · rw [h]; exact no_lab o.ok (by decide +kernel)
          · rw [List.mem_singleton.mp h]; exact no_lab o.ok (badn _)
      try simp only [Mir.run_exit, Mir.run_nox, Mir.run_bind, Mir.run_chk, Mir.run_ret, Mir.run_draw, Mir.run_ifB, Mir.run_any, Mir.run_bindO, Mir.lt_eq, mApp, mExt, mIns, mSet, mRng, mCat, mAdds]
      refine Mir.ret_of (ref_run (X := some (("table" : Str), x)) (may_table o nb hx rfl)) fun r hr => ?_
      rw [hr]
      simp
    · try simp only [Mir.run_exit, Mir.run_nox, Mir.run_bind, Mir.run_chk, Mir.run_ret, Mir.run_draw, Mir.run_ifB, Mir.run_any, Mir.run_bindO, Mir.lt_eq, mApp, mExt, mIns, mSet, mRng, mCat, mAdds]
      refine Mir.ret_of (ref_run (X := some (("row" : Str), t.1)) (may_row o nb ht (by omega) ⟨bad, by simp, hb⟩ rfl)) fun r hr => ?_
      rw [hr]
      simp only [ne_eq, not_true_eq_false, decide_false, Bool.false_eq_true, if_false]
      refine Mir.ret_of (ref_run (X := none) (may_ok o nb ht (by omega) hrs h2 rfl)) fun r hr => ?_
      rw [hr]
      simp only [ne_eq, not_true_eq_false, decide_false, Bool.false_eq_true, if_false]
      refine ⟨by omega, fun k hk0 hk1 => ⟨⟨by show rs.length < 90000; omega, hk0, by omega⟩, ?_⟩⟩
      refine Mir.ret_of (ref_run (X := some (("row" : Str), t.1)) (may_row o nb ht (by rw [insAt_len]; omega) ⟨bad, List.mem_append_left _ (insAt_mem.mpr (.inl rfl)), hb⟩ rfl)) fun r hr => ?_
      rw [hr]
      exact decide_eq_true rfl
  split
  · try simp only [Mir.run_exit, Mir.run_nox, Mir.run_bind, Mir.run_chk, Mir.run_ret, Mir.run_draw, Mir.run_ifB, Mir.run_any, Mir.run_bindO, Mir.lt_eq, mApp, mExt, mIns, mSet, mRng, mCat, mAdds]
    have hr0 : rows ≠ [] := by rename_i h; simpa using h
    have hp := List.length_pos_iff.mpr hr0
    refine ⟨by omega, fun k hk0 hk1 => ⟨⟨hk0, hk1⟩, ?_⟩⟩
    unfold k27tail at key
    have z := key (rows.eraseIdx k.toNat) (Nat.le_trans (List.length_eraseIdx_le _ _) hl) fun r hr => h1 r (List.mem_of_mem_eraseIdx hr)
    try simp only [Mir.run_exit, Mir.run_nox, Mir.run_bind, Mir.run_chk, Mir.run_ret, Mir.run_draw, Mir.run_ifB, Mir.run_any, Mir.run_bindO, Mir.lt_eq, mApp, mExt, mIns, mSet, mRng, mCat, mAdds] at z
    exact z
  · unfold k27tail at key
    have z := key rows hl h1
    try simp only [Mir.run_exit, Mir.run_nox, Mir.run_bind, Mir.run_chk, Mir.run_ret, Mir.run_draw, Mir.run_ifB, Mir.run_any, Mir.run_bindO, Mir.lt_eq, mApp, mExt, mIns, mSet, mRng, mCat, mAdds] at z
    rw [e__law_clash h1 h2] at z
    exact z
theorem law_ok : m_law.run (fun r => r = true) fun _ => False := by
  unfold m_law
  show (Mir.bind (Mir.ret ()) _).exit.nox.run _ _
  try simp only [Mir.run_exit, Mir.run_nox, Mir.run_bind, Mir.run_chk, Mir.run_ret, Mir.run_draw, Mir.run_ifB, Mir.run_any, Mir.run_bindO, Mir.lt_eq, mApp, mExt, mIns, mSet, mRng, mCat, mAdds]
  unfold mNames
  try simp only [Mir.run_exit, Mir.run_nox, Mir.run_bind, Mir.run_chk, Mir.run_ret, Mir.run_draw, Mir.run_ifB, Mir.run_any, Mir.run_bindO, Mir.lt_eq, mApp, mExt, mIns, mSet, mRng, mCat, mAdds]
  refine ⟨by decide, fun nm ⟨n1, n2, n3⟩ => ?_⟩
  have n1 : nm.length = 16 := n1
  refine Mir.ret_of (r__law_labels2 n3 (by omega) n2) fun lb ⟨l1, l2, l3, l4⟩ => ?_
  have s8 : (nm.take 8).Sublist nm := List.take_sublist _ _
  rw [show cutL nm none (some (8 : Int)) = nm.take 8 from cutL_to nm 8]
  refine Mir.ret_of (r__law_schema (n3.sublist s8) (by rw [List.length_take, n1]; rfl) (fun x hx => n2 x (s8.subset hx)) l3 (by rw [l1]; decide) (by decide) (by decide)) fun ts d => ?_
  have o0 := d.oks (by rw [List.length_take, n1]; decide) l2 (by decide)
  refine Mir.ret_of (r__law_sound o0) fun us ⟨u1, u2, u3⟩ => ?_
  have o := o0.sub u1
  have hu := List.length_pos_iff.mpr (u3 d.pos)
  have hu6 := o.len
  have h14 : ∀ w, nm[14]? = some w → w ∉ us.map (·.1) := fun w hw hm => by
    have h1 : w ∈ ts.map (·.1) := (u1.map (·.1)).subset hm
    have h2 : w ∈ lb := List.mem_of_mem_take (d.lab.mem_iff.mp h1)
    have h3 : w ∈ nm.take 14 := l4 w h2
    obtain ⟨j, hj, e⟩ := take_mem h3
    have pw := List.pairwise_iff_getElem.mp n3
    obtain ⟨hj1, e1⟩ := List.getElem?_eq_some_iff.mp e
    obtain ⟨hj2, e2⟩ := List.getElem?_eq_some_iff.mp hw
    exact pw j 14 hj1 hj2 hj (by rw [e1, e2])
  rw [e__law_text o.ok (Nat.le_trans o.len (by decide)), Mir.run_ret, e_Schema_read o, Mir.run_ret]
  refine ⟨by omega, fun k hk0 hk1 => ?_⟩
  refine Mir.run_get_of hk0 hk1 fun t _ ht => ?_
  have ot := o.ok t ht
  have hle := ot.le
  refine Mir.ret_of (r__law_filling (ts := [t]) (most := 11) (by simp) (by simp) (by decide) (by decide)) fun f ⟨f1, f2⟩ => ?_
  have fl : ∃ rows, f = [(t.1, rows)] := by
    obtain ⟨p, rfl⟩ := List.length_eq_one_iff.mp (show f.length = 1 from by have := congrArg List.length f1; rw [List.length_map] at this; exact this)
    have : p.1 = t.1 := by simpa using f1
    exact ⟨p.2, by rw [← this]⟩
  obtain ⟨rows, rfl⟩ := fl
  obtain ⟨g1, g2⟩ := f2 0 t (t.1, rows) rfl rfl
  refine ⟨rows, by unfold lookD; rw [List.find?_cons, decide_eq_true rfl]; rfl, ?_⟩
  have g2 : (rows.length : Int) ≤ 11 := g2
  refine comp_anyF (P := fun _ => True) (fun _ _ => ⟨by decide, fun _ _ _ => True.intro⟩) fun cells hc _ => ?_
  have fin : ∀ row : List Int, row.length = t.2.1.length → (k27rest nm (schOf us) t rows row).run (fun o => match o with | .nx _ => False | .rt r => r = true) fun _ => False := fun row hr => tail27 o u2 ht n1 n2 h14 (by omega) g1 hr
  by_cases hne : decide (rows ≠ ([] : List (List Int))) = true
  · have hr0 : rows ≠ [] := of_decide_eq_true hne
    have hp := List.length_pos_iff.mpr hr0
    rw [if_pos hne]
    refine ⟨by decide, fun z _ _ => ?_⟩
    by_cases hz : decide ((0 : Int) < z) = true
    · rw [if_pos hz]
      refine ⟨by omega, fun i hi0 hi1 => ?_⟩
      refine Mir.run_get_of hi0 hi1 fun r _ hr => ?_
      have hrl := g1 r hr
      have hpos := List.length_pos_iff.mpr ot.pos
      refine ⟨by omega, fun c hc0 hc1 => ⟨hc0, ?_⟩⟩
      refine Mir.run_get_of hc0 hc1 fun v _ _ => ⟨by decide, fun ad _ _ => ⟨?_, ?_⟩⟩
      · unfold L2.ixN
        rw [if_pos hc0, if_pos hc1]
        rfl
      · have z := fin (r.set ((L2.ixN r.length c).getD 0) (v + ad)) (by rw [List.length_set]; exact hrl)
        unfold k27rest at z
        try simp only [Mir.run_exit, Mir.run_nox, Mir.run_bind, Mir.run_chk, Mir.run_ret, Mir.run_draw, Mir.run_ifB, Mir.run_any, Mir.run_bindO, Mir.lt_eq, mApp, mExt, mIns, mSet, mRng, mCat, mAdds] at z
        exact z
    · rw [if_neg hz]
      have z := fin cells hc
      unfold k27rest at z
      try simp only [Mir.run_exit, Mir.run_nox, Mir.run_bind, Mir.run_chk, Mir.run_ret, Mir.run_draw, Mir.run_ifB, Mir.run_any, Mir.run_bindO, Mir.lt_eq, mApp, mExt, mIns, mSet, mRng, mCat, mAdds] at z
      exact z
  · rw [if_neg hne, if_neg (show ¬ false = true by decide)]
    have z := fin cells hc
    unfold k27rest at z
    try simp only [Mir.run_exit, Mir.run_nox, Mir.run_bind, Mir.run_chk, Mir.run_ret, Mir.run_draw, Mir.run_ifB, Mir.run_any, Mir.run_bindO, Mir.lt_eq, mApp, mExt, mIns, mSet, mRng, mCat, mAdds] at z
    exact z

end Lw

namespace Lw
open PySem PySem.Spec PyProof.Rows L2 SlX StX Ax
def fcts : List (Fr' → Bool) := [fun K => (He.Fa.free "abs").ok K, fun K => (He.Fa.free "all").ok K, fun K => (He.Fa.free "any").ok K, fun K => (He.Fa.free "bool").ok K, fun K => (He.Fa.free "enumerate").ok K, fun K => (He.Fa.free "int").ok K, fun K => (He.Fa.free "isinstance").ok K, fun K => (He.Fa.free "iter").ok K, fun K => (He.Fa.free "len").ok K, fun K => (He.Fa.free "list").ok K, fun K => (He.Fa.free "min").ok K, fun K => (He.Fa.free "range").ok K, fun K => (He.Fa.free "set").ok K, fun K => (He.Fa.free "sorted").ok K, fun K => (He.Fa.free "str").ok K, fun K => (He.Fa.free "sum").ok K, fun K => (He.Fa.free "super").ok K, fun K => (He.Fa.free "tuple").ok K, fun K => (He.Fa.cls "Columns").ok K, fun K => (He.Fa.cls "Schema").ok K, fun K => (He.Fa.cls "Table").ok K, cmB "Columns" "read", cmB "Schema" "read", crB "Columns", crB "Schema", cvB "Schema" "MOST_COLUMNS" 8, cvB "Schema" "MOST_KEYS" 8, cvB "Schema" "MOST_TABLES" 6, fun K => (He.Fa.str "DIGITS" "0123456789").ok K, fun K => (He.Fa.str "LETTERS" "abcdefghijklmnopqrstuvwxyz").ok K, fun K => (He.Fa.int "LONGEST" 8).ok K, fun K => (He.Fa.int "MOST" 8).ok K, fun K => (He.Fa.keep "_law_chain").ok K, fun K => (He.Fa.keep "_law_clash").ok K, fun K => (He.Fa.keep "_law_draw").ok K, fun K => (He.Fa.keep "_law_filling").ok K, fun K => (He.Fa.keep "_law_flag").ok K, fun K => (He.Fa.keep "_law_fresh").ok K, fun K => (He.Fa.keep "_law_independent").ok K, fun K => (He.Fa.keep "_law_keys").ok K, fun K => (He.Fa.keep "_law_labels").ok K, fun K => (He.Fa.keep "_law_names").ok K, fun K => (He.Fa.keep "_law_pool").ok K, fun K => (He.Fa.keep "_law_reach").ok K, fun K => (He.Fa.keep "_law_refused").ok K, fun K => (He.Fa.keep "_law_schema").ok K, fun K => (He.Fa.keep "_law_sound").ok K, fun K => (He.Fa.keep "_law_tables").ok K, fun K => (He.Fa.keep "_law_text").ok K, fun K => (He.Fa.keep "_law_values").ok K, fun K => (He.Fa.keep "_law_wild").ok K, fun K => (He.Fa.keep "_law_within").ok K, fun K => (He.Fa.keep "check_independent").ok K, fun K => (He.Fa.keep "is_independent").ok K, fun K => (He.Fa.keep "is_name").ok K, fun K => (He.Fa.keep "may_put").ok K, fun K => (He.Fa.keep "reach").ok K, fun K => (He.Fa.keep "read_table").ok K, fun K => (He.Fa.glo "Columns").ok K, fun K => (He.Fa.glo "InvalidRow").ok K, fun K => (He.Fa.glo "Schema").ok K, fun K => (He.Fa.glo "Table").ok K, fun K => (He.Fa.glo "TableError").ok K, fun K => (He.Fa.glo "UnknownTable").ok K, fun K => (He.Fa.glo "_law_chain").ok K, fun K => (He.Fa.glo "_law_clash").ok K, fun K => (He.Fa.glo "_law_draw").ok K, fun K => (He.Fa.glo "_law_filling").ok K, fun K => (He.Fa.glo "_law_flag").ok K, fun K => (He.Fa.glo "_law_fresh").ok K, fun K => (He.Fa.glo "_law_independent").ok K, fun K => (He.Fa.glo "_law_keys").ok K, fun K => (He.Fa.glo "_law_labels").ok K, fun K => (He.Fa.glo "_law_names").ok K, fun K => (He.Fa.glo "_law_pool").ok K, fun K => (He.Fa.glo "_law_reach").ok K, fun K => (He.Fa.glo "_law_refused").ok K, fun K => (He.Fa.glo "_law_schema").ok K, fun K => (He.Fa.glo "_law_sound").ok K, fun K => (He.Fa.glo "_law_tables").ok K, fun K => (He.Fa.glo "_law_text").ok K, fun K => (He.Fa.glo "_law_values").ok K, fun K => (He.Fa.glo "_law_wild").ok K, fun K => (He.Fa.glo "_law_within").ok K, fun K => (He.Fa.glo "check_independent").ok K, fun K => (He.Fa.glo "is_independent").ok K, fun K => (He.Fa.glo "is_name").ok K, fun K => (He.Fa.glo "law").ok K, fun K => (He.Fa.glo "may_put").ok K, fun K => (He.Fa.glo "reach").ok K, fun K => (He.Fa.glo "read_table").ok K, fun K => (He.Fa.meth "Columns" "__and__").ok K, fun K => (He.Fa.meth "Columns" "__contains__").ok K, fun K => (He.Fa.meth "Columns" "__le__").ok K, fun K => (He.Fa.meth "Columns" "__len__").ok K, fun K => (He.Fa.meth "Columns" "__or__").ok K, fun K => (He.Fa.meth "Columns" "text").ok K, fun K => (He.Fa.meth "Schema" "__add__").ok K, fun K => (He.Fa.meth "Schema" "__getitem__").ok K, fun K => (He.Fa.meth "Schema" "__iter__").ok K, fun K => (He.Fa.meth "Table" "__add__").ok K, fun K => (He.Fa.meth "Table" "clash").ok K, fun K => (He.Fa.meth "Table" "text").ok K, fun K => (He.Fa.mkr "Columns").ok K, fun K => (He.Fa.mkr "Schema").ok K, fun K => (He.Fa.mkr "Table").ok K, fun K => (He.Fa.noat "Columns" "names").ok K, fun K => (He.Fa.noat "InvalidRow" "name").ok K, fun K => (He.Fa.noat "Schema" "columns").ok K, fun K => (He.Fa.noat "Schema" "names").ok K, fun K => (He.Fa.noat "Schema" "tables").ok K, fun K => (He.Fa.noat "Table" "columns").ok K, fun K => (He.Fa.noat "Table" "key_sets").ok K, fun K => (He.Fa.noat "Table" "name").ok K, fun K => (He.Fa.noat "Table" "names").ok K, fun K => (He.Fa.noat "UnknownTable" "name").ok K, neB "Schema" "Table", nfB "Columns" "Columns", fun K => (He.Fa.noat "Schema" "__radd__").ok K, fun K => (He.Fa.noat "Table" "__radd__").ok K, sbB "Table" "Schema", sfB "Columns", sfB "Schema", sfB "Table", exkB "InvalidRow", exkB "UnknownTable", exfB "InvalidRow" fileX, exfB "UnknownTable" fileX, exmB "InvalidRow" "InvalidRow" true, exmB "InvalidRow" "TableError" true, exmB "InvalidRow" "UnknownTable" false, exmB "UnknownTable" "TableError" true, exmB "UnknownTable" "UnknownTable" true, exiB "InvalidRow", exiB "UnknownTable"]
def dfx : List DfX := [df_Columns_and, df_Columns_contains, df_Columns_init, df_Columns_le, df_Columns_len, df_Columns_or, df_Columns_read, df_Columns_text, df_Schema_add, df_Schema_getitem, df_Schema_init, df_Schema_iter, df_Schema_read, df_Table_clash, df_Table_init, df_Table_text, df__law_chain, df__law_clash, df__law_draw, df__law_filling, df__law_flag, df__law_fresh, df__law_independent, df__law_keys, df__law_labels, df__law_names, df__law_pool, df__law_reach, df__law_refused, df__law_schema, df__law_sound, df__law_tables, df__law_text, df__law_values, df__law_wild, df__law_within, df_check_independent, df_is_independent, df_is_name, df_law, df_may_put, df_reach, df_read_table, df_InvalidRow_init, df_UnknownTable_init]
def mkT {P : Program} {K : Fr'} {h : Heap} {mg : Str → Option Value} (X : K.In h) (G : h.Ns mainGlobals mg) (c : SaysX fcts dfx K) (hpf : P.main.file = fileX) (hpt : (P.main.scope.names.lookup ("super" : Str)).isSome = false) : TX P K mg :=
  { C_Columns := He.ga K "Columns", C_InvalidRow := He.ga K "InvalidRow", C_Schema := He.ga K "Schema", C_Table := He.ga K "Table", C_UnknownTable := He.ga K "UnknownTable", a_Columns_and := He.ma K (He.ga K "Columns") "__and__", a_Columns_contains := He.ma K (He.ga K "Columns") "__contains__", a_Columns_init := He.ma K (He.ga K "Columns") "__init__", a_Columns_le := He.ma K (He.ga K "Columns") "__le__", a_Columns_len := He.ma K (He.ga K "Columns") "__len__", a_Columns_or := He.ma K (He.ga K "Columns") "__or__", a_Columns_read := cmG K "Columns" "read", a_Columns_text := He.ma K (He.ga K "Columns") "text", a_Schema_add := He.ma K (He.ga K "Schema") "__add__", a_Schema_getitem := He.ma K (He.ga K "Schema") "__getitem__", a_Schema_init := He.ma K (He.ga K "Schema") "__init__", a_Schema_iter := He.ma K (He.ga K "Schema") "__iter__", a_Schema_read := cmG K "Schema" "read", a_Table_clash := He.ma K (He.ga K "Table") "clash", a_Table_init := He.ma K (He.ga K "Table") "__init__", a_Table_text := He.ma K (He.ga K "Table") "text", a__law_chain := He.ga K "_law_chain", a__law_clash := He.ga K "_law_clash", a__law_draw := He.ga K "_law_draw", a__law_filling := He.ga K "_law_filling", a__law_flag := He.ga K "_law_flag", a__law_fresh := He.ga K "_law_fresh", a__law_independent := He.ga K "_law_independent", a__law_keys := He.ga K "_law_keys", a__law_labels := He.ga K "_law_labels", a__law_names := He.ga K "_law_names", a__law_pool := He.ga K "_law_pool", a__law_reach := He.ga K "_law_reach", a__law_refused := He.ga K "_law_refused", a__law_schema := He.ga K "_law_schema", a__law_sound := He.ga K "_law_sound", a__law_tables := He.ga K "_law_tables", a__law_text := He.ga K "_law_text", a__law_values := He.ga K "_law_values", a__law_wild := He.ga K "_law_wild", a__law_within := He.ga K "_law_within", a_check_independent := He.ga K "check_independent", a_is_independent := He.ga K "is_independent", a_is_name := He.ga K "is_name", a_law := He.ga K "law", a_may_put := He.ga K "may_put", a_reach := He.ga K "reach", a_read_table := He.ga K "read_table", p_Columns_read := cmP K "Columns" "read", p_Schema_read := cmP K "Schema" "read", C_TableError := He.ga K "TableError", a_Table_add := He.ma K (He.ga K "Table") "__add__", a_InvalidRow_init := He.ma K (He.ga K "InvalidRow") "__init__", a_UnknownTable_init := He.ma K (He.ga K "UnknownTable") "__init__",
    b_abs := He.free_ok X G (c.fact 0 rfl),
    b_all := He.free_ok X G (c.fact 1 rfl),
    b_any := He.free_ok X G (c.fact 2 rfl),
    b_bool := He.free_ok X G (c.fact 3 rfl),
    b_enumerate := He.free_ok X G (c.fact 4 rfl),
    b_int := He.free_ok X G (c.fact 5 rfl),
    b_isinstance := He.free_ok X G (c.fact 6 rfl),
    b_iter := He.free_ok X G (c.fact 7 rfl),
    b_len := He.free_ok X G (c.fact 8 rfl),
    b_list := He.free_ok X G (c.fact 9 rfl),
    b_min := He.free_ok X G (c.fact 10 rfl),
    b_range := He.free_ok X G (c.fact 11 rfl),
    b_set := He.free_ok X G (c.fact 12 rfl),
    b_sorted := He.free_ok X G (c.fact 13 rfl),
    b_str := He.free_ok X G (c.fact 14 rfl),
    b_sum := He.free_ok X G (c.fact 15 rfl),
    b_super := He.free_ok X G (c.fact 16 rfl),
    b_tuple := He.free_ok X G (c.fact 17 rfl),
    c_Columns := He.cls_ok (c.fact 18 rfl),
    c_Schema := He.cls_ok (c.fact 19 rfl),
    c_Table := He.cls_ok (c.fact 20 rfl),
    cm_Columns_read := cmB_ok (c.fact 21 rfl),
    cm_Schema_read := cmB_ok (c.fact 22 rfl),
    cr_Columns := crB_ok (c.fact 23 rfl),
    cr_Schema := crB_ok (c.fact 24 rfl),
    cv_Schema_MOST_COLUMNS := cvB_ok (c.fact 25 rfl),
    cv_Schema_MOST_KEYS := cvB_ok (c.fact 26 rfl),
    cv_Schema_MOST_TABLES := cvB_ok (c.fact 27 rfl),
    d_Columns_and := c.def_ 0 (d := df_Columns_and) rfl,
    d_Columns_contains := c.def_ 1 (d := df_Columns_contains) rfl,
    d_Columns_init := c.def_ 2 (d := df_Columns_init) rfl,
    d_Columns_le := c.def_ 3 (d := df_Columns_le) rfl,
    d_Columns_len := c.def_ 4 (d := df_Columns_len) rfl,
    d_Columns_or := c.def_ 5 (d := df_Columns_or) rfl,
    d_Columns_read := c.def_ 6 (d := df_Columns_read) rfl,
    d_Columns_text := c.def_ 7 (d := df_Columns_text) rfl,
    d_Schema_add := c.def_ 8 (d := df_Schema_add) rfl,
    d_Schema_getitem := c.def_ 9 (d := df_Schema_getitem) rfl,
    d_Schema_init := c.def_ 10 (d := df_Schema_init) rfl,
    d_Schema_iter := c.def_ 11 (d := df_Schema_iter) rfl,
    d_Schema_read := c.def_ 12 (d := df_Schema_read) rfl,
    d_Table_clash := c.def_ 13 (d := df_Table_clash) rfl,
    d_Table_init := c.def_ 14 (d := df_Table_init) rfl,
    d_Table_text := c.def_ 15 (d := df_Table_text) rfl,
    d__law_chain := c.def_ 16 (d := df__law_chain) rfl,
    d__law_clash := c.def_ 17 (d := df__law_clash) rfl,
    d__law_draw := c.def_ 18 (d := df__law_draw) rfl,
    d__law_filling := c.def_ 19 (d := df__law_filling) rfl,
    d__law_flag := c.def_ 20 (d := df__law_flag) rfl,
    d__law_fresh := c.def_ 21 (d := df__law_fresh) rfl,
    d__law_independent := c.def_ 22 (d := df__law_independent) rfl,
    d__law_keys := c.def_ 23 (d := df__law_keys) rfl,
    d__law_labels := c.def_ 24 (d := df__law_labels) rfl,
    d__law_names := c.def_ 25 (d := df__law_names) rfl,
    d__law_pool := c.def_ 26 (d := df__law_pool) rfl,
    d__law_reach := c.def_ 27 (d := df__law_reach) rfl,
    d__law_refused := c.def_ 28 (d := df__law_refused) rfl,
    d__law_schema := c.def_ 29 (d := df__law_schema) rfl,
    d__law_sound := c.def_ 30 (d := df__law_sound) rfl,
    d__law_tables := c.def_ 31 (d := df__law_tables) rfl,
    d__law_text := c.def_ 32 (d := df__law_text) rfl,
    d__law_values := c.def_ 33 (d := df__law_values) rfl,
    d__law_wild := c.def_ 34 (d := df__law_wild) rfl,
    d__law_within := c.def_ 35 (d := df__law_within) rfl,
    d_check_independent := c.def_ 36 (d := df_check_independent) rfl,
    d_is_independent := c.def_ 37 (d := df_is_independent) rfl,
    d_is_name := c.def_ 38 (d := df_is_name) rfl,
    d_law := c.def_ 39 (d := df_law) rfl,
    d_may_put := c.def_ 40 (d := df_may_put) rfl,
    d_reach := c.def_ 41 (d := df_reach) rfl,
    d_read_table := c.def_ 42 (d := df_read_table) rfl,
    g_DIGITS := He.str_ok X G (c.fact 28 rfl),
    g_LETTERS := He.str_ok X G (c.fact 29 rfl),
    g_LONGEST := He.int_ok X G (c.fact 30 rfl),
    g_MOST := He.int_ok X G (c.fact 31 rfl),
    k__law_chain := He.keep_ok (c.fact 32 rfl),
    k__law_clash := He.keep_ok (c.fact 33 rfl),
    k__law_draw := He.keep_ok (c.fact 34 rfl),
    k__law_filling := He.keep_ok (c.fact 35 rfl),
    k__law_flag := He.keep_ok (c.fact 36 rfl),
    k__law_fresh := He.keep_ok (c.fact 37 rfl),
    k__law_independent := He.keep_ok (c.fact 38 rfl),
    k__law_keys := He.keep_ok (c.fact 39 rfl),
    k__law_labels := He.keep_ok (c.fact 40 rfl),
    k__law_names := He.keep_ok (c.fact 41 rfl),
    k__law_pool := He.keep_ok (c.fact 42 rfl),
    k__law_reach := He.keep_ok (c.fact 43 rfl),
    k__law_refused := He.keep_ok (c.fact 44 rfl),
    k__law_schema := He.keep_ok (c.fact 45 rfl),
    k__law_sound := He.keep_ok (c.fact 46 rfl),
    k__law_tables := He.keep_ok (c.fact 47 rfl),
    k__law_text := He.keep_ok (c.fact 48 rfl),
    k__law_values := He.keep_ok (c.fact 49 rfl),
    k__law_wild := He.keep_ok (c.fact 50 rfl),
    k__law_within := He.keep_ok (c.fact 51 rfl),
    k_check_independent := He.keep_ok (c.fact 52 rfl),
    k_is_independent := He.keep_ok (c.fact 53 rfl),
    k_is_name := He.keep_ok (c.fact 54 rfl),
    k_may_put := He.keep_ok (c.fact 55 rfl),
    k_reach := He.keep_ok (c.fact 56 rfl),
    k_read_table := He.keep_ok (c.fact 57 rfl),
    m_Columns := He.glo_ok X G (c.fact 58 rfl),
    m_InvalidRow := He.glo_ok X G (c.fact 59 rfl),
    m_Schema := He.glo_ok X G (c.fact 60 rfl),
    m_Table := He.glo_ok X G (c.fact 61 rfl),
    m_TableError := He.glo_ok X G (c.fact 62 rfl),
    m_UnknownTable := He.glo_ok X G (c.fact 63 rfl),
    m__law_chain := He.glo_ok X G (c.fact 64 rfl),
    m__law_clash := He.glo_ok X G (c.fact 65 rfl),
    m__law_draw := He.glo_ok X G (c.fact 66 rfl),
    m__law_filling := He.glo_ok X G (c.fact 67 rfl),
    m__law_flag := He.glo_ok X G (c.fact 68 rfl),
    m__law_fresh := He.glo_ok X G (c.fact 69 rfl),
    m__law_independent := He.glo_ok X G (c.fact 70 rfl),
    m__law_keys := He.glo_ok X G (c.fact 71 rfl),
    m__law_labels := He.glo_ok X G (c.fact 72 rfl),
    m__law_names := He.glo_ok X G (c.fact 73 rfl),
    m__law_pool := He.glo_ok X G (c.fact 74 rfl),
    m__law_reach := He.glo_ok X G (c.fact 75 rfl),
    m__law_refused := He.glo_ok X G (c.fact 76 rfl),
    m__law_schema := He.glo_ok X G (c.fact 77 rfl),
    m__law_sound := He.glo_ok X G (c.fact 78 rfl),
    m__law_tables := He.glo_ok X G (c.fact 79 rfl),
    m__law_text := He.glo_ok X G (c.fact 80 rfl),
    m__law_values := He.glo_ok X G (c.fact 81 rfl),
    m__law_wild := He.glo_ok X G (c.fact 82 rfl),
    m__law_within := He.glo_ok X G (c.fact 83 rfl),
    m_check_independent := He.glo_ok X G (c.fact 84 rfl),
    m_is_independent := He.glo_ok X G (c.fact 85 rfl),
    m_is_name := He.glo_ok X G (c.fact 86 rfl),
    m_law := He.glo_ok X G (c.fact 87 rfl),
    m_may_put := He.glo_ok X G (c.fact 88 rfl),
    m_reach := He.glo_ok X G (c.fact 89 rfl),
    m_read_table := He.glo_ok X G (c.fact 90 rfl),
    me_Columns_and := He.meth_ok (c.fact 91 rfl),
    me_Columns_contains := He.meth_ok (c.fact 92 rfl),
    me_Columns_le := He.meth_ok (c.fact 93 rfl),
    me_Columns_len := He.meth_ok (c.fact 94 rfl),
    me_Columns_or := He.meth_ok (c.fact 95 rfl),
    me_Columns_text := He.meth_ok (c.fact 96 rfl),
    me_Schema_add := He.meth_ok (c.fact 97 rfl),
    me_Schema_getitem := He.meth_ok (c.fact 98 rfl),
    me_Schema_iter := He.meth_ok (c.fact 99 rfl),
    me_Table_add := He.meth_ok (c.fact 100 rfl),
    me_Table_clash := He.meth_ok (c.fact 101 rfl),
    me_Table_text := He.meth_ok (c.fact 102 rfl),
    mk_Columns := He.mkr_ok (c.fact 103 rfl),
    mk_Schema := He.mkr_ok (c.fact 104 rfl),
    mk_Table := He.mkr_ok (c.fact 105 rfl),
    na_Columns_names := He.noat_ok (c.fact 106 rfl),
    na_InvalidRow_name := He.noat_ok (c.fact 107 rfl),
    na_Schema_columns := He.noat_ok (c.fact 108 rfl),
    na_Schema_names := He.noat_ok (c.fact 109 rfl),
    na_Schema_tables := He.noat_ok (c.fact 110 rfl),
    na_Table_columns := He.noat_ok (c.fact 111 rfl),
    na_Table_key_sets := He.noat_ok (c.fact 112 rfl),
    na_Table_name := He.noat_ok (c.fact 113 rfl),
    na_Table_names := He.noat_ok (c.fact 114 rfl),
    na_UnknownTable_name := He.noat_ok (c.fact 115 rfl),
    ne_Schema_Table := of_decide_eq_true (c.fact 116 rfl),
    nf_Columns_Columns := (c.fact 117 rfl),
    nr_Schema := He.noat_ok (c.fact 118 rfl),
    nr_Table := He.noat_ok (c.fact 119 rfl),
    pf := hpf,
    pt := hpt,
    sb_Table_Schema := of_decide_eq_true (c.fact 120 rfl),
    sf_Columns := (c.fact 121 rfl),
    sf_Schema := (c.fact 122 rfl),
    sf_Table := (c.fact 123 rfl),
    x_InvalidRow := exkB_ok (c.fact 124 rfl),
    x_UnknownTable := exkB_ok (c.fact 125 rfl),
    xf_InvalidRow := ex_of (d := df_InvalidRow_init) rfl (c.see_ 43 rfl).1 (c.see_ 43 rfl).2 rfl rfl (c.fact 126 rfl),
    xf_UnknownTable := ex_of (d := df_UnknownTable_init) rfl (c.see_ 44 rfl).1 (c.see_ 44 rfl).2 rfl rfl (c.fact 127 rfl),
    xm_InvalidRow_InvalidRow := of_decide_eq_true (c.fact 128 rfl),
    xm_InvalidRow_TableError := of_decide_eq_true (c.fact 129 rfl),
    xm_InvalidRow_UnknownTable := of_decide_eq_true (c.fact 130 rfl),
    xm_UnknownTable_TableError := of_decide_eq_true (c.fact 131 rfl),
    xm_UnknownTable_UnknownTable := of_decide_eq_true (c.fact 132 rfl),
    xr_InvalidRow := exiB_xf (c.fact 133 rfl),
    xr_UnknownTable := exiB_xf (c.fact 134 rfl) }
def nms0 : List Str := ["_wall", "TableError", "InvalidName", "InvalidTable", "InvalidSchema", "UnknownTable", "InvalidRow", "NotIndependent", "LETTERS", "DIGITS", "LONGEST", "is_name"]
def nms1 : List Str := ["Columns", "MOST", "reach", "Table", "join_tables", "read_table", "Schema", "Parting", "is_independent", "place_choices", "in_order", "parting_from"]
def nms2 : List Str := ["least_parting", "check_independent", "may_put", "_law_pool", "_law_draw", "_law_names", "_law_within", "_law_wild", "_law_fresh", "_law_keys", "_law_tables", "_law_text"]
def nms3 : List Str := ["_law_reach", "_law_independent", "_law_labels", "_law_values", "_law_clash", "_law_filling", "_law_flag", "_law_chain", "_law_schema", "_law_sound", "_law_refused"]
def nms : List Str := nms0 ++ nms1 ++ nms2 ++ nms3
abbrev R : PySem.W.OpenRow := PySem.W.OpenLaw.row PySem.Challenge.rw_aloneright_k27_puts_by_one_table
abbrev hk : PySem.W.Hook := hookX 6 fcts dfx
def ob (s : PySem.W.SharedT) : He.AlD := obsXG 6 fcts dfx (HandSHeadRun.getT s)
theorem ob_eq (s : PySem.W.SharedT) : ob s = hk.obs s.abs := obsXG_eq (HandSHeadRun.getT_eq s)
theorem run (w : World) : HandSHeadRun.RunEq R (PySem.W.view R.prog [53]) hk ob 20000 nms w := by
  intro os
  kernel_rfl
theorem fin {P : Program} {w : World} {K : Fr'} {h : Heap} {mg : Str → Option Value} {fa : Addr} (X : K.In h) (G : h.Ns mainGlobals mg) (hfa : mg ("law" : Str) = some (.ref fa)) (c : SaysX fcts dfx K) (hpf : P.main.file = fileX) (hpt : (P.main.scope.names.lookup ("super" : Str)).isSome = false) :
    ∃ (K : PySem.W.Frag) (fd : FuncData) (sp : Sp), K.In h ∧ (∀ (s : Shared) (u : Value), BindsTo s fd ⟨[u], []⟩ [("_law_script", u)]) ∧
      (∀ (H : Hp) (a : Addr) (ns : List Int), ns.length ≤ 63 → (∀ z ∈ ns, Builtin.Int.intBits z ≤ 1048576) → Only H → SqL K H a (ns.map V.int) → sp [.ref a] H (fun v _ => v = .bl true) fun _ _ _ => False) ∧
      ∀ base : Heap, K.In base → base.Ns mainGlobals mg → FnOk P w K mg base (L2.CX P w) 33 fa fd ["_law_script"] sp := by
  have T := mkT (P := P) X G c hpf hpt
  obtain ⟨fd, F⟩ := T.d_law
  have e := hfa.symm.trans T.m_law
  injection e with e
  injection e with e
  subst e
  refine ⟨K, fd, spLaw K, X, fun s v => FunD.bindsA (ps := ["_law_script"]) F (fun _ _ _ _ _ _ us hl => match us, hl with | [_], _ => rfl) s [v] rfl, fun H a ns hl hb _ hS => law_sp hl hb hS, fun base _ _ => okM_law (base := base) T law_ok F⟩
end Lw
open PySem PySem.W PySem.Calls PyProof.Rows in
theorem PySem.Challenge.cw_aloneright_k27_puts_by_one_table_holds : PySem.Challenge.rw_aloneright_k27_puts_by_one_table.Holds := by
  w_on; o_law
  refine HandSHeadRun.head_any (r := OpenLaw.row PySem.Challenge.rw_aloneright_k27_puts_by_one_table) (q := view (OpenLaw.row PySem.Challenge.rw_aloneright_k27_puts_by_one_table).prog [53]) (H := Lw.hk) (ob := Lw.ob) (M := 20000) (loose := Lw.nms) (d := HandSHeadRun.topDef (OpenLaw.row PySem.Challenge.rw_aloneright_k27_puts_by_one_table).prog 53) (kwd := []) Lw.ob_eq
    (by kernel_rfl) (fun s => by kernel_rfl) Lw.run (by kernel_rfl) (by kernel_rfl) (by kernel_rfl) (by rfl) (by first | assumption | decide +kernel) (by decide +kernel) ⟨rfl, rfl, rfl, rfl, rfl, by decide +kernel⟩ ?hw ?hc
  case hw => w_witness2
  case hc =>
    refine Ax.walk_ofX (l := PySem.Challenge.rw_aloneright_k27_puts_by_one_table) (n := 63) (k := 33) (x := "_law_script") rfl (by decide) (by kernel_rfl) ⟨rfl, by decide, by decide⟩ ?F
    intro w mg fa h Y G hmg0
    obtain ⟨K, KX, c⟩ := Y
    exact Lw.fin KX G hmg0 c (by kernel_rfl) (by kernel_rfl)
