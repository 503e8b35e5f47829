import PyProof.Rows.All
import Wide.All
import OpenK.AllK
import Wide.FinOn
import HandS.Base
import HandS.Call
import HandS.List
import HandS.Comp
import HandS.Ends
import HandS.Dict
import HandS.Iter
import HandS.Text
import HandS.Words
import HandS.WordsList
import HandS.Exc
import HandS.ExcOwn
import HandS.TryOnly
import HandS.Star
import HandS.Set
import HandS.SetFor
import HandS.Sort
import HandS.IsInst
import HandS.Style
import HandS.ClsMeth
import HandS.SlotsOwn
import KE.KStateDown
import Lean
import HandS.Defaults
import HandS.EndBits
import HandS.Head0
import HandS.Head1
import HandS.Head2
import HandS.HeadEnd
import HandS.HeadHook1
import HandS.HeadHook2
import HandS.More
import HandS.TupAny
import HandS.WordsExc
import HandS.Flow
import KE.Datum
import KE.DatumIndex
import HandS.IterVal
import HandS.OwnIter
import HandS.OwnEq
import KE.KOwnIter
import PySem.Challenge.RW_aloneright_k01_column_sets
set_option Elab.async false
set_option linter.all false
set_option maxRecDepth 100000
set_option maxHeartbeats 0
/-! The base of our own layer: what is known (G) within what is tracked (H), promises, the steps of a reading. -/
namespace Ax
open PySem PySem.Spec PyProof.Rows L2

/-! ### what is known -/
theorem same_new {H : Hp} {p : Addr} {o : HO} (h : H p = none) : Same H (upd H p o) := fun b x e => (upd_ne (ne_of_none e h)).trans e
/-- from the entry (G0 known, H0 tracked) to now (G known, H tracked) -/
structure Nx (G0 H0 G H : Hp) : Prop where
  g : Same G0 G
  h : Same G H
  e : Same H0 H
  n : ∀ a, G a ≠ none → G0 a ≠ none ∨ H0 a = none
theorem Nx.refl {G H : Hp} (h : Same G H) : Nx G H G H := ⟨Same.refl _, h, Same.refl _, fun _ x => .inl x⟩
theorem Nx.trans {G0 H0 G1 H1 G2 H2 : Hp} (a : Nx G0 H0 G1 H1) (b : Nx G1 H1 G2 H2) : Nx G0 H0 G2 H2 :=
  ⟨a.g.trans b.g, b.h, a.e.trans b.e, fun x hx => (b.n x hx).elim (a.n x) fun z => .inr (a.e.free z)⟩
/-- nothing more is known, more is tracked -/
theorem Nx.more {G0 H0 G H H' : Hp} (N : Nx G0 H0 G H) (s : Same H H') : Nx G0 H0 G H' := ⟨N.g, N.h.trans s, N.e.trans s, N.n⟩
/-- an object of the def's own is changed -/
theorem Nx.mut {G0 H0 G H : Hp} {l : Addr} {o : HO} (N : Nx G0 H0 G H) (h0 : H0 l = none) (hg : G l = none) : Nx G0 H0 G (upd H l o) :=
  ⟨N.g, fun b x e => (upd_ne (ne_of_none e hg)).trans (N.h b x e), fun b x e => (upd_ne (ne_of_none e h0)).trans (N.e b x e), N.n⟩
/-- a tracked object of the def's own becomes known -/
theorem Nx.fz {G0 H0 G H : Hp} {l : Addr} {o : HO} (N : Nx G0 H0 G H) (h : H l = some o) (h0 : H0 l = none) (hg : G l = none) : Nx G0 H0 (upd G l o) H :=
  ⟨N.g.trans (same_new hg), fun b x e => by
    by_cases hb : b = l
    · subst hb; rw [upd_same] at e; cases e; exact h
    · rw [upd_ne hb] at e; exact N.h b x e, N.e, fun a ha => by
    by_cases hb : a = l
    · subst hb; exact .inr h0
    · rw [upd_ne hb] at ha; exact N.n a ha⟩
theorem Nx.newk {G0 H0 G H : Hp} {p : Addr} {o : HO} (N : Nx G0 H0 G H) (h : H p = none) : Nx G0 H0 (upd G p o) (upd H p o) :=
  (N.more (same_new h)).fz upd_same (N.e.free h) (N.h.free h)
/-- what is tracked and not known stays unknown -/
theorem Nx.hid {G H G' H' : Hp} {l : Addr} {o : HO} (n : Nx G H G' H') (h : H l = some o) (hg : G l = none) : G' l = none := by
  cases q : G' l with
  | none => rfl
  | some x =>
    rcases n.n l (by rw [q]; exact fun z => nomatch z) with z | z
    · exact absurd hg z
    · rw [h] at z; cases z
theorem ne_none {H : Hp} {a : Addr} {o : HO} (h : H a = some o) : H a ≠ none := by rw [h]; exact fun z => nomatch z
theorem ne_nn {H : Hp} {a b : Addr} (h : H a ≠ none) (h' : H b = none) : a ≠ b := fun e => h (e ▸ h')
theorem Same.get {G G' : Hp} {a : Addr} {o : HO} (s : Same G G') (h : G a = some o) : G' a = some o := s a o h

/-! ### promises -/
/-- the arguments (told by a datum), the result, the error -/
def spX {α : Type} (A : α → List V → Hp → Prop) (R : α → V → Hp → Prop) (X : α → Value → Option Addr → Hp → Prop) : Sp := fun vs H Q E =>
  ∃ (a : α) (G : Hp), Same G H ∧ A a vs G ∧ (∀ v G' H', Nx G H G' H' → R a v G' → Q v H') ∧ (∀ c d G' H', Nx G H G' H' → X a c d G' → E c d H')
def NoX {α : Type} : α → Value → Option Addr → Hp → Prop := fun _ _ _ _ => False
/-- a call, by its promise -/
theorem cl {α : Type} {A : α → List V → Hp → Prop} {R : α → V → Hp → Prop} {X : α → Value → Option Addr → Hp → Prop} {vs : List V} {H G0 H0 G : Hp} {Q : VK} {E : XK}
    (N : Nx G0 H0 G H) (a : α) (ha : A a vs G) (k : ∀ v G' H', Nx G0 H0 G' H' → Nx G H G' H' → R a v G' → Q v H')
    (x : ∀ c d G' H', Nx G0 H0 G' H' → Nx G H G' H' → X a c d G' → E c d H') : spX A R X vs H Q E :=
  ⟨a, G, N.h, ha, fun v G' H' n r => k v G' H' (N.trans n) n r, fun c d G' H' n r => x c d G' H' (N.trans n) n r⟩
theorem cl0 {α : Type} {A : α → List V → Hp → Prop} {R : α → V → Hp → Prop} {vs : List V} {H G0 H0 G : Hp} {Q : VK} {E : XK}
    (N : Nx G0 H0 G H) (a : α) (ha : A a vs G) (k : ∀ v G' H', Nx G0 H0 G' H' → Nx G H G' H' → R a v G' → Q v H') : spX A R NoX vs H Q E :=
  cl N a ha k fun _ _ _ _ _ _ z => z.elim
theorem FnR.spx {P : Program} {w : World} {K : PySem.W.Frag} {mg : Str → Option Value} {base : Heap} {CX : CXT} {k : Nat} {f : Addr} {α β : Type} {A : α → List V → Hp → Prop} {R : α → V → Hp → Prop} {X : α → Value → Option Addr → Hp → Prop}
    {A' : β → List V → Hp → Prop} {R' : β → V → Hp → Prop} {X' : β → Value → Option Addr → Hp → Prop} (F : FnR P w K mg base CX k f (spX A R X)) (g : β → α) (ha : ∀ b vs G, A' b vs G → A (g b) vs G)
    (hr : ∀ b v G, R (g b) v G → R' b v G) (hx : ∀ b c d G, X (g b) c d G → X' b c d G) : FnR P w K mg base CX k f (spX A' R' X') :=
  F.imp fun vs H Q E ⟨b, G, s, a, q, e⟩ => ⟨g b, G, s, ha b vs G a, fun v G' H' n r => q v G' H' n (hr b v G' r), fun c d G' H' n r => e c d G' H' n (hx b c d G' r)⟩

/-! ### the steps of a reading -/
section
variable {σ : L2.St} {H G0 H0 G : Hp} {Q : VK} {D : Ends}
theorem w_var {i : Nat} {v : V} (h : σ[i]? = some (some v)) (q : Q v H) : tVar i σ H Q := ⟨v, h, q⟩
theorem w_c {v : V} (q : Q v H) : tC v σ H Q := q
theorem w_op {r : R2} {ta tb : TE} (q : ta σ H fun x H1 => tb σ H1 fun y H2 => r x y H2 Q) : tOp r ta tb σ H Q := q
theorem w_un {r : V → Hp → VK → Prop} {ta : TE} (q : ta σ H fun x H1 => r x H1 Q) : tUn r ta σ H Q := q
theorem w_seq {t u : TS} (q : t { D with nx := u D } σ H) : tSeq t u D σ H := q
theorem w_next (q : D.nx σ H) : tNext D σ H := q
theorem w_asg {te : TE} {i : Nat} (q : te σ H fun x H1 => D.nx (σ.set i (some x)) H1) : tAsg te (gName i) D σ H := q
theorem w_ret {te : TE} (q : te σ H D.rt) : tRet te D σ H := q
theorem w_retN (q : D.rt .non H) : tRetN D σ H := q
theorem w_drop {te : TE} (q : te σ H fun _ H1 => D.nx σ H1) : tDrop te D σ H := q
theorem w_if {c : TT} {t u : TS} (q : c σ H fun b H1 => if b = true then t D σ H1 else u D σ H1) : tIfS c t u D σ H := q
theorem w_test {te : TE} {Q : Bool → Hp → Prop} (q : te σ H fun x H1 => ∃ k, x = .bl k ∧ Q k H1) : tTest te σ H Q := q
theorem w_b {te : TE} {Q : Bool → Hp → Prop} (q : te σ H fun x H1 => ∃ k, x = .bl k ∧ Q k H1) : tB te σ H Q := q
theorem w_bl {b : Bool} {P : Bool → Prop} (q : P b) : ∃ k, V.bl b = .bl k ∧ P k := ⟨b, rfl, q⟩
theorem w_nil {Q : List V → Hp → Prop} (q : Q [] H) : tNil σ H Q := q
theorem w_cons {te : TE} {tr : TA} {Q : List V → Hp → Prop} (q : te σ H fun x H1 => tr σ H1 fun xs H2 => Q (x :: xs) H2) : tCons te tr σ H Q := q
theorem w_cb {r : List V → Hp → VK → Prop} {t : TA} (q : t σ H fun vs H1 => r vs H1 Q) : tCB r t σ H Q := q
theorem w_I0 {g : Int → Int → V} {i j : Int} (q : Q (g i j) H) : rI0 g (.int i) (.int j) H Q := ⟨i, j, rfl, rfl, q⟩
theorem w_I {C : Int → Int → Prop} {g : Int → Int → V} {i j : Int} (h : C i j) (q : Q (g i j) H) : rI C g (.int i) (.int j) H Q := ⟨i, j, rfl, rfl, h, q⟩
theorem w_not {t : TT} {Q : Bool → Hp → Prop} (q : t σ H fun c H1 => Q (!c) H1) : tNot t σ H Q := q
theorem w_and {t u : TT} {Q : Bool → Hp → Prop} (q : t σ H fun c H1 => if c = true then u σ H1 Q else Q false H1) : tAnd t u σ H Q := q
theorem w_or {t u : TT} {Q : Bool → Hp → Prop} (q : t σ H fun c H1 => if c = true then Q true H1 else u σ H1 Q) : tOr t u σ H Q := q
theorem w_tif {t : TT} {ta tb : TE} (q : t σ H fun c H1 => if c = true then ta σ H1 Q else tb σ H1 Q) : tIf t ta tb σ H Q := q
theorem w_notV {ta : TE} (q : ta σ H fun x H1 => ∃ c, x = .bl c ∧ Q (.bl (!c)) H1) : tNotV ta σ H Q := q
theorem w_andV {ta tb : TE} (q : ta σ H fun x H1 => ∃ c, x = .bl c ∧ if c = true then tb σ H1 Q else Q (.bl false) H1) : tAndV ta tb σ H Q := q
theorem w_orV {ta tb : TE} (q : ta σ H fun x H1 => ∃ c, x = .bl c ∧ if c = true then Q (.bl true) H1 else tb σ H1 Q) : tOrV ta tb σ H Q := q
theorem w_fld {K : PySem.W.Frag} {ta : TE} {f : Str} (q : ta σ H fun x H1 => ∃ a C dx fs v, x = .ref a ∧ H1 a = some (.ins C dx fs) ∧ Cls K C ∧ NoAttr K C f ∧ fs.lookup f = some v ∧ Q v H1) : tFld K ta f σ H Q := q
theorem w_fldE {K : PySem.W.Frag} {f : Str} {a C dx : Addr} {fs : List (Str × V)} {v : V} (h : H a = some (.ins C dx fs)) (c : Cls K C) (n : NoAttr K C f) (l : fs.lookup f = some v) (q : Q v H) :
    ∃ a' C dx fs v, V.ref a = .ref a' ∧ H a' = some (.ins C dx fs) ∧ Cls K C ∧ NoAttr K C f ∧ fs.lookup f = some v ∧ Q v H := ⟨a, C, dx, fs, v, rfl, h, c, n, l, q⟩
/-- a new object, known from now on -/
theorem nw {o : HO} (N : Nx G0 H0 G H) (k : ∀ p G' H', Nx G0 H0 G' H' → Nx G H G' H' → G' p = some o → Q (.ref p) H') : ∀ p, H p = none → Q (.ref p) (upd H p o) := fun p hp =>
  k p (upd G p o) _ (N.newk hp) ((Nx.refl N.h).newk hp) upd_same
/-- a new object of the def's own, that may change -/
theorem nwm {o : HO} (N : Nx G0 H0 G H) (k : ∀ p H', Nx G0 H0 G H' → Nx G H G H' → H' p = some o → G p = none → H0 p = none → Q (.ref p) H') : ∀ p, H p = none → Q (.ref p) (upd H p o) := fun p hp =>
  k p _ (N.more (same_new hp)) ((Nx.refl N.h).more (same_new hp)) upd_same (N.h.free hp) (N.e.free hp)
end
theorem sz {n : Nat} (h : n ≤ 100000) : n ≤ sizeLine := Nat.le_trans h (by decide)
theorem szl {n : Nat} (h : n < 100000) : n < sizeLine := Nat.lt_of_lt_of_le h (by decide)
end Ax

/-! What is walked (Src), for loops and comprehensions over it. -/
namespace Ax
open PySem PySem.Spec PyProof.Rows L2

theorem Same.seqL {K : PySem.W.Frag} {H H' : Hp} {a : Addr} {xs : List V} (e : Same H H') (h : SqL K H a xs) : SqL K H' a xs := e.seq h
theorem Same.seqT {K : PySem.W.Frag} {H H' : Hp} {a : Addr} {xs : List V} (e : Same H H') (h : SqT K H a xs) : SqT K H' a xs := by
  rcases h with (h | ⟨o, h⟩) | h
  · exact .inl (.inl (e _ _ h))
  · exact .inl (.inr ⟨o, e _ _ h⟩)
  · exact .inr h
theorem sqL {K : PySem.W.Frag} {H : Hp} {a : Addr} {xs : List V} (h : H a = some (.lst xs)) : SqL K H a xs := .inl (.inl h)
theorem sqT {K : PySem.W.Frag} {H : Hp} {a : Addr} {xs : List V} (h : H a = some (.tup xs)) : SqT K H a xs := .inl (.inl h)

/-- what an iterator gives, from the known heap G on: n turns, the i-th one an x with Y i x -/
structure Src (J : It) (G : Hp) (n : Nat) (Y : Nat → V → Hp → Prop) : Prop where
  go : ∀ i H', i < n → Same G H' → J.go i H'
  stop : ∀ i H', n ≤ i → Same G H' → J.stop i H'
  yld : ∀ i x G' H' H'', i < n → Same G G' → Same G' H' → J.yld i H' x H'' → ∃ G'', Nx G' H' G'' H'' ∧ Y i x G''
section
variable {K : PySem.W.Frag} {G : Hp} {a b : Addr} {xs ys : List V}
theorem src_list (h : SqL K G a xs) : Src (Itl K a) G xs.length (fun i x _ => xs[i]? = some x) where
  go := fun i H' hi s => ⟨xs, xs[i], Same.seqL s h, List.getElem?_eq_getElem hi⟩
  stop := fun i H' hi s => ⟨xs, Same.seqL s h, hi⟩
  yld := fun i x G' H' H'' hi s s' ⟨e, y⟩ => by subst e; exact ⟨G', Nx.refl s', y xs (Same.seqL (s.trans s') h)⟩
theorem src_tup (h : SqT K G a xs) : Src (Itt K a) G xs.length (fun i x _ => xs[i]? = some x) where
  go := fun i H' hi s => ⟨xs, xs[i], Same.seqT s h, List.getElem?_eq_getElem hi⟩
  stop := fun i H' hi s => ⟨xs, Same.seqT s h, hi⟩
  yld := fun i x G' H' H'' hi s s' ⟨e, y⟩ => by subst e; exact ⟨G', Nx.refl s', y xs (Same.seqT (s.trans s') h)⟩
theorem src_range {lo : Int} {n : Nat} : Src (Itr lo n) G n (fun i x _ => x = .int (lo + i)) where
  go := fun i H' hi s => hi
  stop := fun i H' hi s => hi
  yld := fun i x G' H' H'' hi s s' ⟨e, y⟩ => by subst e; exact ⟨G', Nx.refl s', y⟩
theorem src_str {z : Str} : Src (Its z) G z.cps.size (fun i x _ => ∃ c, z.cps[i]? = some c ∧ x = .str ⟨#[c]⟩) where
  go := fun i H' hi s => hi
  stop := fun i H' hi s => hi
  yld := fun i x G' H' H'' hi s s' ⟨e, y⟩ => by subst e; exact ⟨G', Nx.refl s', y⟩
theorem src_rev (h : SqL K G a xs) : Src (Itv K a xs.length) G xs.length (fun i x _ => xs[xs.length - 1 - i]? = some x) where
  go := fun i H' hi s => ⟨hi, xs, _, Same.seqL s h, List.getElem?_eq_getElem (show xs.length - 1 - i < xs.length by omega)⟩
  stop := fun i H' hi s => hi
  yld := fun i x G' H' H'' hi s s' ⟨e, y⟩ => by subst e; exact ⟨G', Nx.refl s', y xs (Same.seqL (s.trans s') h)⟩
theorem src_enum (h : SqL K G a xs) : Src (Ite K a) G xs.length (fun i x G => ∃ T y, x = .ref T ∧ G T = some (.tup [.int (i : Nat), y]) ∧ xs[i]? = some y) where
  go := fun i H' hi s => ⟨xs, xs[i], Same.seqL s h, List.getElem?_eq_getElem hi⟩
  stop := fun i H' hi s => ⟨xs, Same.seqL s h, hi⟩
  yld := fun i x G' H' H'' hi s s' ⟨T, y, e1, e2, e3, e4⟩ => by subst e3; exact ⟨_, (Nx.refl s').newk e2, T, y, e1, upd_same, e4 xs (Same.seqL (s.trans s') h)⟩
theorem src_zip (h : SqL K G a xs) (h' : SqL K G b ys) : Src (Itz K a b) G (min xs.length ys.length) (fun i x G => ∃ T y z, x = .ref T ∧ G T = some (.tup [y, z]) ∧ xs[i]? = some y ∧ ys[i]? = some z) where
  go := fun i H' hi s => ⟨xs, ys, xs[i]'(by omega), ys[i]'(by omega), Same.seqL s h, Same.seqL s h', List.getElem?_eq_getElem (by omega), List.getElem?_eq_getElem (by omega)⟩
  stop := fun i H' hi s => ⟨xs, ys, Same.seqL s h, Same.seqL s h', by omega⟩
  yld := fun i x G' H' H'' hi s s' ⟨T, y, z, e1, e2, e3, e4, e5⟩ => by
    subst e3; exact ⟨_, (Nx.refl s').newk e2, T, y, z, e1, upd_same, e4 xs (Same.seqL (s.trans s') h), e5 ys (Same.seqL (s.trans s') h')⟩
end

/-! ### for -/
/-- the invariant of a loop: I at turn i, with what is known -/
def LI (G0 H0 G : Hp) (I : Nat → L2.St → Hp → Hp → Prop) (i : Nat) (σ : L2.St) (H : Hp) : Prop := ∃ G', Nx G0 H0 G' H ∧ Same G G' ∧ I i σ G' H
theorem w_for {g : TG} {tb : TS} {D : Ends} {σ : L2.St} {H : Hp} {J : It} {G0 H0 G : Hp} {n : Nat} {Y : Nat → V → Hp → Prop} (S : Src J G n Y) (N : Nx G0 H0 G H)
    (I : Nat → L2.St → Hp → Hp → Prop) (h0 : I 0 σ G H)
    (hs : ∀ i x σ' G' H' G'' H'', i < n → I i σ' G' H' → Nx G0 H0 G'' H'' → Same G G'' → Nx G' H' G'' H'' → Y i x G'' → g x σ' H'' fun σ2 H2 => tb { D with nx := LI G0 H0 G I (i + 1), ct := LI G0 H0 G I (i + 1), bk := D.nx } σ2 H2)
    (hd : ∀ σ' G' H', I n σ' G' H' → Nx G0 H0 G' H' → Same G G' → D.nx σ' H') :
    ∃ W : Nat → Nat → L2.St → Hp → Prop, (∃ m, W 0 m σ H) ∧ ∀ i m σ H, W i m σ H →
      (J.stop i H ∧ D.nx σ H) ∨ (J.go i H ∧ ∃ N : L2.St → Hp → Prop, (∀ σ' H', N σ' H' → ∃ m', m' < m ∧ W (i + 1) m' σ' H') ∧ ∀ x H', J.yld i H x H' → g x σ H' fun σ2 H2 => tb { D with nx := N, ct := N, bk := D.nx } σ2 H2) := by
  refine ⟨fun i m σ H => m = n - i ∧ i ≤ n ∧ LI G0 H0 G I i σ H, ⟨n, by simp, Nat.zero_le _, G, N, Same.refl _, h0⟩, ?_⟩
  rintro i m σ' H' ⟨rfl, hi, G', N', s', p⟩
  by_cases hlt : i < n
  · refine .inr ⟨S.go i H' hlt (s'.trans N'.h), LI G0 H0 G I (i + 1), fun σ2 H2 p2 => ⟨n - (i + 1), by omega, rfl, hlt, p2⟩, fun x H'' y => ?_⟩
    obtain ⟨G'', n1, hy⟩ := S.yld i x G' H' H'' hlt s' N'.h y
    exact hs i x σ' G' H' G'' H'' hlt p (N'.trans n1) (s'.trans n1.g) n1 hy
  · have e : i = n := by omega
    subst e
    exact .inl ⟨S.stop i H' (Nat.le_refl _) (s'.trans N'.h), hd σ' G' H' p N' s'⟩

/-! ### comprehensions -/
/-- e gives, from (G, H) on, a value with R; a test gives b -/
def Gv (te : TE) (σ : L2.St) (G H : Hp) (R : V → Hp → Prop) : Prop := ∀ Q : VK, (∀ v G' H', Nx G H G' H' → R v G' → Q v H') → te σ H Q
def Gt (tt : TT) (σ : L2.St) (G H : Hp) (b : Bool) : Prop := ∀ Q : Bool → Hp → Prop, (∀ G' H', Nx G H G' H' → Q b H') → tt σ H Q
abbrev All2 {α : Type} (R : α → V → Hp → Prop) (G : Hp) (zs : List α) (vs : List V) : Prop := Paired (fun z v => R z v G) zs vs
theorem All2.mono {α : Type} {R : α → V → Hp → Prop} {G G' : Hp} (up : ∀ z v, R z v G → R z v G') {zs : List α} {vs : List V} (h : All2 R G zs vs) : All2 R G' zs vs :=
  Paired.mapP h fun z v r => up z v r
theorem All2.eq {α : Type} {f : α → V} {G : Hp} : ∀ {zs : List α} {vs : List V}, All2 (fun z v _ => v = f z) G zs vs → vs = zs.map f
  | _, _, .nil => rfl
  | _, _, .cons r t => by rw [r, All2.eq (G := G) t]; rfl
theorem All2.of_map {α : Type} {f : α → V} {R : α → V → Hp → Prop} {G : Hp} : ∀ (zs : List α), (∀ z ∈ zs, R z (f z) G) → All2 R G zs (zs.map f)
  | [], _ => .nil
  | z :: zs, h => .cons (h z List.mem_cons_self) (All2.of_map zs fun y hy => h y (List.mem_cons_of_mem _ hy))
theorem Paired.get {α β : Type} {F : α → β → Prop} : ∀ {l : List α} {m : List β} {i : Nat} {y : β}, Paired F l m → m[i]? = some y → ∃ x, l[i]? = some x ∧ F x y
  | _, _, _, _, .nil, h => by simp at h
  | _, _, 0, _, .cons r _, h => by simp at h; subst h; exact ⟨_, rfl, r⟩
  | _, _, i + 1, _, .cons _ t, h => by
    obtain ⟨x, h1, h2⟩ := Paired.get (i := i) t (by simpa using h)
    exact ⟨x, by simpa using h1, h2⟩
theorem take_succ' {α : Type} {l : List α} {i : Nat} {x : α} (h : l[i]? = some x) : l.take (i + 1) = l.take i ++ [x] := by
  rw [List.take_succ, h]; rfl
theorem filter_succ {α : Type} {l : List α} {i : Nat} {x : α} (p : α → Bool) (h : l[i]? = some x) : (l.take (i + 1)).filter p = (l.take i).filter p ++ if p x = true then [x] else [] := by
  rw [take_succ' h, List.filter_append]
  cases e : p x <;> simp [List.filter_cons, e]
/-- [e for target in J if tests]: zs the data of the turns -/
theorem w_lc {α : Type} {g : TG} {tt : TT} {te : TE} {vs : List Nat} {σ : L2.St} {H : Hp} {Q : VK} {J : It} {G0 H0 G : Hp} {n : Nat} {Y : Nat → V → Hp → Prop} (S : Src J G n Y) (N : Nx G0 H0 G H)
    (zs : List α) (p : α → Bool) (R : α → V → Hp → Prop) (hn : zs.length = n) (hz : n ≤ 90000) (up : ∀ z v G G', Same G G' → R z v G → R z v G')
    (hs : ∀ i z x G' H', zs[i]? = some z → Same G G' → Same G' H' → Y i x G' → ∃ σ2, (∀ Q : L2.St → Hp → Prop, Q σ2 H' → g x (wipe σ vs) H' Q) ∧ wipe σ2 vs = wipe σ vs ∧ Gt tt σ2 G' H' (p z) ∧
      (p z = true → ∀ G2 H2, Same G' G2 → Same G2 H2 → Gv te σ2 G2 H2 (R z)))
    (k : ∀ D L G' H', Nx G0 H0 G' H' → Nx G H G' H' → H' D = some (.lst L) → G' D = none → H0 D = none → All2 R G' (zs.filter p) L → Q (.ref D) H') :
    ∀ D, H D = none → ∃ W : Nat → Nat → Hp → Prop, (∃ m, W 0 m (upd H D (.lst []))) ∧ ∀ i m H, W i m H →
      (J.stop i H ∧ Q (.ref D) H) ∨ (J.go i H ∧ ∃ Nx : Hp → Prop, (∀ H', Nx H' → ∃ m', m' < m ∧ W (i + 1) m' H') ∧ ∀ x H', J.yld i H x H' → g x (wipe σ vs) H' fun σ2 H2 => wipe σ2 vs = wipe σ vs ∧ tt σ2 H2 fun b H3 =>
        if b = true then te σ2 H3 fun y H4 => ∃ acc, H4 D = some (.lst acc) ∧ acc.length < sizeLine ∧ Nx (upd H4 D (.lst (acc ++ [y]))) else Nx H3) := by
  intro D hD
  let I : Nat → Hp → Prop := fun i H' => ∃ G' L, Nx G H G' H' ∧ H' D = some (.lst L) ∧ G' D = none ∧ L.length ≤ i ∧ All2 R G' ((zs.take i).filter p) L
  have hDG : G D = none := N.h.free hD
  refine ⟨fun i m H' => m = n - i ∧ i ≤ n ∧ I i H', ⟨n, by simp, Nat.zero_le _, G, [], (Nx.refl N.h).more (same_new hD), upd_same, hDG, Nat.le_refl _, .nil⟩, ?_⟩
  rintro i m H' ⟨rfl, hi, G', L, n', hL, gD, hl, hA⟩
  by_cases hlt : i < n
  · refine .inr ⟨S.go i H' hlt (n'.g.trans n'.h), I (i + 1), fun H2 p2 => ⟨n - (i + 1), by omega, rfl, hlt, p2⟩, fun x H'' y => ?_⟩
    obtain ⟨G'', n1, hy⟩ := S.yld i x G' H' H'' hlt n'.g n'.h y
    have hzi : zs[i]? = some (zs[i]'(by omega)) := List.getElem?_eq_getElem (by omega)
    obtain ⟨σ2, hg, hw, ht, he⟩ := hs i _ x G'' H'' hzi (n'.g.trans n1.g) n1.h hy
    refine hg _ ⟨hw, ht _ fun G2 H2 n2 => ?_⟩
    have n3 := n1.trans n2
    have fs := filter_succ p hzi
    cases hp : p (zs[i]'(by omega)) with
    | false =>
      rw [hp] at fs
      refine iteF ⟨G2, L, n'.trans n3, n3.e _ _ hL, n3.hid hL gD, by omega, ?_⟩
      rw [fs]
      simpa using All2.mono (fun z v r => up z v _ _ n3.g r) hA
    | true =>
      rw [hp] at fs
      refine iteT (he hp G2 H2 n2.g n2.h _ fun v G3 H3 n4 r => ?_)
      have n5 := n3.trans n4
      refine ⟨L, n5.e _ _ hL, szl (by omega), G3, L ++ [v], (n'.trans n5).mut hD (n5.hid hL gD), upd_same, n5.hid hL gD, by simp; omega, ?_⟩
      rw [fs, if_pos rfl]
      exact Paired.snoc (All2.mono (fun z v r => up z v _ _ n5.g r) hA) r
  · have e : i = n := by omega
    subst e
    have ef : (zs.take i).filter p = zs.filter p := by rw [← hn, List.take_length]
    rw [ef] at hA
    exact .inl ⟨S.stop i H' (Nat.le_refl _) (n'.g.trans n'.h), k D L G' H' (N.trans n') n' hL gD (N.e.free hD) hA⟩
end Ax

/-! Sets of keys of any plain kind that can be walked: made from a list or a tuple, sorted. -/
namespace Ax
open PySem PySem.Spec PyProof.Rows L2

section
variable {P : Program} {w : World} {K : Type} [DecidableEq K]
def EnK (knd : KeyKind P w K) (k : K) (e : Int × Value) : Prop := knd.is k e.2 = true ∧ e.1 = knd.hash k ∧ e.2.scannable = true
/-- the set at a has the keys ks (in any order), its table can be walked -/
def SKs (knd : KeyKind P w K) (h : Heap) (a : Addr) (ks : List K) : Prop :=
  ∃ (o : Obj) (es : Array (Int × Value)) (ep : Nat) (t : SetTable) (l : List K), h.get? a = some o ∧ o.ExactSet ∧ o.data = .set es ep t ∧ l.Perm ks ∧ Paired (EnK knd) l es.toList ∧ ks.Nodup ∧
    es.size < scanBound ∧ t.fits es.size = true ∧ Ris t.place.toList ∧ (w.params.followText "set-order" = true ∨ t.led = true)
variable {knd : KeyKind P w K} {A : Around} {E : Value → Shared → Prop} {s : Shared} {a : Addr} {ks : List K} {h h' : Heap}
theorem pair_len {α β : Type} {F : α → β → Prop} {l : List α} {m : List β} (p : Paired F l m) : l.length = m.length := Paired.length p
theorem pair_mem {α β : Type} {F : α → β → Prop} : ∀ {l : List α} {m : List β} {y : β}, Paired F l m → y ∈ m → ∃ x ∈ l, F x y
  | _, _, _, .nil, h => by cases h
  | _, _, y, .cons r t, h => by
    rcases List.mem_cons.mp h with e | e
    · subst e; exact ⟨_, List.mem_cons_self, r⟩
    · obtain ⟨x, hx, q⟩ := pair_mem t e
      exact ⟨x, List.mem_cons_of_mem _ hx, q⟩
theorem pair_mem' {α β : Type} {F : α → β → Prop} : ∀ {l : List α} {m : List β} {x : α}, Paired F l m → x ∈ l → ∃ y ∈ m, F x y
  | _, _, _, .nil, h => by cases h
  | _, _, x, .cons r t, h => by
    rcases List.mem_cons.mp h with e | e
    · subst e; exact ⟨_, List.mem_cons_self, r⟩
    · obtain ⟨y, hy, q⟩ := pair_mem' t e
      exact ⟨y, List.mem_cons_of_mem _ hy, q⟩
/-- a permutation on the right is followed on the left -/
theorem pair_perm {α β : Type} {F : α → β → Prop} {m m' : List β} (q : m'.Perm m) : ∀ {l : List α}, Paired F l m → ∃ l', l'.Perm l ∧ Paired F l' m' := by
  induction q with
  | nil => intro l p; cases p; exact ⟨[], .nil, .nil⟩
  | cons y _ ih =>
    intro l p
    cases p with
    | cons r t =>
      obtain ⟨l', h1, h2⟩ := ih t
      exact ⟨_ :: l', h1.cons _, .cons r h2⟩
  | swap x y r =>
    intro l p
    cases p with
    | cons r1 t1 => cases t1 with
      | cons r2 t2 => exact ⟨_, List.Perm.swap _ _ _, .cons r2 (.cons r1 t2)⟩
  | trans _ _ ih1 ih2 =>
    intro l p
    obtain ⟨l1, a1, b1⟩ := ih2 p
    obtain ⟨l2, a2, b2⟩ := ih1 b1
    exact ⟨l2, a2.trans a1, b2⟩
theorem en_elems {l : List K} {es : List (Int × Value)} (p : Paired (EnK knd) l es) : ElemsOf knd es := fun e he => by
  obtain ⟨k, _, h1, h2, h3⟩ := pair_mem p he
  exact ⟨⟨k, h1, h2⟩, h3⟩
theorem SKs.at (R : SKs knd h a ks) (k : ∀ o, h.get? a = some o → h'.get? a = some o) : SKs knd h' a ks := by
  obtain ⟨o, es, ep, t, l, ho, r⟩ := R
  exact ⟨o, es, ep, t, l, k o ho, r⟩
theorem SKs.perm {ks' : List K} (R : SKs knd h a ks) (p : ks.Perm ks') : SKs knd h a ks' := by
  obtain ⟨o, es, ep, t, l, ho, hx, hd, hp, pr, nd, r⟩ := R
  exact ⟨o, es, ep, t, l, ho, hx, hd, hp.trans p, pr, p.nodup_iff.mp nd, r⟩
theorem put_at {h : Heap} {a : Addr} {o : Obj} {es es' : Array (Int × Value)} {ep : Nat} {t t' : SetTable} (ho : h.get? a = some o) (hd : o.data = .set es ep t) :
    (h.update a (Obj.putSet es' t')).get? a = some { o with data := .set es' (ep + 1) t' } := by
  have e := putSet_of es' t' hd
  have z := Heap.get?_update_self (Obj.putSet es' t') ho (by rw [e]; rfl)
  exact z.trans (by rw [e])
/-- what is laid is stored, the table grown where it is too full -/
theorem sks_tail {g : Bool → Sem Unit} (hg : ∀ (b : Bool) (s₁ : Shared) (Q' : Unit → Shared → Prop), Q' () s₁ → wpAny (model P w) A (g b) Q' E s₁) {o : Obj} {es es1 : Array (Int × Value)} {ep : Nat} {t t2 : SetTable} {l : List K}
    (ho : s.heap.get? a = some o) (hex : o.ExactSet) (hd : o.data = .set es ep t) (hl : l.Perm ks) (hp : Paired (EnK knd) l es1.toList) (nd : ks.Nodup) (hb : es1.size < scanBound) (hf : t2.fits es1.size = true)
    (hr : Ris t2.place.toList) (hw : w.params.followText "set-order" = true ∨ t2.led = true) {dum : Bool} {R : Option Bool → Shared → Prop}
    (hR : ∀ h', Heap.SameBut a s.heap h' → SKs knd h' a ks → R (some true) { s with heap := h' }) :
    wpAny (model P w) A (do
        storeSet a es1 t2
        if (!dum && t2.tooFull) = true then do
            g (relayAll t2 es1 (SetTable.grown es1.size)).2.2
            storeSet a (relayAll t2 es1 (SetTable.grown es1.size)).1 (relayAll t2 es1 (SetTable.grown es1.size)).2.1
            pure (some true)
          else pure (some true)) R E s := by
  refine wpAny_bind (wpAny_storeSet_of ho hd ?_ (fits_of_scanBound hb))
  have o1 := put_at (es' := es1) (t' := t2) ho hd
  have b1 := Heap.SameBut.update s.heap a (Obj.putSet es1 t2)
  by_cases hc : (!dum && t2.tooFull) = true
  · rw [if_pos hc]
    have q1 := relayAll_perm t2 es1 (SetTable.grown es1.size)
    have q2 := relayAll_fits t2 es1 (SetTable.grown es1.size)
    have q3 := relayAll_ris t2 es1 (SetTable.grown es1.size)
    have q4 := relayAll_led t2 es1 (SetTable.grown es1.size)
    generalize relayAll t2 es1 (SetTable.grown es1.size) = Z at q1 q2 q3 q4 ⊢
    obtain ⟨es2, t3, gv⟩ := Z
    dsimp only at q1 q2 q3 q4 ⊢
    have z2 : es2.size = es1.size := by rw [← Array.length_toList, q1.length_eq, Array.length_toList]
    have hb2 : es2.size < scanBound := by rw [z2]; exact hb
    refine wpAny_bind (hg _ _ _ (wpAny_bind (wpAny_storeSet_of o1 rfl ?_ (fits_of_scanBound hb2))))
    have o2 := put_at (es' := es2) (t' := t3) o1 rfl
    obtain ⟨l', p1, p2⟩ := pair_perm q1 hp
    exact wpAny_pure (hR _ (b1.trans (Heap.SameBut.update _ a _)) ⟨_, es2, _, t3, l', o2, hex, rfl, p1.trans hl, p2, nd, hb2, q2, q3, hw.imp id fun z => q4.trans z⟩)
  · rw [if_neg hc]
    exact wpAny_pure (hR _ b1 ⟨_, es1, _, t2, l, o1, hex, rfl, hl, hp, nd, hb, hf, hr, hw⟩)
theorem sks_add {k : K} {x : Value} {Q : Bool → Shared → Prop} (R : SKs knd s.heap a ks) (hk : knd.is k x = true) (hsc : x.scannable = true) (room : ks.length + 1 < scanBound)
    (hQ : ∀ b h', Heap.SameBut a s.heap h' → SKs knd h' a (if k ∈ ks then ks else k :: ks) → Q b { s with heap := h' }) :
    wpAny (model P w) A (setAddHashed a x (knd.hash k)) Q E s := by
  obtain ⟨o, es, ep, t, l, ho, hex, hd, hl, hp, nd, hb, hf, hr, hw⟩ := R
  have hel : ElemsOf knd es.toList := en_elems hp
  have hsz : es.size = ks.length := by rw [← Array.length_toList, ← pair_len hp, hl.length_eq]
  unfold setAddHashed setAddHashedIn
  refine wpAny_holding (wpAny_bind (wpAny_setState_of ho hd hf ?_))
  dsimp only
  rw [byScan_of hsc hb hel]
  simp only [↓reduceIte]
  unfold setAddByScan
  refine wpAny_bind (wpAny_bind (wpAny_rule (wpAny_bind (wpAny_setScan_of hk ho hd hf hel ?_))))
  cases hfi : List.findIdx? (fun e => knd.is k e.2) es.toList with
  | some j =>
    dsimp only
    obtain ⟨hj, pj, _⟩ := List.findIdx?_eq_some_iff_getElem.mp hfi
    obtain ⟨k', hm, e1, _, _⟩ := pair_mem hp (List.getElem_mem hj)
    have ek : k = k' := knd.inj _ _ _ pj e1
    have hin : k ∈ ks := by rw [ek]; exact hl.mem_iff.mp hm
    refine wpAny_pure (wpAny_pure ?_)
    exact hQ _ s.heap (Heap.SameBut.refl a s.heap) (by rw [if_pos hin]; exact ⟨o, es, ep, t, l, ho, hex, hd, hl, hp, nd, hb, hf, hr, hw⟩)
  | none =>
    dsimp only
    have hnk : k ∉ ks := fun hm => by
      obtain ⟨e, he, q, _⟩ := pair_mem' hp (hl.mem_iff.mpr hm)
      have c := List.findIdx?_eq_none_iff.mp hfi e he
      rw [q] at c; cases c
    have gw : ∀ (b : Bool) {s₁ : Shared} {Q' : Unit → Shared → Prop}, Q' () s₁ → wpAny (model P w) A (match b with | true => rule "set.scan.the-table-gave-way" | false => pure ()) Q' E s₁ :=
      fun b _ _ q => by cases b <;> first | exact wpAny_pure q | exact wpAny_rule q
    have q1 := layNew_perm t es (knd.hash k) x
    have q2 := layNew_fits t es (knd.hash k) x
    have q3 := layNew_ris t es (knd.hash k) x hr
    have q4 := layNew_led t es (knd.hash k) x
    generalize layNew t es (knd.hash k) x = Z at q1 q2 q3 q4 ⊢
    obtain ⟨es1, t1, dum, gv⟩ := Z
    dsimp only at q1 q2 q3 q4 ⊢
    rw [Array.toList_push] at q1
    obtain ⟨l', p1, p2⟩ := pair_perm (q1.trans (List.perm_append_singleton _ _)) (Paired.cons (F := EnK knd) (a := k) (b := (knd.hash k, x)) ⟨hk, rfl, hsc⟩ hp)
    have pk : l'.Perm (k :: ks) := p1.trans (hl.cons k)
    have nd1 : (k :: ks).Nodup := List.nodup_cons.mpr ⟨hnk, nd⟩
    have hb1 : es1.size < scanBound := by
      rw [← Array.length_toList, ← pair_len p2, pk.length_eq]
      exact room
    have hw1 : w.params.followText "set-order" = true ∨ t1.led = true := hw.imp id fun z => q4.trans z
    have fin : ∀ h', Heap.SameBut a s.heap h' → SKs knd h' a (k :: ks) → Q true { s with heap := h' } := fun h' sb r => hQ true h' sb (by rw [if_neg hnk]; exact r)
    refine wpAny_bind (gw _ ?_)
    split
    · refine wpAny_bind ?_
      rw [hashByValue_scannable 8 hsc]
      refine wpAny_pure (sks_tail ?_ ho hex hd pk p2 nd1 hb1 ?_ ?_ ?_ fun h' sb r => ?_)
      · intro b _ _ q; cases b <;> first | exact wpAny_pure q | exact wpAny_rule q
      · first | (split <;> first | exact q2 | exact SetTable.fits_plain_off q2) | exact q2
      · first | (split <;> exact q3) | exact q3
      · first | (split <;> exact hw1) | exact hw1
      · dsimp only; exact wpAny_pure (fin h' sb r)
    · refine wpAny_bind (wpAny_pure ?_)
      simp only [↓reduceIte]
      refine sks_tail ?_ ho hex hd pk p2 nd1 hb1 q2 q3 hw1 fun h' sb r => ?_
      · intro b _ _ q; cases b <;> first | exact wpAny_pure q | exact wpAny_rule q
      · dsimp only; exact wpAny_pure (fin h' sb r)
/-- what the first i of xs leave -/
def dd (xs : List K) : List K := xs.foldl (fun ks k => if k ∈ ks then ks else k :: ks) []
theorem dd_snoc (xs : List K) (k : K) : dd (xs ++ [k]) = if k ∈ dd xs then dd xs else k :: dd xs := by unfold dd; rw [List.foldl_append]; rfl
theorem dd_mem : ∀ (xs : List K) (k : K), k ∈ dd xs ↔ k ∈ xs := by
  intro xs
  suffices h : ∀ n (ys : List K), ys.length = n → ∀ k, k ∈ dd ys ↔ k ∈ ys from h _ xs rfl
  intro n
  induction n with
  | zero => intro ys hy k; rw [List.length_eq_zero_iff.mp hy]; unfold dd; simp
  | succ n ih =>
    intro ys hy k
    rcases List.eq_nil_or_concat ys with e | ⟨zs, z, e⟩
    · subst e; cases hy
    · rw [List.concat_eq_append] at e
      subst e
      have hz : zs.length = n := by rw [List.length_append] at hy; simpa using hy
      rw [dd_snoc]
      split
      · rename_i hin
        rw [ih zs hz, List.mem_append, List.mem_singleton]
        exact ⟨.inl, fun q => q.elim id fun e => e ▸ (ih zs hz z).mp hin⟩
      · rw [List.mem_cons, ih zs hz, List.mem_append, List.mem_singleton]
        exact Or.comm
theorem dd_len (xs : List K) : (dd xs).length ≤ xs.length := by
  suffices h : ∀ (ys acc : List K), (ys.foldl (fun ks k => if k ∈ ks then ks else k :: ks) acc).length ≤ acc.length + ys.length by
    have := h xs []; simpa [dd] using this
  intro ys
  induction ys with
  | nil => intro acc; simp
  | cons y ys ih =>
    intro acc
    refine Nat.le_trans (ih _) ?_
    show (if y ∈ acc then acc else y :: acc).length + ys.length ≤ _
    split <;> simp <;> omega
theorem dd_nodup (xs : List K) : (dd xs).Nodup := by
  suffices h : ∀ (ys acc : List K), acc.Nodup → (ys.foldl (fun ks k => if k ∈ ks then ks else k :: ks) acc).Nodup from h xs [] List.nodup_nil
  intro ys
  induction ys with
  | nil => intro acc h; exact h
  | cons y ys ih =>
    intro acc h
    refine ih _ ?_
    show (if y ∈ acc then acc else y :: acc).Nodup
    split
    · exact h
    · rename_i hn; exact List.nodup_cons.mpr ⟨hn, h⟩
end
end Ax

/-! set(list), set(tuple) of texts; sorted of such a set. -/
namespace Ax
open PySem PySem.Spec PyProof.Rows L2

section
variable {P : Program} {w : World} {A : Around} {E : Value → Shared → Prop} {s : Shared}
theorem strs_get : ∀ {us : List Value} {xs : List Str}, StrsAre us xs → ∀ (i : Nat) (v : Value), us[i]? = some v → ∃ x t, xs[i]? = some x ∧ v = .str x t
  | _, _, .nil, i, v, h => by simp at h
  | _, _, .cons n t hr, 0, v, h => by simp at h; exact ⟨n, t, rfl, h.symm⟩
  | _, _, .cons n t hr, i + 1, v, h => by
    simp only [List.getElem?_cons_succ] at h ⊢
    exact strs_get hr i v h
/-- the loop of set.update over anything that walks texts -/
theorem set_loop {I : Addr} {fp wr : List Addr} {Gn : Array GenState → Array GenState → Prop} {n : Nat} {Pv : Nat → Value → Prop} {Sv : Nat → Shared → Prop} {R : Result → Shared → Prop}
    (W : WalksS P w A.in1 I fp wr Gn n Pv Sv) (S : Addr) (hSf : S ∉ fp) (xs : List Str) (hn : n = xs.length) (hb : xs.length + 1 < scanBound) (hval : ∀ i v, Pv i v → ∃ x t, xs[i]? = some x ∧ v = .str x t) :
    ∀ (k i : Nat) (s : Shared), n - i = k → i ≤ n → Sv i s → SKs (strKind P w) s.heap S (dd (xs.take i)) →
      (∀ s', Moved (S :: wr) Gn s s' → SKs (strKind P w) s'.heap S (dd xs) → R (.ok (.ret .none)) s') →
      codeAny (model P w) A (.builtin "set.update.loop" ⟨[.ref S, .ref I], []⟩) R s := by
  have hSw : S ∉ wr := fun h => hSf (W.sub _ h)
  have more : ∀ b ∈ wr, b ∈ S :: wr := fun b hb => List.mem_cons_of_mem _ hb
  intro k
  induction k with
  | zero =>
    intro i s hk hi hst hS hR
    have e : i = n := by omega
    subst e
    refine codeAny_builtin F.entry_set_update_loop ?_
    rw [Around.under_plainId F.plain_set_update_loop _]
    show wpAny _ A.in1 (pyNext (.ref I) >>= _) _ _ s
    refine wpAny_bind (W.done s _ _ hst fun s' hm => ?_)
    show wpAny _ A.in1 (ret Value.none) _ _ s'
    rw [hn, List.take_length] at hS
    exact wpAny_pure (hR s' (hm.mono more) (hS.at fun o q => hm.heap S o hSw q))
  | succ k ih =>
    intro i s hk hi hst hS hR
    have lt : i < n := by omega
    refine codeAny_builtin F.entry_set_update_loop ?_
    rw [Around.under_plainId F.plain_set_update_loop _]
    show wpAny _ A.in1 (pyNext (.ref I) >>= _) _ _ s
    refine wpAny_bind (W.item i s _ _ lt hst fun v s' hP hst' hm => ?_)
    obtain ⟨x, t, hx, rfl⟩ := hval i v hP
    have hS' := hS.at fun o q => hm.heap S o hSw q
    show wpAny _ A.in1 (holding [Value.str x t] (setAdd S (.str x t)) >>= _) _ _ s'
    refine wpAny_bind (wpAny_holding ?_)
    unfold setAdd
    have hkx : (strKind P w).is x (.str x t) = true := strKind_is P w x t
    refine wpAny_holding (wpAny_bind ((strKind P w).pyHash hkx ?_))
    have hl : (dd (xs.take i)).length + 1 < scanBound := by
      have h1 := dd_len (xs.take i)
      rw [List.length_take] at h1
      omega
    refine sks_add (s := { s' with toks := s'.toks + 1 }) hS' hkx rfl hl fun b h' sb hS2 => ?_
    have hS3 : SKs (strKind P w) h' S (dd (xs.take (i + 1))) := by rw [take_succ' hx, dd_snoc]; exact hS2
    refine wpAny_pure ⟨plainId_quiet F.plain_set_update_loop _, ih (i + 1) _ (by omega) lt (W.frame _ s' _ _ hst' (Nat.le_add_right _ _) fun b hb o e => ?_) hS3 fun s2 hm2 hq => ?_⟩
    · rw [sb.2 b (fun z : b = S => hSf (by rw [← z]; exact hb))]; exact e
    · refine hR s2 (Moved.trans W.gtrans ((hm.mono more).then_heap (Nat.le_add_right _ _) fun b o hb e => ?_) hm2) hq
      rw [sb.2 b (fun z : b = S => hb (by rw [z]; exact List.mem_cons_self))]; exact e
abbrev set0 (w : World) : Obj := { cls := .type "set", dict := none, data := .set #[] 0 (.fresh 0 0 (!w.params.followText "set-order")) }
theorem sks_fresh {h : Heap} {a : Addr} (ho : h.get? a = some (set0 w)) : SKs (strKind P w) h a [] :=
  ⟨_, #[], 0, _, [], ho, ⟨rfl, rfl, rfl⟩, rfl, .refl _, .nil, List.nodup_nil, by decide, rfl, List.Pairwise.nil, by
    show _ ∨ (!w.params.followText "set-order") = true
    cases w.params.followText "set-order"
    · exact .inr rfl
    · exact .inl rfl⟩
/-- the sequence at l: a list or a tuple -/
def IsSq (h : Heap) (l : Addr) (items : Array Value) (T : String) : Prop := (T = "list" ∧ h.IsList l items) ∨ (T = "tuple" ∧ h.IsTuple l items)
/-- a built-in class is called: made, then its init -/
theorem called_codes {T newId initId : String} {args : List Value} {Q Q₁ : Value → Shared → Prop} (ft : TypeCalled T newId initId) (hct : checkTypeCall T ⟨args, []⟩ = pure ())
    (hnew : codeAny (model P w) A.in1 (.call (.builtin newId) ⟨.type T :: args, []⟩) (wants Q₁ E) s)
    (hnext : ∀ obj s₁, Q₁ obj s₁ → s₁.TypeIs obj T ∧ codeAny (model P w) A.in1 (.call (.builtin initId) ⟨obj :: args, []⟩) (wants (fun r s₂ => r = .none ∧ Q obj s₂) E) s₁) :
    wpAny (model P w) A (call (.type T) args) Q E s := by
  obtain ⟨c, tl, hmro⟩ := ft.mro
  have hmade := ft.made
  have hsub := ft.sub
  refine wpAny_call (codeAny_of_tree ?_)
  show wpAny _ _ (callAny (.type T) _) _ _ _
  refine wpAny_pure ⟨Code.quiet_builtin _ (by decide +kernel), codeAny_builtin F.entry_type_call ?_⟩
  rw [Around.under_plain (weight_type_call_type T args []) rfl]
  have h1 := ft.notType
  have h2 := ft.canCreate
  repeat (any_goals (first | assumption | wp_step))
  refine codeAny_mono hnew fun r s₁ hr => ?_
  clear hnew
  cases r with
  | error e => exact hr
  | ok fl =>
    cases fl with
    | ret obj =>
      obtain ⟨hT, hi⟩ := hnext _ _ hr
      clear hnext
      have hli := ft.init.lookup
      have hbi := ft.init.bind obj
      repeat (any_goals (first | assumption | wp_step))
      refine codeAny_mono hi fun r₂ s₂ hr₂ => ?_
      cases r₂ with
      | error e => exact hr₂
      | ok fl₂ =>
        cases fl₂ with
        | ret r =>
          obtain ⟨rfl, hq⟩ := hr₂
          repeat (any_goals (first | assumption | wp_step))
        | _ => exact hr₂.elim
    | _ => exact hr.elim
/-- what set.__init__ does with an iterator of texts at hand -/
theorem set_init_loop {Q : Value → Shared → Prop} {l : Addr} {xs : List Str} {n : Nat} {Pv : Nat → Value → Prop} {Sv : Nat → Heap → Prop} {it : Obj} {tk : Nat}
    (W : Walks P w A.in1 (s.heap.push (set0 w)).objs.size [(s.heap.push (set0 w)).objs.size, l] [(s.heap.push (set0 w)).objs.size] n Pv Sv) (hl : l < s.heap.objs.size) (hn : n = xs.length) (hb : xs.length + 1 < scanBound)
    (hval : ∀ i v, Pv i v → ∃ x t, xs[i]? = some x ∧ v = .str x t) (hst : Sv 0 ((s.heap.push (set0 w)).push it))
    (hQ : ∀ (h' : Heap) (tk : Nat), SKs (strKind P w) h' s.heap.objs.size (dd xs) → (∀ b o, s.heap.get? b = some o → h'.get? b = some o) → Q .none { s with heap := h', toks := tk }) :
    codeAny (model P w) A (.builtin "set.update.loop" ⟨[.ref s.heap.objs.size, .ref (s.heap.push (set0 w)).objs.size], []⟩) (wants Q E) { s with heap := (s.heap.push (set0 w)).push it, toks := tk } := by
  have hS : (s.heap.push (set0 w)).get? s.heap.objs.size = some (set0 w) := Heap.get?_push_size _ rfl
  have hSf : s.heap.objs.size ∉ [(s.heap.push (set0 w)).objs.size, l] := by
    rw [Heap.size_push]; simp only [List.mem_cons, List.mem_singleton, List.not_mem_nil, or_false, not_or]
    exact ⟨Nat.ne_of_lt (Nat.lt_succ_self _), Nat.ne_of_gt hl⟩
  refine set_loop W.toS s.heap.objs.size hSf xs hn hb hval (n - 0) 0 _ rfl (Nat.zero_le _) hst (sks_fresh (Heap.get?_push_of_some _ hS)) fun s' hm hS' => ?_
  obtain ⟨h', g2, d', tk', os'⟩ := s'
  have eg : g2 = s.gens := hm.gens
  have ed : d' = s.drawn := hm.drawn
  have eo : os' = s.os := hm.os
  subst eg; subst ed; subst eo
  refine hQ h' tk' hS' fun b o e => hm.heap b o (fun hb => ?_) (Heap.get?_push_of_some _ (Heap.get?_push_of_some _ e))
  have lt := Heap.lt_size e
  rcases List.mem_cons.mp hb with z | z
  · rw [z] at lt; exact Nat.lt_irrefl _ lt
  · rw [List.mem_singleton.mp z, Heap.size_push] at lt; exact absurd lt (Nat.not_lt.mpr (Nat.le_succ _))
theorem set_init_T {l I : Addr} {T : String} {s2 : Shared} {P1 : Fin → Shared → Prop} {E1 : Value → Shared → Prop} (hT : s.TypeIs (.ref l) T) (hs : isSubtype (.type T) (.type "set") = pure false) (hf : isSubtype (.type T) (.type "frozenset") = pure false)
    (hne : (Value.type T == Value.type "dict") = false) {a : Addr} (hS : s.heap.get? a = some (set0 w))
    (hpi : ∀ (A' : Around) (E' : Value → Shared → Prop) (Q : Value → Shared → Prop), Q (.ref I) s2 → wpAny (model P w) A' (pyIter (.ref l)) Q E' s)
    (key : codeAny (model P w) A.in1 (.builtin "set.update.loop" ⟨[.ref a, .ref I], []⟩) (fun r s' => match r with | .ok (.ret _) => P1 (.done (.ret .none)) s' | .ok _ => False | .error e => E1 e s') s2) :
    wpAny (model P w) A.in1 (Builtin.«set.__init__» ⟨[.ref a, .ref l], []⟩) P1 E1 s := by
  have hT0 : s.TypeIs (.ref a) "set" := ⟨_, hS, rfl⟩
  obtain ⟨KP, hKP, kp⟩ : ∃ KP : Prop, (KP → codeAny (model P w) A.in1 (.builtin "set.update.loop" ⟨[.ref a, .ref I], []⟩) (fun r s' => match r with | .ok (.ret _) => P1 (.done (.ret .none)) s' | .ok _ => False | .error e => E1 e s') s2) ∧ KP := ⟨_, id, key⟩
  clear key
  unfold Builtin.«set.__init__» noKeywords Builtin.Frozenset.updateFrom
  obtain ⟨hp, g, d, tk, os⟩ := s
  generalize hPI : pyIter = PI at hpi ⊢
  clear hPI
  wp_walk
  refine hpi _ _ _ (wpAny_bind (wpAny_runValue (codeAny_mono (hKP kp) fun r s' hr => ?_)))
  cases r with
  | error e => exact hr
  | ok fl => cases fl with
    | ret v => exact wpAny_pure (wpAny_pure hr)
    | _ => exact hr.elim
theorem call_set_sq {l : Addr} {items : Array Value} {T : String} (xs : List Str) {Q : Value → Shared → Prop} (hh : A.handled = none) (hl : IsSq s.heap l items T) (hi : StrsAre items.toList xs) (hb : xs.length + 1 < scanBound)
    (h : ∀ (h' : Heap) (tk : Nat), SKs (strKind P w) h' s.heap.objs.size (dd xs) → (∀ b o, s.heap.get? b = some o → h'.get? b = some o) → Q (.ref s.heap.objs.size) { s with heap := h', toks := tk }) :
    wpAny (model P w) A (call (.type "set") [.ref l]) Q E s := by
  have hsz : items.size = xs.length := by rw [← Array.length_toList]; exact hi.length
  have hval : ∀ (i : Nat) (v : Value), items[i]? = some v → ∃ x t, xs[i]? = some x ∧ v = .str x t := fun i v hv => by
    have q : items.toList[i]? = some v := by rw [Array.getElem?_toList]; exact hv
    exact strs_get hi i v q
  have hh3 : A.in1.in1.in1.handled = none := by simp [hh]
  refine called_codes F.called_set (F.typeCall_set_1 (.ref l)) (Q₁ := fun obj s₁ => obj = .ref s.heap.objs.size ∧ s₁ = { s with heap := s.heap.push (set0 w) }) (code_set_led1 (A := A.in1) (.ref l) (E := E) ⟨rfl, rfl⟩) ?_
  rintro obj s₁ ⟨rfl, rfl⟩
  have hS : (s.heap.push (set0 w)).get? s.heap.objs.size = some (set0 w) := Heap.get?_push_size _ rfl
  have hT : Shared.TypeIs { s with heap := s.heap.push (set0 w) } (.ref s.heap.objs.size) "set" := ⟨_, hS, rfl⟩
  refine ⟨hT, codeAny_call_builtin F.called_set.init.plain F.entry_set_init (check_set_init_1 hT ?_)⟩
  have fin : ∀ (it : Obj) (I : Addr) (hI : I = (s.heap.push (set0 w)).objs.size), codeAny (model P w) A.in1.in1 (.builtin "set.update.loop" ⟨[.ref s.heap.objs.size, .ref I], []⟩) (wants (fun r s₂ => r = .none ∧ Q (.ref s.heap.objs.size) s₂) E) { s with heap := (s.heap.push (set0 w)).push it } →
      codeAny (model P w) A.in1.in1 (.builtin "set.update.loop" ⟨[.ref s.heap.objs.size, .ref I], []⟩) (fun r s' => match r with | .ok (.ret _) => (Q (.ref s.heap.objs.size) s') | .ok _ => False | .error e => E e s') { s with heap := (s.heap.push (set0 w)).push it } := fun it I _ k =>
    codeAny_mono k fun r s' hr => by
      cases r with
      | error e => exact hr
      | ok fl => cases fl with
        | ret v => exact hr.2
        | _ => exact hr.elim
  rcases hl with ⟨rfl, hl⟩ | ⟨rfl, hl⟩
  · have hlS : l < s.heap.objs.size := by obtain ⟨ol, hol, _⟩ := hl; exact Heap.lt_size hol
    have hneI : l ≠ (s.heap.push (set0 w)).objs.size := by rw [Heap.size_push]; exact Nat.ne_of_lt (Nat.lt_succ_of_lt hlS)
    have hl1 : (s.heap.push (set0 w)).IsList l items := hl.push _
    have hTl : Shared.TypeIs { s with heap := s.heap.push (set0 w) } (.ref l) "list" := by obtain ⟨ol, hol, hcl, _⟩ := hl1; exact ⟨ol, hol, hcl⟩
    refine set_init_T (I := (s.heap.push (set0 w)).objs.size) (s2 := { s with heap := (s.heap.push (set0 w)).push { cls := .type "list_iterator", data := .fields #[.ref l, .int 0 0] } }) hTl F.sub_list_set F.sub_list_frozenset (by decide) hS
      (fun A' E' Q' q => wpAny_pyIter_list hl1 q) ?_
    refine codeAny_mono (fin _ _ rfl (set_init_loop (tk := s.toks) (Walks.list hh3 (s.heap.push (set0 w)).objs.size l hneI items) hlS hsz hb hval ⟨⟨_, Heap.get?_push_size _ rfl, rfl, rfl⟩, (hl1.push _)⟩ fun h' tk a b => ⟨rfl, h h' tk a b⟩)) fun r s' hr => ?_
    cases r with
    | error e => exact hr
    | ok fl => cases fl with
      | ret v => exact ⟨rfl, hr⟩
      | _ => exact hr.elim
  · have hlS : l < s.heap.objs.size := by obtain ⟨ol, hol, _⟩ := hl; exact Heap.lt_size hol
    have hneI : l ≠ (s.heap.push (set0 w)).objs.size := by rw [Heap.size_push]; exact Nat.ne_of_lt (Nat.lt_succ_of_lt hlS)
    have hl1 : (s.heap.push (set0 w)).IsTuple l items := hl.push _
    have hTl : Shared.TypeIs { s with heap := s.heap.push (set0 w) } (.ref l) "tuple" := by obtain ⟨ol, hol, hcl, _⟩ := hl1; exact ⟨ol, hol, hcl⟩
    refine set_init_T (I := (s.heap.push (set0 w)).objs.size) (s2 := { s with heap := (s.heap.push (set0 w)).push { cls := .type "tuple_iterator", data := .fields #[.ref l, .int 0 0] } }) hTl F.sub_tuple_set F.sub_tuple_frozenset (by decide) hS
      (fun A' E' Q' q => wpAny_pyIter_tuple hl1 q) ?_
    refine codeAny_mono (fin _ _ rfl (set_init_loop (tk := s.toks) (Walks.tuple hh3 (s.heap.push (set0 w)).objs.size l hneI items) hlS hsz hb hval ⟨⟨_, Heap.get?_push_size _ rfl, rfl, rfl⟩, (hl1.push _)⟩ fun h' tk a b => ⟨rfl, h h' tk a b⟩)) fun r s' hr => ?_
    cases r with
    | error e => exact hr
    | ok fl => cases fl with
      | ret v => exact ⟨rfl, hr⟩
      | _ => exact hr.elim
/-- sorted(set of texts) -/
theorem pair_strs {l : List Str} {es : List (Int × Value)} (p : Paired (EnK (strKind P w)) l es) : StrsAre (es.map (·.2)) l := by
  induction p with
  | nil => exact StrsAre.nil
  | cons r t ih =>
    rename_i a b l₁ l₂
    obtain ⟨h1, _, _⟩ := r
    obtain ⟨t', e⟩ := Value.isStrOf_shape (x := a) (v := b.2) h1
    show StrsAre (b.2 :: List.map (·.2) l₂) (a :: l₁)
    rw [e]
    exact StrsAre.cons _ _ ih
theorem strs_perm {us vs : List Value} (p : us.Perm vs) : ∀ {xs : List Str}, StrsAre vs xs → ∃ ys, StrsAre us ys ∧ ys.Perm xs := by
  induction p with
  | nil => intro xs h; cases h; exact ⟨[], .nil, .refl _⟩
  | cons v _ ih =>
    intro xs h
    cases h with
    | cons y t h' =>
      obtain ⟨ys, a1, a2⟩ := ih h'
      exact ⟨_ :: ys, .cons _ _ a1, a2.cons _⟩
  | swap u v r =>
    intro xs h
    cases h with
    | cons y t h1 => cases h1 with
      | cons z t' h2 => exact ⟨_, .cons _ _ (.cons _ _ h2), List.Perm.swap _ _ _⟩
  | trans _ _ ih1 ih2 =>
    intro xs h
    obtain ⟨y1, a1, b1⟩ := ih2 h
    obtain ⟨y2, a2, b2⟩ := ih1 a1
    exact ⟨y2, a2, b2.trans b1⟩
theorem call_sorted_sks {a : Addr} {ks : List Str} {Q : Value → Shared → Prop} (R : SKs (strKind P w) s.heap a ks) (hh : A.handled = none) (h64 : ks.length < 64)
    (hQ : ∀ s' p (out : Array Value) (c : Nat) (ys : List Str), (∀ b o, s.heap.get? b = some o → s'.heap.get? b = some o) → s'.gens = s.gens → s'.os = s.os → s.heap.objs.size ≤ p →
      s'.heap.get? p = some (seqObj "list" out c) → StrsAre out.toList ys → ys.Perm ks → sortedS ys = true → Q (.ref p) s') :
    wpAny (model P w) A (call (.builtin "sorted") [.ref a]) Q E s := by
  obtain ⟨o, es, ep, t, l, ho, hex, hd, hl, hp, nd, hb, hf, hr, hw⟩ := R
  refine Calls.call_function_entry kind_sorted plain_sorted entry_sorted (args_sorted1 _) ?_
  unfold Builtin.«sorted»
  refine wpAny_bind (m := checkCount "sorted" 1 1 _) (wpAny_pure ?_)
  refine wpAny_bind (collect_set (A := A.in1) hh ⟨o, ho, hex.1, hd⟩ hf hb hr hw fun s1 vs k1 hz g1 o1 pm => ?_)
  obtain ⟨zs, hzs, pz⟩ := strs_perm pm (pair_strs hp)
  have hvl : vs.length < 64 := by rw [hzs.length, pz.length_eq, hl.length_eq]; exact h64
  refine wpAny_bind (wpAny_newList ?_ (by rw [sizeLine_eq]; omega))
  have hoL : (s1.heap.push (seqObj "list" vs.toArray 0)).get? s1.heap.objs.size = some (seqObj "list" vs.toArray 0) := Heap.get?_push_size _ rfl
  refine wpAny_bind (wpAny_holding (wpAny_call_entry slot_list_sort ⟨_, hoL, rfl⟩ entry_list_sort
    (list_sort_treeK strKind_oneLt hoL hzs.keysOf (fun v₁ v₂ rest e => keyKind_strs (by rw [← e]; exact hzs)) hvl fun st' hp' hs' => ⟨_, rfl, ?_⟩) (args_list_sort _)))
  obtain ⟨ys, y1, y2, y3⟩ := sorted_out_str hzs hp' hs'
  obtain ⟨c, hc⟩ := sortedHeap_at (vs := vs) (out := (arrOf st').map (·.2)) hoL
  refine wpAny_pure ⟨_, rfl, hQ _ s1.heap.objs.size _ c ys (fun b u e => ?_) g1 o1 hz hc y1 ((y2.trans pz).trans hl) y3⟩
  have q := k1 b u e
  have lt := Heap.lt_size q
  show (sortedHeap (s1.heap.push (seqObj "list" vs.toArray 0)) s1.heap.objs.size vs _).get? b = some u
  rw [sortedHeap_old (Nat.ne_of_lt lt) (by rw [size_push']; exact Nat.lt_succ_of_lt lt)]
  exact Heap.get?_push_of_some _ q
end
end Ax

/-! Rules that the layer lacks: star calls of classes, a class in a local name, own operators, len, in, bool, iter of own instances; sets. -/
namespace Ax
open PySem PySem.Spec PyProof.Rows L2 SlX StX

section
variable {X : Cx} {CX : CXT} {k : Nat} {C f g : Addr} {sp : Sp} {E : XK} {x m : Str} {p p2 apos pos : Pos} {e o a b : Expr} {es : List Expr} {te ta tb : TE} {t : TA}
/-- o.m() -/
theorem pe_methR0 {pl : Sem Bool} (he : PE X o ta) (c : Cls X.K C) (hm : Meth X.K C m f) (F : FnR X.prog X.w X.K X.mg X.base CX k f sp) (hr : Room k X.A) (hx : Passes CX X E)
    (ht : eval (.Call (.Attribute o m apos) [] [] pos) X.env = (do
      let ov ← eval o X.env
      standAt apos.atName
      let (f, first) ← holding [ov] (getMethod ov m pl)
      callWith pos f first (backTo pos (starEach [] X.env)) (backToKw pos (keywordEach [] X.env))) := by rfl) :
    PE X (.Call (.Attribute o m apos) [] [] pos) (tMethR C m sp E ta tNil) := by
  refine ⟨fun pins s σ H Q I h => ?_⟩
  refine PySem.W.methodCall_KW (pl := pl) (thn (he.run pins s σ H _ I h) fun u s1 ⟨y, H1, I1, rx, a, dx, fs, ex, ea, l, q⟩ => ?_) ht
  subst ex
  obtain rfl : u = Value.ref a := rx
  refine getmeth_ok I1 ea c hm l ?_
  exact PySem.W.callWith_K0 (first := [.ref a]) I1.kIn hm.kp (wpAny_call (run_fnR (us := [.ref a]) (vs := [.ref a]) F hr hx I1 (.cons rfl .nil) q))
/-- what a class is made by: a new instance, then its __init__ -/
def rMk (C : Addr) (sp : Sp) (E : XK) : List V → Hp → VK → Prop := fun vs H Q => ∀ y dy, H y = none → H dy = none → dy ≠ y → sp (.ref y :: vs) (upd (upd H dy (.own y)) y (.ins C dy [])) (fun v H2 => v = .non ∧ Q (.ref y) H2) E
/-- C(*e) -/
theorem pe_makeS1 (M : Mk X.K C f) (F : FnR X.prog X.w X.K X.mg X.base CX k f sp) (hr : Room (k + 1) X.A) (hg : Gl X x) (hm : X.mg x = some (.ref C)) (hx : Passes CX X E) (he : PE X e te) (hd : (x == ("__debug__" : Str)) = false := by decide)
    (hst : starEach [.Starred e p2] X.env = [(true, eval e X.env)] := by rfl) :
    PE X (.Call (.Name x p) [.Starred e p2] [] pos) (fun σ H Q => te σ H fun y H1 => ∃ a xs, y = V.ref a ∧ (SqT X.K H1 a xs ∨ SqL X.K H1 a xs) ∧ rMk C sp E xs H1 Q) := by
  refine ⟨fun pins s σ H Q I h => wpAny_Call_Name_kw (ld_glob I hg hm ?_ hd)⟩
  refine PySem.W.callWith_S (h₀ := X.base) I.ok.mod.kin M.kp (thn (he.run pins s σ H _ I h) fun v s1 ⟨y, H1, I1, ry, a, xs, ey, hxs, q⟩ => ?_) hst
  subst ey
  obtain rfl : v = Value.ref a := ry
  exact star_any I1 hxs fun us s2 I2 rv => ⟨I2.kIn, run_makeR M F hr hx I2 rv q⟩
/-- C(e, .., *z) -/
theorem pe_makeS2 (M : Mk X.K C f) (F : FnR X.prog X.w X.K X.mg X.base CX k f sp) (hr : Room (k + 1) X.A) (hg : Gl X x) (hm : X.mg x = some (.ref C)) (hx : Passes CX X E) (ha : PA X (e :: es) t) (hd : (x == ("__debug__" : Str)) = false := by decide)
    (he : starEach (e :: es) X.env = (false, eval e X.env) :: starEach es X.env := by rfl) (hst : (backTo pos (starEach es X.env)).any (·.1) = true := by rfl) :
    PE X (.Call (.Name x p) (e :: es) [] pos) (tCB (rMk C sp E) t) := by
  refine ⟨fun pins s σ H Q I h => wpAny_Call_Name_kw (ld_glob I hg hm ?_ hd)⟩
  exact PySem.W.callWith_S2 (h₀ := X.base) I.ok.mod.kin M.kp (thn (ha.run pos pins s σ H _ I h) fun us s1 ⟨vs, H1, I1, r, q⟩ => ⟨I1.kIn, run_makeR M F hr hx I1 r q⟩) he hst
/-- C(e, ..), plain -/
theorem pe_mkR (M : Mk X.K C f) (F : FnR X.prog X.w X.K X.mg X.base CX k f sp) (hr : Room (k + 1) X.A) (hg : Gl X x) (hm : X.mg x = some (.ref C)) (hx : Passes CX X E) (ha : PA X (e :: es) t) (hdb : (x == ("__debug__" : Str)) = false := by decide)
    (he : starEach (e :: es) X.env = (false, eval e X.env) :: starEach es X.env := by rfl) (hpl : (backTo pos (starEach es X.env)).any (·.1) = false := by rfl) : PE X (.Call (.Name x p) (e :: es) [] pos) (tCB (rMk C sp E) t) := by
  refine ⟨fun pins s σ H Q I h => wpAny_Call_Name_kw (ld_glob I hg hm ?_ hdb)⟩
  exact PySem.W.callWith_K (h₀ := X.base) I.ok.mod.kin M.kp (thn (ha.run pos pins s σ H _ I h) fun us s1 ⟨vs, H1, I1, r, q⟩ => ⟨I1.kIn, run_makeR M F hr hx I1 r q⟩) he hpl
/-- C() -/
theorem pe_mkR0 (M : Mk X.K C f) (F : FnR X.prog X.w X.K X.mg X.base CX k f sp) (hr : Room (k + 1) X.A) (hg : Gl X x) (hm : X.mg x = some (.ref C)) (hx : Passes CX X E) (hdb : (x == ("__debug__" : Str)) = false := by decide) :
    PE X (.Call (.Name x p) [] [] pos) (tCB (rMk C sp E) tNil) := by
  refine ⟨fun pins s σ H Q I h => wpAny_Call_Name_kw (ld_glob I hg hm ?_ hdb)⟩
  exact PySem.W.callWith_K0 I.kIn M.kp (run_makeR (us := []) M F hr hx I .nil h)
/-- cls(*e), cls a local name -/
theorem pe_clsS {i : Nat} (M : Mk X.K C f) (F : FnR X.prog X.w X.K X.mg X.base CX k f sp) (hr : Room (k + 1) X.A) (hN : X.N[i]? = some x) (hv : Vis X.env.scope x) (hx : Passes CX X E) (he : PE X e te)
    (hdb : (x == ("__debug__" : Str)) = false := by decide) (hcd : (x == ("__classdict__" : Str)) = false := by decide) (hst : starEach [.Starred e p2] X.env = [(true, eval e X.env)] := by rfl) :
    PE X (.Call (.Name x p) [.Starred e p2] [] pos) (fun σ H Q => σ[i]? = some (some (.ref C)) ∧ te σ H fun y H1 => ∃ a xs, y = V.ref a ∧ (SqT X.K H1 a xs ∨ SqL X.K H1 a xs) ∧ rMk C sp E xs H1 Q) := by
  refine ⟨fun pins s σ H Q I h => ?_⟩
  obtain ⟨hs, h⟩ := h
  refine wpAny_Call_Name_kw (thn ((pe_var (pos := p) hN hv hdb hcd).run pins s σ H (fun v H1 => v = .ref C ∧ H1 = H) I ⟨.ref C, hs, rfl, rfl⟩) fun u s1 ⟨v, H1, I1, r1, q1⟩ => ?_)
  obtain ⟨rfl, rfl⟩ := q1
  cases r1
  refine PySem.W.callWith_S (h₀ := X.base) I.ok.mod.kin M.kp (thn (he.run pins s1 σ _ _ I1 h) fun v s1 ⟨y, H1, I1, ry, a, xs, ey, hxs, q⟩ => ?_) hst
  subst ey
  obtain rfl : v = Value.ref a := ry
  exact star_any I1 hxs fun us s2 I2 rv => ⟨I2.kIn, run_makeR M F hr hx I2 rv q⟩
/-- cls() -/
theorem pe_cls0 {i : Nat} (M : Mk X.K C f) (F : FnR X.prog X.w X.K X.mg X.base CX k f sp) (hr : Room (k + 1) X.A) (hN : X.N[i]? = some x) (hv : Vis X.env.scope x) (hx : Passes CX X E)
    (hdb : (x == ("__debug__" : Str)) = false := by decide) (hcd : (x == ("__classdict__" : Str)) = false := by decide) :
    PE X (.Call (.Name x p) [] [] pos) (fun σ H Q => σ[i]? = some (some (.ref C)) ∧ rMk C sp E [] H Q) := by
  refine ⟨fun pins s σ H Q I h => ?_⟩
  obtain ⟨hs, h⟩ := h
  refine wpAny_Call_Name_kw (thn ((pe_var (pos := p) hN hv hdb hcd).run pins s σ H (fun v H1 => v = .ref C ∧ H1 = H) I ⟨.ref C, hs, rfl, rfl⟩) fun u s1 ⟨v, H1, I1, r1, q1⟩ => ?_)
  obtain ⟨rfl, rfl⟩ := q1
  cases r1
  exact PySem.W.callWith_K0 I1.kIn M.kp (run_makeR (us := []) M F hr hx I1 .nil h)

/-! ### own operators -/
/-- a is an instance of C -/
def Ins (H : Hp) (a C : Addr) : Prop := ∃ dx fs, H a = some (.ins C dx fs)
theorem ins_at {pins : List (Addr × Obj)} {σ : L2.St} {H : Hp} {s : Shared} {a C : Addr} (I : Inv X pins σ H s) (h : Ins H a C) : ∃ ox od, PySem.W.InstAt s.heap a ox C od := by
  obtain ⟨dx, fs, e⟩ := h
  obtain ⟨mA, O, _⟩ := ins_get I.hok e
  obtain ⟨od, J, _⟩ := O.look
  exact ⟨_, _, J⟩
def rOp (C D : Addr) (sp : Sp) (E : XK) : R2 := fun x y H Q => ∃ a b, x = .ref a ∧ y = .ref b ∧ Ins H a C ∧ Ins H b D ∧ sp [x, y] H Q E
/-- x op y by C's def; y an instance of the same class -/
theorem op_bin {op : Operator} (hc : PySem.W.selfFirst X.K C = true) (hs : PySem.W.findIn X.K (.ref C) (PySem.dunder op.info.2) = some (some (.ref g))) (hf : PySem.W.isFn X.K (.ref g) = true) (F : FnR X.prog X.w X.K X.mg X.base CX k g sp)
    (hr : Room k X.A) (hx : Passes CX X E) : OpR X (binaryOp op) (rOp C C sp E) := by
  intro pins s σ H x y v u Q I rx ry h
  obtain ⟨a, b, rfl, rfl, ha, hb, q⟩ := h
  cases (show v = Value.ref a from rx)
  cases (show u = Value.ref b from ry)
  obtain ⟨_, _, J⟩ := ins_at I ha
  obtain ⟨_, _, J'⟩ := ins_at I hb
  obtain ⟨m, hF⟩ := I.fr
  refine PySem.W.binop_K hF I.ok.mod.kin J J'.type hc hs hf ?_
  refine wpAny_mono (wpAny_call (run_fnR (us := [.ref a, .ref b]) (vs := [.ref a, .ref b]) F hr hx I (.cons rfl (.cons rfl .nil)) q)) (fun w s' z => ?_) fun _ _ x => x
  obtain ⟨z', H', I', rz, qz⟩ := z
  exact cmpback rz ⟨z', H', I', rz, qz⟩
/-- x op y, a comparison, by C's def; y an instance of D -/
theorem op_cmp {D : Addr} {op : CmpOp} (hop : ∀ a b, compareOp op a b = richCompare op a b) (hn : PySem.W.notFirst X.K C (.ref D) = true) (hs : PySem.W.findIn X.K (.ref C) (cmpInfo op).2.1 = some (some (.ref g))) (hf : PySem.W.isFn X.K (.ref g) = true)
    (F : FnR X.prog X.w X.K X.mg X.base CX k g sp) (hr : Room k X.A) (hx : Passes CX X E) : OpR X (compareOp op) (rOp C D sp E) := by
  intro pins s σ H x y v u Q I rx ry h
  obtain ⟨a, b, rfl, rfl, ha, hb, q⟩ := h
  cases (show v = Value.ref a from rx)
  cases (show u = Value.ref b from ry)
  obtain ⟨_, _, J⟩ := ins_at I ha
  obtain ⟨_, _, J'⟩ := ins_at I hb
  obtain ⟨m, hF⟩ := I.fr
  rw [hop]
  refine PySem.W.cmp_K (op := op) hr.units0 hF I.ok.mod.kin J J'.type hn hs hf ?_
  refine wpAny_mono (wpAny_call (run_fnR (us := [.ref a, .ref b]) (vs := [.ref a, .ref b]) F hr hx I (.cons rfl (.cons rfl .nil)) q)) (fun w s' z => ?_) fun _ _ x => x
  obtain ⟨z', H', I', rz, qz⟩ := z
  exact cmpback rz ⟨z', H', I', rz, qz⟩
/-- y in x, by C's __contains__, which gives a bool -/
def rInO (C : Addr) (sp : Sp) (E : XK) (neg : Bool) : R2 := fun y x H Q => ∃ a, x = .ref a ∧ Ins H a C ∧ sp [x, y] H (fun r H' => ∃ c, r = .bl c ∧ Q (.bl (if neg then !c else c)) H') E
theorem op_inO (hs : PySem.W.findIn X.K (.ref C) "__contains__" = some (some (.ref g))) (hf : PySem.W.isFn X.K (.ref g) = true) (F : FnR X.prog X.w X.K X.mg X.base CX k g sp) (hr : Room k X.A) (hx : Passes CX X E) :
    OpR X (compareOp .In) (rInO C sp E false) := by
  intro pins s σ H y x u v Q I ry rx h
  obtain ⟨a, rfl, ha, q⟩ := h
  cases (show v = Value.ref a from rx)
  obtain ⟨_, _, J⟩ := ins_at I ha
  obtain ⟨m, hF⟩ := I.fr
  refine PySem.W.in_K hF I.ok.mod.kin J hs hf ?_
  refine wpAny_mono (wpAny_call (run_fnR (us := [.ref a, u]) (vs := [.ref a, y]) F hr hx I (.cons rfl (.cons ry .nil)) q)) (fun w s' z => ?_) fun _ _ x => x
  obtain ⟨z', H', I', rz, c, ec, qz⟩ := z
  subst ec
  cases (show w = Value.bool c from rz)
  exact wpAny_pure ⟨.bl _, H', I', rfl, qz⟩
theorem op_notInO (hs : PySem.W.findIn X.K (.ref C) "__contains__" = some (some (.ref g))) (hf : PySem.W.isFn X.K (.ref g) = true) (F : FnR X.prog X.w X.K X.mg X.base CX k g sp) (hr : Room k X.A) (hx : Passes CX X E) :
    OpR X (compareOp .NotIn) (rInO C sp E true) := by
  intro pins s σ H y x u v Q I ry rx h
  obtain ⟨a, rfl, ha, q⟩ := h
  cases (show v = Value.ref a from rx)
  obtain ⟨_, _, J⟩ := ins_at I ha
  obtain ⟨m, hF⟩ := I.fr
  refine PySem.W.notIn_K hF I.ok.mod.kin J hs hf ?_
  refine wpAny_mono (wpAny_call (run_fnR (us := [.ref a, u]) (vs := [.ref a, y]) F hr hx I (.cons rfl (.cons ry .nil)) q)) (fun w s' z => ?_) fun _ _ x => x
  obtain ⟨z', H', I', rz, c, ec, qz⟩ := z
  subst ec
  cases (show w = Value.bool c from rz)
  exact wpAny_pure ⟨.bl _, H', I', rfl, qz⟩
/-- len(x), by C's __len__ -/
def rLenO (C : Addr) (sp : Sp) (E : XK) : List V → Hp → VK → Prop := fun xs H Q => ∃ a, xs = [.ref a] ∧ Ins H a C ∧ sp xs H (fun r H' => ∃ n : Nat, r = .int n ∧ n < 2 ^ 63 ∧ Q (.int n) H') E
theorem len_body {pins : List (Addr × Obj)} {σ : L2.St} {H : Hp} {s : Shared} {A : Around} {a : Addr} {Q : VK} (hs : PySem.W.findIn X.K (.ref C) "__len__" = some (some (.ref g))) (hf : PySem.W.isFn X.K (.ref g) = true) (F : FnR X.prog X.w X.K X.mg X.base CX k g sp)
    (hr : Room k A.in1) (e0 : Env0 X.prog X.w X.K X.mg X.base A.in1 X.stack s H) (hx : Passes CX X E) (I : Inv X pins σ H s) (ha : Ins H a C) (q : sp [.ref a] H (fun r H' => ∃ n : Nat, r = .int n ∧ n < 2 ^ 63 ∧ Q (.int n) H') E) :
    wpAny (model X.prog X.w) A.in1 (Builtin.«len» ⟨[.ref a], []⟩) (fun fin s' => ∃ v, fin = .done (.ret v) ∧ EP X pins σ Q v s') X.xe s := by
  obtain ⟨_, _, J⟩ := ins_at I ha
  unfold Builtin.«len»
  refine wpAny_bind (m := PySem.oneArg "len" _) (wpAny_pure ?_)
  refine wpAny_bind (m := callSpecial? (.ref a) (Str.ofString "__len__")) (PySem.W.special_fn I.kIn J hs (beq_iff_eq.mp hf) ?_)
  refine wpAny_mono (wpAny_call (run_at (us := [.ref a]) (ws := [.ref a]) F hr e0 hx I (.cons rfl .nil) q)) (fun w s' z => ?_) fun _ _ x => x
  obtain ⟨z', H', I', rz, n, en, hn, qz⟩ := z
  subst en
  obtain ⟨tk, ew⟩ := (show ∃ t, w = Value.int (n : Int) t from rz)
  subst ew
  refine wpAny_bind (wpAny_holding (wpAny_pure ?_))
  refine wpAny_bind (wpAny_letGo ?_)
  show wpAny _ _ (if (n : Int) < 0 then _ else _) _ _ _
  rw [if_neg (by omega)]
  show wpAny _ _ (if (n : Int) ≥ 2 ^ 63 then _ else _) _ _ _
  rw [if_neg (by have : (n : Int) < 2 ^ 63 := by exact_mod_cast hn
                 omega)]
  exact wpAny_bind (wpAny_mkInt (wpAny_pure ⟨_, rfl, .int n, H', I'.tok _, ⟨_, rfl⟩, qz⟩))
theorem len_at {pins : List (Addr × Obj)} {σ : L2.St} {H : Hp} {s : Shared} {A : Around} {a : Addr} {Q : VK} (hs : PySem.W.findIn X.K (.ref C) "__len__" = some (some (.ref g))) (hf : PySem.W.isFn X.K (.ref g) = true) (F : FnR X.prog X.w X.K X.mg X.base CX k g sp)
    (hr : Room k A.in1) (e0 : Env0 X.prog X.w X.K X.mg X.base A.in1 X.stack s H) (hx : Passes CX X E) (I : Inv X pins σ H s) (ha : Ins H a C) (q : sp [.ref a] H (fun r H' => ∃ n : Nat, r = .int n ∧ n < 2 ^ 63 ∧ Q (.int n) H') E) :
    wpAny (model X.prog X.w) A (call (.builtin "len") [.ref a]) (EP X pins σ Q) X.xe s :=
  Calls.call_function_entry kind_len plain_len entry_len (args_len1 _) (len_body hs hf F hr e0 hx I ha q)
theorem call_lenO (hs : PySem.W.findIn X.K (.ref C) "__len__" = some (some (.ref g))) (hf : PySem.W.isFn X.K (.ref g) = true) (F : FnR X.prog X.w X.K X.mg X.base CX k g sp) (hr : Room (k + 1) X.A) (hx : Passes CX X E) :
    CallR X (.builtin "len") (rLenO C sp E) := by
  intro pins s σ H xs us Q I r h
  obtain ⟨a, rfl, ha, q⟩ := h
  obtain rfl := Vals.ref1 r
  exact len_at hs hf F hr.in1 I.env0.in1 hx I ha q
/-- bool(x), if x: by C's __len__ -/
theorem truthy_at {pins : List (Addr × Obj)} {σ : L2.St} {H : Hp} {s : Shared} {A : Around} {a : Addr} {Q : Bool → Hp → Prop} (hb : PySem.W.findIn X.K (.ref C) "__bool__" = some none) (hs : PySem.W.findIn X.K (.ref C) "__len__" = some (some (.ref g)))
    (hf : PySem.W.isFn X.K (.ref g) = true) (F : FnR X.prog X.w X.K X.mg X.base CX k g sp) (hr : Room k A.in1) (e0 : Env0 X.prog X.w X.K X.mg X.base A.in1 X.stack s H) (hx : Passes CX X E) (I : Inv X pins σ H s) (ha : Ins H a C)
    (q : sp [.ref a] H (fun r H' => ∃ n : Nat, r = .int n ∧ n < 2 ^ 63 ∧ Q (n != 0) H') E) : wpAny (model X.prog X.w) A (truthy (.ref a)) (fun b s' => ∃ H', Inv X pins σ H' s' ∧ Q b H') X.xe s := by
  obtain ⟨_, _, J⟩ := ins_at I ha
  unfold truthy
  refine wpAny_bind (m := callSpecial? (.ref a) (Str.ofString "__bool__")) (wpAny_bind (wpAny_bind (J.type.here ((PySem.W.looks_findIn I.kIn hb).here (wpAny_pure ?_)))))
  refine wpAny_bind (wpAny_bind (J.type.here ((PySem.W.looks_findIn I.kIn hs).here ?_)))
  have z := len_body (A := A) (Q := fun r H' => ∃ n : Nat, r = .int n ∧ Q (n != 0) H') hs hf F hr e0 hx I ha (by
    have e : (fun (r : V) (H' : Hp) => ∃ n : Nat, r = .int n ∧ n < 2 ^ 63 ∧ (∃ m : Nat, V.int (n : Int) = .int m ∧ Q (m != 0) H')) = fun r H' => ∃ n : Nat, r = .int n ∧ n < 2 ^ 63 ∧ Q (n != 0) H' := by
      funext r H'
      apply propext
      constructor
      · rintro ⟨n, h1, h2, m, h3, h4⟩
        injection h3 with h5
        have h6 : n = m := by exact_mod_cast h5
        subst h6
        exact ⟨n, h1, h2, h4⟩
      · rintro ⟨n, h1, h2, h4⟩
        exact ⟨n, h1, h2, n, rfl, h4⟩
    rw [e]
    exact q)
  refine wpAny_bind (wpAny_runValue (codeAny_builtin entry_len ?_))
  rw [Around.under_plainId plain_len _]
  refine wpAny_mono z (fun fin s' hz => ?_) fun _ _ x => x
  obtain ⟨v, rfl, r, H', I', rz, n, en, qz⟩ := hz
  subst en
  obtain ⟨tk, ew⟩ := (show ∃ t, v = Value.int (n : Int) t from rz)
  subst ew
  have e : ((n : Int) != 0) = (n != 0) := by
    rcases Nat.eq_zero_or_pos n with h | h
    · subst h; rfl
    · have h1 : ((n : Int) != 0) = true := bne_iff_ne.mpr (by omega)
      have h2 : (n != 0) = true := bne_iff_ne.mpr (by omega)
      rw [h1, h2]
  show wpAny _ _ (pure ((n : Int) != 0)) _ _ _
  rw [e]
  exact wpAny_pure ⟨H', I', qz⟩
/-- bool(x) -/
def rBoolO (C : Addr) (sp : Sp) (E : XK) : List V → Hp → VK → Prop := fun xs H Q => ∃ a, xs = [.ref a] ∧ Ins H a C ∧ sp xs H (fun r H' => ∃ n : Nat, r = .int n ∧ n < 2 ^ 63 ∧ Q (.bl (n != 0)) H') E
theorem call_boolO (hb : PySem.W.findIn X.K (.ref C) "__bool__" = some none) (hs : PySem.W.findIn X.K (.ref C) "__len__" = some (some (.ref g))) (hf : PySem.W.isFn X.K (.ref g) = true) (Fg : FnR X.prog X.w X.K X.mg X.base CX k g sp) (hr : Room (k + 3) X.A) (hx : Passes CX X E) :
    CallR X (.type "bool") (rBoolO C sp E) := by
  intro pins s σ H xs us Q I r h
  obtain ⟨a, rfl, ha, q⟩ := h
  obtain rfl := Vals.ref1 r
  refine callType_newIn (Bn := Builtin.«bool.__new__») (S := fun A R s => wpAny (model X.prog X.w) A.in1 (Builtin.«bool.__new__» ⟨[.type "bool", .ref a], []⟩)
    (fun fin s' => match fin with | .done f => R (.ok f) s' | .again c' => c'.quiet = true ∧ codeAny (model X.prog X.w) A c' R s') (fun e s' => R (.error e) s') s)
    PySem.F.called_bool PySem.F.newNe_bool (PySem.F.typeCall_bool_1 _) (PySem.F.newCall_bool_1 _) (fun obj => PySem.F.args_object_init_2 obj _) PySem.F.entry_bool_new (fun A R s h => h) ?_
  have ht : wpAny (model X.prog X.w) X.A.in1.in1 (truthy (.ref a)) (fun b s' => ∃ H', Inv X pins σ H' s' ∧ Q (.bl b) H') X.xe s :=
    truthy_at (Q := fun b H' => Q (.bl b) H') hb hs hf Fg (hr.in1.in1.in1) I.env0.in1.in1.in1 hx I ha q
  unfold Builtin.«bool.__new__»
  have f1 := PySem.F.conv_sub_bool
  clear q
  obtain ⟨TP, hTP, tp⟩ : ∃ TP : Prop, (TP → wpAny (model X.prog X.w) X.A.in1.in1 (truthy (.ref a)) (fun b s' => ∃ H', Inv X pins σ H' s' ∧ Q (.bl b) H') X.xe s) ∧ TP := ⟨_, id, ht⟩
  clear ht
  generalize hTR : truthy = TR at hTP ⊢
  clear hTR
  obtain ⟨hp, gg, d, tk, os⟩ := s
  repeat (any_goals (first | assumption | (with_reducible refine wpAny_mono (hTP tp) ?_ ?_) | wp_step))
  · intro b s' h
    obtain ⟨H', I', q⟩ := h
    exact wpAny_pure ⟨rfl, .bl b, H', I', rfl, q⟩
  · intro e s' h
    exact h
/-- sets of texts, tracked -/
def SetT (P : Program) (w : World) (a : Addr) (ks : List Str) : HO := .ext fun h => SKs (strKind P w) h a ks
theorem setT_ok {P : Program} {w : World} {H : Hp} {h : Heap} {a : Addr} {ks : List Str} (R : SKs (strKind P w) h a ks) : ObjOk P w H h a (SetT P w a ks) :=
  ⟨R, let ⟨o, _, _, _, _, e, _⟩ := R; ⟨o, e⟩, fun _ _ r k => r.at k⟩
/-- set(xs), xs a list or a tuple of texts -/
def rSetS (K : PySem.W.Frag) (P : Program) (w : World) : List V → Hp → VK → Prop := fun vs H Q => ∃ (a : Addr) (xs : List Str), vs = [.ref a] ∧ (SqL K H a (xs.map V.str) ∨ SqT K H a (xs.map V.str)) ∧ xs.length ≤ 1000 ∧
  ∀ p, H p = none → Q (.ref p) (upd H p (SetT P w p (dd xs)))
theorem call_setS (hc : X.calm = true) : CallR X (.type "set") (rSetS X.K X.prog X.w) := by
  intro pins s σ H xs us Q I r h
  obtain ⟨a, xs, rfl, hs, hl, q⟩ := h
  obtain rfl := Vals.ref1 r
  have hb : xs.length + 1 < scanBound := Nat.lt_of_le_of_lt (Nat.succ_le_succ hl) (by decide)
  have fin : ∀ {T : String} {items : Array Value}, IsSq s.heap a items T → StrsAre items.toList xs → wpAny (model X.prog X.w) X.A (call (.type "set") [.ref a]) (EP X pins σ Q) X.xe s := fun h1 h2 => by
    refine call_set_sq xs (I.ok.hd hc) h1 h2 hb fun h' tk R k => ?_
    exact ⟨.ref _, _, I.laid (t' := tk) k (Nat.le_refl _) (setT_ok R), rfl, q _ (I.hok.fresh (Nat.le_refl _))⟩
  rcases hs with hs | hs
  · obtain ⟨its, rv, pl, hz⟩ := I.list hs
    exact fin (.inl ⟨rfl, pl.isList⟩) rv.strs
  · obtain ⟨its, rv, pl, hz⟩ := I.tuple hs
    exact fin (.inr ⟨rfl, pl⟩) rv.strs
/-- sorted(such a set) -/
def rSortedS' (P : Program) (w : World) : List V → Hp → VK → Prop := fun vs H Q => ∃ (a : Addr) (ks : List Str), vs = [.ref a] ∧ H a = some (SetT P w a ks) ∧ ks.length < 64 ∧
  ∀ (ys : List Str) (p : Addr), ys.Perm ks → sortedS ys = true → H p = none → Q (.ref p) (upd H p (.lst (ys.map V.str)))
theorem call_sortedS (hc : X.calm = true) : CallR X (.builtin "sorted") (rSortedS' X.prog X.w) := by
  intro pins s σ H xs us Q I r h
  obtain ⟨a, ks, rfl, ha, h64, q⟩ := h
  obtain rfl := Vals.ref1 r
  have R : SKs (strKind X.prog X.w) s.heap a ks := (I.hok a _ ha).1
  refine call_sorted_sks R (I.ok.hd hc) h64 fun s' p out c ys k g o hp hg hi h1 h2 => ?_
  have hlen : (ys.map V.str).length ≤ sizeLine := by rw [List.length_map, h1.length_eq, sizeLine_eq]; omega
  have hn : H p = none := I.hok.fresh hp
  have J : Inv X pins σ (upd H p (.lst (ys.map V.str))) { s with heap := s'.heap, gens := s'.gens, drawn := s'.drawn, toks := s'.toks } :=
    I.call (ch := []) (Un.laid k hp hn) (I.hok.laid k hp ⟨hlen, out.toList, c, vals_of_strs hi, hg⟩) (by rw [g]; exact I.bare) (fun _ z => nomatch z)
  have e : s' = { s with heap := s'.heap, gens := s'.gens, drawn := s'.drawn, toks := s'.toks } := by cases s'; cases s; cases o; rfl
  rw [e]
  exact ⟨.ref p, _, J, rfl, q ys p h1 h2 hn⟩
end
end Ax

/-! The head by facts: any list of Bool facts of the written part, any list of defs told by a path. -/
namespace Ax
open PySem PySem.Spec PyProof.Rows L2 He
abbrev Fr' := PySem.W.Frag
/-- a def of the text: the path to it, what it is -/
structure DfX where
  ad : Fr' → Addr
  name : Str
  qual : Str
  params : Arguments
  body : List Stmt
  scope : Scope
  dfl : List Dv := []
  kwd : List (Str × Dv) := []
def fnX (K : Fr') (a : Addr) : FnW := match K.lookup a with
  | some ⟨_, _, .func fd, _⟩ => some (fd.name, fd.qualname, fd.params, fd.body, fd.scope, fd.globals, fd.closure, fd.builtins)
  | _ => none
def DfX.val (d : DfX) : FnW := some (d.name, d.qual, d.params, .stmts d.body, d.scope, mainGlobals, [], builtinsNs)
def DfX.dvs (K : Fr') (d : DfX) : List V := d.dfl.map (Dv.v K)
def DfX.kws (K : Fr') (d : DfX) : List (Str × V) := d.kwd.map fun q => (q.1, q.2.v K)
def DfX.ok (K : Fr') (d : DfX) : Bool := PySem.W.keepIn K (.ref (d.ad K)) && match K.lookup (d.ad K) with
  | some ⟨_, _, .func fd, _⟩ => PySem.W.codeIn K fd.code d.qual && (dflB K fd.defaults (d.dvs K) && kwdB K fd.kwdefaults (d.kws K))
  | _ => false
theorem DfX.funD {K : Fr'} {d : DfX} (e : fnX K (d.ad K) = d.val) (c : d.ok K = true) : ∃ fd, FunD K d.name d.qual d.params d.body d.scope (d.dvs K) (d.kws K) (d.ad K) fd := by
  obtain ⟨kp, c2⟩ := ba c
  unfold fnX at e
  cases q : K.lookup (d.ad K) with
  | none => rw [q] at c2; cases c2
  | some o =>
    obtain ⟨oc, od, dt, osl⟩ := o
    rw [q] at c2 e
    cases dt with
    | func fd =>
      obtain ⟨n1, n2, n3, n4, n5, n6, n7, n8, n9, n10, n11, n12, n13, n14, n15⟩ := fd
      have e2 : (some (n1, n2, n3, n4, n5, n6, n7, n15) : FnW) = some (d.name, d.qual, d.params, .stmts d.body, d.scope, mainGlobals, [], builtinsNs) := e
      simp only [Option.some.injEq, Prod.mk.injEq] at e2
      obtain ⟨h1, h2, h3, h4, h5, h6, h7, h8⟩ := e2
      subst h1 h2 h3 h4 h5 h6 h7 h8
      obtain ⟨k1, k2⟩ := ba (show (PySem.W.codeIn K n13 d.qual && (dflB K n8 (d.dvs K) && kwdB K n9 (d.kws K))) = true from c2)
      obtain ⟨k3, k4⟩ := ba k2
      exact ⟨_, ⟨oc, od, n8, n9, n10, n11, n12, n13, n14, osl, rfl, q, k1, dflB_ok k3, kwdB_ok k4⟩, kp⟩
    | _ => cases c2
def obsX (fs : List (Fr' → Bool)) (fn : List DfX) (K : Fr') : AlD := ((fs.all fun f => f K) && fn.all fun d => d.ok K, fn.map fun d => fnX K (d.ad K))
def valX (fn : List DfX) : AlD := (true, fn.map DfX.val)
def SaysX (fs : List (Fr' → Bool)) (fn : List DfX) (K : Fr') : Prop := obsX fs fn K = valX fn
def obsXG (n : Nat) (fs : List (Fr' → Bool)) (fn : List DfX) (g : Addr → Option Obj) : AlD := obsX fs fn (frG g (cStatics :: asD g n))
def hookX (n : Nat) (fs : List (Fr' → Bool)) (fn : List DfX) : PySem.W.Hook where
  α := AlD
  obs := fun s => obsXG n fs fn s.heap.get?
  val := fun _ => valX fn
  says := fun _ h => ∃ K : Fr', K.In h ∧ SaysX fs fn K
  of := fun _ _ e => ⟨_, frG_in, e⟩
  keeps := fun _ _ _ ⟨K, hK, c⟩ k => ⟨K, PySem.W.Frag.In.keeps hK k, c⟩
theorem obsXG_eq {n : Nat} {fs : List (Fr' → Bool)} {fn : List DfX} {g : Addr → Option Obj} {s : Shared} (h : ∀ a, g a = s.heap.get? a) : obsXG n fs fn g = (hookX n fs fn).obs s := by
  have e : g = s.heap.get? := funext h
  rw [e] <;> rfl
section
variable {fs : List (Fr' → Bool)} {fn : List DfX} {K : Fr'}
theorem SaysX.fact (c : SaysX fs fn K) {f : Fr' → Bool} (i : Nat) (h : fs[i]? = some f) : f K = true := by
  have c1 := (ba (show ((fs.all fun f => f K) && fn.all fun d => d.ok K) = true from congrArg (fun z : AlD => z.1) c)).1
  exact List.all_eq_true.mp c1 f (List.mem_of_getElem? h)
theorem SaysX.def_ (c : SaysX fs fn K) {d : DfX} (i : Nat) (h : fn[i]? = some d) : ∃ fd, FunD K d.name d.qual d.params d.body d.scope (d.dvs K) (d.kws K) (d.ad K) fd := by
  have c2 := (ba (show ((fs.all fun f => f K) && fn.all fun d => d.ok K) = true from congrArg (fun z : AlD => z.1) c)).2
  have e : fn.map (fun d => fnX K (d.ad K)) = fn.map DfX.val := congrArg (fun z : AlD => z.2) c
  have e2 : (fn.map fun d => fnX K (d.ad K))[i]? = (fn.map DfX.val)[i]? := by rw [e]
  rw [List.getElem?_map, List.getElem?_map, h] at e2
  exact DfX.funD (Option.some.inj e2) (List.all_eq_true.mp c2 d (List.mem_of_getElem? h))
end
/-- the end of a law: the written part K is told by the hook, the bits of the script too -/
theorem walk_ofX {l : PySem.W.OpenLaw} {n k : Nat} {q : Program} {loose : List Str} {XP : (Str → Option Value) → Heap → Prop} {YP : World → Heap → Prop} {d : DefRec} {x : Str}
    (hn : l.most = some n) (hn2 : n ≤ sizeLine) (hdf : d.params.defaults = []) (hr : Room k callerA)
    (F : ∀ (w : World) (mg : Str → Option Value) (fa : Addr) (h : Heap), YP w h → h.Ns mainGlobals mg → mg d.name = some (.ref fa) →
      ∃ (K : PySem.W.Frag) (fd : FuncData) (sp : Sp), K.In h ∧ (∀ (s : Shared) (u : Value), BindsTo s fd ⟨[u], []⟩ [(x, u)]) ∧
        (∀ (H : Hp) (a : Addr) (ns : List Int), ns.length ≤ n → (∀ z ∈ ns, Builtin.Int.intBits z ≤ 1048576) → Only H → SqL K H a (ns.map V.int) → sp [.ref a] H (fun v _ => v = .bl true) fun _ _ _ => False) ∧
        ∀ base : Heap, K.In base → base.Ns mainGlobals mg → FnOk l.prog w K mg base (L2.CX l.prog w) k fa fd [x] sp) :
    PySem.W.WalkO q loose XP YP l.row.toRowW d [] (fun f vs => PySem.call f vs) := by
  refine Att.attach_callB hn hdf fun w s₀ s₁ mg mb fa o pm cd doc a vs ns G Y ho hd hcd hmg hobj hints hlen hbits hg => ?_
  obtain ⟨K, fd, sp, KX, hb, hsp, hF⟩ := F w mg fa _ Y G.T.g hmg
  refine law_call KX G.T.g G.T.b G.T.builtins G.T.nolimit hg hobj hints (Nat.le_trans hlen hn2) hr hF hb (fun H hO hS => hsp H a ns hlen hbits hO hS) fun H e s' z => ?_
  obtain ⟨_, _, _, _, _, _, _, _, _, _, _, _, z⟩ := z
  exact z
/-- the function object of d stands at f; no defaults -/
def FunX (K : Fr') (d : DfX) (f : Addr) : Prop := ∃ fd, FunD K d.name d.qual d.params d.body d.scope [] [] f fd
theorem FunX.kp {K : Fr'} {d : DfX} {f : Addr} (F : FunX K d f) : PySem.W.keepIn K (.ref f) = true := let ⟨_, F⟩ := F; F.kp
/-- a def's promise by positional values; no defaults -/
theorem fnR_of {P : Program} {w : World} {K : PySem.W.Frag} {mg : Str → Option Value} {base : Heap} {d : DfX} {f : Addr} {N ps : List Str} {k : Nat} {sp : Sp} (F : FunX K d f) (S : FnScope N ps d.scope)
    (hb : ∀ (kV doc pm : Value) (an : Option Addr) (cdv ct : Value) (us : List Value), us.length = ps.length → bindArgs (PySem.W.fnOf d.name d.qual d.params d.body d.scope .none kV doc pm an cdv ct) ⟨us, []⟩ = pure (ps.zip us))
    (len : ∀ vs H Q E, sp vs H Q E → vs.length = ps.length)
    (hbody : ∀ (cdv : Value) (A : Around) (outer : List Env) (s : Shared) (H : Hp) (vs : List V) (Q : VK) (E : XK), Room k (A.deeper (envOfC d.qual d.scope s.heap.objs.size f cdv)) → sp vs H Q E →
      ∃ t, PSs (cxOf (L2.CX P w) P w K mg base N d.qual d.scope f cdv A outer s H E) d.body t ∧ t { nx := fun _ H' => Q .non H', rt := Q } (start N vs) H) : FnR P w K mg base (L2.CX P w) (k + 1) f sp := by
  obtain ⟨fd, F⟩ := F
  exact ((F.ok S len hbody).raw (F.bindsN hb) .nil).imp fun vs H Q E h => by rw [List.append_nil]; exact h
/-- .. with *pv behind the parameters -/
theorem fnS_of {P : Program} {w : World} {K : PySem.W.Frag} {mg : Str → Option Value} {base : Heap} {d : DfX} {f : Addr} {N ps : List Str} {pv : Str} {k : Nat} {sp : Sp} (F : FunX K d f) (S : FnScope N (ps ++ [pv]) d.scope)
    (hb : ∀ (kV doc pm : Value) (an : Option Addr) (cdv ct : Value) (us rest : List Value), us.length = ps.length →
      bindArgs (PySem.W.fnOf d.name d.qual d.params d.body d.scope .none kV doc pm an cdv ct) ⟨us ++ rest, []⟩ = (newTuple rest >>= fun t => pure (ps.zip us ++ [(pv, t)])))
    (hbody : ∀ (cdv : Value) (A : Around) (outer : List Env) (s : Shared) (H : Hp) (vs : List V) (Q : VK) (E : XK), Room k (A.deeper (envOfC d.qual d.scope s.heap.objs.size f cdv)) → sp vs H Q E →
      ∃ t, PSs (cxOf (L2.CX P w) P w K mg base N d.qual d.scope f cdv A outer s H E) d.body t ∧ t { nx := fun _ H' => Q .non H', rt := Q } (start N vs) H) :
    FnR P w K mg base (L2.CX P w) (k + 1) f (fun vs H Q E => ∃ ws rest, vs = ws ++ rest ∧ ws.length = ps.length ∧ rest.length ≤ sizeLine ∧ ∀ p, H p = Option.none → sp (ws ++ [V.ref p]) (upd H p (.tup rest)) Q E) := by
  obtain ⟨fd, oc, od, dV, kV, doc, pm, an, cdv, ct, osl, rfl, lk, hcd, hD, hK⟩ := (show ∃ fd, _ from let ⟨fd, F⟩ := F; ⟨fd, F.ex⟩)
  obtain rfl : dV = .none := by
    rcases hD with ⟨_, e⟩ | ⟨e, _⟩
    · exact e
    · exact absurd rfl e
  exact StX.fn_star lk hcd S StX.cxUp (hb _ _ _ _ _ _) fun A outer s H vs Q E hr hsp => hbody _ A outer s H vs Q E hr hsp
theorem spX_len {α : Type} {A : α → List V → Hp → Prop} {R : α → V → Hp → Prop} {X : α → Value → Option Addr → Hp → Prop} {n : Nat} (h : ∀ a vs G, A a vs G → vs.length = n) : ∀ vs H Q E, spX A R X vs H Q E → vs.length = n :=
  fun vs H Q E ⟨a, G, _, ha, _⟩ => h a vs G ha
/-! facts of one's own -/
def cmX (K : Fr') (x m : Str) : Option (Addr × Addr) := match PySem.W.findCls K (.ref (ga K x)) (.type "type") m with
  | some (.get _ (.ref p) _ _) => (match PySem.W.recIn K p "classmethod" with
    | some (.ref g :: _) => some (p, g)
    | _ => none)
  | _ => none
def cmP (K : Fr') (x m : Str) : Addr := ((cmX K x m).getD (0, 0)).1
def cmG (K : Fr') (x m : Str) : Addr := ((cmX K x m).getD (0, 0)).2
def cmB (x m : Str) (K : Fr') : Bool := (match PySem.W.findCls K (.ref (ga K x)) (.type "type") m with
    | some (.get (.builtin s) (.ref p) .none (.ref C)) => decide (s = "classmethod.__get__") && (decide (p = cmP K x m) && decide (C = ga K x))
    | _ => false) &&
  ((match PySem.W.recIn K (cmP K x m) "classmethod" with
    | some (.ref g :: _) => decide (g = cmG K x m)
    | _ => false) && PySem.W.fnIn K (cmG K x m))
theorem cmB_ok {K : Fr'} {x m : Str} (h : cmB x m K = true) : ClX.CMet K (ga K x) (.type "type") m (cmP K x m) (cmG K x m) := by
  obtain ⟨h1, h2⟩ := ba h
  obtain ⟨h2, h3⟩ := ba h2
  refine ⟨?_, ?_, h3⟩
  · split at h1
    · rename_i e
      obtain ⟨q1, q2⟩ := ba h1
      obtain ⟨q2, q3⟩ := ba q2
      rw [e, of_decide_eq_true q1, of_decide_eq_true q2, of_decide_eq_true q3]
    · cases h1
  cases e : PySem.W.recIn K (cmP K x m) "classmethod" with
  | none => rw [e] at h2; cases h2
  | some l =>
    rw [e] at h2
    cases l with
    | nil => cases h2
    | cons v r => cases v with
      | ref g => exact ⟨r, by rw [show g = cmG K x m from of_decide_eq_true h2]⟩
      | _ => cases h2
def crB (x : Str) (K : Fr') : Bool := PySem.W.readsIn K (ga K x) (.type "type") && eqO (PySem.W.specialIn K (.ref (ga K x)) "__getattribute__") (some (some (.builtin "type.__getattribute__")))
theorem crB_ok {K : Fr'} {x : Str} (h : crB x K = true) : ClX.CRead K (ga K x) (.type "type") := let ⟨h1, h2⟩ := ba h; ⟨h1, eqO_ok h2⟩
def sfB (x : Str) (K : Fr') : Bool := PySem.W.selfFirst K (ga K x)
def nfB (x y : Str) (K : Fr') : Bool := PySem.W.notFirst K (ga K x) (.ref (ga K y))
def isB (x y : Str) (b : Bool) (K : Fr') : Bool := decide (PySem.W.kitOne K (.ref (ga K x)) (.ref (ga K y)) = some b)
def isT (x : Str) (y : String) (b : Bool) (K : Fr') : Bool := decide (PySem.W.kitOne K (.ref (ga K x)) (.type y) = some b)
def itB (x : String) (y : Str) (b : Bool) (K : Fr') : Bool := decide (PySem.W.kitOne K (.type x) (.ref (ga K y)) = some b)
def tyB (x : Str) (K : Fr') : Bool := eqO (PySem.W.findIn K (.ref (ga K x)) "__class__") (some (some (.builtin "object.__class__"))) && (eqO (PySem.W.specialIn K (.builtin "object.__class__") "__get__") (some (some (.builtin "getset_descriptor.__get__"))) &&
  (decide (PySem.W.takesIn K (.builtin "object.__class__") = some true) && decide (PySem.W.mroIn K (ga K x) (.type "object") = some true)))
/-- an instance of C is told by its type -/
def TyI (K : Fr') (C : Addr) : Prop := ∀ {H : Hp} {a dx : Addr} {fs : List (Str × V)}, H a = some (.ins C dx fs) → TyX K H (.ref a) (.ref C)
theorem tyB_ok {K : Fr'} {x : Str} (c : Cls K (ga K x)) (h : tyB x K = true) : TyI K (ga K x) := fun e => by
  obtain ⟨h1, h2⟩ := ba h
  obtain ⟨h2, h3⟩ := ba h2
  obtain ⟨h3, h4⟩ := ba h3
  exact .base (.ins e c (eqO_ok h1) (eqO_ok h2) (of_decide_eq_true h3) (of_decide_eq_true h4))
end Ax

/-! One rule for each operator, whatever the kinds of its sides; the steps at the leaves. -/
namespace Ax
open PySem PySem.Spec PyProof.Rows L2 SlX StX
section
variable {X : Cx}
/-! ### the operators -/
def AddR (K : PySem.W.Frag) : R2 := fun x y H Q => rI0 (fun i j => .int (i + j)) x y H Q ∨ (∃ i j, x = .str i ∧ y = .str j ∧ i.length + j.length ≤ sizeLine ∧ Q (.str (i ++ j)) H) ∨ rCat x y H Q ∨ rCatA K x y H Q
theorem op_addU : OpR X (binaryOp .Add) (AddR X.K) := op_add.or (op_add_str.or (op_cat.or op_catA))
def MulR : R2 := fun x y H Q => rI CMul (fun i j => .int (i * j)) x y H Q ∨ rRep x y H Q
theorem op_mulU : OpR X (binaryOp .Mult) MulR := op_mul.or op_rep
/-- v holds x -/
abbrev Da (K : PySem.W.Frag) (G : Hp) {α : Type} [DecidableEq α] [PySem.W.Datum α] (v : V) (x : α) : Prop := Dp K G v (PySem.W.Datum.toD x)
def rEqT (K : PySem.W.Frag) : R2 := fun x y H Q => ∃ (α : Type) (_ : DecidableEq α) (_ : PySem.W.Datum α) (a b : α), Da K H x a ∧ Da K H y b ∧ PySem.W.Datum.depth α ≤ 60 ∧ Q (.bl (decide (a = b))) H
def rNeT (K : PySem.W.Frag) : R2 := fun x y H Q => ∃ (α : Type) (_ : DecidableEq α) (_ : PySem.W.Datum α) (a b : α), Da K H x a ∧ Da K H y b ∧ PySem.W.Datum.depth α ≤ 60 ∧ Q (.bl (decide (a ≠ b))) H
theorem op_eqT (hu : X.A.units + 64 < cLine) : OpR X (compareOp .Eq) (rEqT X.K) := by
  intro pins s σ H x y v u Q I rx ry h
  obtain ⟨α, _, _, a, b, ha, hb, hd, q⟩ := h
  obtain ⟨as, r1⟩ := Dp.reads I _ x v ha rx
  obtain ⟨bs, r2⟩ := Dp.reads I _ y u hb ry
  exact PySem.W.eq_datum ⟨as, r1⟩ ⟨bs, r2⟩ (by omega) ⟨.bl _, H, I, rfl, q⟩
theorem op_neT (hu : X.A.units + 64 < cLine) : OpR X (compareOp .NotEq) (rNeT X.K) := by
  intro pins s σ H x y v u Q I rx ry h
  obtain ⟨α, _, _, a, b, ha, hb, hd, q⟩ := h
  obtain ⟨as, r1⟩ := Dp.reads I _ x v ha rx
  obtain ⟨bs, r2⟩ := Dp.reads I _ y u hb ry
  exact PySem.W.ne_datum ⟨as, r1⟩ ⟨bs, r2⟩ (by omega) ⟨.bl _, H, I, rfl, q⟩
def EqR (K : PySem.W.Frag) : R2 := fun x y H Q => rEq x y H Q ∨ rEqT K x y H Q
theorem op_eqU (hu : X.A.units + 64 < cLine) : OpR X (compareOp .Eq) (EqR X.K) := op_eq.or (op_eqT hu)
def NeR (K : PySem.W.Frag) : R2 := fun x y H Q => rNe x y H Q ∨ rNeT K x y H Q
theorem op_neU (hu : X.A.units + 64 < cLine) : OpR X (compareOp .NotEq) (NeR X.K) := op_ne.or (op_neT hu)
/-- y is a list or a tuple of items of one type -/
def DaSeq (K : PySem.W.Frag) (G : Hp) {α : Type} [DecidableEq α] [PySem.W.Datum α] (v : V) (xs : List α) : Prop := ∃ p vs, v = .ref p ∧ (SqL K G p vs ∨ SqT K G p vs) ∧ DpAll K G vs (xs.map PySem.W.Datum.toD)
def rInT (K : PySem.W.Frag) (neg : Bool) : R2 := fun x y H Q => ∃ (α : Type) (_ : DecidableEq α) (_ : PySem.W.Datum α) (a : α) (xs : List α), Da K H x a ∧ DaSeq K H y xs ∧ PySem.W.Datum.depth α ≤ 60 ∧ Q (.bl (if neg then decide (a ∉ xs) else decide (a ∈ xs))) H
theorem op_inT (hu : X.A.units + 64 < cLine) : OpR X (compareOp .In) (rInT X.K false) := by
  intro pins s σ H x y v u Q I rx ry h
  obtain ⟨α, _, _, a, xs, ha, ⟨p, vs, rfl, hq, hv⟩, hd, q⟩ := h
  obtain ⟨as, r1⟩ := Dp.reads I _ x v ha rx
  cases (show u = Value.ref p from ry)
  rcases hq with hq | hq
  · obtain ⟨its, r, pl, hz⟩ := I.list hq
    obtain ⟨bs, r2⟩ := Dp.readsAll I _ vs its hv r
    exact PySem.W.in_list_datum pl.isList ⟨bs, r2⟩ ⟨as, r1⟩ (by omega) ⟨.bl _, H, I, rfl, q⟩
  · obtain ⟨its, r, pl, hz⟩ := I.tuple hq
    obtain ⟨bs, r2⟩ := Dp.readsAll I _ vs its hv r
    exact PySem.W.in_tuple_datum pl ⟨bs, r2⟩ ⟨as, r1⟩ (by omega) ⟨.bl _, H, I, rfl, q⟩
theorem op_niT (hu : X.A.units + 64 < cLine) : OpR X (compareOp .NotIn) (rInT X.K true) := by
  intro pins s σ H x y v u Q I rx ry h
  obtain ⟨α, _, _, a, xs, ha, ⟨p, vs, rfl, hq, hv⟩, hd, q⟩ := h
  obtain ⟨as, r1⟩ := Dp.reads I _ x v ha rx
  cases (show u = Value.ref p from ry)
  rcases hq with hq | hq
  · obtain ⟨its, r, pl, hz⟩ := I.list hq
    obtain ⟨bs, r2⟩ := Dp.readsAll I _ vs its hv r
    exact PySem.W.notIn_list_datum pl.isList ⟨bs, r2⟩ ⟨as, r1⟩ (by omega) ⟨.bl _, H, I, rfl, q⟩
  · obtain ⟨its, r, pl, hz⟩ := I.tuple hq
    obtain ⟨bs, r2⟩ := Dp.readsAll I _ vs its hv r
    exact PySem.W.notIn_tuple_datum pl ⟨bs, r2⟩ ⟨as, r1⟩ (by omega) ⟨.bl _, H, I, rfl, q⟩
def InR (K : PySem.W.Frag) : R2 := fun x y H Q => rInT K false x y H Q ∨ ∃ (c : Nat) (z : Str), x = .str ⟨#[c]⟩ ∧ y = .str z ∧ Q (.bl (decide (c ∈ z.cps.toList))) H
theorem op_inU (hu : X.A.units + 64 < cLine) : OpR X (compareOp .In) (InR X.K) := (op_inT hu).or op_in_sign
def NiR (K : PySem.W.Frag) : R2 := fun x y H Q => rInT K true x y H Q ∨ ∃ (c : Nat) (z : Str), x = .str ⟨#[c]⟩ ∧ y = .str z ∧ Q (.bl (!decide (c ∈ z.cps.toList))) H
theorem op_niU (hu : X.A.units + 64 < cLine) : OpR X (compareOp .NotIn) (NiR X.K) := (op_niT hu).or op_notIn_sign
def LenU (K : PySem.W.Frag) : List V → Hp → VK → Prop := fun xs H Q => ∃ x n, xs = [x] ∧ LenV K x H n ∧ Q (.int n) H
theorem call_lenU : CallR X (.builtin "len") (LenU X.K) := call_len
theorem pe_gc {x : Str} {z : Str} {pos : Pos} (hg : Gl X x) (hm : ∃ t, X.mg x = some (.str z t)) (hd : (x == ("__debug__" : Str)) = false := by decide) : PE X (.Name x pos) (tC (.str z)) := by
  obtain ⟨t, h⟩ := hm
  exact pe_glob hg h ⟨t, rfl⟩ hd
theorem pe_gi {x : Str} {z : Int} {pos : Pos} (hg : Gl X x) (hm : ∃ t, X.mg x = some (.int z t)) (hd : (x == ("__debug__" : Str)) = false := by decide) : PE X (.Name x pos) (tC (.int z)) := by
  obtain ⟨t, h⟩ := hm
  exact pe_glob hg h ⟨t, rfl⟩ hd
end
section
variable {X : Cx} {CX : CXT} {k : Nat} {f : Addr} {sp : Sp} {E : XK} {x : Str} {e : Expr} {es : List Expr} {t : TA} {p pos : Pos}
/-- f(e, ..), plain, by a positional promise -/
theorem pe_callR (F : FnR X.prog X.w X.K X.mg X.base CX k f sp) (hr : Room k X.A) (hk : PySem.W.keepIn X.K (.ref f) = true) (hg : Gl X x) (hm : X.mg x = some (.ref f)) (hx : Passes CX X E) (ha : PA X (e :: es) t) (hd : (x == ("__debug__" : Str)) = false := by decide)
    (he : starEach (e :: es) X.env = (false, eval e X.env) :: starEach es X.env := by rfl) (hpl : (backTo pos (starEach es X.env)).any (·.1) = false := by rfl) : PE X (.Call (.Name x p) (e :: es) [] pos) (tCB (fun vs H Q => sp vs H Q E) t) := by
  refine ⟨fun pins s σ H Q I h => wpAny_Call_Name_kw (ld_glob I hg hm ?_ hd)⟩
  exact PySem.W.callWith_K (h₀ := X.base) I.ok.mod.kin hk (thn (ha.run pos pins s σ H _ I h) fun us s1 ⟨vs, H1, I1, r, q⟩ => ⟨I1.kIn, wpAny_call (run_fnR F hr hx I1 r q)⟩) he hpl
theorem pe_callR0 (F : FnR X.prog X.w X.K X.mg X.base CX k f sp) (hr : Room k X.A) (hk : PySem.W.keepIn X.K (.ref f) = true) (hg : Gl X x) (hm : X.mg x = some (.ref f)) (hx : Passes CX X E) (hd : (x == ("__debug__" : Str)) = false := by decide) :
    PE X (.Call (.Name x p) [] [] pos) (tCB (fun vs H Q => sp vs H Q E) tNil) := by
  refine ⟨fun pins s σ H Q I h => wpAny_Call_Name_kw (ld_glob I hg hm ?_ hd)⟩
  exact PySem.W.callWith_K0 I.kIn hk (wpAny_call (run_fnR (us := []) F hr hx I .nil h))
end

/-! ### the leaves -/
section
variable {K : PySem.W.Frag} {G0 H0 G H : Hp} {Q : VK} {σ : L2.St}
theorem add_i {i j : Int} (q : Q (.int (i + j)) H) : AddR K (.int i) (.int j) H Q := .inl ⟨_, _, rfl, rfl, q⟩
theorem add_s {i j : Str} (h : i.length + j.length ≤ 100000) (q : Q (.str (i ++ j)) H) : AddR K (.str i) (.str j) H Q := .inr (.inl ⟨_, _, rfl, rfl, sz h, q⟩)
theorem add_l {a b : Addr} {xs ys : List V} (N : Nx G0 H0 G H) (ha : G a = some (.lst xs)) (hb : G b = some (.lst ys)) (h : xs.length + ys.length ≤ 100000)
    (k : ∀ p G' H', Nx G0 H0 G' H' → Nx G H G' H' → G' p = some (.lst (xs ++ ys)) → Q (.ref p) H') : AddR K (.ref a) (.ref b) H Q :=
  .inr (.inr (.inl ⟨a, b, xs, ys, rfl, rfl, N.h _ _ ha, N.h _ _ hb, sz h, nw N k⟩))
theorem add_t {a b : Addr} {xs ys : List V} (N : Nx G0 H0 G H) (ha : G a = some (.tup xs)) (hb : G b = some (.tup ys)) (h : xs.length + ys.length ≤ 100000)
    (k : ∀ p G' H', Nx G0 H0 G' H' → Nx G H G' H' → G' p = some (.tup (xs ++ ys)) → Q (.ref p) H') : AddR K (.ref a) (.ref b) H Q :=
  .inr (.inr (.inr ⟨a, b, xs, ys, rfl, rfl, sqT (N.h _ _ ha), sqT (N.h _ _ hb), sz h,
    fun e => by subst e; exact k b G H N (Nx.refl N.h) hb, fun _ e => by subst e; exact k a G H N (Nx.refl N.h) (by rw [List.append_nil]; exact ha), fun _ _ => nw N k⟩))
theorem mul_i {i j : Int} (h : CMul i j) (q : Q (.int (i * j)) H) : MulR (.int i) (.int j) H Q := .inl ⟨_, _, rfl, rfl, h, q⟩
theorem eq_v {x y : V} (h : scal x y = true) (q : Q (.bl (decide (x = y))) H) : EqR K x y H Q := .inl ⟨h, q⟩
theorem ne_v {x y : V} (h : scal x y = true) (q : Q (.bl (!decide (x = y))) H) : NeR K x y H Q := .inl ⟨h, q⟩
theorem eq_s {x y : Str} (q : Q (.bl (decide (x = y))) H) : EqR K (.str x) (.str y) H Q := eq_v rfl (by
  have e : decide (V.str x = V.str y) = decide (x = y) := by rw [Bool.eq_iff_iff]; simp
  rw [e]; exact q)
theorem eq_i {x y : Int} (q : Q (.bl (decide (x = y))) H) : EqR K (.int x) (.int y) H Q := eq_v rfl (by
  have e : decide (V.int x = V.int y) = decide (x = y) := by rw [Bool.eq_iff_iff]; simp
  rw [e]; exact q)
theorem eq_b {x y : Bool} (q : Q (.bl (decide (x = y))) H) : EqR K (.bl x) (.bl y) H Q := eq_v rfl (by
  have e : decide (V.bl x = V.bl y) = decide (x = y) := by rw [Bool.eq_iff_iff]; simp
  rw [e]; exact q)
theorem ne_s {x y : Str} (q : Q (.bl (!decide (x = y))) H) : NeR K (.str x) (.str y) H Q := ne_v rfl (by
  have e : decide (V.str x = V.str y) = decide (x = y) := by rw [Bool.eq_iff_iff]; simp
  rw [e]; exact q)
theorem ne_i {x y : Int} (q : Q (.bl (!decide (x = y))) H) : NeR K (.int x) (.int y) H Q := ne_v rfl (by
  have e : decide (V.int x = V.int y) = decide (x = y) := by rw [Bool.eq_iff_iff]; simp
  rw [e]; exact q)
theorem ne_b {x y : Bool} (q : Q (.bl (!decide (x = y))) H) : NeR K (.bl x) (.bl y) H Q := ne_v rfl (by
  have e : decide (V.bl x = V.bl y) = decide (x = y) := by rw [Bool.eq_iff_iff]; simp
  rw [e]; exact q)
/-! data -/
section
variable {α : Type} [DecidableEq α] [PySem.W.Datum α] {v : V} {x y : α}
theorem eq_d {u : V} (ha : Da K H v x) (hb : Da K H u y) (q : Q (.bl (decide (x = y))) H) (hd : PySem.W.Datum.depth α ≤ 60 := by decide) : EqR K v u H Q := .inr ⟨α, _, _, x, y, ha, hb, hd, q⟩
theorem ne_d {u : V} (ha : Da K H v x) (hb : Da K H u y) (q : Q (.bl (decide (x ≠ y))) H) (hd : PySem.W.Datum.depth α ≤ 60 := by decide) : NeR K v u H Q := .inr ⟨α, _, _, x, y, ha, hb, hd, q⟩
theorem in_d {u : V} {xs : List α} (ha : Da K H v x) (hb : DaSeq K H u xs) (q : Q (.bl (decide (x ∈ xs))) H) (hd : PySem.W.Datum.depth α ≤ 60 := by decide) : InR K v u H Q := .inl ⟨α, _, _, x, xs, ha, hb, hd, q⟩
theorem ni_d {u : V} {xs : List α} (ha : Da K H v x) (hb : DaSeq K H u xs) (q : Q (.bl (decide (x ∉ xs))) H) (hd : PySem.W.Datum.depth α ≤ 60 := by decide) : NiR K v u H Q := .inl ⟨α, _, _, x, xs, ha, hb, hd, q⟩
end
mutual
theorem dp_up {G G' : Hp} (s : Same G G') : ∀ (v : V) (d : PyData), Dp K G v d → Dp K G' v d
  | _, _, .non => .non
  | _, _, .bl b => .bl b
  | _, _, .int i => .int i
  | _, _, .str x => .str x
  | _, _, .lst h t => .lst (Same.seqL s h) (dpAll_up s _ _ t)
  | _, _, .tup h t => .tup (Same.seqT s h) (dpAll_up s _ _ t)
theorem dpAll_up {G G' : Hp} (s : Same G G') : ∀ (v : List V) (d : List PyData), DpAll K G v d → DpAll K G' v d
  | _, _, .nil => .nil
  | _, _, .cons h t => .cons (dp_up s _ _ h) (dpAll_up s _ _ t)
end
theorem dpAll_map {α : Type} {f : α → V} {g : α → PyData} (h : ∀ x, Dp K H (f x) (g x)) : ∀ xs : List α, DpAll K H (xs.map f) (xs.map g)
  | [] => .nil
  | x :: xs => .cons (h x) (dpAll_map h xs)
theorem da_s {x : Str} : Da K H (.str x) x := .str x
theorem da_i {x : Int} : Da K H (.int x) x := .int x
theorem da_b {x : Bool} : Da K H (.bl x) x := .bl x
theorem da_ls {a : Addr} {xs : List Str} (h : SqL K H a (xs.map V.str)) : Da K H (.ref a) xs := .lst h (dpAll_map (fun x => Dp.str x) xs)
theorem da_li {a : Addr} {xs : List Int} (h : SqL K H a (xs.map V.int)) : Da K H (.ref a) xs := .lst h (dpAll_map (fun x => Dp.int x) xs)
theorem da_lb {a : Addr} {xs : List Bool} (h : SqL K H a (xs.map V.bl)) : Da K H (.ref a) xs := .lst h (dpAll_map (fun x => Dp.bl x) xs)
theorem da_ts {a : Addr} {xs : List Str} (h : SqT K H a (xs.map V.str)) : Da K H (.ref a) (PySem.W.Tup.mk xs) := .tup h (dpAll_map (fun x => Dp.str x) xs)
theorem ds_ls {a : Addr} {xs : List Str} (h : SqL K H a (xs.map V.str)) : DaSeq K H (.ref a) xs := ⟨a, _, rfl, .inl h, dpAll_map (fun x => Dp.str x) xs⟩
theorem ds_ts {a : Addr} {xs : List Str} (h : SqT K H a (xs.map V.str)) : DaSeq K H (.ref a) xs := ⟨a, _, rfl, .inr h, dpAll_map (fun x => Dp.str x) xs⟩
/-! signs in a text, lengths, items, slices -/
theorem in_c {c : Nat} {z : Str} (q : Q (.bl (decide (c ∈ z.cps.toList))) H) : InR K (.str ⟨#[c]⟩) (.str z) H Q := .inr ⟨c, z, rfl, rfl, q⟩
theorem ni_c {c : Nat} {z : Str} (q : Q (.bl (!decide (c ∈ z.cps.toList))) H) : NiR K (.str ⟨#[c]⟩) (.str z) H Q := .inr ⟨c, z, rfl, rfl, q⟩
theorem len_s {z : Str} (h : z.length ≤ 100000) (q : Q (.int z.length) H) : LenU K [.str z] H Q := ⟨.str z, z.length, rfl, ⟨sz h, rfl⟩, q⟩
theorem len_l {a : Addr} {xs : List V} (h : SqL K H a xs) (q : Q (.int xs.length) H) : LenU K [.ref a] H Q := ⟨.ref a, _, rfl, .inl ⟨xs, h, rfl⟩, q⟩
theorem len_t {a : Addr} {xs : List V} (h : SqT K H a xs) (q : Q (.int xs.length) H) : LenU K [.ref a] H Q := ⟨.ref a, _, rfl, .inr ⟨xs, h, rfl⟩, q⟩
theorem atI_nat {α : Type} {xs : List α} {i : Nat} {x : α} (h : xs[i]? = some x) : atI xs (i : Int) = some x := by
  have hl : i < xs.length := (List.getElem?_eq_some_iff.mp h).1
  unfold atI ixN
  rw [if_pos (by omega), if_pos (by omega)]
  simpa using h
theorem ix_l {a : Addr} {xs : List V} {i : Int} {v : V} (h : SqL K H a xs) (e : atI xs i = some v) (q : Q v H) : rIx K (.ref a) (.int i) H Q := .inl ⟨a, xs, i, v, rfl, rfl, h, e, q⟩
theorem ix_t {a : Addr} {xs : List V} {i : Int} {v : V} (h : SqT K H a xs) (e : atI xs i = some v) (q : Q v H) : rIx K (.ref a) (.int i) H Q := .inr (.inl ⟨a, xs, i, v, rfl, rfl, h, e, q⟩)
theorem ix_s {z : Str} {i : Int} {c : Nat} (h : z.length ≤ 100000) (e : atI z.cps.toList i = some c) (q : Q (.str ⟨#[c]⟩) H) : rIx K (.str z) (.int i) H Q := .inr (.inr ⟨z, i, c, rfl, rfl, sz h, e, q⟩)
end
end Ax

/-! The law's pool of numbers: one list of ints, whatever stands in it. -/
namespace Ax
open PySem PySem.Spec PyProof.Rows L2 SlX StX
def poolAt (p : Addr) (h : Heap) : Prop := ∃ (ns : List Int) (its : List Value) (n : Nat), ns.length ≤ sizeLine ∧ Vals (ns.map V.int) its ∧ h.get? p = some { cls := .type "list", data := .seq its.toArray n }
def Pool (p : Addr) : HO := .ext (poolAt p)
section
variable {P : Program} {w : World} {K : PySem.W.Frag} {mg : Str → Option Value} {base : Heap} {k : Nat} {f : Addr}
theorem pool_ok {H : Hp} {h : Heap} {p : Addr} (x : poolAt p h) : ObjOk P w H h p (Pool p) :=
  ⟨x, let ⟨_, _, _, _, _, e⟩ := x; ⟨_, e⟩, fun h1 h2 ⟨ns, its, n, a, b, e⟩ k => ⟨ns, its, n, a, b, k _ e⟩⟩
theorem upd_self {H : Hp} {p : Addr} {o : HO} (h : H p = some o) : upd H p o = H := by
  funext b
  unfold upd
  split
  · rename_i e; rw [e, h]
  · rfl
/-- what a draw does, with the list told -/
def spDrawL : Sp := fun vs H Q E => ∃ (p : Addr) (ns : List Int) (m : Int) (G Hm : Hp), vs = [.ref p, .int m] ∧ H p = some (.lst (ns.map V.int)) ∧ Hm p = none ∧ G p = none ∧ Nx G Hm G H ∧ 0 < m ∧
  ∀ (r : Int) (ns' : List Int) (G' H' : Hp), Nx G Hm G' H' → H' p = some (.lst (ns'.map V.int)) → G' p = none → 0 ≤ r → r < m → Q (.int r) H'
/-- .. and not told -/
abbrev spDraw : Sp := spX (fun (a : Addr × Int) vs G => vs = [.ref a.1, .int a.2] ∧ G a.1 = some (Pool a.1) ∧ 0 < a.2) (fun a v _ => ∃ r : Int, v = .int r ∧ 0 ≤ r ∧ r < a.2) NoX
theorem pool_draw (F : FnR P w K mg base (L2.CX P w) k f spDrawL) : FnR P w K mg base (L2.CX P w) k f spDraw := by
  rintro A outer s H us vs Q E hr e0 r ⟨⟨p, m⟩, G, hG, ⟨rfl, gp, hm⟩, hQ, _⟩
  have hp : H p = some (Pool p) := hG _ _ gp
  obtain ⟨ns, its, n, hl, rv, ho⟩ := (show ObjOk P w H s.heap p (Pool p) from e0.hok p _ hp).1
  have mu : Mut (H p) := by rw [hp]; exact True.intro
  have hok1 : HOk P w (upd H p (.lst (ns.map V.int))) s.heap := e0.hok.write mu (.inl rfl) (fun _ _ _ e => e) ⟨_, ho⟩ ⟨by rw [List.length_map]; exact hl, its, n, rv, ho⟩
  have e1 : Env0 P w K mg base A outer s (upd H p (.lst (ns.map V.int))) :=
    ⟨e0.frames, e0.mod, fun b o e => ⟨(e0.bs b o e).1, by rw [upd_ne (ne_nn' (e0.bs b o e).2 hp)]; exact (e0.bs b o e).2⟩, e0.bsz, e0.funs, fun b hb => by rw [upd_ne (ne_nn' (e0.frf b hb) hp)]; exact e0.frf b hb, hok1, e0.bare⟩
  let Gm : Hp := fun b => if b = p then none else G b
  let Hm : Hp := fun b => if b = p then none else H b
  have gm : ∀ b, b ≠ p → Gm b = G b := fun b hb => if_neg hb
  have hmm : ∀ b, b ≠ p → Hm b = H b := fun b hb => if_neg hb
  have gp0 : Gm p = none := if_pos rfl
  have hp0 : Hm p = none := if_pos rfl
  have N0 : Nx Gm Hm Gm (upd H p (.lst (ns.map V.int))) := ⟨Same.refl _, fun b o e => by
      by_cases hb : b = p
      · subst hb; rw [gp0] at e; cases e
      · rw [gm b hb] at e; rw [upd_ne hb]; exact hG _ _ e, fun b o e => by
      by_cases hb : b = p
      · subst hb; rw [hp0] at e; cases e
      · rw [hmm b hb] at e; rw [upd_ne hb]; exact e, fun _ x => .inl x⟩
  refine codeAny_mono (F A outer s (upd H p (.lst (ns.map V.int))) us _ (fun v H' => ∃ (r : Int) (ns' : List Int) (G' : Hp), Nx Gm Hm G' H' ∧ H' p = some (.lst (ns'.map V.int)) ∧ G' p = none ∧ 0 ≤ r ∧ r < m ∧ v = .int r) E0 hr e1 r
    ⟨p, ns, m, Gm, Hm, rfl, upd_same, hp0, gp0, N0, hm, fun r ns' G' H' n h1 h2 h3 h4 => ⟨r, ns', G', n, h1, h2, h3, h4, rfl⟩⟩) fun r s' z => ?_
  cases r with
  | error e =>
    obtain ⟨_, _, _, _, _, _, _, _, _, _, _, _, z⟩ := z
    exact z.elim
  | ok fl =>
    cases fl with
    | ret u =>
      obtain ⟨v, H', os, bare, un, hok, rvv, r, ns', G', n, h1, h2, h3, h4, rfl⟩ := z
      have x := hok p _ h1
      obtain ⟨hl', its', n', rv', ho'⟩ := (show ObjOk P w H' s'.heap p (.lst (ns'.map V.int)) from x)
      have mu' : Mut (H' p) := by rw [h1]; exact True.intro
      have hok2 := hok.write (o' := Pool p) mu' (.inl rfl) (fun _ _ _ e => e) ⟨_, ho'⟩ (pool_ok ⟨ns', its', n', by rw [List.length_map] at hl'; exact hl', rv', ho'⟩)
      refine ⟨.int r, upd H' p (Pool p), os, bare, ⟨fun b o q n hb hx => un.keep b o q (by rw [upd_ne (ne_nn' n hp)]; exact n) hb hx, fun b o q n hb hx => un.slot b o q (by rw [upd_ne (ne_nn' n hp)]; exact n) hb hx,
        fun b o q n hx => by rw [upd_ne (ne_nn' n hp)]; exact un.free b o q (by rw [upd_ne (ne_nn' n hp)]; exact n) hx, un.there,
        fun b xs q => ?_, fun b o u q => ?_, fun b ps q => ?_⟩, hok2, rvv, hQ _ (upd G' p (Pool p)) _ ⟨fun b o e => ?_, fun b o e => ?_, fun b o e => ?_, fun b e => ?_⟩ ⟨r, rfl, h3, h4⟩⟩
      · have hb : b ≠ p := fun e => by rw [e, hp] at q; cases q
        rw [upd_ne hb]; exact un.tups b xs (by rw [upd_ne hb]; exact q)
      · have hb : b ≠ p := fun e => by rw [e, hp] at q; cases q
        rw [upd_ne hb]; exact un.frzs b o u (by rw [upd_ne hb]; exact q)
      · have hb : b ≠ p := fun e => by rw [e, hp] at q; cases q
        rw [upd_ne hb]; exact un.tbls b ps (by rw [upd_ne hb]; exact q)
      · by_cases hb : b = p
        · subst hb; rw [gp] at e; cases e; exact upd_same
        · rw [upd_ne hb]; exact n.g _ _ (by rw [gm b hb]; exact e)
      · by_cases hb : b = p
        · subst hb; rw [upd_same] at e ⊢; exact e
        · rw [upd_ne hb] at e ⊢; exact n.h _ _ e
      · by_cases hb : b = p
        · subst hb; rw [hp] at e; cases e; exact upd_same
        · rw [upd_ne hb]; exact n.e _ _ (by rw [hmm b hb]; exact e)
      · by_cases hb : b = p
        · subst hb; exact .inl (by rw [gp]; exact fun z => nomatch z)
        · rw [upd_ne hb] at e
          rcases n.n b e with z | z
          · rw [gm b hb] at z; exact .inl z
          · rw [hmm b hb] at z; exact .inr z
    | next => exact z.elim
    | brk => exact z.elim
    | cont => exact z.elim
where ne_nn' {H : Hp} {a b : Addr} {o : HO} (h : H a = none) (h' : H b = some o) : a ≠ b := fun e => by rw [e, h'] at h; cases h
/-- the pool is made: the list is told -/
def spPoolL (B : Addr → List Int → Prop) : Sp := fun vs H Q E => ∃ (a : Addr) (ns : List Int) (G : Hp), Same G H ∧ vs = [.ref a] ∧ SqL K G a (ns.map V.int) ∧ B a ns ∧
  ∀ p G' H' (ms : List Int), Nx G H G' H' → H' p = some (.lst (ms.map V.int)) → G' p = none → H p = none → Q (.ref p) H'
abbrev spPool (B : Addr → List Int → Prop) : Sp := spX (fun (a : Addr × List Int) vs G => vs = [.ref a.1] ∧ SqL K G a.1 (a.2.map V.int) ∧ B a.1 a.2) (fun _ v G => ∃ p, v = .ref p ∧ G p = some (Pool p)) NoX
theorem pool_make {B : Addr → List Int → Prop} (F : FnR P w K mg base (L2.CX P w) k f (spPoolL (K := K) B)) : FnR P w K mg base (L2.CX P w) k f (spPool (K := K) B) := by
  rintro A outer s H us vs Q E hr e0 r ⟨⟨a, ns⟩, G, hG, ⟨rfl, ga, hB⟩, hQ, _⟩
  refine codeAny_mono (F A outer s H us _ (fun v H' => ∃ (p : Addr) (G' : Hp) (ms : List Int), v = .ref p ∧ Nx G H G' H' ∧ H' p = some (.lst (ms.map V.int)) ∧ G' p = none ∧ H p = none) E0 hr e0 r
    ⟨a, ns, G, hG, rfl, ga, hB, fun p G' H' ms n h1 h2 h3 => ⟨p, G', ms, rfl, n, h1, h2, h3⟩⟩) fun r s' z => ?_
  cases r with
  | error e =>
    obtain ⟨_, _, _, _, _, _, _, _, _, _, _, _, z⟩ := z
    exact z.elim
  | ok fl =>
    cases fl with
    | ret u =>
      obtain ⟨v, H', os, bare, un, hok, rvv, p, G', ms, rfl, n, h1, h2, h3⟩ := z
      have x := hok p _ h1
      obtain ⟨hl', its', n', rv', ho'⟩ := (show ObjOk P w H' s'.heap p (.lst (ms.map V.int)) from x)
      have mu' : Mut (H' p) := by rw [h1]; exact True.intro
      have hok2 := hok.write (o' := Pool p) mu' (.inl rfl) (fun _ _ _ e => e) ⟨_, ho'⟩ (pool_ok ⟨ms, its', n', by rw [List.length_map] at hl'; exact hl', rv', ho'⟩)
      have hne : ∀ b o, s.heap.get? b = some o → b ≠ p := fun b o q e => by
        subst e
        have := un.free b o q h3 (by simp)
        rw [h1] at this
        cases this
      refine ⟨.ref p, upd H' p (Pool p), os, bare, ⟨un.keep, un.slot, fun b o q n hx => ?_, un.there, fun b xs q => ?_, fun b o u q => ?_, fun b ps q => ?_⟩, hok2, rvv,
        hQ _ (upd G' p (Pool p)) _ ((n.mut h3 h2 (o := Pool p)).fz upd_same h3 h2) ⟨p, rfl, upd_same⟩⟩
      · rw [upd_ne (hne b o q)]; exact un.free b o q n hx
      · rw [upd_ne (fun e => by rw [e, h3] at q; cases q)]; exact un.tups b xs q
      · rw [upd_ne (fun e => by rw [e, h3] at q; cases q)]; exact un.frzs b o u q
      · rw [upd_ne (fun e => by rw [e, h3] at q; cases q)]; exact un.tbls b ps q
    | next => exact z.elim
    | brk => exact z.elim
    | cont => exact z.elim
/-- a display of written ints -/
def tInts (ks : List Int) : TA := ks.foldr (fun k t => tCons (tC (.int k)) t) tNil
theorem w_ints {σ : L2.St} {H : Hp} : ∀ {ks : List Int} {Q : List V → Hp → Prop}, Q (ks.map V.int) H → tInts ks σ H Q
  | [], _, q => q
  | k :: ks, Q, q => w_ints (ks := ks) (Q := fun xs H2 => Q (V.int k :: xs) H2) q
/-- the pool grows by written ints -/
theorem pool_ext {σ : L2.St} {p : Addr} {ms : List Int} {H G H0 G0 : Hp} {Q : VK} {m : Nat} (hp : H p = some (.lst (ms.map V.int))) (N : Nx G0 H0 G H) (gp : G p = none) (h0 : H0 p = none) (hl : ms.length ≤ m) {t : TA} (ks : List Int)
    (ht : t = tInts ks) (hk : m + ks.length ≤ 90000) (q : ∀ (ms' : List Int) (G' H' : Hp), Nx G0 H0 G' H' → H' p = some (.lst (ms'.map V.int)) → G' p = none → ms'.length ≤ m + ks.length → Q .non H') :
    (fun (x : V) (H1 : Hp) => tyV K "list" x H1 ∧ tCons (tLst t) tNil σ H1 fun xs H2 => rExtend x xs H2 Q) (.ref p) H := by
  refine ⟨.inl ⟨rfl, _, sqL hp⟩, ?_⟩
  subst ht
  refine w_cons ?_
  show tInts ks σ H (fun xs H1 => xs.length ≤ sizeLine ∧ ∀ q, H1 q = none → tNil σ (upd H1 q (.lst xs)) fun ys H2 => rExtend (.ref p) (V.ref q :: ys) H2 Q)
  refine w_ints ⟨by rw [List.length_map]; exact sz (by omega), fun b hb => ?_⟩
  have N1 := N.newk (o := .lst (ks.map V.int)) hb
  have n1 := (Nx.refl N.h).newk (o := .lst (ks.map V.int)) hb
  have hp1 := n1.e _ _ hp
  have gp1 := n1.hid hp gp
  refine w_nil ⟨p, b, ms.map V.int, ks.map V.int, rfl, rfl, hp1, upd_same, by rw [List.length_map, List.length_map]; exact sz (by omega), ?_⟩
  refine q (ms ++ ks) _ _ (N1.mut (o := .lst (ms.map V.int ++ ks.map V.int)) h0 gp1) (by rw [List.map_append]; exact upd_same) gp1 (by rw [List.length_append]; omega)
end
theorem dr {p : Addr} {m : Int} {G0 H0 G H : Hp} {Q : VK} {E : XK} (N : Nx G0 H0 G H) (hp : G p = some (Pool p)) (hm : 0 < m) (k : ∀ r G' H', Nx G0 H0 G' H' → Nx G H G' H' → 0 ≤ r → r < m → Q (.int r) H') : spDraw [.ref p, .int m] H Q E :=
  cl0 N (p, m) ⟨rfl, hp, hm⟩ fun v G' H' N' n ⟨r, e, h1, h2⟩ => by subst e; exact k r G' H' N' n h1 h2
end Ax

/-! The law's own def; small things for the steps. -/
namespace Ax
open PySem PySem.Spec PyProof.Rows L2 SlX StX
abbrev spLaw (K : PySem.W.Frag) : Sp := spX (fun (a : Addr × List Int) vs G => vs = [.ref a.1] ∧ SqL K G a.1 (a.2.map V.int) ∧ a.2.length ≤ 63 ∧ ∀ z ∈ a.2, Builtin.Int.intBits z ≤ 1048576) (fun _ v _ => v = .bl true) NoX
theorem law_sp {K : PySem.W.Frag} {H : Hp} {a : Addr} {ns : List Int} (hl : ns.length ≤ 63) (hb : ∀ z ∈ ns, Builtin.Int.intBits z ≤ 1048576) (hS : SqL K H a (ns.map V.int)) : spLaw K [.ref a] H (fun v _ => v = .bl true) fun _ _ _ => False :=
  ⟨(a, ns), H, Same.refl _, ⟨rfl, hS, hl, hb⟩, fun _ _ _ _ h => h, fun _ _ _ _ _ h => h.elim⟩
theorem len_nil {i : Nat} {α : Type} : ([] : List α)[i]? = none := by simp
theorem t_if {c : Bool} {p q : Prop} (h1 : c = true → p) (h2 : c = false → q) : if c = true then p else q := by
  cases c with
  | true => exact iteT (h1 rfl)
  | false => exact iteF (h2 rfl)
/-- a new object, known from now on -/
theorem nobj {G0 H0 G H : Hp} {p : Addr} (N : Nx G0 H0 G H) (hp : H p = none) (o : HO) : ∃ G' H', upd H p o = H' ∧ Nx G0 H0 G' H' ∧ Nx G H G' H' ∧ G' p = some o :=
  ⟨upd G p o, _, rfl, N.newk hp, (Nx.refl N.h).newk hp, upd_same⟩
/-- a new object of the def's own, that may change -/
theorem nobjm {G0 H0 G H : Hp} {p : Addr} (N : Nx G0 H0 G H) (hp : H p = none) (o : HO) : ∃ H', upd H p o = H' ∧ Nx G0 H0 G H' ∧ Nx G H G H' ∧ H' p = some o ∧ G p = none ∧ H0 p = none :=
  ⟨_, rfl, N.more (same_new hp), (Nx.refl N.h).more (same_new hp), upd_same, N.h.free hp, N.e.free hp⟩
/-- .. is changed -/
theorem mobj {G0 H0 G H : Hp} {p : Addr} (N : Nx G0 H0 G H) (h0 : H0 p = none) (hg : G p = none) (o : HO) : ∃ H', upd H p o = H' ∧ Nx G0 H0 G H' ∧ H' p = some o :=
  ⟨_, rfl, N.mut h0 hg, upd_same⟩
section
variable {K : PySem.W.Frag} {σ : L2.St} {H G0 H0 G : Hp} {Q : VK}
theorem w_bm0 {T : String} {r : V → List V → Hp → VK → Prop} {to : TE} (q : to σ H fun x H1 => tyV K T x H1 ∧ r x [] H1 Q) : tBM0 K T r to σ H Q := q
theorem w_bm {T : String} {r : V → List V → Hp → VK → Prop} {to : TE} {t : TA} (q : to σ H fun x H1 => tyV K T x H1 ∧ t σ H1 fun xs H2 => r x xs H2 Q) : tBM K T r to t σ H Q := q
theorem ty_l {l : Addr} {xs : List V} (h : H l = some (.lst xs)) : tyV K "list" (.ref l) H := .inl ⟨rfl, xs, sqL h⟩
theorem pop_l {l : Addr} {xs : List V} {y : V} (h : H l = some (.lst (xs ++ [y]))) (q : Q y (upd H l (.lst xs))) : rPop (.ref l) [] H Q := ⟨l, xs ++ [y], y, rfl, rfl, h, by simp, by rw [List.dropLast_concat]; exact q⟩
theorem app_l {l : Addr} {xs : List V} {y : V} (h : H l = some (.lst xs)) (hl : xs.length < 100000) (q : Q .non (upd H l (.lst (xs ++ [y])))) : rAppend (.ref l) [y] H Q := ⟨l, xs, y, rfl, rfl, h, szl hl, q⟩
theorem ext_l {l b : Addr} {xs zs : List V} (h : H l = some (.lst xs)) (hb : H b = some (.lst zs)) (hl : xs.length + zs.length ≤ 100000) (q : Q .non (upd H l (.lst (xs ++ zs)))) : rExtend (.ref l) [.ref b] H Q := ⟨l, b, xs, zs, rfl, rfl, h, hb, sz hl, q⟩
theorem rev_l {l : Addr} {xs : List V} (h : H l = some (.lst xs)) (q : Q .non (upd H l (.lst xs.reverse))) : rReverse (.ref l) [] H Q := ⟨l, xs, rfl, rfl, h, q⟩
theorem int_i {i : Int} (q : Q (.int i) H) : (fun xs H Q => (∃ i, xs = [V.int i] ∧ Q (.int i) H) ∨ ∃ k, xs = [V.bl k] ∧ Q (.int (if k then 1 else 0)) H : List V → Hp → VK → Prop) [.int i] H Q := .inl ⟨i, rfl, q⟩
theorem abs_i {i : Int} (q : Q (.int (if i < 0 then -i else i)) H) : (fun xs H Q => ∃ i, xs = [V.int i] ∧ Q (.int (if i < 0 then -i else i)) H : List V → Hp → VK → Prop) [.int i] H Q := ⟨i, rfl, q⟩
theorem mod_i {i j : Int} (h : 0 < j) (q : Q (.int (i % j)) H) : rI (fun _ j => 0 < j) (fun i j => .int (i % j)) (.int i) (.int j) H Q := ⟨i, j, rfl, rfl, h, q⟩
theorem snoc_of {α : Type} {xs : List α} (h : xs ≠ []) : ∃ ys y, xs = ys ++ [y] := ⟨xs.dropLast, xs.getLast h, (List.dropLast_concat_getLast h).symm⟩
end
/-! loops -/
theorem src_rngL {G : Hp} {lo : Int} {j n : Nat} (h : j = n) : Src (Itr lo j) G n (fun i x _ => x = .int (lo + i)) := by subst h; exact src_range
theorem src_rng {G : Hp} {j n : Nat} (h : j = n) : Src (Itr 0 j) G n (fun i x _ => x = .int (i : Nat)) := by
  have z := src_rngL (G := G) (lo := 0) h
  have e : (fun (i : Nat) (x : V) (_ : Hp) => x = .int (0 + (i : Int))) = fun i x _ => x = .int (i : Nat) := by funext i x _; rw [Int.zero_add]
  rw [e] at z
  exact z
def FrB (g : TG) (tb : TS) (D : Ends) (σ : L2.St) (J : It) (H1 : Hp) : Prop := ∃ W : Nat → Nat → L2.St → Hp → Prop, (∃ m, W 0 m σ H1) ∧ ∀ i m σ H, W i m σ H →
  (J.stop i H ∧ D.nx σ H) ∨ (J.go i H ∧ ∃ N : L2.St → Hp → Prop, (∀ σ' H', N σ' H' → ∃ m', m' < m ∧ W (i + 1) m' σ' H') ∧ ∀ x H', J.yld i H x H' → g x σ H' fun σ2 H2 => tb { D with nx := N, ct := N, bk := D.nx } σ2 H2)
def LcB (g : TG) (tt : TT) (te : TE) (vs : List Nat) (σ : L2.St) (Q : VK) (J : It) (H1 : Hp) : Prop := ∀ D, H1 D = none → ∃ W : Nat → Nat → Hp → Prop, (∃ m, W 0 m (upd H1 D (.lst []))) ∧ ∀ i m H, W i m H →
      (J.stop i H ∧ Q (.ref D) H) ∨ (J.go i H ∧ ∃ Nx : Hp → Prop, (∀ H', Nx H' → ∃ m', m' < m ∧ W (i + 1) m' H') ∧ ∀ x H', J.yld i H x H' → g x (wipe σ vs) H' fun σ2 H2 => wipe σ2 vs = wipe σ vs ∧ tt σ2 H2 fun b H3 =>
        if b = true then te σ2 H3 fun y H4 => ∃ acc, H4 D = some (.lst acc) ∧ acc.length < sizeLine ∧ Nx (upd H4 D (.lst (acc ++ [y]))) else Nx H3)
section
variable {K : PySem.W.Frag} {σ : L2.St} {H G0 H0 G : Hp} {D : Ends} {g : TG} {tb : TS} {J : It} {R : It → Hp → Prop}
theorem w_forS {wi : TI} (q : wi σ H fun J H1 => FrB g tb D σ J H1) : tFor wi g tb D σ H := q
theorem w_lcS {wi : TI} {tt : TT} {te : TE} {vs : List Nat} {Q : VK} (q : wi σ H fun J H1 => LcB g tt te vs σ Q J H1) : tLc wi g tt te vs σ H Q := q
theorem w_lst {t : TA} {Q : VK} (q : t σ H fun xs H1 => xs.length ≤ sizeLine ∧ ∀ p, H1 p = none → Q (.ref p) (upd H1 p (.lst xs))) : tLst t σ H Q := q
theorem w_tup {t : TA} {Q : VK} (q : t σ H fun xs H1 => xs.length ≤ sizeLine ∧ ∀ p, H1 p = none → Q (.ref p) (upd H1 p (.tup xs))) : tTup t σ H Q := q
theorem w_gn {i : Nat} {x : V} {Q : L2.St → Hp → Prop} (q : Q (σ.set i (some x)) H) : gName i x σ H Q := q
theorem w_rng1 {ta : TA} (q : ta σ H fun vs H1 => ∃ j : Int, vs = [.int j] ∧ -(2 ^ 62) ≤ j ∧ j < 2 ^ 62 ∧ R (Itr 0 j.toNat) H1) : iRng1 ta σ H R := q
theorem w_rng2 {ta : TA} (q : ta σ H fun vs H1 => ∃ i j : Int, vs = [.int i, .int j] ∧ (-(2 ^ 62) ≤ i ∧ i < 2 ^ 62 ∧ -(2 ^ 62) ≤ j ∧ j < 2 ^ 62) ∧ R (Itr i (j - i).toNat) H1) : iRng2 ta σ H R := q
theorem w_il {tl : TE} (q : tl σ H fun x H1 => ∃ a, x = .ref a ∧ (∃ xs, SqL K H1 a xs) ∧ R (Itl K a) H1) : iList K tl σ H R := q
theorem w_it {tl : TE} (q : tl σ H fun x H1 => ∃ a, x = .ref a ∧ (∃ xs, SqT K H1 a xs) ∧ R (Itt K a) H1) : iTup K tl σ H R := q
theorem w_is {tl : TE} (q : tl σ H fun v H1 => ∃ x, v = .str x ∧ R (Its x) H1) : iStr tl σ H R := q
theorem frb {n : Nat} {Y : Nat → V → Hp → Prop} (S : Src J G n Y) (N : Nx G0 H0 G H) (I : Nat → L2.St → Hp → Hp → Prop) (h0 : I 0 σ G H)
    (hs : ∀ i x σ' G' H' G'' H'', i < n → I i σ' G' H' → Nx G0 H0 G'' H'' → Same G G'' → Nx G' H' G'' H'' → Y i x G'' → g x σ' H'' fun σ2 H2 => tb { D with nx := LI G0 H0 G I (i + 1), ct := LI G0 H0 G I (i + 1), bk := D.nx } σ2 H2)
    (hd : ∀ σ' G' H', I n σ' G' H' → Nx G0 H0 G' H' → Same G G' → D.nx σ' H') : FrB g tb D σ J H := w_for S N I h0 hs hd
theorem lcb {α : Type} {tt : TT} {te : TE} {vs : List Nat} {Q : VK} {n : Nat} {Y : Nat → V → Hp → Prop} (S : Src J G n Y) (N : Nx G0 H0 G H)
    (zs : List α) (p : α → Bool) (R : α → V → Hp → Prop) (hn : zs.length = n) (hz : n ≤ 90000) (up : ∀ z v G G', Same G G' → R z v G → R z v G')
    (hs : ∀ i z x G' H', zs[i]? = some z → Same G G' → Same G' H' → Y i x G' → ∃ σ2, (∀ Q : L2.St → Hp → Prop, Q σ2 H' → g x (wipe σ vs) H' Q) ∧ wipe σ2 vs = wipe σ vs ∧ Gt tt σ2 G' H' (p z) ∧
      (p z = true → ∀ G2 H2, Same G' G2 → Same G2 H2 → Gv te σ2 G2 H2 (R z)))
    (k : ∀ D L G' H', Nx G0 H0 G' H' → Nx G H G' H' → H' D = some (.lst L) → G' D = none → H0 D = none → All2 R G' (zs.filter p) L → Q (.ref D) H') : LcB g tt te vs σ Q J H := w_lc S N zs p R hn hz up hs k
end
/-! the rules with the written part named (a comprehension's block must not name its own) -/
section
variable {X : Cx} {K : PySem.W.Frag} (hK : X.K = K)
include hK
theorem op_addK : OpR X (binaryOp .Add) (AddR K) := hK ▸ op_addU
theorem op_eqK (hu : X.A.units + 64 < cLine) : OpR X (compareOp .Eq) (EqR K) := hK ▸ op_eqU hu
theorem op_neK (hu : X.A.units + 64 < cLine) : OpR X (compareOp .NotEq) (NeR K) := hK ▸ op_neU hu
theorem op_inK (hu : X.A.units + 64 < cLine) : OpR X (compareOp .In) (InR K) := hK ▸ op_inU hu
theorem op_niK (hu : X.A.units + 64 < cLine) : OpR X (compareOp .NotIn) (NiR K) := hK ▸ op_niU hu
theorem call_lenK : CallR X (.builtin "len") (LenU K) := hK ▸ call_lenU
theorem ix_K : IxR X (rIx K) := hK ▸ ix_seq
theorem sl_listK : SlR X (rSlL K) := hK ▸ sl_list
theorem call_isiK' : CallR X (.builtin "isinstance") (rIsi K) := hK ▸ call_isi
theorem cr_allK (hc : X.calm = true) : CallR X (.builtin "all") (rAll K) := hK ▸ cr_all hc
theorem cr_anyK (hc : X.calm = true) : CallR X (.builtin "any") (rAny K) := hK ▸ cr_any hc
theorem call_setK {P : Program} {w : World} (hP : X.prog = P) (hw : X.w = w) (hc : X.calm = true) : CallR X (.type "set") (rSetS K P w) := by subst hK; subst hP; subst hw; exact call_setS hc
theorem call_listK : CallR X (.type "list") (fun xs H Q => ∃ p ys, xs = [.ref p] ∧ (SqL K H p ys ∨ SqT K H p ys) ∧ ∀ l, H l = none → Q (.ref l) (upd H l (.lst ys))) := hK ▸ call_list_of
theorem call_tupleK : CallR X (.type "tuple") (fun xs H Q => ∃ p ys, xs = [.ref p] ∧ ((SqL K H p ys ∧ ∀ l, H l = none → Q (.ref l) (upd H l (.tup ys))) ∨ (SqT K H p ys ∧ Q (.ref p) H))) := hK ▸ call_tuple_of
theorem pe_fldK {e : Expr} {f : Str} {pos : Pos} {ta : TE} (he : PE X e ta) (hb : attributeBase e f X.env (eval e X.env) = eval e X.env := by rfl) : PE X (.Attribute e f pos) (tFld K ta f) := hK ▸ pe_fld he hb
theorem pi_listK {tg l : Expr} {tl : TE} (hl : PE X l tl) : PI X tg l (iList K tl) := hK ▸ pi_list hl
theorem pi_tupK {tg l : Expr} {tl : TE} (hl : PE X l tl) : PI X tg l (iTup K tl) := hK ▸ pi_tup hl
theorem pe_revK {e : Expr} {te : TE} {k : Nat} {p1 p2 p3 pos : Pos} (he : PE X e te) : PE X (.Subscript e (.Slice none none (some (.UnaryOp .USub (.Constant (.int 1) k p1) p2)) p3) pos) (tRevL K te) := hK ▸ pe_revL he
end
theorem call_sortedK {X : Cx} {P : Program} {w : World} (hP : X.prog = P) (hw : X.w = w) (hc : X.calm = true) : CallR X (.builtin "sorted") (rSortedS' P w) := by subst hP; subst hw; exact call_sortedS hc
theorem flt_true {α : Type} {l : List α} : l.filter (fun _ => true) = l := List.filter_eq_self.mpr fun _ _ => rfl
theorem nlow {a : Bool} (h : (!a) = true) : a = false := by cases a with | false => rfl | true => cases h
theorem nlow' {a : Bool} (h : (!a) = false) : a = true := by cases a with | true => rfl | false => cases h
section
variable {K : PySem.W.Frag} {σ : L2.St} {H : Hp} {D : Ends}
theorem w_sfld {ta tv : TE} {f : Str} (q : tv σ H fun y H1 => ta σ H1 fun x H2 => ∃ a C dx fs, x = .ref a ∧ H2 a = some (.ins C dx fs) ∧ Cls K C ∧ NoAttr K C f ∧ fs.length < 1000 ∧ D.nx σ (upd H2 a (.ins C dx (putF f y fs)))) : sFld K ta tv f D σ H := q
theorem ty_s {z : Str} {Q : VK} {r : V → List V → Hp → VK → Prop} (q : r (.str z) [] H Q) : (∃ a, V.str z = .str a) ∧ r (.str z) [] H Q := ⟨⟨z, rfl⟩, q⟩
theorem w_m1 {r : V → List V → Hp → VK → Prop} {to te : TE} {Q : VK} (q : to σ H fun x H1 => (∃ a, x = .str a) ∧ te σ H1 fun y H2 => r x [y] H2 Q) : tM1 r to te σ H Q := q
theorem w_sl {r : V → Option Int → Option Int → Hp → VK → Prop} {te : TE} {tl th : TO} {Q : VK} (q : te σ H fun x H1 => tl σ H1 fun l H2 => th σ H2 fun u H3 => r x l u H3 Q) : tSl r te tl th σ H Q := q
theorem w_np {Q : Option Int → Hp → Prop} (q : Q none H) : tNoPart σ H Q := q
theorem w_meth {C : Addr} {m : Str} {sp : Sp} {E : XK} {ta : TE} {t : TA} {Q : VK} (q : ta σ H fun x H1 => ∃ a dx fs, x = .ref a ∧ H1 a = some (.ins C dx fs) ∧ fs.lookup m = none ∧ t σ H1 fun vs H2 => sp (x :: vs) H2 Q E) : tMethR C m sp E ta t σ H Q := q
theorem w_cmeth {C : Addr} {sp : Sp} {E : XK} {ta : TE} {t : TA} {Q : VK} (q : ta σ H fun x H1 => x = .ref C ∧ t σ H1 fun vs H2 => sp (.ref C :: vs) H2 Q E) : ClX.tCMeth C sp E ta t σ H Q := q
end
theorem w_part {t : TE} {σ : L2.St} {H : Hp} {Q : Option Int → Hp → Prop} (q : t σ H fun x H1 => ∃ i, x = .int i ∧ Q (some i) H1) : tPart t σ H Q := q
theorem w_pi {i : Int} {P : Int → Prop} (q : P i) : ∃ j, V.int i = .int j ∧ P j := ⟨i, rfl, q⟩
/-- what stands between two statements -/
theorem w_seqK {t u : TS} {D : Ends} {σ : L2.St} {H : Hp} (I : L2.St → Hp → Prop) (h2 : ∀ σ' H', I σ' H' → u D σ' H') (h1 : ∀ R : L2.St → Hp → Prop, (∀ σ' H', I σ' H' → R σ' H') → t { D with nx := R } σ H) : tSeq t u D σ H := h1 _ h2
/-- texts out of S -/
theorem all2_strs {α : Type} {S : Str → Prop} {G : Hp} : ∀ {zs : List α} {L : List V}, All2 (fun _ v _ => ∃ x, S x ∧ v = .str x) G zs L → ∃ row : List Str, L = row.map V.str ∧ row.length = zs.length ∧ ∀ x ∈ row, S x
  | _, _, .nil => ⟨[], rfl, rfl, fun _ h => by cases h⟩
  | _, _, .cons ⟨x, hx, e⟩ t => by
    obtain ⟨row, e2, l, h⟩ := all2_strs (G := G) t
    refine ⟨x :: row, by rw [e, e2]; rfl, by simp [l], fun y hy => ?_⟩
    rcases List.mem_cons.mp hy with z | z
    · subst z; exact hx
    · exact h y z
theorem w_rev {K : PySem.W.Frag} {te : TE} {σ : L2.St} {H : Hp} {Q : VK} (q : te σ H fun x H1 => ∃ a xs, x = .ref a ∧ SqL K H1 a xs ∧ ∀ p, H1 p = none → Q (.ref p) (upd H1 p (.lst xs.reverse))) : tRevL K te σ H Q := q
theorem iteF' {c : Bool} {A B : Prop} (hc : c = false) (h : B) : if c = true then A else B := by subst hc; exact iteF h
theorem len_two {α : Type} : ∀ {l : List α}, l.length = 2 → ∃ x y, l = [x, y]
  | [x, y], _ => ⟨x, y, rfl⟩
theorem len_three {α : Type} : ∀ {l : List α}, l.length = 3 → ∃ x y z, l = [x, y, z]
  | [x, y, z], _ => ⟨x, y, z, rfl⟩
theorem log_small {i : Nat} (h : i < 1000) : (i : Int).natAbs.log2 < 1920 := Nat.lt_of_le_of_lt (Nat.log2_le_self _) (by rw [Int.natAbs_natCast]; omega)
/-- a comprehension whose list is not changed any more -/
theorem lcbK {α : Type} {g : TG} {tt : TT} {te : TE} {vs : List Nat} {σ : L2.St} {H G0 H0 G : Hp} {J : It} {Q : VK} {n : Nat} {Y : Nat → V → Hp → Prop} (S : Src J G n Y) (N : Nx G0 H0 G H)
    (zs : List α) (p : α → Bool) (R : α → V → Hp → Prop) (hn : zs.length = n) (hz : n ≤ 90000) (up : ∀ z v G G', Same G G' → R z v G → R z v G')
    (hs : ∀ i z x G' H', zs[i]? = some z → Same G G' → Same G' H' → Y i x G' → ∃ σ2, (∀ Q : L2.St → Hp → Prop, Q σ2 H' → g x (wipe σ vs) H' Q) ∧ wipe σ2 vs = wipe σ vs ∧ Gt tt σ2 G' H' (p z) ∧
      (p z = true → ∀ G2 H2, Same G' G2 → Same G2 H2 → Gv te σ2 G2 H2 (R z)))
    (k : ∀ D L G' H', Nx G0 H0 G' H' → Same G G' → G' D = some (.lst L) → All2 R G' (zs.filter p) L → Q (.ref D) H') : LcB g tt te vs σ Q J H :=
  lcb S N zs p R hn hz up hs fun D L G' H' N' n' hD gD h0 hA => k D L _ H' (N'.fz hD h0 gD) (n'.g.trans (same_new gD)) upd_same (All2.mono (fun z v r => up z v _ _ (same_new gD) r) hA)
/-- y = [..], whichever way the store goes -/
theorem ps_lcU {X : Cx} {i : Nat} {y : Str} {py : Pos} {elt tg iter : Expr} {ifs : List Expr} {scope : Scope} {own : List (Str × Nat)} {pos spos : Pos} {wi : TI} {g : TG} {tt : TT} {te : TE} (hc : X.calm = true) (hN : X.N.Nodup) (hy : X.N[i]? = some y) 
    (hsw : (X.env.scope.names.lookup y = some .local ∧ swapsWith (.ListComp elt [⟨tg, iter, ifs, 0⟩] scope pos) (some (.Name y py)) spos.line X.env = pure true) ∨
      (Loc X.env.scope y ∧ swapsWith (.ListComp elt [⟨tg, iter, ifs, 0⟩] scope pos) (some (.Name y py)) spos.line X.env = pure false ∧ (X.fn y = true ∨ X.env.scope.names.lookup y = some .local)))
    (hi : PI X tg iter wi) (ok : BlkOk X.N X.env.scope scope own)
    (hg : ∀ (s : Shared) (H : Hp) (C : Addr) (cl : List (Str × Addr)) (fp : List Addr), PG (X.blk s H scope (compEnvC scope cl C X.env) fp) tg g) (ht : ∀ (s : Shared) (H : Hp) (C : Addr) (cl : List (Str × Addr)) (fp : List Addr), PTs (X.blk s H scope (compEnvC scope cl C X.env) fp) ifs tt)
    (he : ∀ (s : Shared) (H : Hp) (C : Addr) (cl : List (Str × Addr)) (fp : List Addr), PE (X.blk s H scope (compEnvC scope cl C X.env) fp) elt te) (hs : ∀ x, foldedSetIterable iter X.env x = pure x := by intro _; rfl) :
    PS X (.Assign [.Name y py] (.ListComp elt [⟨tg, iter, ifs, 0⟩] scope pos) spos) (tAsg (tLc wi g tt te (own.map (·.2))) (gName i)) := by
  rcases hsw with ⟨hyl, q⟩ | ⟨hl, q, hf⟩
  · exact ps_setLc hc hN hy hyl q hi ok hg ht he hs
  · exact ps_set hN hy hl (pe_lc hc hN hi ok hg ht he hs) q hf
/-- [x for x in xs if q x], xs texts -/
theorem flt_strs {K : PySem.W.Frag} {G0 H0 G H : Hp} {Q : VK} {σ : L2.St} {g : TG} {tt : TT} {te : TE} {vs : List Nat} {c : Addr} {xs : List Str} (q : Str → Bool) (N : Nx G0 H0 G H) (hc : G c = some (.lst (xs.map V.str))) (hl : xs.length ≤ 1000)
    (hs : ∀ (i : Nat) (z : Str) (G' H' : Hp), xs[i]? = some z → Same G G' → Same G' H' → ∃ σ2, (∀ Q : L2.St → Hp → Prop, Q σ2 H' → g (.str z) (wipe σ vs) H' Q) ∧ wipe σ2 vs = wipe σ vs ∧ Gt tt σ2 G' H' (q z) ∧
      (q z = true → ∀ G2 H2, Same G' G2 → Same G2 H2 → Gv te σ2 G2 H2 (fun v _ => v = .str z)))
    (k : ∀ D G' H', Nx G0 H0 G' H' → Same G G' → G' D = some (.lst ((xs.filter q).map V.str)) → Q (.ref D) H') : LcB g tt te vs σ Q (Itl K c) H := by
  refine lcbK (src_list (sqL hc)) N xs q (fun x v _ => v = .str x) (by rw [List.length_map]) (by rw [List.length_map]; omega) (fun _ _ _ _ _ h => h) (fun i z v G' H' hz s1 s2 hv => ?_) fun D L G' H' N' s hD hA => ?_
  · rw [List.getElem?_map, hz] at hv
    cases Option.some.inj hv
    exact hs i z G' H' hz s1 s2
  · rw [All2.eq hA] at hD
    exact k D G' H' N' s hD
end Ax

/-! Names: the plain law. -/
namespace Ax
open PySem PySem.Spec PyProof.Rows L2
abbrev sLet : Str := "abcdefghijklmnopqrstuvwxyz"
abbrev sDig : Str := "0123456789"
def lowB (c : Nat) : Bool := decide (c ∈ sLet.cps.toList)
def alnB (c : Nat) : Bool := decide (c ∈ sLet.cps.toList) || decide (c ∈ sDig.cps.toList)
/-- what is_name answers -/
def isNm (x : Str) : Bool := match x.cps.toList with
  | [] => false
  | c :: r => decide (r.length < 8) && (lowB c && (c :: r).all alnB)
/-- all signs are letters or digits -/
def An (x : Str) : Prop := ∀ c ∈ x.cps.toList, alnB c = true
theorem An.app {x y : Str} (a : An x) (b : An y) : An (x ++ y) := fun c h => by
  rw [Str.cps_append, Array.toList_append] at h
  rcases List.mem_append.mp h with h | h
  · exact a c h
  · exact b c h
theorem An.cut {x : Str} (a : An x) (lo hi : Option Int) : An (cutS x lo hi) := fun c h => a c (List.mem_of_mem_drop (List.mem_of_mem_take h))
theorem An.one {c : Nat} (h : alnB c = true) : An ⟨#[c]⟩ := fun d hd => by
  have e : d = c := by simpa using hd
  rw [e]; exact h
theorem low_aln {c : Nat} (h : lowB c = true) : alnB c = true := by
  unfold alnB
  rw [show decide (c ∈ sLet.cps.toList) = true from h]; rfl
/-- the first sign is a letter -/
def Hd (x : Str) : Prop := ∃ c r, x.cps.toList = c :: r ∧ lowB c = true
theorem Hd.app {x y : Str} (h : Hd x) : Hd (x ++ y) := by
  obtain ⟨c, r, e, l⟩ := h
  exact ⟨c, r ++ y.cps.toList, by rw [Str.cps_append, Array.toList_append, e]; rfl, l⟩
theorem Hd.one {c : Nat} (h : lowB c = true) : Hd ⟨#[c]⟩ := ⟨c, [], rfl, h⟩
theorem Hd.ne {x : Str} (h : Hd x) : 1 ≤ x.length := by
  obtain ⟨c, r, e, _⟩ := h
  have : x.length = x.cps.toList.length := by simp [Str.length]
  rw [this, e]; simp
theorem toList_len (x : Str) : x.cps.toList.length = x.length := by simp [Str.length]
theorem isNm_of {x : Str} (h : Hd x) (a : An x) (l : x.length ≤ 8) : isNm x = true := by
  obtain ⟨c, r, e, hl⟩ := h
  have h1 := toList_len x
  rw [e] at h1
  simp only [List.length_cons] at h1
  unfold isNm
  rw [e]
  show (decide (r.length < 8) && (lowB c && (c :: r).all alnB)) = true
  rw [hl, decide_eq_true (by omega), Bool.true_and, Bool.true_and, List.all_eq_true]
  intro d hd
  exact a d (by rw [e]; exact hd)
theorem isNm_iff {x : Str} (h : isNm x = true) : Hd x ∧ An x ∧ 1 ≤ x.length ∧ x.length ≤ 8 := by
  unfold isNm at h
  split at h
  · cases h
  · rename_i c r e
    obtain ⟨h1, h2⟩ := Bool.and_eq_true_iff.mp h
    obtain ⟨h2, h3⟩ := Bool.and_eq_true_iff.mp h2
    have h1 := of_decide_eq_true h1
    have h4 := toList_len x
    rw [e] at h4
    simp only [List.length_cons] at h4
    exact ⟨⟨c, r, e, h2⟩, fun d hd => List.all_eq_true.mp h3 d (by rw [← e]; exact hd), by omega, by omega⟩
theorem cut_take (x : Str) (k : Nat) : (cutS x none (some (k : Int))).cps.toList = x.cps.toList.take k := by
  show ((x.cps.toList.drop (HT.sIx x.length 0 none)).take (HT.sIx x.length x.length (some (k : Int)) - HT.sIx x.length 0 none)) = _
  rw [HT.sIx_none, HT.sIx_nat, List.drop_zero, Nat.sub_zero, ← toList_len x, Nat.min_comm]
  rw [List.take_eq_take_iff]
  omega
theorem cut_drop (x : Str) (k : Nat) : (cutS x (some (k : Int)) none).cps.toList = x.cps.toList.drop k := by
  show ((x.cps.toList.drop (HT.sIx x.length 0 (some (k : Int)))).take (HT.sIx x.length x.length none - HT.sIx x.length 0 (some (k : Int)))) = _
  rw [HT.sIx_none, HT.sIx_nat, ← toList_len x]
  by_cases h : k ≤ x.cps.toList.length
  · rw [Nat.min_eq_left h, List.take_of_length_le (by rw [List.length_drop]; omega)]
  · rw [Nat.min_eq_right (by omega), List.drop_eq_nil_of_le (Nat.le_refl _), List.drop_eq_nil_of_le (by omega), List.take_nil]
theorem cut_len_le (x : Str) (lo hi : Option Int) : (cutS x lo hi).length ≤ x.length := cutS_length x lo hi
theorem cut_len_take (x : Str) (k : Nat) : (cutS x none (some (k : Int))).length ≤ k := by
  rw [← toList_len, cut_take, List.length_take]; omega
theorem len_app (a b : Str) : (a ++ b).length = a.length + b.length := Str.length_append a b
theorem len_one (c : Nat) : (⟨#[c]⟩ : Str).length = 1 := rfl
/-- word[:k] + sign + word[k:] -/
theorem nm_ins {w : Str} {c : Nat} {k : Nat} (hw : Hd w) (aw : An w) (lw : w.length ≤ 7) (hc : lowB c = true) : isNm (cutS w none (some (k : Int)) ++ ⟨#[c]⟩ ++ cutS w (some (k : Int)) none) = true := by
  refine isNm_of ?_ (((aw.cut _ _).app (.one (low_aln hc))).app (aw.cut _ _)) ?_
  · cases k with
    | zero => exact Hd.app ⟨c, [], by rw [Str.cps_append, Array.toList_append, cut_take]; rfl, hc⟩
    | succ k =>
      obtain ⟨d, r, e, hd⟩ := hw
      exact Hd.app (Hd.app ⟨d, r.take k, by rw [cut_take, e]; rfl, hd⟩)
  · rw [len_app, len_app, len_one, ← toList_len, ← toList_len, cut_take, cut_drop, List.length_take, List.length_drop, toList_len]
    omega
theorem nm_sign {w : Str} {c : Nat} {lo hi : Option Int} (aw : An w) (lw : w.length ≤ 7) (hc : lowB c = true) : isNm (⟨#[c]⟩ ++ cutS w lo hi) = true := by
  refine isNm_of (Hd.app (.one hc)) ((An.one (low_aln hc)).app (aw.cut _ _)) ?_
  have := cut_len_le w lo hi
  rw [len_app, len_one]
  omega
theorem nm_one {c : Nat} (hc : lowB c = true) : isNm ⟨#[c]⟩ = true := isNm_of (.one hc) (.one (low_aln hc)) (by rw [len_one]; omega)
theorem hd_take {w : Str} {k : Nat} (hw : Hd w) : Hd (cutS w none (some ((1 + k : Nat) : Int))) := by
  obtain ⟨d, r, e, hd⟩ := hw
  exact ⟨d, r.take k, by rw [cut_take, e, Nat.add_comm]; rfl, hd⟩
theorem low_at {i : Nat} {c : Nat} (h : sLet.cps.toList[i]? = some c) : lowB c = true := decide_eq_true (List.mem_of_getElem? h)
theorem let_at {i : Int} (h0 : 0 ≤ i) (h1 : i < 26) : ∃ c, atI sLet.cps.toList i = some c ∧ lowB c = true := by
  obtain ⟨k, rfl⟩ := Int.eq_ofNat_of_zero_le h0
  have hk : k < sLet.cps.toList.length := by
    have : sLet.cps.toList.length = 26 := by decide +kernel
    omega
  have e : sLet.cps.toList[k]? = some _ := List.getElem?_eq_getElem hk
  exact ⟨_, atI_nat e, low_at e⟩
theorem aln_at {i : Int} (h0 : 0 ≤ i) (h1 : i < 36) : ∃ c, atI (sDig ++ sLet).cps.toList i = some c ∧ alnB c = true := by
  obtain ⟨k, rfl⟩ := Int.eq_ofNat_of_zero_le h0
  have hk : k < (sDig ++ sLet).cps.toList.length := by
    have : (sDig ++ sLet).cps.toList.length = 36 := by decide +kernel
    omega
  obtain ⟨c, e⟩ : ∃ c, (sDig ++ sLet).cps.toList[k]? = some c := ⟨_, List.getElem?_eq_getElem hk⟩
  refine ⟨c, atI_nat e, ?_⟩
  have m := List.mem_of_getElem? e
  rw [Str.cps_append, Array.toList_append] at m
  unfold alnB
  rcases List.mem_append.mp m with m | m
  · rw [decide_eq_true m, Bool.or_true]
  · rw [decide_eq_true m, Bool.true_or]
/-- the digits of a small number -/
theorem an_num : ∀ k : Nat, k < 100 → (∀ c ∈ (toString (k : Int) : Str).cps.toList, alnB c = true) ∧ (toString (k : Int) : Str).length ≤ 2 := by
  intro k hk
  have h : ∀ k : Fin 100, ((toString ((k : Nat) : Int) : Str).cps.toList.all alnB && decide ((toString ((k : Nat) : Int) : Str).length ≤ 2)) = true := by decide +kernel
  have := Bool.and_eq_true_iff.mp (h ⟨k, hk⟩)
  exact ⟨List.all_eq_true.mp this.1, of_decide_eq_true this.2⟩
end Ax

/-! Sets of names in order: the plain law. -/
namespace Ax
open PySem PySem.Spec PyProof.Rows L2
def sLt (a b : Str) : Prop := a.cps.toList < b.cps.toList
instance : DecidableRel sLt := fun a b => inferInstanceAs (Decidable (a.cps.toList < b.cps.toList))
theorem str_eq {a b : Str} (h : a.cps.toList = b.cps.toList) : a = b := by
  cases a; cases b; exact congrArg Str.mk (Array.toList_inj.mp h)
theorem sLt_irr (a : Str) : ¬ sLt a a := List.lt_irrefl _
theorem sLt_tr {a b c : Str} (h : sLt a b) (h' : sLt b c) : sLt a c := List.lt_trans h h'
theorem sLt_tri {a b : Str} (h : ¬ sLt a b) (h' : a ≠ b) : sLt b a := by
  apply Decidable.byContradiction
  intro q
  exact h' (str_eq (List.le_antisymm (List.not_lt.mp q) (List.not_lt.mp h)))
abbrev Ss (l : List Str) : Prop := l.Pairwise sLt
def insS (x : Str) : List Str → List Str
  | [] => [x]
  | y :: l => if sLt x y then x :: y :: l else if x = y then y :: l else y :: insS x l
/-- the names, each once, in order -/
def cset (xs : List Str) : List Str := xs.foldr insS []
theorem insS_mem {x z : Str} : ∀ {l : List Str}, z ∈ insS x l ↔ z = x ∨ z ∈ l
  | [] => by simp [insS]
  | y :: l => by
    unfold insS
    split
    · simp
    · split
      · rename_i _ e; subst e; simp
      · rw [List.mem_cons, insS_mem, List.mem_cons]
        constructor
        · rintro (h | h | h)
          · exact .inr (.inl h)
          · exact .inl h
          · exact .inr (.inr h)
        · rintro (h | h | h)
          · exact .inr (.inl h)
          · exact .inl h
          · exact .inr (.inr h)
theorem insS_ss {x : Str} : ∀ {l : List Str}, Ss l → Ss (insS x l)
  | [], _ => by simp [insS]
  | y :: l, h => by
    obtain ⟨h1, h2⟩ := List.pairwise_cons.mp h
    unfold insS
    split
    · rename_i q
      exact List.pairwise_cons.mpr ⟨fun z hz => by
        rcases List.mem_cons.mp hz with e | e
        · subst e; exact q
        · exact sLt_tr q (h1 z e), h⟩
    · rename_i q
      split
      · exact h
      · rename_i q2
        refine List.pairwise_cons.mpr ⟨fun z hz => ?_, insS_ss h2⟩
        rcases insS_mem.mp hz with e | e
        · subst e; exact sLt_tri q q2
        · exact h1 z e
theorem insS_len {x : Str} : ∀ {l : List Str}, (insS x l).length ≤ l.length + 1
  | [] => by simp [insS]
  | y :: l => by
    unfold insS
    split
    · simp
    · split
      · simp
      · have := insS_len (x := x) (l := l)
        simp only [List.length_cons]; omega
theorem cset_mem {x : Str} : ∀ {xs : List Str}, x ∈ cset xs ↔ x ∈ xs
  | [] => by simp [cset]
  | y :: xs => by
    show x ∈ insS y (cset xs) ↔ _
    rw [insS_mem, cset_mem, List.mem_cons]
theorem cset_ss : ∀ (xs : List Str), Ss (cset xs)
  | [] => List.Pairwise.nil
  | y :: xs => insS_ss (cset_ss xs)
theorem cset_len : ∀ (xs : List Str), (cset xs).length ≤ xs.length
  | [] => Nat.le_refl _
  | y :: xs => Nat.le_trans insS_len (Nat.succ_le_succ (cset_len xs))
theorem ss_eq : ∀ {l m : List Str}, Ss l → Ss m → (∀ x, x ∈ l ↔ x ∈ m) → l = m
  | [], [], _, _, _ => rfl
  | [], y :: m, _, _, h => absurd ((h y).mpr List.mem_cons_self) (by simp)
  | x :: l, [], _, _, h => absurd ((h x).mp List.mem_cons_self) (by simp)
  | x :: l, y :: m, hl, hm, h => by
    obtain ⟨a1, a2⟩ := List.pairwise_cons.mp hl
    obtain ⟨b1, b2⟩ := List.pairwise_cons.mp hm
    have e : x = y := by
      rcases List.mem_cons.mp ((h x).mp List.mem_cons_self) with e | e
      · exact e
      · rcases List.mem_cons.mp ((h y).mpr List.mem_cons_self) with e' | e'
        · exact e'.symm
        · exact absurd (sLt_tr (b1 x e) (a1 y e')) (sLt_irr _)
    subst e
    congr 1
    refine ss_eq a2 b2 fun z => ⟨fun hz => ?_, fun hz => ?_⟩
    · rcases List.mem_cons.mp ((h z).mp (List.mem_cons_of_mem _ hz)) with e | e
      · subst e; exact absurd (a1 z hz) (sLt_irr _)
      · exact e
    · rcases List.mem_cons.mp ((h z).mpr (List.mem_cons_of_mem _ hz)) with e | e
      · subst e; exact absurd (b1 z hz) (sLt_irr _)
      · exact e
theorem cset_ext {xs ys : List Str} (h : ∀ x, x ∈ xs ↔ x ∈ ys) : cset xs = cset ys := ss_eq (cset_ss _) (cset_ss _) fun x => by rw [cset_mem, cset_mem]; exact h x
theorem cset_iff {xs ys : List Str} : cset xs = cset ys ↔ ∀ x, x ∈ xs ↔ x ∈ ys := ⟨fun e x => by rw [← cset_mem, e, cset_mem], cset_ext⟩
theorem cset_id {xs : List Str} (h : Ss xs) : cset xs = xs := ss_eq (cset_ss _) h fun x => cset_mem
theorem cset_cset (xs : List Str) : cset (cset xs) = cset xs := cset_id (cset_ss xs)
theorem cset_nil : cset [] = [] := rfl
theorem cset_eq_nil {xs : List Str} : cset xs = [] ↔ xs = [] := by
  constructor
  · intro e
    cases xs with
    | nil => rfl
    | cons x r =>
      have : x ∈ cset (x :: r) := cset_mem.mpr List.mem_cons_self
      rw [e] at this; cases this
  · intro e; subst e; rfl
theorem ss_nodup {l : List Str} (h : Ss l) : l.Nodup := h.imp fun {a b} q e => by subst e; exact sLt_irr _ q
theorem ss_of : ∀ {ys : List Str}, sortedS ys = true → ys.Nodup → Ss ys
  | [], _, _ => List.Pairwise.nil
  | [x], _, _ => List.pairwise_singleton _ _
  | x :: y :: r, h, nd => by
    obtain ⟨h1, h2⟩ := Bool.and_eq_true_iff.mp (show (!ltCps y.cps.toList x.cps.toList && risingS y r) = true from h)
    obtain ⟨n1, n2⟩ := List.nodup_cons.mp nd
    have ih : Ss (y :: r) := ss_of (ys := y :: r) h2 n2
    have hxy : sLt x y := by
      rw [ltCps_eq] at h1
      refine sLt_tri (fun q => ?_) (fun e => n1 (by rw [e]; exact List.mem_cons_self))
      rw [decide_eq_true (show y.cps.toList < x.cps.toList from q)] at h1
      cases h1
    refine List.pairwise_cons.mpr ⟨fun z hz => ?_, ih⟩
    rcases List.mem_cons.mp hz with e | e
    · subst e; exact hxy
    · exact sLt_tr hxy ((List.pairwise_cons.mp ih).1 z e)
theorem cset_dd {xs ys : List Str} (p : ys.Perm (dd xs)) (s : sortedS ys = true) : ys = cset xs :=
  ss_eq (ss_of s (p.nodup_iff.mpr (dd_nodup xs))) (cset_ss _) fun x => by rw [p.mem_iff, dd_mem, cset_mem]
theorem dd_cset_len (xs : List Str) : (dd xs).length = (cset xs).length := by
  have p : (dd xs).Perm (cset xs) := (List.perm_ext_iff_of_nodup (dd_nodup xs) (ss_nodup (cset_ss _))).mpr fun x => by rw [dd_mem, cset_mem]
  exact p.length_eq
theorem nd_len {α : Type} [DecidableEq α] : ∀ {l m : List α}, l.Nodup → (∀ x ∈ l, x ∈ m) → l.length ≤ m.length
  | [], _, _, _ => Nat.zero_le _
  | x :: l, m, nd, h => by
    obtain ⟨n1, n2⟩ := List.nodup_cons.mp nd
    have hx := h x List.mem_cons_self
    have ih := nd_len (l := l) (m := m.erase x) n2 fun y hy => (List.mem_erase_of_ne fun e => n1 (by rw [← e]; exact hy)).mpr (h y (List.mem_cons_of_mem _ hy))
    rw [List.length_erase_of_mem hx] at ih
    have : 0 < m.length := List.length_pos_of_mem hx
    simp only [List.length_cons]
    omega
theorem cset_sub_len {ms ns : List Str} (s : ∀ x ∈ ms, x ∈ ns) : (cset ms).length ≤ (cset ns).length := nd_len (ss_nodup (cset_ss _)) fun x hx => cset_mem.mpr (s x (cset_mem.mp hx))
/-- names that may make a column set -/
structure Nms (ns : List Str) : Prop where
  ok : ∀ x ∈ ns, isNm x = true
  n : ns.length ≤ 1000
  c : (cset ns).length < 64
abbrev colsF (t : Addr) : List (Str × V) := [("names", .ref t)]
/-- a column set stands at a -/
structure ColsAt (C : Addr) (G : Hp) (a : Addr) (ns : List Str) : Prop where
  at_ : ∃ dx t, G a = some (.ins C dx (colsF t)) ∧ G t = some (.tup (ns.map V.str))
  ss : Ss ns
  ok : ∀ x ∈ ns, isNm x = true
  n : ns.length < 64
theorem ColsAt.up {C : Addr} {G G' : Hp} {a : Addr} {ns : List Str} (s : Same G G') (h : ColsAt C G a ns) : ColsAt C G' a ns :=
  ⟨let ⟨dx, t, h1, h2⟩ := h.at_; ⟨dx, t, s _ _ h1, s _ _ h2⟩, h.ss, h.ok, h.n⟩
theorem ColsAt.nms {C : Addr} {G : Hp} {a : Addr} {ns : List Str} (h : ColsAt C G a ns) : Nms ns := ⟨h.ok, by have := h.n; omega, Nat.lt_of_le_of_lt (cset_len _) h.n⟩
theorem ColsAt.id {C : Addr} {G : Hp} {a : Addr} {ns : List Str} (h : ColsAt C G a ns) : cset ns = ns := cset_id h.ss
theorem Nms.of_subset {ns ms : List Str} (h : Nms ns) (s : ∀ x ∈ ms, x ∈ ns) (l : ms.length ≤ 1000) : Nms ms := ⟨fun x hx => h.ok x (s x hx), l, Nat.lt_of_le_of_lt (cset_sub_len s) h.c⟩
theorem Nms.sub {ns ms : List Str} (h : Nms ns) (s : ms.Sublist ns) : Nms ms := h.of_subset (fun _ hx => s.subset hx) (Nat.le_trans s.length_le h.n)
theorem Nms.filter {ns : List Str} (h : Nms ns) (p : Str → Bool) : Nms (ns.filter p) := h.sub List.filter_sublist
theorem Nms.app {xs ys : List Str} (a : Nms xs) (b : Nms ys) (h : xs.length + ys.length < 64) : Nms (xs ++ ys) :=
  ⟨fun x hx => (List.mem_append.mp hx).elim (a.ok x) (b.ok x), by rw [List.length_append]; omega, Nat.lt_of_le_of_lt (cset_len _) (by rw [List.length_append]; omega)⟩
/-! two rows of names -/
section
variable {a b : List Str}
theorem m_or : cset (cset a ++ cset b) = cset (a ++ b) := cset_ext fun x => by simp [cset_mem]
theorem m_and : cset ((cset a).filter fun x => decide (x ∈ cset b)) = cset (a.filter fun x => decide (x ∈ b)) := cset_ext fun x => by simp [List.mem_filter, cset_mem]
theorem m_sub : cset ((cset a).filter fun x => decide (x ∉ cset b)) = cset (a.filter fun x => decide (x ∉ b)) := cset_ext fun x => by simp [List.mem_filter, cset_mem]
theorem m_xor : cset ((cset a ++ cset b).filter fun x => !decide (decide (x ∈ cset a) = decide (x ∈ cset b))) = cset ((a.filter fun x => decide (x ∉ b)) ++ b.filter fun x => decide (x ∉ a)) := cset_ext fun x => by
  by_cases h1 : x ∈ a <;> by_cases h2 : x ∈ b <;> simp [List.mem_filter, cset_mem, h1, h2]
theorem m_le : ((cset a).all fun x => decide (x ∈ cset b)) = decide ((a.filter fun x => decide (x ∉ b)) = []) := by
  rw [Bool.eq_iff_iff]
  simp [List.all_eq_true, cset_mem, List.filter_eq_nil_iff]
theorem m_eq : decide (cset a = cset b) = (decide ((a.filter fun x => decide (x ∉ b)) = []) && decide ((b.filter fun x => decide (x ∉ a)) = [])) := by
  rw [Bool.eq_iff_iff]
  simp only [decide_eq_true_eq, cset_iff, Bool.and_eq_true, List.filter_eq_nil_iff, Decidable.not_not]
  exact ⟨fun h => ⟨fun x hx => (h x).mp hx, fun x hx => (h x).mpr hx⟩, fun h x => ⟨h.1 x, h.2 x⟩⟩
end
end Ax

/-! Texts joined by a sign and split at it. -/
namespace Ax
open PySem PySem.Spec PyProof.Rows L2
theorem jn_len {S : List Nat} : ∀ ps : List (List Nat), (TL.joinL S ps).length ≤ (ps.map fun p => p.length + S.length).sum
  | [] => Nat.zero_le _
  | [p] => by simp [TL.joinL]
  | p :: q :: r => by
    have := jn_len (S := S) (q :: r)
    simp only [TL.joinL, List.length_append, List.map_cons, List.sum_cons] at this ⊢
    omega
theorem sum_le {α : Type} {f : α → Nat} {m : Nat} : ∀ {l : List α}, (∀ x ∈ l, f x ≤ m) → (l.map f).sum ≤ l.length * m
  | [], _ => by simp
  | x :: l, h => by
    have h1 := h x List.mem_cons_self
    have h2 := sum_le (f := f) (m := m) (l := l) fun y hy => h y (List.mem_cons_of_mem _ hy)
    simp only [List.map_cons, List.sum_cons, List.length_cons, Nat.succ_mul]
    omega
theorem join_tl (y : Str) (ns : List Str) : (Txt.join y ns).cps.toList = TL.joinL y.cps.toList (ns.map fun x => x.cps.toList) := by
  rw [TL.join_eq]; exact TL.tl_join y ns
theorem join_len {y : Str} {m : Nat} {ns : List Str} (h : ∀ x ∈ ns, x.length ≤ m) : (Txt.join y ns).length ≤ ns.length * (m + y.length) := by
  rw [← toList_len, join_tl]
  refine Nat.le_trans (jn_len _) ?_
  rw [List.map_map]
  exact sum_le fun x hx => by show x.cps.toList.length + y.cps.toList.length ≤ _; rw [Ax.toList_len, Ax.toList_len]; have := h x hx; omega
theorem join_fit {a : Str} {m k : Nat} {ns : List Str} (h : ∀ x ∈ ns, x.length ≤ m) (hk : ns.length ≤ k) (hb : k * m + k * a.length ≤ 16777216) : (ns.map (·.length)).sum + ns.length * a.length ≤ 16777216 := by
  have h1 := sum_le (f := fun x : Str => x.length) h
  have h2 : ns.length * m ≤ k * m := Nat.mul_le_mul_right _ hk
  have h3 : ns.length * a.length ≤ k * a.length := Nat.mul_le_mul_right _ hk
  omega
theorem join_ne {y : Str} {ns : List Str} (h : ∀ x ∈ ns, 1 ≤ x.length) (e : Txt.join y ns = "") : ns = [] := by
  cases ns with
  | nil => rfl
  | cons x r =>
    have h1 := congrArg (fun z : Str => z.cps.toList) e
    simp only [join_tl] at h1
    have h2 := h x List.mem_cons_self
    rw [← Ax.toList_len] at h2
    cases r with
    | nil =>
      have h3 : x.cps.toList = [] := h1
      rw [h3] at h2; simp at h2
    | cons z r =>
      have h3 : x.cps.toList ++ (y.cps.toList ++ TL.joinL y.cps.toList ((z :: r).map fun x => x.cps.toList)) = [] := h1
      have h4 : x.cps.toList = [] := (List.append_eq_nil_iff.mp h3).1
      rw [h4] at h2; simp at h2
theorem nm_free {x : Str} (h : isNm x = true) {c : Nat} (hc : alnB c = false) : c ∉ x.cps.toList := fun m => by
  have := (isNm_iff h).2.1 c m
  rw [hc] at this; cases this
theorem join_le {ns : List Str} (h : ∀ x ∈ ns, isNm x = true) (hl : ns.length ≤ 1000) : (ns.map (·.length)).sum + ns.length * (" " : Str).length ≤ 16777216 :=
  join_fit (m := 8) (k := 1000) (fun x hx => (isNm_iff (h x hx)).2.2.2) hl (by decide +kernel)
theorem read_split {ns : List Str} (h : ∀ x ∈ ns, isNm x = true) (hn : ns ≠ []) : Txt.split (Txt.join " " ns) " " = ns :=
  TL.split_join (y := " ") (s := 32) (S := []) (by decide +kernel) (by decide +kernel) hn fun x hx => nm_free (h x hx) (by decide +kernel)
theorem read_ne {ns : List Str} (h : ∀ x ∈ ns, isNm x = true) (e : Txt.join " " ns = "") : ns = [] := join_ne (fun x hx => (isNm_iff (h x hx)).2.2.1) e
theorem read_len {ns : List Str} (h : ∀ x ∈ ns, isNm x = true) (hl : ns.length ≤ 1000) : (Txt.join " " ns).length ≤ 9000 := by
  have h1 := join_len (y := " ") (m := 8) fun x hx => (isNm_iff (h x hx)).2.2.2
  have h2 : ns.length * (8 + (" " : Str).length) ≤ 1000 * 9 := Nat.mul_le_mul hl (by decide +kernel)
  omega
end Ax

/-! What an __init__ promises; a class called. -/
namespace Ax
open PySem PySem.Spec PyProof.Rows L2 SlX StX
/-- self is the def's own, its class at C; A: the arguments, R: the fields -/
def spInitX {α : Type} (C : Addr) (A : α → List V → Hp → Prop) (R : α → List (Str × V) → Hp → Prop) (X : α → Value → Option Addr → Hp → Prop) : Sp := fun vs H Q E =>
  ∃ (x : α) (a dx : Addr) (args : List V) (G Hm : Hp), vs = .ref a :: args ∧ A x args G ∧ H a = some (.ins C dx []) ∧ Hm a = none ∧ G a = none ∧ Nx G Hm G H ∧
    (∀ fs G' H', Nx G Hm G' H' → H' a = some (.ins C dx fs) → G' a = none → R x fs G' → Q .non H') ∧ ∀ c d G' H', Nx G Hm G' H' → X x c d G' → E c d H'
section
variable {α : Type} {C : Addr} {A : α → List V → Hp → Prop} {R : α → List (Str × V) → Hp → Prop} {X : α → Value → Option Addr → Hp → Prop}
theorem mk_x (up : ∀ x fs G G', Same G G' → R x fs G → R x fs G') {G0 H0 G H : Hp} {args : List V} {Q : VK} {E : XK} (N : Nx G0 H0 G H) (x : α) (ha : A x args G)
    (k : ∀ p dx fs G' H', Nx G0 H0 G' H' → Nx G H G' H' → G' p = some (.ins C dx fs) → R x fs G' → Q (.ref p) H') (kx : ∀ c d G' H', Nx G0 H0 G' H' → Nx G H G' H' → X x c d G' → E c d H') : rMk C (spInitX C A R X) E args H Q := by
  intro y dy hy hdy hne
  have s1 : Same H (upd (upd H dy (.own y)) y (.ins C dy [])) := (same_new hdy).trans (same_new (by rw [upd_ne (Ne.symm hne)]; exact hy))
  have n1 : Nx G H G (upd (upd H dy (.own y)) y (.ins C dy [])) := (Nx.refl N.h).more s1
  refine ⟨x, y, dy, args, G, H, rfl, ha, upd_same, hy, N.h.free hy, n1, fun fs G' H' n h1 h2 r => ?_, fun c d G' H' n z => kx c d G' H' (N.trans n) n z⟩
  have n2 : Nx G H (upd G' y (.ins C dy fs)) H' := n.fz h1 hy h2
  exact ⟨rfl, k y dy fs _ H' (N.trans n2) n2 upd_same (up x fs _ _ (same_new h2) r)⟩
theorem mk_x0 (up : ∀ x fs G G', Same G G' → R x fs G → R x fs G') {G0 H0 G H : Hp} {args : List V} {Q : VK} {E : XK} (N : Nx G0 H0 G H) (x : α) (ha : A x args G)
    (k : ∀ p dx fs G' H', Nx G0 H0 G' H' → Nx G H G' H' → G' p = some (.ins C dx fs) → R x fs G' → Q (.ref p) H') : rMk C (spInitX C A R NoX) E args H Q :=
  mk_x up N x ha k fun _ _ _ _ _ _ z => z.elim
variable {P : Program} {w : World} {K : PySem.W.Frag} {mg : Str → Option Value} {base : Heap} {k : Nat} {f : Addr}
/-- __init__(self, *v) -/
theorem init_star (upA : ∀ x vs G G', Same G G' → A x vs G → A x vs G') (len : ∀ x vs G, A x vs G → vs.length ≤ sizeLine)
    (F : FnR P w K mg base (L2.CX P w) k f (fun vs H Q E => ∃ ws rest, vs = ws ++ rest ∧ ws.length = 1 ∧ rest.length ≤ sizeLine ∧ ∀ p, H p = Option.none →
      spInitX C (fun x args G => ∃ t rest, args = [.ref t] ∧ G t = some (.tup rest) ∧ A x rest G) R X (ws ++ [V.ref p]) (upd H p (.tup rest)) Q E)) : FnR P w K mg base (L2.CX P w) k f (spInitX C A R X) :=
  F.imp fun vs H Q E ⟨x, a, dx, args, G, Hm, e, ha, h1, h2, h3, n, q, e'⟩ => by
    subst e
    refine ⟨[.ref a], args, rfl, rfl, len x args G ha, fun p hp => ⟨x, a, dx, [.ref p], upd G p (.tup args), Hm, rfl, ⟨p, args, rfl, upd_same, upA x args _ _ (same_new (n.h.free hp)) ha⟩, ?_, h2, ?_, ?_, fun fs G' H' n' => q fs G' H' ?_, fun c d G' H' n' => e' c d G' H' ?_⟩⟩
    · rw [upd_ne (ne_of_none h1 hp)]; exact h1
    · rw [upd_ne (ne_of_none h1 hp)]; exact h3
    · have z := n.newk (o := .tup args) hp
      exact ⟨Same.refl _, z.h, z.e, fun b hb => .inl hb⟩
    · exact back n hp n'
    · exact back n hp n'
where back {G Hm H G' H' : Hp} {p : Addr} {o : HO} (n : Nx G Hm G H) (hp : H p = none) (n' : Nx (upd G p o) Hm G' H') : Nx G Hm G' H' :=
  ⟨(same_new (n.h.free hp)).trans n'.g, n'.h, n'.e, fun b hb => by
    by_cases e : b = p
    · subst e; exact .inr (n.e.free hp)
    · rcases n'.n b hb with z | z
      · rw [upd_ne e] at z; exact .inl z
      · exact .inr z⟩
end
abbrev spColsInit (C : Addr) : Sp := spInitX C (fun (ns : List Str) vs _ => vs = ns.map V.str ∧ Nms ns) (fun ns fs G => ∃ t, fs = colsF t ∧ G t = some (.tup ((cset ns).map V.str))) NoX
theorem Nms.cset {ns : List Str} (h : Nms ns) : Nms (cset ns) := h.of_subset (fun _ hx => cset_mem.mp hx) (Nat.le_trans (cset_len _) h.n)
section
variable {K : PySem.W.Frag} {C : Addr} {G0 H0 G H : Hp} {Q : VK} {E : XK}
theorem mk_cols (N : Nx G0 H0 G H) (ns : List Str) (hn : Nms ns) (k : ∀ p G' H', Nx G0 H0 G' H' → Nx G H G' H' → ColsAt C G' p (cset ns) → Q (.ref p) H') : rMk C (spColsInit C) E (ns.map V.str) H Q :=
  mk_x0 (fun _ _ _ _ s ⟨t, h1, h2⟩ => ⟨t, h1, s _ _ h2⟩) N ns ⟨rfl, hn⟩ fun p dx fs G' H' N' n' hp ⟨t, h1, h2⟩ => by
    subst h1
    exact k p G' H' N' n' ⟨⟨dx, t, hp, h2⟩, cset_ss _, hn.cset.ok, hn.c⟩
theorem mk_colsT (N : Nx G0 H0 G H) {t : Addr} (ns : List Str) (ht : G t = some (.tup (ns.map V.str))) (hn : Nms ns) (k : ∀ p G' H', Nx G0 H0 G' H' → Nx G H G' H' → ColsAt C G' p (cset ns) → Q (.ref p) H') :
    ∃ a xs, V.ref t = V.ref a ∧ (SqT K H a xs ∨ SqL K H a xs) ∧ rMk C (spColsInit C) E xs H Q := ⟨t, _, rfl, .inl (sqT (N.h _ _ ht)), mk_cols N ns hn k⟩
theorem mk_colsL (N : Nx G0 H0 G H) {t : Addr} (ns : List Str) (ht : H t = some (.lst (ns.map V.str))) (hn : Nms ns) (k : ∀ p G' H', Nx G0 H0 G' H' → Nx G H G' H' → ColsAt C G' p (cset ns) → Q (.ref p) H') :
    ∃ a xs, V.ref t = V.ref a ∧ (SqT K H a xs ∨ SqL K H a xs) ∧ rMk C (spColsInit C) E xs H Q := ⟨t, _, rfl, .inr (sqL ht), mk_cols N ns hn k⟩
theorem fld_names {a : Addr} {ns : List Str} (c : Cls K C) (na : NoAttr K C "names") (h : ColsAt C G a ns) (s : Same G H) (q : ∀ t, G t = some (.tup (ns.map V.str)) → Q (.ref t) H) :
    ∃ a' C dx fs v, V.ref a = .ref a' ∧ H a' = some (.ins C dx fs) ∧ Cls K C ∧ NoAttr K C "names" ∧ fs.lookup ("names" : Str) = some v ∧ Q v H := by
  obtain ⟨dx, t, h1, h2⟩ := h.at_
  exact ⟨a, C, dx, colsF t, .ref t, rfl, s _ _ h1, c, na, rfl, q t h2⟩
theorem fld_v {σ : L2.St} {i : Nat} {a : Addr} {ns : List Str} (hσ : σ[i]? = some (some (V.ref a))) (c : Cls K C) (na : NoAttr K C "names") (h : ColsAt C G a ns) (s : Same G H) (q : ∀ t, G t = some (.tup (ns.map V.str)) → Q (.ref t) H) :
    tFld K (tVar i) "names" σ H Q := w_fld (w_var hσ (fld_names c na h s q))
theorem cols_ins {a : Addr} {ns : List Str} (h : ColsAt C G a ns) (s : Same G H) : Ins H a C := let ⟨dx, t, h1, _⟩ := h.at_; ⟨dx, _, s _ _ h1⟩
/-- two column sets -/
abbrev ACols2 (C : Addr) : ((Addr × List Str) × Addr × List Str) → List V → Hp → Prop := fun d vs G => vs = [.ref d.1.1, .ref d.2.1] ∧ ColsAt C G d.1.1 d.1.2 ∧ ColsAt C G d.2.1 d.2.2
abbrev ACols (C : Addr) : (Addr × List Str) → List V → Hp → Prop := fun d vs G => vs = [.ref d.1] ∧ ColsAt C G d.1 d.2
abbrev RCols (C : Addr) {α : Type} (f : α → List Str) : α → V → Hp → Prop := fun d v G => ∃ p, v = .ref p ∧ ColsAt C G p (f d)
abbrev RBool {α : Type} (f : α → Bool) : α → V → Hp → Prop := fun d v _ => v = .bl (f d)
theorem bnot_ne {α : Type} [DecidableEq α] {x y : α} : (!decide (x = y)) = decide (x ≠ y) := by by_cases h : x = y <;> simp [h]
theorem rb_t {α : Type} {f : α → Bool} {d : α} {v : V} {G : Hp} (r : RBool f d v G) (h : f d = true) : v = .bl true := (show v = .bl (f d) from r).trans (by rw [h])
abbrev spColsOr (C : Addr) : Sp := spX (fun d vs G => ACols2 C d vs G ∧ Nms (d.1.2 ++ d.2.2)) (RCols C fun d => cset (d.1.2 ++ d.2.2)) NoX
abbrev spColsAnd (C : Addr) : Sp := spX (ACols2 C) (RCols C fun d => cset (d.1.2.filter fun x => decide (x ∈ d.2.2))) NoX
abbrev spColsSub (C : Addr) : Sp := spX (ACols2 C) (RCols C fun d => cset (d.1.2.filter fun x => decide (x ∉ d.2.2))) NoX
abbrev spColsXor (C : Addr) : Sp := spX (fun d vs G => ACols2 C d vs G ∧ Nms (d.1.2 ++ d.2.2)) (RCols C fun d => cset ((d.1.2 ++ d.2.2).filter fun x => !decide (decide (x ∈ d.1.2) = decide (x ∈ d.2.2)))) NoX
abbrev spColsEq (C : Addr) : Sp := spX (ACols2 C) (RBool fun d => decide (d.1.2 = d.2.2)) NoX
abbrev spColsLe (C : Addr) : Sp := spX (ACols2 C) (RBool fun d => d.1.2.all fun x => decide (x ∈ d.2.2)) NoX
abbrev spColsLt (C : Addr) : Sp := spX (ACols2 C) (RBool fun d => !decide (d.1.2 = d.2.2) && d.1.2.all fun x => decide (x ∈ d.2.2)) NoX
abbrev spColsContains (C : Addr) : Sp := spX (fun (d : (Addr × List Str) × Str) vs G => vs = [.ref d.1.1, .str d.2] ∧ ColsAt C G d.1.1 d.1.2) (RBool fun d => decide (d.2 ∈ d.1.2)) NoX
abbrev spColsLen (C : Addr) : Sp := spX (ACols C) (fun d v _ => v = .int d.2.length) NoX
abbrev spColsText (C : Addr) : Sp := spX (ACols C) (fun d v _ => v = .str (Txt.join " " d.2)) NoX
abbrev spColsRead (C : Addr) : Sp := spX (fun (ns : List Str) vs _ => vs = [.ref C, .str (Txt.join " " ns)] ∧ Nms ns) (RCols C fun ns => cset ns) NoX
end
end Ax

/-! Own instances that are walked: __iter__ gives a tuple's iterator. -/
namespace Ax
open PySem PySem.Spec PyProof.Rows L2 SlX StX ItX
abbrev titObj (t : Addr) : Obj := { cls := .type "tuple_iterator", data := .fields #[.ref t, .int 0 0] }
/-- a fresh iterator of the tuple at t -/
def TIt (t it : Addr) : HO := .ext fun h => h.get? it = some (titObj t)
theorem tit_ok {P : Program} {w : World} {H : Hp} {h : Heap} {t it : Addr} (e : h.get? it = some (titObj t)) : ObjOk P w H h it (TIt t it) := ⟨e, ⟨_, e⟩, fun _ _ a k => k _ a⟩
/-! ### iter(t) -/
def rIterT (K : PySem.W.Frag) (n : Nat) : List V → Hp → VK → Prop := fun xs H Q => ∃ (t : Addr) (zs : List V), xs = [.ref t] ∧ SqT K H t zs ∧ ∀ it, n ≤ it → H it = none → Q (.ref it) (upd H it (TIt t it))
theorem call_iterT {X : Cx} {K : PySem.W.Frag} {n : Nat} (hK : X.K = K) (hn : X.s_0.heap.objs.size = n) : CallR X (.builtin "iter") (rIterT K n) := by
  subst hK
  subst hn
  intro pins s σ H xs us Q I r h
  obtain ⟨t, zs, rfl, hq, q⟩ := h
  obtain ⟨u, rfl, ru⟩ := vals1 r
  cases ru
  obtain ⟨its, rv, pl, hz⟩ := I.tuple hq
  refine Calls.call_function_entry (by decide +kernel) (by decide +kernel) PySem.W.kdk_entry_iter (PySem.W.kdk_args_iter _) ?_
  unfold Builtin.«iter»
  refine wpAny_bind (m := someArgs "iter" 1 2 _) (wpAny_of_eq (a := [Value.ref t]) (by first | rfl | kernel_rfl!) ?_)
  show wpAny _ _ (pyIter (.ref t) >>= _) _ _ _
  refine wpAny_bind (wpAny_pyIter_tuple (show s.heap.IsTuple t its.toArray from pl) ?_)
  exact wpAny_pure ⟨_, rfl, .ref s.heap.objs.size, _, I.laid (t' := s.toks) (fun b u e => Heap.get?_push_of_some _ e) (Nat.le_refl _) (tit_ok (Heap.get?_push_size _ rfl)), rfl, q _ I.sz (I.hok.fresh (Nat.le_refl _))⟩
/-- an __iter__ that gives an iterator of the tuple t -/
def FnIt (P : Program) (w : World) (K : PySem.W.Frag) (mg : Str → Option Value) (base : Heap) (CX : CXT) (k : Nat) (f : Addr) (A : Addr → Hp → Addr → Prop) : Prop :=
  ∀ (Ar : Around) (outer : List Env) (s : Shared) (H : Hp) (a t : Addr) (Q : VK) (E : XK), Room k Ar → Env0 P w K mg base Ar outer s H → A a H t → (∀ it, s.heap.objs.size ≤ it → H it = none → Q (.ref it) (upd H it (TIt t it))) →
    codeAny (model P w) Ar (.call (.ref f) ⟨[.ref a], []⟩) (CR CX outer P w H s Q E) s
theorem FnIt.mono {P : Program} {w : World} {K : PySem.W.Frag} {mg : Str → Option Value} {base : Heap} {CX : CXT} {j k : Nat} {f : Addr} {A : Addr → Hp → Addr → Prop} (F : FnIt P w K mg base CX j f A) (h : j ≤ k) : FnIt P w K mg base CX k f A :=
  fun Ar outer s H a t Q E hr => F Ar outer s H a t Q E (hr.mono h)
theorem fnIt_of {P : Program} {w : World} {K : PySem.W.Frag} {mg : Str → Option Value} {base : Heap} {d : DfX} {f : Addr} {N : List Str} {p1 : Str} {k : Nat} {A : Addr → Hp → Addr → Prop} (F : FunX K d f) (S : FnScope N [p1] d.scope)
    (hb : ∀ (kV doc pm : Value) (an : Option Addr) (cdv ct : Value) (us : List Value), us.length = [p1].length → bindArgs (PySem.W.fnOf d.name d.qual d.params d.body d.scope .none kV doc pm an cdv ct) ⟨us, []⟩ = pure ([p1].zip us))
    (hbody : ∀ (cdv : Value) (Ar : Around) (outer : List Env) (s : Shared) (H : Hp) (a t : Addr) (Q : VK) (E : XK), Room k (Ar.deeper (envOfC d.qual d.scope s.heap.objs.size f cdv)) → A a H t → (∀ it, s.heap.objs.size ≤ it → H it = none → Q (.ref it) (upd H it (TIt t it))) →
      ∃ t, PSs (cxOf (L2.CX P w) P w K mg base N d.qual d.scope f cdv Ar outer s H E) d.body t ∧ t { nx := fun _ H' => Q .non H', rt := Q } (start N [.ref a]) H) : FnIt P w K mg base (L2.CX P w) (k + 1) f A := by
  obtain ⟨fd, oc, od, dV, kV, doc, pm, an, cdv, ct, osl, rfl, lk, hcd, hD, hK⟩ := (show ∃ fd, _ from let ⟨fd, F⟩ := F; ⟨fd, F.ex⟩)
  obtain rfl : dV = .none := by
    rcases hD with ⟨_, e⟩ | ⟨e, _⟩
    · exact e
    · exact absurd rfl e
  intro Ar outer s H a t Q E hr e0 hA hQ
  have KX : K.In s.heap := e0.mod.kin.keeps fun b o e => (e0.bs b o e).1
  have bd := hb kV doc pm an cdv ct [.ref a] rfl
  have r1 : Vals [V.ref a] [Value.ref a] := .cons rfl .nil
  refine codeAny_call_function hr.depth (KX _ _ lk) rfl S.co S.gen rfl (PySem.W.codeRec_of KX hcd) ?_
  rw [bd]
  refine wpAny_pure (wpAny_newFunctionEnv_cells S.kind (fun y hy => ?_) fun env he s1 x => ?_)
  · rcases S.par y.1 (List.of_mem_zip hy).1 with q | q
    · exact .inl q
    · exact .inr ⟨q, PySem.W.cellsFrom_some _ _ _ (.inl q)⟩
  subst he
  refine ⟨(e0.mod.nolimit.keeps fun b o e => (e0.bs b o e).1).keeps x.toInCall.keep, codeAny_func ?_⟩
  obtain ⟨rd, hd, hq⟩ := hbody cdv Ar outer s H a t Q E (hr.deeper _) hA hQ
  refine wpAny_mono (hd.run [] s1 _ H _ (inv_start S hr.hd e0 rfl r1 x) hq) (fun fl s' hs => ?_) fun e s' hs => hs
  cases fl with
  | ret u =>
    obtain ⟨v, σ', H', J, rv, q⟩ := hs
    exact ⟨v, H', J.os, J.bare, J.base, J.hok, rv, q⟩
  | next =>
    obtain ⟨σ', H', J, q⟩ := hs
    exact ⟨.non, H', J.os, J.bare, J.base, J.hok, rfl, q⟩
  | brk =>
    obtain ⟨_, _, _, q⟩ := hs
    exact q.elim
  | cont =>
    obtain ⟨_, _, _, q⟩ := hs
    exact q.elim
section
variable {X : Cx} {CX : CXT} {k : Nat} {C gi gl : Addr} {A : Addr → Hp → Addr → Prop} {sp : Sp} {E : XK} {K : PySem.W.Frag}
/-- pyIter of an own instance: the iterator stands, untracked -/
theorem own_iter {pins : List (Addr × Obj)} {σ : L2.St} {H : Hp} {s : Shared} {A1 : Around} {a t : Addr} {Q : Value → Shared → Prop} (hs : PySem.W.findIn X.K (.ref C) "__iter__" = some (some (.ref gi))) (hf : PySem.W.isFn X.K (.ref gi) = true)
    (F : FnIt X.prog X.w X.K X.mg X.base (L2.CX X.prog X.w) k gi A) (hr : Room k A1) (hfr : A1.frames = X.A.frames) (I : Inv X pins σ H s) (ha : Ins H a C) (hA : A a H t)
    (q : ∀ it s2, Inv X pins σ H s2 → s2.heap.get? it = some (titObj t) → FpOk X pins H it → s.heap.objs.size ≤ it → Q (.ref it) s2) : wpAny (model X.prog X.w) A1 (pyIter (.ref a)) Q X.xe s := by
  obtain ⟨_, _, J⟩ := ins_at I ha
  obtain ⟨m, hF⟩ := I.fr
  refine PySem.W.owit_iter hF I.ok.mod.kin J hs hf ?_
  have e0 : Env0 X.prog X.w X.K X.mg X.base A1 X.stack s H := by
    have e := I.env0
    exact ⟨by rw [hfr]; exact e.frames, e.mod, e.bs, e.bsz, e.funs, e.frf, e.hok, e.bare⟩
  refine wpAny_call (codeAny_mono (F A1 X.stack s H a t (fun v H' => ∃ it, v = .ref it ∧ s.heap.objs.size ≤ it ∧ H it = none ∧ H' = upd H it (TIt t it)) E0 hr e0 hA fun it h1 h2 => ⟨it, rfl, h1, h2, rfl⟩) fun r s' hq => ?_)
  cases r with
  | error e =>
    obtain ⟨_, _, _, _, _, _, _, _, _, _, _, _, z⟩ := hq
    exact z.elim
  | ok fl =>
    cases fl with
    | ret u =>
      obtain ⟨v, H', I', rv, it, rfl, h1, h2, rfl⟩ := I.after hq
      cases (show u = Value.ref it from rv)
      have eo : s'.heap.get? it = some (titObj t) := (I'.hok it _ upd_same).1
      have hT : s'.TypeIs (.ref it) "tuple_iterator" := ⟨_, eo, rfl⟩
      have I2 := inv_drop I' (a := it) (φ := fun h => h.get? it = some (titObj t)) upd_same
      have fp := inv_fp I' (a := it) (u := TIt t it) upd_same (Nat.le_trans I.sz h1)
      rw [dropH_upd h2] at I2 fp
      show wpAny _ _ (specialOf (.ref it) "__next__") _ _ _
      exact wpAny_specialOf hT PySem.F.slot_tuple_iterator_next.lookup (q it s' I2 eo fp h1)
    | next => exact hq.elim
    | brk => exact hq.elim
    | cont => exact hq.elim
/-- for x in o -/
def iOwn (C : Addr) (A : Addr → Hp → Addr → Prop) (K : PySem.W.Frag) (te : TE) : TI := fun σ H R => te σ H fun v H1 => ∃ a t, v = .ref a ∧ Ins H1 a C ∧ A a H1 t ∧ R (Itt K t) H1
theorem pi_own {tg e : Expr} {te : TE} (hK : X.K = K) (hs : Meth K C "__iter__" gi) (F : FnIt X.prog X.w K X.mg X.base (L2.CX X.prog X.w) k gi A) (hr : Room k X.A) (he : PE X e te) : PI X tg e (iOwn C A K te) := by
  subst hK
  refine ⟨fun pins s σ H R I h => ?_⟩
  refine thn (he.run pins s σ H _ I h) fun v s1 ⟨x, H1, I1, r1, a, t, ex, ha, hA, q⟩ => ?_
  subst ex
  cases r1
  refine own_iter hs.at_ hs.fn F hr rfl I1 ha hA fun it s2 I2 eo fp _ => ?_
  refine ⟨it, [it], _, _, H1, rfl, I2, turn_tuple t it, ⟨_, eo, rfl, rfl⟩, fun b hb => ?_, q⟩
  have e : b = it := by simpa using hb
  rw [e]; exact fp
theorem items_eq {xs : List Value} {acc : Array Value} (h : ItemsOf (fun i v => xs.toArray[i]? = some v) acc xs.toArray.size) : acc = xs.toArray := by
  obtain ⟨h1, h2⟩ := h
  refine Array.ext h1 fun i hi hj => ?_
  have e : acc[i]? = some acc[i] := Array.getElem?_eq_getElem hi
  have : xs.toArray[i]? = some acc[i] := h2 i _ e
  rw [Array.getElem?_eq_getElem hj] at this
  exact (Option.some.inj this).symm
/-- the loop at its end: the list q is filled, the iterator is forgotten -/
theorem loop_done {pins : List (Addr × Obj)} {σ : L2.St} {H : Hp} {s s' : Shared} {q it : Addr} {zs : List V} {its : List Value} {c0 c : Nat} {old : List Value} {ys : List V} (I : Inv X pins σ H s) (hq : H q = some (.lst ys)) (fp : FpOk X pins H it) (rv : Vals zs its) (hz : zs.length ≤ sizeLine)
    (hqs : s.heap.get? q = some { cls := .type "list", data := .seq old.toArray c0 }) (m : Moved [q, it] (fun a b => b = a) s s') (hq' : s'.heap.get? q = some { cls := .type "list", dict := none, data := .seq its.toArray c, slots := #[] }) : Inv X pins σ (upd H q (.lst zs)) s' := by
  have hne : q ≠ it := fun e => by rw [e, fp.1] at hq; cases hq
  obtain ⟨h', g', d', tk', os'⟩ := s'
  have eg : g' = s.gens := m.gens
  have eo : os' = s.os := m.os
  subst eg eo
  let hm := h'.update q (fun _ => { cls := .type "list", data := .seq old.toArray c0 })
  have hm1 : hm.get? q = some { cls := .type "list", data := .seq old.toArray c0 } := Heap.get?_update_self (fun _ => { cls := .type "list", data := .seq old.toArray c0 }) hq' rfl
  have J : Inv X pins σ H { s with heap := hm, toks := tk' } := I.turned (it := it) (fun b o nb e => by
    by_cases hb : b = q
    · subst hb; rw [hqs] at e; cases e; exact hm1
    · exact (Heap.get?_update_other _ _ (Ne.symm hb)).trans (m.heap b o (by simp [hb, nb]) e)) fp.1 fp.2.1 fp.2.2.2.1 fp.2.2.2.2.1 fp.2.2.2.2.2
  have mu : Mut (H q) := by rw [hq]; exact True.intro
  have J2 := J.write (x := q) (e := q) (o := .lst zs) (h' := h') (t' := tk') mu (.inl rfl) (fun b o nb e => by
    have := (Heap.get?_update_other h' (fun _ => ({ cls := .type "list", data := .seq old.toArray c0 } : Obj)) (Ne.symm nb)).symm.trans e
    exact this) ⟨_, hq'⟩ ⟨hz, its, c, rv, hq'⟩
  have ed : d' = s.drawn := m.drawn
  subst ed
  exact J2
/-- behind the hint -/
theorem ext_loop {pins : List (Addr × Obj)} {σ : L2.St} {H : Hp} {s : Shared} {A1 : Around} {q it t : Addr} {zs : List V} {its : List Value} {c0 : Nat} {Q : VK} (I : Inv X pins σ H s) (hq : H q = some (.lst [])) (fp : FpOk X pins H it) (eo : s.heap.get? it = some (titObj t))
    (rz : Vals zs its) (pl : IsTup s.heap t its.toArray) (hz : zs.length ≤ sizeLine) (eq0 : s.heap.get? q = some { cls := .type "list", data := .seq #[] c0 }) (hti : t ≠ it) (hh : A1.in1.handled = none) (hQ : Q (.ref q) (upd H q (.lst zs))) :
    codeAny (model X.prog X.w) A1 (.builtin "list.extend.loop" ⟨[.ref q, .ref it, .none], []⟩) (wants (fun r s₂ => r = .none ∧ EP X pins σ Q (.ref q) s₂) X.xe) s := by
  have hsz : its.toArray.size ≤ sizeLine := by rw [List.size_toArray, ← rz.length]; exact hz
  have hqt : q ∉ [it, t] := by
    have h1 : q ≠ it := fun e => by rw [e, fp.1] at hq; cases hq
    have h2 : q ≠ t := fun e => by
      obtain ⟨o, ho, hc, _⟩ := pl
      rw [← e, eq0] at ho
      cases Option.some.inj ho
      have z : (Value.type "list") = Value.type "tuple" := hc
      injection z with z
      exact absurd z (by decide)
    simp [h1, h2]
  refine codeAny_extend_loopS (Walks.tuple (prog := X.prog) (w := X.w) (A := A1.in1) hh it t hti its.toArray).toS hsz q hqt .none _ 0 s #[] c0 rfl (Nat.zero_le _) ⟨⟨_, eo, rfl, rfl⟩, pl⟩ eq0 (ItemsOf.nil _) fun s' acc c hm hs' hacc => ?_
  obtain rfl := items_eq hacc
  exact ⟨rfl, .ref q, _, loop_done (old := []) I hq fp rz hz eq0 hm hs', rfl, hQ⟩
theorem ext_own {pins : List (Addr × Obj)} {σ : L2.St} {H : Hp} {s : Shared} {A1 : Around} {a q t : Addr} {zs : List V} {Q : VK} (hs : Meth X.K C "__iter__" gi) (F : FnIt X.prog X.w X.K X.mg X.base (L2.CX X.prog X.w) k gi A) (hl : Meth X.K C "__len__" gl)
    (FL : FnR X.prog X.w X.K X.mg X.base (L2.CX X.prog X.w) k gl sp) (hr : Room (k + 1) A1.in1) (hfr : A1.in1.frames = X.A.frames) (I : Inv X pins σ H s) (hq : H q = some (.lst [])) (ha : Ins H a C) (hA : A a H t) (hzl : zs.length ≤ 100000)
    (hsp : sp [.ref a] H (fun r H2 => ∃ n : Nat, r = .int n ∧ n < 2 ^ 63 ∧ ∃ m : Nat, V.int n = .int m ∧ m ≤ 100000 ∧ H2 q = some (.lst []) ∧ SqT X.K H2 t zs ∧ Q (.ref q) (upd H2 q (.lst zs))) E0) :
    wpAny (model X.prog X.w) A1.in1 (Builtin.List.listExtendWith (.ref q) (.ref a) .none)
      (fun fin s' => match fin with | .done f => wants (fun r s₂ => r = .none ∧ EP X pins σ Q (.ref q) s₂) X.xe (.ok f) s' | .again c' => c'.quiet = true ∧ codeAny (model X.prog X.w) A1 c' (wants (fun r s₂ => r = .none ∧ EP X pins σ Q (.ref q) s₂) X.xe) s')
      (fun e s' => wants (fun r s₂ => r = .none ∧ EP X pins σ Q (.ref q) s₂) X.xe (.error e) s') s := by
  have hne : q ≠ a := by
    obtain ⟨dx, fs, e⟩ := ha
    intro z
    rw [z, e] at hq; cases hq
  obtain ⟨_, _, J⟩ := ins_at I ha
  unfold Builtin.List.listExtendWith
  refine wpAny_bind (J.type.here ?_)
  have h1 : Builtin.List.listSameRef (.ref q) (.ref a) = false := by simp [Builtin.List.listSameRef, hne]
  have h2 : (Value.ref C == Value.type "list") = false := rfl
  have h3 : (Value.ref C == Value.type "tuple") = false := rfl
  simp only [h1, h2, h3, Bool.or_false, Bool.false_eq_true, if_false]
  refine wpAny_bind (own_iter hs.at_ hs.fn F (hr.mono (Nat.le_succ _)) hfr I ha hA fun it s2 I2 eo fp hge => ?_)
  have Ip : Inv X ((it, titObj t) :: pins) σ H s2 := I2.pins_of fun p hp => by
    rcases List.mem_cons.mp hp with e | e
    · subst e; exact ⟨eo, fp.1, fp.2.1, fp.2.2.1, fun v z => nomatch z⟩
    · exact I2.pin p (List.mem_append_right _ e)
  obtain ⟨_, _, J2⟩ := ins_at Ip ha
  refine wpAny_bind (wpAny_holding ?_)
  unfold Builtin.List.listLengthHint
  refine wpAny_bind (wpAny_bind (J2.type.here ((PySem.W.looks_findIn Ip.kIn hl.at_).here ?_)))
  refine PySem.W.KFB.if_not rfl ?_
  refine PySem.W.KFB.if_so rfl ?_
  refine wpAny_bind (wpAny_rule ?_)
  let X' : Cx := X.tr (X.pn ++ ((it, titObj t) :: pins)) fun _ _ => False
  have It : Inv X' [] σ H s2 := Ip.toTry _
  have e0 : Env0 X'.prog X'.w X'.K X'.mg X'.base A1.in1.in1 X'.stack s2 H := by
    have e := Ip.env0
    exact ⟨by
      show A1.in1.in1.frames = _
      rw [show A1.in1.in1.frames = A1.in1.frames from rfl, hfr]; exact e.frames, e.mod, e.bs, e.bsz, e.funs, e.frf, e.hok, e.bare⟩
  have hlen := len_at (X := X') (A := A1.in1) (CX := L2.CX X.prog X.w) (E := E0) (Q := fun v H2 => ∃ m : Nat, v = .int m ∧ m ≤ 100000 ∧ H2 q = some (.lst []) ∧ SqT X.K H2 t zs ∧ Q (.ref q) (upd H2 q (.lst zs))) hl.at_ hl.fn FL hr.in1 e0 passL It ha hsp
  refine wpAny_bind (wpAny_attempt (wpAny_mono hlen (fun u s4 hz => ?_) fun e s4 hz => hz.elim))
  obtain ⟨v, H4, I4, rv, m, rfl, hm, hq4, ht4, hQ⟩ := hz
  obtain ⟨tk, rfl⟩ := (show ∃ t, u = Value.int (m : Int) t from rv)
  have I4 := I4.ofTry I.ok
  have z4 := I4.pin (it, titObj t) (List.mem_append_right _ List.mem_cons_self)
  have eo4 : s4.heap.get? it = some (titObj t) := z4.1
  have I5 := ClX.unpin I4
  have fp4 : FpOk X pins H4 it := ⟨z4.2.1, fp.2.1, fp.2.2.1, fp.2.2.2.1, fp.2.2.2.2.1, fp.2.2.2.2.2⟩
  obtain ⟨its, rz, pl, hz'⟩ := I5.tuple ht4
  obtain ⟨z4, its0, c0, r0, hl0, eq0⟩ := I5.lstM hq4
  cases r0
  show wpAny _ _ (asInt? (Value.int (m : Int) tk) >>= _) _ _ _
  refine wpAny_bind (wpAny_pure ?_)
  refine PySem.W.KFB.if_not (by
    unfold Builtin.List.listTooLong
    rw [Int.toNat_natCast]
    exact decide_eq_false (by have := sz hm; omega)) ?_
  refine wpAny_pure ?_
  have hti : t ≠ it := fun e => by
    obtain ⟨o, ho, hc, _⟩ := pl
    rw [e, eo4] at ho
    cases Option.some.inj ho
    have z : (Value.type "tuple_iterator") = Value.type "tuple" := hc
    injection z with z
    exact absurd z (by decide)
  refine wpAny_ite_split (fun _ => ?_) (fun _ => wpAny_pure ⟨plainId_quiet PySem.F.plain_extend_loop _, ext_loop I5 hq4 fp4 eo4 rz pl hz' eq0 hti hr.hd hQ⟩)
  refine wpAny_bind (wpAny_rule ?_)
  refine wpAny_bind ?_
  show wpAny _ _ (updateSeq q (·.push .none) >>= fun _ => updateSeq q (·.pop)) _ _ _
  have I6 := I5.lset (f := (·.push Value.none)) (its' := [Value.none]) (ys := [.non]) (t' := s4.toks) hq4 eq0 (by simp) (.cons rfl .nil) (by rw [List.length_singleton, sizeLine_eq]; decide)
  obtain ⟨z6, its6, k6, r6, hl6, e6⟩ := I6.lstM upd_same
  obtain ⟨u6, rfl, ru6⟩ := r6.one
  have I7 := I6.lset (f := (·.pop)) (its := [u6]) (its' := []) (ys := []) (t' := s4.toks) upd_same e6 (by rfl) .nil (Nat.zero_le _)
  rw [upd_upd, upd_self hq4] at I7
  obtain ⟨z7, its7, k7, r7, hl7, e7⟩ := I7.lstM hq4
  cases r7
  have oth : ∀ b o, b ≠ q → s4.heap.get? b = some o → ((s4.heap.update q (Obj.mapSeq (·.push Value.none))).update q (Obj.mapSeq (·.pop))).get? b = some o :=
    fun b o hb e => (Heap.get?_update_other _ _ (Ne.symm hb)).trans ((Heap.get?_update_other _ _ (Ne.symm hb)).trans e)
  have hqi : it ≠ q := fun e => by rw [← e, fp4.1] at hq4; cases hq4
  have hqt : t ≠ q := fun e => by
    obtain ⟨o, ho, hc, _⟩ := pl
    rw [e, eq0] at ho
    cases Option.some.inj ho
    have z : (Value.type "list") = Value.type "tuple" := hc
    injection z with z
    exact absurd z (by decide)
  have fin := ext_loop (A1 := A1) (Q := Q) I7 hq4 fp4 (oth _ _ hqi eo4) rz (let ⟨o, ho, r⟩ := pl; ⟨o, oth _ _ hqt ho, r⟩) hz' e7 hti hr.hd hQ
  refine wpAny_bind (wpAny_updateSeq eq0 rfl ?_)
  exact wpAny_updateSeq e6 rfl (wpAny_pure ⟨plainId_quiet PySem.F.plain_extend_loop _, fin⟩) (by show 1 ≤ sizeLine; rw [sizeLine_eq]; decide) (by show 0 ≤ sizeLine + 1; exact Nat.zero_le _)
/-- list(o), o with __len__ -/
def rListO (C : Addr) (A : Addr → Hp → Addr → Prop) (K : PySem.W.Frag) (sp : Sp) : List V → Hp → VK → Prop := fun xs H Q => ∃ a, xs = [.ref a] ∧ Ins H a C ∧
  ∀ q, H q = none → ∃ t zs, A a (upd H q (.lst [])) t ∧ zs.length ≤ 100000 ∧ sp [.ref a] (upd H q (.lst [])) (fun r H2 => ∃ n : Nat, r = .int n ∧ n < 2 ^ 63 ∧ ∃ m : Nat, V.int n = .int m ∧ m ≤ 100000 ∧ H2 q = some (.lst []) ∧ SqT K H2 t zs ∧ Q (.ref q) (upd H2 q (.lst zs))) E0
theorem call_listO (hK : X.K = K) (hs : Meth K C "__iter__" gi) (F : FnIt X.prog X.w K X.mg X.base (L2.CX X.prog X.w) k gi A) (hl : Meth K C "__len__" gl) (FL : FnR X.prog X.w K X.mg X.base (L2.CX X.prog X.w) k gl sp) (hr : Room (k + 3) X.A) :
    CallR X (.type "list") (rListO C A K sp) := by
  subst hK
  intro pins s σ H xs us Q I rv h
  obtain ⟨a, rfl, ha, hq⟩ := h
  obtain ⟨u, rfl, ru⟩ := rv.one
  cases ru
  refine callType_codes (Q₁ := fun obj s₁ => obj = .ref s.heap.objs.size ∧ s₁ = { s with heap := s.heap.push { cls := .type "list", data := .seq #[] } }) PySem.F.called_list (PySem.F.typeCall_list_1 _) PySem.F.entry_list_init
    (code_list_new _ ⟨rfl, rfl⟩) fun obj s₁ h₁ => ?_
  obtain ⟨rfl, rfl⟩ := h₁
  have hS : (s.heap.push { cls := .type "list", data := .seq #[] }).get? s.heap.objs.size = some { cls := .type "list", data := .seq #[] } := Heap.get?_push_size _ rfl
  refine ⟨⟨_, hS, rfl⟩, PySem.F.args_list_init_2 _ _, ?_⟩
  have fr : H s.heap.objs.size = none := I.hok.fresh (Nat.le_refl _)
  obtain ⟨t, zs, hA, hzl, hsp⟩ := hq _ fr
  have I1 : Inv X pins σ (upd H s.heap.objs.size (.lst [])) { s with heap := s.heap.push { cls := .type "list", data := .seq #[] } } := I.lnew (its := []) (t' := s.toks) .nil (Nat.zero_le _)
  show wpAny _ _ (do let old ← Builtin.List.listItems (.ref s.heap.objs.size); Builtin.List.listUpdate (.ref s.heap.objs.size) (fun _ => #[]); letGo old.toList.reverse; Builtin.List.listExtendWith (.ref s.heap.objs.size) (.ref a) .none) _ _ _
  refine wpAny_bind ?_
  unfold Builtin.List.listItems
  refine wpAny_bind (wpAny_seqItems hS rfl (wpAny_pure ?_))
  show wpAny _ _ (updateSeq s.heap.objs.size (fun _ => #[]) >>= fun _ => letGo (#[] : Array Value).toList.reverse >>= fun _ => Builtin.List.listExtendWith (.ref s.heap.objs.size) (.ref a) .none) _ _ _
  refine wpAny_bind (wpAny_updateSeq hS rfl ?_)
  have I2 := I1.lset (f := fun _ => #[]) (its := []) (its' := []) (ys := []) (t' := s.toks) upd_same hS rfl .nil (Nat.zero_le _)
  rw [upd_upd] at I2
  refine wpAny_bind (wpAny_letGo ?_)
  have hne : s.heap.objs.size ≠ a := by
    obtain ⟨dx, fs, e⟩ := ha
    intro z
    rw [z, e] at fr; cases fr
  have ha2 : Ins (upd H s.heap.objs.size (.lst [])) a C := by
    obtain ⟨dx, fs, e⟩ := ha
    exact ⟨dx, fs, by rw [upd_ne (Ne.symm hne)]; exact e⟩
  refine ext_own (A1 := X.A.in1) hs F hl FL hr.in1.in1 rfl I2 upd_same ha2 hA hzl hsp
end
/-- the names' tuple of a column set -/
abbrev ItCols (C : Addr) : Addr → Hp → Addr → Prop := fun a H t => ∃ dx zs, H a = some (.ins C dx (colsF t)) ∧ H t = some (.tup zs)
theorem ins_of {H : Hp} {a C dx : Addr} {fs : List (Str × V)} (h : H a = some (.ins C dx fs)) : Ins H a C := ⟨dx, fs, h⟩
/-- list(a column set) -/
theorem list_cols {K : PySem.W.Frag} {C a : Addr} {ns : List Str} {G0 H0 G H : Hp} {Q : VK} (N : Nx G0 H0 G H) (h : ColsAt C G a ns) (k : ∀ p G' H', Nx G0 H0 G' H' → Nx G H G' H' → G' p = some (.lst (ns.map V.str)) → Q (.ref p) H') :
    rListO C (ItCols C) K (spColsLen C) [.ref a] H Q := by
  obtain ⟨dx, t, h1, h2⟩ := h.at_
  refine ⟨a, rfl, ins_of (N.h _ _ h1), fun q hq => ?_⟩
  obtain ⟨H1, e, N1, n1, hq1, gq, h0⟩ := nobjm N hq (.lst [])
  rw [e]; clear e
  refine ⟨t, ns.map V.str, ⟨dx, _, N1.h _ _ h1, N1.h _ _ h2⟩, by rw [List.length_map]; have := h.n; omega, ?_⟩
  refine cl0 N1 (a, ns) ⟨rfl, h⟩ fun v G2 H2 N2 n2 r => ?_
  obtain rfl : v = .int ns.length := r
  have hn := h.n
  refine ⟨ns.length, rfl, by omega, ns.length, rfl, by omega, n2.e _ _ hq1, sqT (N2.h _ _ (n2.g _ _ h2)), ?_⟩
  have gq2 := n2.hid hq1 gq
  have N3 := (N2.mut h0 gq2 (o := .lst (ns.map V.str))).fz upd_same h0 gq2
  have n3 := ((n1.trans n2).mut (o := .lst (ns.map V.str)) hq gq2).fz upd_same hq gq2
  exact k q _ _ N3 n3 upd_same
end Ax

open Ax
local macro_rules | `(tactic| got_up) => `(tactic| repeat' (first
  | (with_reducible refine w_seq ?_) | (with_reducible refine w_asg ?_) | (with_reducible refine w_next ?_)
  | (with_reducible refine w_op ?_) | (with_reducible refine w_c ?_) | ((with_reducible refine w_var (v := ?_) ?h ?_); (case h => rfl))
  | (with_reducible refine w_un ?_) | (with_reducible refine w_ret ?_) | (with_reducible refine w_retN ?_) | (with_reducible refine w_drop ?_)
  | (with_reducible refine w_if ?_) | (with_reducible refine w_test ?_) | (with_reducible refine w_bl ?_) | (with_reducible refine w_b ?_)
  | (with_reducible refine w_cb ?_) | (with_reducible refine w_cons ?_) | (with_reducible refine w_nil ?_)
  | (with_reducible refine w_I0 ?_) | (with_reducible refine w_not ?_) | (with_reducible refine w_and ?_) | (with_reducible refine w_or ?_) | (with_reducible refine w_tif ?_)
  | (with_reducible refine w_notV ?_) | (with_reducible refine w_andV ?_) | (with_reducible refine w_orV ?_)
  | (with_reducible refine add_i ?_) | (with_reducible refine eq_s ?_) | (with_reducible refine eq_i ?_) | (with_reducible refine eq_b ?_) | (with_reducible refine ne_s ?_) | (with_reducible refine ne_i ?_) | (with_reducible refine ne_b ?_)
  | (with_reducible refine w_bm0 ?_) | (with_reducible refine w_bm ?_)
  | (with_reducible refine w_sfld ?_) | (with_reducible refine w_m1 ?_) | (with_reducible refine w_sl ?_) | (with_reducible refine w_np ?_) | (with_reducible refine w_rev ?_) | (with_reducible refine w_part ?_) | (with_reducible refine w_pi ?_) | (with_reducible refine w_meth ?_) | (with_reducible refine w_cmeth ?_) | (with_reducible refine w_forS ?_) | (with_reducible refine w_lst ?_) | (with_reducible refine w_tup ?_) | (with_reducible refine w_lcS ?_) | (with_reducible refine w_gn ?_) | (with_reducible refine w_rng1 ?_) | (with_reducible refine w_rng2 ?_) | (with_reducible refine w_il ?_) | (with_reducible refine w_it ?_) | (with_reducible refine w_is ?_)
  | (with_reducible refine in_c ?_) | (with_reducible refine ni_c ?_)))
namespace Lw
open PySem PySem.Spec PyProof.Rows L2 SlX StX Ax
def top (i : Nat) : Stmt := PySem.Challenge.pw_aloneright_k01_column_sets.main.body.getD i (.Pass ⟨0, 0, 0, 0⟩)
def inC (i j : Nat) : Stmt := match top i with
  | .ClassDef _ _ _ b _ _ _ _ _ _ _ => b.getD j (.Pass ⟨0, 0, 0, 0⟩)
  | _ => .Pass ⟨0, 0, 0, 0⟩
abbrev st_is_name : Stmt := top 7
def df_is_name : DfX := ⟨fun K => He.ga K "is_name", "is_name", "is_name", defArgs st_is_name, defBody st_is_name, defScope st_is_name, [], []⟩
abbrev N_is_name : List Str := ["text", "sign"]
theorem sc_is_name : FnScope N_is_name ((["text"] : List Str)) df_is_name.scope := ⟨rfl, rfl, rfl, by decide +kernel, rfl, by decide +kernel, by decide +kernel⟩
abbrev st_Columns_init : Stmt := inC 8 0
def df_Columns_init : DfX := ⟨fun K => He.ma K (He.ga K "Columns") "__init__", "__init__", "Columns.__init__", defArgs st_Columns_init, defBody st_Columns_init, defScope st_Columns_init, [], []⟩
abbrev N_Columns_init : List Str := ["self", "names", "name"]
theorem sc_Columns_init : FnScope N_Columns_init ((["self"] : List Str) ++ (["names"] : List Str)) df_Columns_init.scope := ⟨rfl, rfl, rfl, by decide +kernel, rfl, by decide +kernel, by decide +kernel⟩
abbrev st_Columns_and : Stmt := inC 8 10
def df_Columns_and : DfX := ⟨fun K => He.ma K (He.ga K "Columns") "__and__", "__and__", "Columns.__and__", defArgs st_Columns_and, defBody st_Columns_and, defScope st_Columns_and, [], []⟩
abbrev N_Columns_and : List Str := ["self", "other", "names", "name"]
theorem sc_Columns_and : FnScope N_Columns_and ((["self", "other"] : List Str)) df_Columns_and.scope := ⟨rfl, rfl, rfl, by decide +kernel, rfl, by decide +kernel, by decide +kernel⟩
abbrev st_Columns_contains : Stmt := inC 8 5
def df_Columns_contains : DfX := ⟨fun K => He.ma K (He.ga K "Columns") "__contains__", "__contains__", "Columns.__contains__", defArgs st_Columns_contains, defBody st_Columns_contains, defScope st_Columns_contains, [], []⟩
abbrev N_Columns_contains : List Str := ["self", "name"]
theorem sc_Columns_contains : FnScope N_Columns_contains ((["self", "name"] : List Str)) df_Columns_contains.scope := ⟨rfl, rfl, rfl, by decide +kernel, rfl, by decide +kernel, by decide +kernel⟩
abbrev st_Columns_eq : Stmt := inC 8 6
def df_Columns_eq : DfX := ⟨fun K => He.ma K (He.ga K "Columns") "__eq__", "__eq__", "Columns.__eq__", defArgs st_Columns_eq, defBody st_Columns_eq, defScope st_Columns_eq, [], []⟩
abbrev N_Columns_eq : List Str := ["self", "other"]
theorem sc_Columns_eq : FnScope N_Columns_eq ((["self", "other"] : List Str)) df_Columns_eq.scope := ⟨rfl, rfl, rfl, by decide +kernel, rfl, by decide +kernel, by decide +kernel⟩
abbrev st_Columns_le : Stmt := inC 8 7
def df_Columns_le : DfX := ⟨fun K => He.ma K (He.ga K "Columns") "__le__", "__le__", "Columns.__le__", defArgs st_Columns_le, defBody st_Columns_le, defScope st_Columns_le, [], []⟩
abbrev N_Columns_le : List Str := ["self", "other", "name"]
theorem sc_Columns_le : FnScope N_Columns_le ((["self", "other"] : List Str)) df_Columns_le.scope := ⟨rfl, rfl, rfl, by decide +kernel, rfl, by decide +kernel, by decide +kernel⟩
abbrev st_Columns_lt : Stmt := inC 8 8
def df_Columns_lt : DfX := ⟨fun K => He.ma K (He.ga K "Columns") "__lt__", "__lt__", "Columns.__lt__", defArgs st_Columns_lt, defBody st_Columns_lt, defScope st_Columns_lt, [], []⟩
abbrev N_Columns_lt : List Str := ["self", "other", "name"]
theorem sc_Columns_lt : FnScope N_Columns_lt ((["self", "other"] : List Str)) df_Columns_lt.scope := ⟨rfl, rfl, rfl, by decide +kernel, rfl, by decide +kernel, by decide +kernel⟩
abbrev st_Columns_or : Stmt := inC 8 9
def df_Columns_or : DfX := ⟨fun K => He.ma K (He.ga K "Columns") "__or__", "__or__", "Columns.__or__", defArgs st_Columns_or, defBody st_Columns_or, defScope st_Columns_or, [], []⟩
abbrev N_Columns_or : List Str := ["self", "other", "names"]
theorem sc_Columns_or : FnScope N_Columns_or ((["self", "other"] : List Str)) df_Columns_or.scope := ⟨rfl, rfl, rfl, by decide +kernel, rfl, by decide +kernel, by decide +kernel⟩
abbrev st_Columns_sub : Stmt := inC 8 11
def df_Columns_sub : DfX := ⟨fun K => He.ma K (He.ga K "Columns") "__sub__", "__sub__", "Columns.__sub__", defArgs st_Columns_sub, defBody st_Columns_sub, defScope st_Columns_sub, [], []⟩
abbrev N_Columns_sub : List Str := ["self", "other", "names", "name"]
theorem sc_Columns_sub : FnScope N_Columns_sub ((["self", "other"] : List Str)) df_Columns_sub.scope := ⟨rfl, rfl, rfl, by decide +kernel, rfl, by decide +kernel, by decide +kernel⟩
abbrev st_Columns_xor : Stmt := inC 8 12
def df_Columns_xor : DfX := ⟨fun K => He.ma K (He.ga K "Columns") "__xor__", "__xor__", "Columns.__xor__", defArgs st_Columns_xor, defBody st_Columns_xor, defScope st_Columns_xor, [], []⟩
abbrev N_Columns_xor : List Str := ["self", "other", "names", "name"]
theorem sc_Columns_xor : FnScope N_Columns_xor ((["self", "other"] : List Str)) df_Columns_xor.scope := ⟨rfl, rfl, rfl, by decide +kernel, rfl, by decide +kernel, by decide +kernel⟩
abbrev st_Columns_read : Stmt := inC 8 1
def df_Columns_read : DfX := ⟨fun K => cmG K "Columns" "read", "read", "Columns.read", defArgs st_Columns_read, defBody st_Columns_read, defScope st_Columns_read, [], []⟩
abbrev N_Columns_read : List Str := ["cls", "text", "words"]
theorem sc_Columns_read : FnScope N_Columns_read ((["cls", "text"] : List Str)) df_Columns_read.scope := ⟨rfl, rfl, rfl, by decide +kernel, rfl, by decide +kernel, by decide +kernel⟩
abbrev st__law_built : Stmt := top 13
def df__law_built : DfX := ⟨fun K => He.ga K "_law_built", "_law_built", "_law_built", defArgs st__law_built, defBody st__law_built, defScope st__law_built, [], []⟩
abbrev N__law_built : List Str := ["_law_row"]
theorem sc__law_built : FnScope N__law_built ((["_law_row"] : List Str)) df__law_built.scope := ⟨rfl, rfl, rfl, by decide +kernel, rfl, by decide +kernel, by decide +kernel⟩
abbrev st__law_draw : Stmt := top 11
def df__law_draw : DfX := ⟨fun K => He.ga K "_law_draw", "_law_draw", "_law_draw", defArgs st__law_draw, defBody st__law_draw, defScope st__law_draw, [], []⟩
abbrev N__law_draw : List Str := ["_law_pool_here", "_law_many"]
theorem sc__law_draw : FnScope N__law_draw ((["_law_pool_here", "_law_many"] : List Str)) df__law_draw.scope := ⟨rfl, rfl, rfl, by decide +kernel, rfl, by decide +kernel, by decide +kernel⟩
abbrev st__law_flag : Stmt := top 15
def df__law_flag : DfX := ⟨fun K => He.ga K "_law_flag", "_law_flag", "_law_flag", defArgs st__law_flag, defBody st__law_flag, defScope st__law_flag, [], []⟩
abbrev N__law_flag : List Str := ["_law_actual", "_law_due"]
theorem sc__law_flag : FnScope N__law_flag ((["_law_actual", "_law_due"] : List Str)) df__law_flag.scope := ⟨rfl, rfl, rfl, by decide +kernel, rfl, by decide +kernel, by decide +kernel⟩
abbrev st_Columns_iter : Stmt := inC 8 3
def df_Columns_iter : DfX := ⟨fun K => He.ma K (He.ga K "Columns") "__iter__", "__iter__", "Columns.__iter__", defArgs st_Columns_iter, defBody st_Columns_iter, defScope st_Columns_iter, [], []⟩
abbrev N_Columns_iter : List Str := ["self"]
theorem sc_Columns_iter : FnScope N_Columns_iter ((["self"] : List Str)) df_Columns_iter.scope := ⟨rfl, rfl, rfl, by decide +kernel, rfl, by decide +kernel, by decide +kernel⟩
abbrev st_Columns_len : Stmt := inC 8 4
def df_Columns_len : DfX := ⟨fun K => He.ma K (He.ga K "Columns") "__len__", "__len__", "Columns.__len__", defArgs st_Columns_len, defBody st_Columns_len, defScope st_Columns_len, [], []⟩
abbrev N_Columns_len : List Str := ["self"]
theorem sc_Columns_len : FnScope N_Columns_len ((["self"] : List Str)) df_Columns_len.scope := ⟨rfl, rfl, rfl, by decide +kernel, rfl, by decide +kernel, by decide +kernel⟩
abbrev st_Columns_text : Stmt := inC 8 2
def df_Columns_text : DfX := ⟨fun K => He.ma K (He.ga K "Columns") "text", "text", "Columns.text", defArgs st_Columns_text, defBody st_Columns_text, defScope st_Columns_text, [], []⟩
abbrev N_Columns_text : List Str := ["self"]
theorem sc_Columns_text : FnScope N_Columns_text ((["self"] : List Str)) df_Columns_text.scope := ⟨rfl, rfl, rfl, by decide +kernel, rfl, by decide +kernel, by decide +kernel⟩
abbrev st__law_is_set : Stmt := top 14
def df__law_is_set : DfX := ⟨fun K => He.ga K "_law_is_set", "_law_is_set", "_law_is_set", defArgs st__law_is_set, defBody st__law_is_set, defScope st__law_is_set, [], []⟩
abbrev N__law_is_set : List Str := ["_law_actual", "_law_row", "_law_names_here", "_law_written"]
theorem sc__law_is_set : FnScope N__law_is_set ((["_law_actual", "_law_row"] : List Str)) df__law_is_set.scope := ⟨rfl, rfl, rfl, by decide +kernel, rfl, by decide +kernel, by decide +kernel⟩
abbrev st__law_names : Stmt := top 12
def df__law_names : DfX := ⟨fun K => He.ga K "_law_names", "_law_names", "_law_names", defArgs st__law_names, defBody st__law_names, defScope st__law_names, [], []⟩
abbrev N__law_names : List Str := ["_law_pool_here", "_law_many", "_law_letters", "_law_word", "_law_k", "_law_start", "_law_step", "_law_kind", "_law_place", "_law_names_here", "_law_sign"]
theorem sc__law_names : FnScope N__law_names ((["_law_pool_here", "_law_many"] : List Str)) df__law_names.scope := ⟨rfl, rfl, rfl, by decide +kernel, rfl, by decide +kernel, by decide +kernel⟩
abbrev st__law_pool : Stmt := top 10
def df__law_pool : DfX := ⟨fun K => He.ga K "_law_pool", "_law_pool", "_law_pool", defArgs st__law_pool, defBody st__law_pool, defScope st__law_pool, [], []⟩
abbrev N__law_pool : List Str := ["_law_script", "_law_pool_here", "_law_at", "_law_cell", "_law_k", "_law_mixed"]
theorem sc__law_pool : FnScope N__law_pool ((["_law_script"] : List Str)) df__law_pool.scope := ⟨rfl, rfl, rfl, by decide +kernel, rfl, by decide +kernel, by decide +kernel⟩
abbrev st_law : Stmt := top 16
def df_law : DfX := ⟨fun K => He.ga K "law", "law", "law", defArgs st_law, defBody st_law, defScope st_law, [], []⟩
abbrev N_law : List Str := ["_law_script", "_law_pool_here", "_law_names_here", "_law_first", "_law_second", "_law_near", "_law_one", "_law_two", "_law_left", "_law_right", "_law_both", "_law_k", "_law_name"]
theorem sc_law : FnScope N_law ((["_law_script"] : List Str)) df_law.scope := ⟨rfl, rfl, rfl, by decide +kernel, rfl, by decide +kernel, by decide +kernel⟩
/-- what of the text the defs ask -/
structure TX (K : Fr') (mg : Str → Option Value) where
  C_Columns : Addr
  a_Columns_and : Addr
  a_Columns_contains : Addr
  a_Columns_eq : Addr
  a_Columns_init : Addr
  a_Columns_iter : Addr
  a_Columns_le : Addr
  a_Columns_len : Addr
  a_Columns_lt : Addr
  a_Columns_or : Addr
  a_Columns_read : Addr
  a_Columns_sub : Addr
  a_Columns_text : Addr
  a_Columns_xor : Addr
  a__law_built : Addr
  a__law_draw : Addr
  a__law_flag : Addr
  a__law_is_set : Addr
  a__law_names : Addr
  a__law_pool : Addr
  a_is_name : Addr
  a_law : Addr
  p_Columns_read : Addr
  b_abs : mg "abs" = none
  b_all : mg "all" = none
  b_bool : mg "bool" = none
  b_int : mg "int" = none
  b_isinstance : mg "isinstance" = none
  b_iter : mg "iter" = none
  b_len : mg "len" = none
  b_list : mg "list" = none
  b_range : mg "range" = none
  b_set : mg "set" = none
  b_sorted : mg "sorted" = none
  b_str : mg "str" = none
  b_tuple : mg "tuple" = none
  c_Columns : Cls K C_Columns
  cm_Columns_read : ClX.CMet K C_Columns (.type "type") "read" p_Columns_read a_Columns_read
  cr_Columns : ClX.CRead K C_Columns (.type "type")
  d_Columns_and : FunX K df_Columns_and a_Columns_and
  d_Columns_contains : FunX K df_Columns_contains a_Columns_contains
  d_Columns_eq : FunX K df_Columns_eq a_Columns_eq
  d_Columns_init : FunX K df_Columns_init a_Columns_init
  d_Columns_iter : FunX K df_Columns_iter a_Columns_iter
  d_Columns_le : FunX K df_Columns_le a_Columns_le
  d_Columns_len : FunX K df_Columns_len a_Columns_len
  d_Columns_lt : FunX K df_Columns_lt a_Columns_lt
  d_Columns_or : FunX K df_Columns_or a_Columns_or
  d_Columns_read : FunX K df_Columns_read a_Columns_read
  d_Columns_sub : FunX K df_Columns_sub a_Columns_sub
  d_Columns_text : FunX K df_Columns_text a_Columns_text
  d_Columns_xor : FunX K df_Columns_xor a_Columns_xor
  d__law_built : FunX K df__law_built a__law_built
  d__law_draw : FunX K df__law_draw a__law_draw
  d__law_flag : FunX K df__law_flag a__law_flag
  d__law_is_set : FunX K df__law_is_set a__law_is_set
  d__law_names : FunX K df__law_names a__law_names
  d__law_pool : FunX K df__law_pool a__law_pool
  d_is_name : FunX K df_is_name a_is_name
  d_law : FunX K df_law a_law
  g_DIGITS : ∃ t, mg "DIGITS" = some (.str "0123456789" t)
  g_LETTERS : ∃ t, mg "LETTERS" = some (.str "abcdefghijklmnopqrstuvwxyz" t)
  g_LONGEST : ∃ t, mg "LONGEST" = some (.int 8 t)
  ist_Columns_Columns : PySem.W.kitOne K (.ref C_Columns) (.ref C_Columns) = some true
  k__law_built : PySem.W.keepIn K (.ref a__law_built) = true
  k__law_draw : PySem.W.keepIn K (.ref a__law_draw) = true
  k__law_flag : PySem.W.keepIn K (.ref a__law_flag) = true
  k__law_is_set : PySem.W.keepIn K (.ref a__law_is_set) = true
  k__law_names : PySem.W.keepIn K (.ref a__law_names) = true
  k__law_pool : PySem.W.keepIn K (.ref a__law_pool) = true
  k_is_name : PySem.W.keepIn K (.ref a_is_name) = true
  m_Columns : mg "Columns" = some (.ref C_Columns)
  m__law_built : mg "_law_built" = some (.ref a__law_built)
  m__law_draw : mg "_law_draw" = some (.ref a__law_draw)
  m__law_flag : mg "_law_flag" = some (.ref a__law_flag)
  m__law_is_set : mg "_law_is_set" = some (.ref a__law_is_set)
  m__law_names : mg "_law_names" = some (.ref a__law_names)
  m__law_pool : mg "_law_pool" = some (.ref a__law_pool)
  m_is_name : mg "is_name" = some (.ref a_is_name)
  m_law : mg "law" = some (.ref a_law)
  me_Columns_and : Meth K C_Columns "__and__" a_Columns_and
  me_Columns_contains : Meth K C_Columns "__contains__" a_Columns_contains
  me_Columns_eq : Meth K C_Columns "__eq__" a_Columns_eq
  me_Columns_iter : Meth K C_Columns "__iter__" a_Columns_iter
  me_Columns_le : Meth K C_Columns "__le__" a_Columns_le
  me_Columns_len : Meth K C_Columns "__len__" a_Columns_len
  me_Columns_lt : Meth K C_Columns "__lt__" a_Columns_lt
  me_Columns_or : Meth K C_Columns "__or__" a_Columns_or
  me_Columns_sub : Meth K C_Columns "__sub__" a_Columns_sub
  me_Columns_text : Meth K C_Columns "text" a_Columns_text
  me_Columns_xor : Meth K C_Columns "__xor__" a_Columns_xor
  mk_Columns : Mk K C_Columns a_Columns_init
  na_Columns_names : NoAttr K C_Columns "names"
  nb_Columns : PySem.W.findIn K (.ref C_Columns) "__bool__" = some none
  nf_Columns_Columns : PySem.W.notFirst K C_Columns (.ref C_Columns) = true
  sf_Columns : PySem.W.selfFirst K C_Columns = true
  ty_Columns : TyI K C_Columns
section
variable {P : Program} {w : World} {K : PySem.W.Frag} {mg : Str → Option Value} {base : Heap}
end
end Lw

namespace Lw
open PySem PySem.Spec PyProof.Rows L2 SlX StX Ax
section
variable {P : Program} {w : World} {K : PySem.W.Frag} {mg : Str → Option Value} {base : Heap}
/-! is_name -/
theorem ok_is_name (T : TX K mg) : FnR P w K mg base (L2.CX P w) 1 T.a_is_name (spX (fun (x : Str) vs _ => vs = [.str x] ∧ x.length ≤ 1000) (fun x v _ => v = .bl (isNm x)) NoX) := by
  refine fnR_of T.d_is_name sc_is_name (fun _ _ _ _ _ _ us hl => match us, hl with | [_], _ => rfl) (spX_len fun a vs G h => by rw [h.1]; rfl) fun cdv A outer s H vs Q E hr hsp => ?_
  obtain ⟨x, G, hG, ⟨rfl, hx⟩, hQ, _⟩ := hsp
  refine ⟨_, (pss_cons (ps_if (PW.pt (pw_or (pt_cmpR (op_eqK (K := K) rfl hr.units) (pv 0) pe_str (nomark _)) (pw_or (pt_cmpR op_gt (pe_callB (call_lenK (K := K) rfl) rfl T.b_len (by decide +kernel) (pa_cons (pv 0) pa_nil)) (pe_gi rfl T.g_LONGEST) (nomark _)) (pw_or1 (pt_cmpR (op_niK (K := K) rfl hr.units) (pe_ix (ix_K (K := K) rfl) (pv 0) pe_int (fun _ _ => rfl)) (pe_gc rfl T.g_LETTERS) rfl))))) (pss_one (ps_ret pe_bl)) pss_nil)
    (pss_one (ps_ret (pe_callB (cr_allK (K := K) rfl rfl) rfl T.b_all (by decide +kernel) (pa_cons (pe_lc (own := [("sign", 1)]) rfl sc_is_name.nd (pi_str (pv 0)) (blkOk_by (own := [("sign", 1)]) (N := N_is_name) (sc := df_is_name.scope) (by decide +kernel)) (fun _ _ _ _ _ => (pg_name (i := 1) sc_is_name.nd rfl (by first | exact Or.inl rfl | exact Or.inr rfl))) (fun _ _ _ _ _ => pts_nil) (fun _ _ _ _ _ => (pe_or (pe_cmpR (op_inK (K := K) rfl hr.units) (pv 1) (pe_gc rfl T.g_LETTERS) rfl) (pe_one (pe_cmpR (op_inK (K := K) rfl hr.units) (pv 1) (pe_gc rfl T.g_DIGITS) rfl))))) pa_nil))))), ?_⟩
  have N : Nx G H G H := Nx.refl hG
  have hQ : ∀ G' H', Nx G H G' H' → Q (.bl (isNm x)) H' := fun G' H' n => hQ _ G' H' n rfl
  have no : isNm x = false → Q (.bl false) H := fun e => by have z := hQ G H N; rw [e] at z; exact z
  have nl : ¬ x.length ≤ 8 → isNm x = false := fun e => by
    cases h : isNm x with
    | false => rfl
    | true => exact absurd (isNm_iff h).2.2.2 e
  got_up
  refine t_if (fun e => ?_) (fun e => ?_)
  · refine iteT ?_
    got_up
    have e := of_decide_eq_true e
    subst e
    exact no rfl
  · got_up
    refine len_s (by omega) ?_
    got_up
    refine t_if (fun e => ?_) (fun e1 => ?_)
    · refine iteT ?_
      got_up
      exact no (nl (by have := of_decide_eq_true e; omega))
    · have hl : x.length ≤ 8 := by have := of_decide_eq_false e1; omega
      obtain ⟨c, r, ec⟩ : ∃ c r, x.cps.toList = c :: r := by
        cases q : x.cps.toList with
        | cons c r => exact ⟨c, r, rfl⟩
        | nil =>
          have z : x = "" := by
            cases x with
            | mk a => exact congrArg Str.mk (Array.toList_eq_nil_iff.mp q)
          exact absurd z (of_decide_eq_false e)
      got_up
      refine ix_s (c := c) (by omega) (by rw [ec]; exact atI_nat (i := 0) rfl) ?_
      got_up
      refine t_if (fun e2 => ?_) (fun e2 => ?_)
      · got_up
        refine no ?_
        unfold isNm
        rw [ec]
        show (decide (r.length < 8) && (lowB c && (c :: r).all alnB)) = false
        rw [show lowB c = false from nlow e2, Bool.false_and, Bool.and_false]
      · got_up
        refine ⟨x, rfl, ?_⟩
        refine lcb (zs := x.cps.toList) (p := fun _ => true) (R := fun c v _ => v = .bl (alnB c)) (src_str (z := x)) N (by simp) (by rw [← Str.length]; omega) (fun _ _ _ _ _ h => h) ?_ ?_
        · rintro i z v G' H' hz s1 s2 ⟨c', hc', rfl⟩
          have hzc : c' = z := by rw [Array.getElem?_toList] at hz; rw [hc'] at hz; exact Option.some.inj hz
          subst hzc
          refine ⟨_, fun Q q => w_gn q, rfl, fun Q q => q G' H' (Nx.refl s2), fun _ G2 H2 s3 s4 Q q => ?_⟩
          got_up
          refine t_if (fun e => ?_) (fun e => ?_)
          · exact q _ G2 H2 (Nx.refl s4) (by unfold alnB; rw [e]; rfl)
          · got_up
            exact q _ G2 H2 (Nx.refl s4) (by unfold alnB; rw [e, Bool.false_or])
        · intro D L G' H' N' n' hD gD h0 hA
          rw [flt_true] at hA
          have hL := All2.eq hA
          subst hL
          got_up
          refine ⟨D, x.cps.toList.map alnB, rfl, sqL (by rw [List.map_map]; exact hD), ?_⟩
          have hq := hQ G' H' N'
          have hv : isNm x = ((x.cps.toList.map alnB).all id) := by
            unfold isNm
            rw [ec]
            have hr8 : r.length < 8 := by
              have := Ax.toList_len x
              rw [ec] at this
              simp only [List.length_cons] at this
              omega
            have hlc : lowB c = true := nlow' e2
            show (decide (r.length < 8) && (lowB c && (c :: r).all alnB)) = ((c :: r).map alnB).all id
            rw [decide_eq_true hr8, hlc, Bool.true_and, Bool.true_and, List.all_map]
            rfl
          rw [hv] at hq
          exact hq
end
end Lw

namespace Lw
open PySem PySem.Spec PyProof.Rows L2 SlX StX Ax
section
variable {P : Program} {w : World} {K : PySem.W.Frag} {mg : Str → Option Value} {base : Heap}
/-! Columns_init -/
theorem ok_Columns_init (T : TX K mg) : FnR P w K mg base (L2.CX P w) 5 T.a_Columns_init (spColsInit T.C_Columns) := by
  refine init_star (fun _ _ _ _ _ h => h) (fun ns vs G h => by rw [h.1, List.length_map]; exact sz (by have := h.2.n; omega)) (fnS_of T.d_Columns_init sc_Columns_init (fun _ _ _ _ _ _ us rest hl => match us, rest, hl with | [a], [], _ => rfl | [a], _ :: _, _ => rfl) fun cdv A outer s H vs Q E hr hsp => ?_)
  obtain ⟨ns, a, dx, args, G, Hm, rfl, ⟨t, rest, rfl, ht, rfl, hn⟩, h1, h2, h3, N, hQ, _⟩ := hsp
  refine ⟨_, (pss_cons (ps_for (passes_of rfl) rfl (pi_tupK (K := K) rfl (pv 1)) (pg_name (i := 2) sc_Columns_init.nd rfl (by first | exact Or.inl rfl | exact Or.inr rfl))
    (pss_one (ps_if (pt_not (pt_val (pe_callR (ok_is_name T) (hr.mono (by decide)) T.k_is_name rfl T.m_is_name passL (pa_cons (pv 2) pa_nil)))) (pss_one ps_never) pss_nil)))
    (pss_one (ps_fld (pv 0) (pe_callTy (call_tupleK (K := K) rfl) rfl T.b_tuple (by decide +kernel) (pa_cons (pe_callB (call_sortedK (P := P) (w := w) rfl rfl rfl) rfl T.b_sorted (by decide +kernel) (pa_cons (pe_callTy (call_setK (K := K) (P := P) (w := w) rfl rfl rfl rfl) rfl T.b_set (by decide +kernel) (pa_cons (pv 1) pa_nil)) pa_nil)) pa_nil)) rfl))), ?_⟩
  have hln := hn.n
  got_up
  refine ⟨t, rfl, ⟨_, sqT (N.h _ _ ht)⟩, ?_⟩
  refine frb (src_tup (sqT ht)) N (fun i σ G' H' => ∃ x, σ = [some (.ref a), some (.ref t), x] ∧ H' a = some (.ins T.C_Columns dx []) ∧ G' a = none) ⟨_, rfl, h1, h3⟩ ?_ ?_
  · rintro i v σ' G' H' G2 H2 hi ⟨x, rfl, ha1, ga1⟩ N2 s2 n2 hv
    rw [List.getElem?_map] at hv
    obtain ⟨z, hz, rfl⟩ := Option.map_eq_some_iff.mp hv
    have hz' := hn.ok z (List.mem_of_getElem? hz)
    got_up
    refine cl0 N2 z ⟨rfl, by have := (isNm_iff hz').2.2.2; omega⟩ fun v G3 H3 N3 n3 r => ?_
    obtain rfl : v = .bl (isNm z) := r
    rw [hz']
    got_up
    refine iteF ?_
    got_up
    exact ⟨G3, N3, s2.trans n3.g, _, rfl, n3.e _ _ (n2.e _ _ ha1), n3.hid (n2.e _ _ ha1) (n2.hid ha1 ga1)⟩
  · rintro σ' G' H' ⟨x, rfl, ha1, ga1⟩ N2 s2
    got_up
    refine ⟨t, ns, rfl, .inr (sqT (N2.h _ _ (s2 _ _ ht))), hn.n, fun p hp => ?_⟩
    obtain ⟨G3, H3, e, N3, n3, hs⟩ := nobj N2 hp (SetT P w p (dd ns))
    rw [e]; clear e
    got_up
    refine ⟨p, dd ns, rfl, N3.h _ _ hs, by rw [dd_cset_len]; exact hn.c, fun ys q hy1 hy2 hq => ?_⟩
    rw [cset_dd hy1 hy2]
    obtain ⟨G4, H4, e, N4, n4, hl⟩ := nobj N3 hq (.lst ((cset ns).map V.str))
    rw [e]; clear e
    got_up
    refine ⟨q, _, rfl, .inl ⟨sqL (N4.h _ _ hl), fun u hu => ?_⟩⟩
    obtain ⟨G5, H5, e, N5, n5, hu5⟩ := nobj N4 hu (.tup ((cset ns).map V.str))
    rw [e]; clear e
    have ha5 := n5.e _ _ (n4.e _ _ (n3.e _ _ ha1))
    have ga5 := n5.hid (n4.e _ _ (n3.e _ _ ha1)) (n4.hid (n3.e _ _ ha1) (n3.hid ha1 ga1))
    got_up
    refine ⟨a, _, dx, [], rfl, ha5, T.c_Columns, T.na_Columns_names, by decide, ?_⟩
    obtain ⟨H6, e, N6, ha6⟩ := mobj N5 h2 ga5 (.ins T.C_Columns dx (colsF u))
    show tNext _ _ (upd H5 a (.ins T.C_Columns dx (colsF u)))
    rw [e]; clear e
    got_up
    exact hQ _ G5 H6 N6 ha6 ga5 ⟨u, rfl, hu5⟩
end
end Lw

namespace Lw
open PySem PySem.Spec PyProof.Rows L2 SlX StX Ax
section
variable {P : Program} {w : World} {K : PySem.W.Frag} {mg : Str → Option Value} {base : Heap}
/-! Columns_and -/
theorem ok_Columns_and (T : TX K mg) : FnR P w K mg base (L2.CX P w) 9 T.a_Columns_and (spColsAnd T.C_Columns) := by
  refine fnR_of T.d_Columns_and sc_Columns_and (fun _ _ _ _ _ _ us hl => match us, hl with | [_, _], _ => rfl) (spX_len fun a vs G h => by rw [h.1]; rfl) fun cdv A outer s H vs Q E hr hsp => ?_
  obtain ⟨⟨⟨a, xs⟩, b, ys⟩, G, hG, ⟨rfl, ha, hb⟩, hQ, _⟩ := hsp
  try dsimp only at *
  refine ⟨_, (pss_cons (ps_lcU (i := 2) (own := [("name", 3)]) rfl sc_Columns_and.nd rfl (by first | exact Or.inl ⟨rfl, rfl⟩ | exact Or.inr ⟨Or.inl rfl, rfl, Or.inl rfl⟩ | exact Or.inr ⟨Or.inr rfl, rfl, Or.inl rfl⟩) (pi_tupK (K := K) rfl (pe_fldK (K := K) rfl (pv 0))) (blkOk_by (own := [("name", 3)]) (N := N_Columns_and) (sc := df_Columns_and.scope) (by decide +kernel)) (fun _ _ _ _ _ => (pg_name (i := 3) sc_Columns_and.nd rfl (by first | exact Or.inl rfl | exact Or.inr rfl))) (fun _ _ _ _ _ => (pts_one (pt_cmpR (op_inK (K := K) rfl hr.units) (pv 3) (pe_fldK (K := K) rfl (pv 1)) rfl))) (fun _ _ _ _ _ => (pv 3)))
    (pss_one (ps_ret (pe_makeS1 T.mk_Columns (ok_Columns_init T) (hr.mono (by decide)) rfl T.m_Columns passL (pv 2))))), ?_⟩
  have N : Nx G H G H := Nx.refl hG
  got_up
  refine fld_v rfl T.c_Columns T.na_Columns_names ha N.h fun t ht => ?_
  refine ⟨t, rfl, ⟨_, sqT (N.h _ _ ht)⟩, ?_⟩
  refine lcb (src_tup (sqT ht)) N xs (fun x => decide (x ∈ ys)) (fun x v _ => v = .str x) (by rw [List.length_map]) (by rw [List.length_map]; have := ha.n; omega) (fun _ _ _ _ _ h => h) ?_ ?_
  · rintro i z v G' H' hz s1 s2 hv
    rw [List.getElem?_map, hz] at hv
    cases Option.some.inj hv
    refine ⟨_, fun Q q => w_gn q, rfl, fun Q q => ?_, fun _ G2 H2 s3 s4 Q q => ?_⟩
    · got_up
      refine fld_v rfl T.c_Columns T.na_Columns_names (hb.up s1) s2 fun u hu => ?_
      refine in_d da_s (ds_ts (sqT (s2 _ _ hu))) ?_
      got_up
      exact q G' H' (Nx.refl s2)
    · got_up
      exact q _ G2 H2 (Nx.refl s4) rfl
  · intro D L G' H' N' n' hD gD h0 hA
    have hL := All2.eq hA
    subst hL
    got_up
    refine mk_colsL N' _ hD (ha.nms.filter _) fun q G2 H2 N2 n2 hq => ?_
    exact hQ _ G2 H2 N2 ⟨q, rfl, hq⟩
end
end Lw

namespace Lw
open PySem PySem.Spec PyProof.Rows L2 SlX StX Ax
section
variable {P : Program} {w : World} {K : PySem.W.Frag} {mg : Str → Option Value} {base : Heap}
/-! Columns_contains -/
theorem ok_Columns_contains (T : TX K mg) : FnR P w K mg base (L2.CX P w) 1 T.a_Columns_contains (spColsContains T.C_Columns) := by
  refine fnR_of T.d_Columns_contains sc_Columns_contains (fun _ _ _ _ _ _ us hl => match us, hl with | [_, _], _ => rfl) (spX_len fun a vs G h => by rw [h.1]; rfl) fun cdv A outer s H vs Q E hr hsp => ?_
  obtain ⟨⟨⟨a, xs⟩, x⟩, G, hG, ⟨rfl, ha⟩, hQ, _⟩ := hsp
  try dsimp only at *
  refine ⟨_, (pss_one (ps_ret (pe_cmpR (op_inK (K := K) rfl hr.units) (pv 1) (pe_fldK (K := K) rfl (pv 0)) rfl))), ?_⟩
  have N : Nx G H G H := Nx.refl hG
  got_up
  refine fld_v rfl T.c_Columns T.na_Columns_names ha N.h fun t ht => ?_
  refine in_d da_s (ds_ts (sqT (N.h _ _ ht))) ?_
  exact hQ _ G H N rfl
end
end Lw

namespace Lw
open PySem PySem.Spec PyProof.Rows L2 SlX StX Ax
section
variable {P : Program} {w : World} {K : PySem.W.Frag} {mg : Str → Option Value} {base : Heap}
/-! Columns_eq -/
theorem ok_Columns_eq (T : TX K mg) : FnR P w K mg base (L2.CX P w) 1 T.a_Columns_eq (spColsEq T.C_Columns) := by
  refine fnR_of T.d_Columns_eq sc_Columns_eq (fun _ _ _ _ _ _ us hl => match us, hl with | [_, _], _ => rfl) (spX_len fun a vs G h => by rw [h.1]; rfl) fun cdv A outer s H vs Q E hr hsp => ?_
  obtain ⟨⟨⟨a, xs⟩, b, ys⟩, G, hG, ⟨rfl, ha, hb⟩, hQ, _⟩ := hsp
  try dsimp only at *
  refine ⟨_, (pss_one (ps_ret (pe_and (pe_callB (call_isiK' (K := K) rfl) rfl T.b_isinstance (by decide +kernel) (pa_cons (pv 1) (pa_cons (pe_glob (v := .ref T.C_Columns) rfl T.m_Columns rfl) pa_nil))) (pe_one (pe_cmpR (op_eqK (K := K) rfl hr.units) (pe_fldK (K := K) rfl (pv 0)) (pe_fldK (K := K) rfl (pv 1)) (nomark _)))))), ?_⟩
  have N : Nx G H G H := Nx.refl hG
  got_up
  obtain ⟨dxb, tb, hb1, hb2⟩ := hb.at_
  refine ⟨_, _, _, _, true, rfl, .own _, T.ty_Columns (N.h _ _ hb1), T.ist_Columns_Columns, ?_⟩
  refine ⟨true, rfl, iteT ?_⟩
  got_up
  refine fld_v rfl T.c_Columns T.na_Columns_names ha N.h fun t ht => ?_
  got_up
  refine fld_v rfl T.c_Columns T.na_Columns_names hb N.h fun u hu => ?_
  refine eq_d (α := PySem.W.Tup Str) (da_ts (sqT (N.h _ _ ht))) (da_ts (sqT (N.h _ _ hu))) ?_
  have z := hQ _ G H N rfl
  have e : decide (PySem.W.Tup.mk xs = PySem.W.Tup.mk ys) = decide (xs = ys) := by rw [Bool.eq_iff_iff]; simp
  rw [e]
  exact z
end
end Lw

namespace Lw
open PySem PySem.Spec PyProof.Rows L2 SlX StX Ax
section
variable {P : Program} {w : World} {K : PySem.W.Frag} {mg : Str → Option Value} {base : Heap}
/-! Columns_le -/
theorem ok_Columns_le (T : TX K mg) : FnR P w K mg base (L2.CX P w) 1 T.a_Columns_le (spColsLe T.C_Columns) := by
  refine fnR_of T.d_Columns_le sc_Columns_le (fun _ _ _ _ _ _ us hl => match us, hl with | [_, _], _ => rfl) (spX_len fun a vs G h => by rw [h.1]; rfl) fun cdv A outer s H vs Q E hr hsp => ?_
  obtain ⟨⟨⟨a, xs⟩, b, ys⟩, G, hG, ⟨rfl, ha, hb⟩, hQ, _⟩ := hsp
  try dsimp only at *
  refine ⟨_, (pss_one (ps_ret (pe_callB (cr_allK (K := K) rfl rfl) rfl T.b_all (by decide +kernel) (pa_cons (pe_lc (own := [("name", 2)]) rfl sc_Columns_le.nd (pi_tupK (K := K) rfl (pe_fldK (K := K) rfl (pv 0))) (blkOk_by (own := [("name", 2)]) (N := N_Columns_le) (sc := df_Columns_le.scope) (by decide +kernel)) (fun _ _ _ _ _ => (pg_name (i := 2) sc_Columns_le.nd rfl (by first | exact Or.inl rfl | exact Or.inr rfl))) (fun _ _ _ _ _ => pts_nil) (fun _ _ _ _ _ => (pe_cmpR (op_inK (K := K) rfl hr.units) (pv 2) (pe_fldK (K := K) rfl (pv 1)) rfl))) pa_nil)))), ?_⟩
  have N : Nx G H G H := Nx.refl hG
  got_up
  refine fld_v rfl T.c_Columns T.na_Columns_names ha N.h fun t ht => ?_
  refine ⟨t, rfl, ⟨_, sqT (N.h _ _ ht)⟩, ?_⟩
  refine lcb (src_tup (sqT ht)) N xs (fun _ => true) (fun x v _ => v = .bl (decide (x ∈ ys))) (by rw [List.length_map]) (by rw [List.length_map]; have := ha.n; omega) (fun _ _ _ _ _ h => h) ?_ ?_
  · rintro i z v G' H' hz s1 s2 hv
    rw [List.getElem?_map, hz] at hv
    cases Option.some.inj hv
    refine ⟨_, fun Q q => w_gn q, rfl, fun Q q => q G' H' (Nx.refl s2), fun _ G2 H2 s3 s4 Q q => ?_⟩
    got_up
    refine fld_v rfl T.c_Columns T.na_Columns_names (hb.up (s1.trans s3)) s4 fun u hu => ?_
    refine in_d da_s (ds_ts (sqT (s4 _ _ hu))) ?_
    exact q _ G2 H2 (Nx.refl s4) rfl
  · intro D L G' H' N' n' hD gD h0 hA
    rw [flt_true] at hA
    have hL := All2.eq hA
    subst hL
    got_up
    refine ⟨D, xs.map fun x => decide (x ∈ ys), rfl, sqL (by rw [List.map_map]; exact hD), ?_⟩
    have z := hQ _ G' H' N' rfl
    rw [List.all_map]
    exact z
end
end Lw

namespace Lw
open PySem PySem.Spec PyProof.Rows L2 SlX StX Ax
section
variable {P : Program} {w : World} {K : PySem.W.Frag} {mg : Str → Option Value} {base : Heap}
/-! Columns_lt -/
theorem ok_Columns_lt (T : TX K mg) : FnR P w K mg base (L2.CX P w) 1 T.a_Columns_lt (spColsLt T.C_Columns) := by
  refine fnR_of T.d_Columns_lt sc_Columns_lt (fun _ _ _ _ _ _ us hl => match us, hl with | [_, _], _ => rfl) (spX_len fun a vs G h => by rw [h.1]; rfl) fun cdv A outer s H vs Q E hr hsp => ?_
  obtain ⟨⟨⟨a, xs⟩, b, ys⟩, G, hG, ⟨rfl, ha, hb⟩, hQ, _⟩ := hsp
  try dsimp only at *
  refine ⟨_, (pss_one (ps_ret (pe_and (pe_cmpR (op_neK (K := K) rfl hr.units) (pe_fldK (K := K) rfl (pv 0)) (pe_fldK (K := K) rfl (pv 1)) (nomark _)) (pe_one (pe_callB (cr_allK (K := K) rfl rfl) rfl T.b_all (by decide +kernel) (pa_cons (pe_lc (own := [("name", 2)]) rfl sc_Columns_lt.nd (pi_tupK (K := K) rfl (pe_fldK (K := K) rfl (pv 0))) (blkOk_by (own := [("name", 2)]) (N := N_Columns_lt) (sc := df_Columns_lt.scope) (by decide +kernel)) (fun _ _ _ _ _ => (pg_name (i := 2) sc_Columns_lt.nd rfl (by first | exact Or.inl rfl | exact Or.inr rfl))) (fun _ _ _ _ _ => pts_nil) (fun _ _ _ _ _ => (pe_cmpR (op_inK (K := K) rfl hr.units) (pv 2) (pe_fldK (K := K) rfl (pv 1)) rfl))) pa_nil)))))), ?_⟩
  have N : Nx G H G H := Nx.refl hG
  got_up
  refine fld_v rfl T.c_Columns T.na_Columns_names ha N.h fun t ht => ?_
  got_up
  refine fld_v rfl T.c_Columns T.na_Columns_names hb N.h fun u hu => ?_
  refine ne_d (α := PySem.W.Tup Str) (da_ts (sqT (N.h _ _ ht))) (da_ts (sqT (N.h _ _ hu))) ?_
  have z := fun G' H' N' => hQ _ G' H' N' rfl
  have e : decide (PySem.W.Tup.mk xs ≠ PySem.W.Tup.mk ys) = !decide (xs = ys) := by rw [Bool.eq_iff_iff]; simp
  rw [e]
  refine ⟨_, rfl, t_if (fun e => ?_) (fun e => ?_)⟩
  · simp only [e, Bool.true_and] at z
    got_up
    refine fld_v rfl T.c_Columns T.na_Columns_names ha N.h fun t ht => ?_
    refine ⟨t, rfl, ⟨_, sqT (N.h _ _ ht)⟩, ?_⟩
    refine lcb (src_tup (sqT ht)) N xs (fun _ => true) (fun x v _ => v = .bl (decide (x ∈ ys))) (by rw [List.length_map]) (by rw [List.length_map]; have := ha.n; omega) (fun _ _ _ _ _ h => h) ?_ ?_
    · rintro i z v G' H' hz s1 s2 hv
      rw [List.getElem?_map, hz] at hv
      cases Option.some.inj hv
      refine ⟨_, fun Q q => w_gn q, rfl, fun Q q => q G' H' (Nx.refl s2), fun _ G2 H2 s3 s4 Q q => ?_⟩
      got_up
      refine fld_v rfl T.c_Columns T.na_Columns_names (hb.up (s1.trans s3)) s4 fun u hu => ?_
      refine in_d da_s (ds_ts (sqT (s4 _ _ hu))) ?_
      exact q _ G2 H2 (Nx.refl s4) rfl
    · intro D L G' H' N' n' hD gD h0 hA
      rw [flt_true] at hA
      have hL := All2.eq hA
      subst hL
      got_up
      refine ⟨D, xs.map fun x => decide (x ∈ ys), rfl, sqL (by rw [List.map_map]; exact hD), ?_⟩
      have z := z G' H' N'
      rw [List.all_map]
      exact z
  · simp only [e, Bool.false_and] at z
    exact z G H N
end
end Lw

namespace Lw
open PySem PySem.Spec PyProof.Rows L2 SlX StX Ax
section
variable {P : Program} {w : World} {K : PySem.W.Frag} {mg : Str → Option Value} {base : Heap}
/-! Columns_or -/
theorem ok_Columns_or (T : TX K mg) : FnR P w K mg base (L2.CX P w) 9 T.a_Columns_or (spColsOr T.C_Columns) := by
  refine fnR_of T.d_Columns_or sc_Columns_or (fun _ _ _ _ _ _ us hl => match us, hl with | [_, _], _ => rfl) (spX_len fun a vs G h => by rw [h.1.1]; rfl) fun cdv A outer s H vs Q E hr hsp => ?_
  obtain ⟨⟨⟨a, xs⟩, b, ys⟩, G, hG, ⟨⟨rfl, ha, hb⟩, hn⟩, hQ, _⟩ := hsp
  try dsimp only at *
  refine ⟨_, (pss_cons (ps_asg (pe_op (op_addK (K := K) rfl) (pe_fldK (K := K) rfl (pv 0)) (pe_fldK (K := K) rfl (pv 1))) (pg_name (i := 2) sc_Columns_or.nd rfl (by first | exact Or.inl rfl | exact Or.inr rfl)))
    (pss_one (ps_ret (pe_makeS1 T.mk_Columns (ok_Columns_init T) (hr.mono (by decide)) rfl T.m_Columns passL (pv 2))))), ?_⟩
  have N : Nx G H G H := Nx.refl hG
  got_up
  refine fld_v rfl T.c_Columns T.na_Columns_names ha N.h fun t ht => ?_
  got_up
  refine fld_v rfl T.c_Columns T.na_Columns_names hb N.h fun u hu => ?_
  refine add_t N ht hu (by rw [List.length_map, List.length_map]; have := ha.n; have := hb.n; omega) fun p G1 H1 N1 n1 hp => ?_
  rw [← List.map_append] at hp
  got_up
  refine mk_colsT N1 _ hp hn fun q G2 H2 N2 n2 hq => ?_
  exact hQ _ G2 H2 N2 ⟨q, rfl, hq⟩
end
end Lw

namespace Lw
open PySem PySem.Spec PyProof.Rows L2 SlX StX Ax
section
variable {P : Program} {w : World} {K : PySem.W.Frag} {mg : Str → Option Value} {base : Heap}
/-! Columns_sub -/
theorem ok_Columns_sub (T : TX K mg) : FnR P w K mg base (L2.CX P w) 9 T.a_Columns_sub (spColsSub T.C_Columns) := by
  refine fnR_of T.d_Columns_sub sc_Columns_sub (fun _ _ _ _ _ _ us hl => match us, hl with | [_, _], _ => rfl) (spX_len fun a vs G h => by rw [h.1]; rfl) fun cdv A outer s H vs Q E hr hsp => ?_
  obtain ⟨⟨⟨a, xs⟩, b, ys⟩, G, hG, ⟨rfl, ha, hb⟩, hQ, _⟩ := hsp
  try dsimp only at *
  refine ⟨_, (pss_cons (ps_lcU (i := 2) (own := [("name", 3)]) rfl sc_Columns_sub.nd rfl (by first | exact Or.inl ⟨rfl, rfl⟩ | exact Or.inr ⟨Or.inl rfl, rfl, Or.inl rfl⟩ | exact Or.inr ⟨Or.inr rfl, rfl, Or.inl rfl⟩) (pi_tupK (K := K) rfl (pe_fldK (K := K) rfl (pv 0))) (blkOk_by (own := [("name", 3)]) (N := N_Columns_sub) (sc := df_Columns_sub.scope) (by decide +kernel)) (fun _ _ _ _ _ => (pg_name (i := 3) sc_Columns_sub.nd rfl (by first | exact Or.inl rfl | exact Or.inr rfl))) (fun _ _ _ _ _ => (pts_one (pt_cmpR (op_niK (K := K) rfl hr.units) (pv 3) (pe_fldK (K := K) rfl (pv 1)) rfl))) (fun _ _ _ _ _ => (pv 3)))
    (pss_one (ps_ret (pe_makeS1 T.mk_Columns (ok_Columns_init T) (hr.mono (by decide)) rfl T.m_Columns passL (pv 2))))), ?_⟩
  have N : Nx G H G H := Nx.refl hG
  got_up
  refine fld_v rfl T.c_Columns T.na_Columns_names ha N.h fun t ht => ?_
  refine ⟨t, rfl, ⟨_, sqT (N.h _ _ ht)⟩, ?_⟩
  refine lcb (src_tup (sqT ht)) N xs (fun x => decide (x ∉ ys)) (fun x v _ => v = .str x) (by rw [List.length_map]) (by rw [List.length_map]; have := ha.n; omega) (fun _ _ _ _ _ h => h) ?_ ?_
  · rintro i z v G' H' hz s1 s2 hv
    rw [List.getElem?_map, hz] at hv
    cases Option.some.inj hv
    refine ⟨_, fun Q q => w_gn q, rfl, fun Q q => ?_, fun _ G2 H2 s3 s4 Q q => ?_⟩
    · got_up
      refine fld_v rfl T.c_Columns T.na_Columns_names (hb.up s1) s2 fun u hu => ?_
      refine ni_d da_s (ds_ts (sqT (s2 _ _ hu))) ?_
      got_up
      exact q G' H' (Nx.refl s2)
    · got_up
      exact q _ G2 H2 (Nx.refl s4) rfl
  · intro D L G' H' N' n' hD gD h0 hA
    have hL := All2.eq hA
    subst hL
    got_up
    refine mk_colsL N' _ hD (ha.nms.filter _) fun q G2 H2 N2 n2 hq => ?_
    exact hQ _ G2 H2 N2 ⟨q, rfl, hq⟩
end
end Lw

namespace Lw
open PySem PySem.Spec PyProof.Rows L2 SlX StX Ax
section
variable {P : Program} {w : World} {K : PySem.W.Frag} {mg : Str → Option Value} {base : Heap}
/-! Columns_xor -/
theorem ok_Columns_xor (T : TX K mg) : FnR P w K mg base (L2.CX P w) 9 T.a_Columns_xor (spColsXor T.C_Columns) := by
  refine fnR_of T.d_Columns_xor sc_Columns_xor (fun _ _ _ _ _ _ us hl => match us, hl with | [_, _], _ => rfl) (spX_len fun a vs G h => by rw [h.1.1]; rfl) fun cdv A outer s H vs Q E hr hsp => ?_
  obtain ⟨⟨⟨a, xs⟩, b, ys⟩, G, hG, ⟨⟨rfl, ha, hb⟩, hn⟩, hQ, _⟩ := hsp
  try dsimp only at *
  refine ⟨_, (pss_cons (ps_lcU (i := 2) (own := [("name", 3)]) rfl sc_Columns_xor.nd rfl (by first | exact Or.inl ⟨rfl, rfl⟩ | exact Or.inr ⟨Or.inl rfl, rfl, Or.inl rfl⟩ | exact Or.inr ⟨Or.inr rfl, rfl, Or.inl rfl⟩) (pi_tupK (K := K) rfl (pe_op (op_addK (K := K) rfl) (pe_fldK (K := K) rfl (pv 0)) (pe_fldK (K := K) rfl (pv 1)))) (blkOk_by (own := [("name", 3)]) (N := N_Columns_xor) (sc := df_Columns_xor.scope) (by decide +kernel)) (fun _ _ _ _ _ => (pg_name (i := 3) sc_Columns_xor.nd rfl (by first | exact Or.inl rfl | exact Or.inr rfl))) (fun _ _ _ _ _ => (pts_one (pt_cmpR (op_neK (K := K) rfl hr.units) (pe_cmpR (op_inK (K := K) rfl hr.units) (pv 3) (pe_fldK (K := K) rfl (pv 0)) rfl) (pe_cmpR (op_inK (K := K) rfl hr.units) (pv 3) (pe_fldK (K := K) rfl (pv 1)) rfl) (nomark _)))) (fun _ _ _ _ _ => (pv 3)))
    (pss_one (ps_ret (pe_makeS1 T.mk_Columns (ok_Columns_init T) (hr.mono (by decide)) rfl T.m_Columns passL (pv 2))))), ?_⟩
  have N : Nx G H G H := Nx.refl hG
  got_up
  refine fld_v rfl T.c_Columns T.na_Columns_names ha N.h fun t ht => ?_
  got_up
  refine fld_v rfl T.c_Columns T.na_Columns_names hb N.h fun u hu => ?_
  refine add_t N ht hu (by rw [List.length_map, List.length_map]; have := ha.n; have := hb.n; omega) fun p G1 H1 N1 n1 hp => ?_
  rw [← List.map_append] at hp
  refine ⟨p, rfl, ⟨_, sqT (N1.h _ _ hp)⟩, ?_⟩
  refine lcb (src_tup (sqT hp)) N1 (xs ++ ys) (fun x => !decide (decide (x ∈ xs) = decide (x ∈ ys))) (fun x v _ => v = .str x) (by rw [List.length_map]) (by rw [List.length_map, List.length_append]; have := ha.n; have := hb.n; omega) (fun _ _ _ _ _ h => h) ?_ ?_
  · rintro i z v G' H' hz s1 s2 hv
    rw [List.getElem?_map, hz] at hv
    cases Option.some.inj hv
    refine ⟨_, fun Q q => w_gn q, rfl, fun Q q => ?_, fun _ G2 H2 s3 s4 Q q => ?_⟩
    · got_up
      refine fld_v rfl T.c_Columns T.na_Columns_names (ha.up (n1.g.trans s1)) s2 fun u hu => ?_
      refine in_d da_s (ds_ts (sqT (s2 _ _ hu))) ?_
      got_up
      refine fld_v rfl T.c_Columns T.na_Columns_names (hb.up (n1.g.trans s1)) s2 fun u hu => ?_
      refine in_d da_s (ds_ts (sqT (s2 _ _ hu))) ?_
      got_up
      exact q G' H' (Nx.refl s2)
    · got_up
      exact q _ G2 H2 (Nx.refl s4) rfl
  · intro D L G' H' N' n' hD gD h0 hA
    have hL := All2.eq hA
    subst hL
    got_up
    refine mk_colsL N' _ hD (hn.filter _) fun q G2 H2 N2 n2 hq => ?_
    exact hQ _ G2 H2 N2 ⟨q, rfl, hq⟩
end
end Lw

namespace Lw
open PySem PySem.Spec PyProof.Rows L2 SlX StX Ax
section
variable {P : Program} {w : World} {K : PySem.W.Frag} {mg : Str → Option Value} {base : Heap}
/-! Columns_read -/
theorem ok_Columns_read (T : TX K mg) : FnR P w K mg base (L2.CX P w) 9 T.a_Columns_read (spColsRead T.C_Columns) := by
  refine fnR_of T.d_Columns_read sc_Columns_read (fun _ _ _ _ _ _ us hl => match us, hl with | [_, _], _ => rfl) (spX_len fun a vs G h => by rw [h.1]; rfl) fun cdv A outer s H vs Q E hr hsp => ?_
  obtain ⟨ns, G, hG, ⟨rfl, hn⟩, hQ, _⟩ := hsp
  try dsimp only at *
  refine ⟨_, (pss_cons (ps_if (pt_cmpR (op_eqK (K := K) rfl hr.units) (pv 1) pe_str (nomark _)) (pss_one (ps_ret (pe_cls0 (i := 0) T.mk_Columns (ok_Columns_init T) (hr.mono (by decide)) rfl (by first | exact Or.inl rfl | exact Or.inr (Or.inl rfl) | exact Or.inr (Or.inr rfl)) passL))) pss_nil)
    (pss_cons (ps_asg (pe_split (pv 1) pe_str) (pg_name (i := 2) sc_Columns_read.nd rfl (by first | exact Or.inl rfl | exact Or.inr rfl)))
    (pss_one (ps_ret (pe_clsS (i := 0) T.mk_Columns (ok_Columns_init T) (hr.mono (by decide)) rfl (by first | exact Or.inl rfl | exact Or.inr (Or.inl rfl) | exact Or.inr (Or.inr rfl)) passL (pv 2)))))), ?_⟩
  have N : Nx G H G H := Nx.refl hG
  got_up
  refine t_if (fun e => ?_) (fun e => ?_)
  · have e := read_ne hn.ok (of_decide_eq_true e)
    subst e
    got_up
    refine ⟨rfl, mk_cols N [] hn fun p G1 H1 N1 n1 hp => ?_⟩
    exact hQ _ G1 H1 N1 ⟨p, rfl, hp⟩
  · have hne : ns ≠ [] := fun z => by subst z; exact absurd rfl (of_decide_eq_false e)
    have hl := read_len hn.ok hn.n
    got_up
    refine ⟨⟨_, rfl⟩, ?_⟩
    got_up
    refine ⟨_, _, rfl, rfl, by decide +kernel, sz (by omega), fun q hq => ?_⟩
    rw [read_split hn.ok hne]
    obtain ⟨G1, H1, e, N1, n1, hq1⟩ := nobj N hq (.lst (ns.map V.str))
    rw [e]; clear e
    got_up
    refine ⟨rfl, ?_⟩
    got_up
    refine mk_colsL N1 ns (N1.h _ _ hq1) hn fun p G2 H2 N2 n2 hp => ?_
    exact hQ _ G2 H2 N2 ⟨p, rfl, hp⟩
end
end Lw

namespace Lw
open PySem PySem.Spec PyProof.Rows L2 SlX StX Ax
section
variable {P : Program} {w : World} {K : PySem.W.Frag} {mg : Str → Option Value} {base : Heap}
/-! _law_built -/
abbrev spBuilt (K : PySem.W.Frag) (C : Addr) : Sp := spX (fun (d : Addr × List Str) vs G => vs = [.ref d.1] ∧ G d.1 = some (.lst (d.2.map V.str)) ∧ Nms d.2) (RCols C fun d => cset d.2) NoX
theorem ok__law_built (T : TX K mg) : FnR P w K mg base (L2.CX P w) 13 T.a__law_built (spBuilt K T.C_Columns) := by
  refine fnR_of T.d__law_built sc__law_built (fun _ _ _ _ _ _ us hl => match us, hl with | [_], _ => rfl) (spX_len fun a vs G h => by rw [h.1]; rfl) fun cdv A outer s H vs Q E hr hsp => ?_
  obtain ⟨⟨b, row⟩, G, hG, ⟨rfl, hb, hn⟩, hQ, _⟩ := hsp
  try dsimp only at *
  refine ⟨_, (pss_cons (ps_if (pt_cmpR (op_eqK (K := K) rfl hr.units) (pe_callB (call_lenK (K := K) rfl) rfl T.b_len (by decide +kernel) (pa_cons (pv 0) pa_nil)) pe_int (nomark _)) (pss_one (ps_ret (pe_mkR0 T.mk_Columns (ok_Columns_init T) (hr.mono (by decide)) rfl T.m_Columns passL))) pss_nil)
    (pss_cons (ps_if (pt_cmpR (op_eqK (K := K) rfl hr.units) (pe_callB (call_lenK (K := K) rfl) rfl T.b_len (by decide +kernel) (pa_cons (pv 0) pa_nil)) pe_int (nomark _)) (pss_one (ps_ret (pe_mkR T.mk_Columns (ok_Columns_init T) (hr.mono (by decide)) rfl T.m_Columns passL (pa_cons (pe_ix (ix_K (K := K) rfl) (pv 0) pe_int (fun _ _ => rfl)) pa_nil)))) pss_nil)
    (pss_cons (ps_if (pt_cmpR (op_eqK (K := K) rfl hr.units) (pe_callB (call_lenK (K := K) rfl) rfl T.b_len (by decide +kernel) (pa_cons (pv 0) pa_nil)) pe_int (nomark _)) (pss_one (ps_ret (pe_mkR T.mk_Columns (ok_Columns_init T) (hr.mono (by decide)) rfl T.m_Columns passL (pa_cons (pe_ix (ix_K (K := K) rfl) (pv 0) pe_int (fun _ _ => rfl)) (pa_cons (pe_ix (ix_K (K := K) rfl) (pv 0) pe_int (fun _ _ => rfl)) pa_nil))))) pss_nil)
    (pss_cons (ps_if (pt_cmpR (op_eqK (K := K) rfl hr.units) (pe_callB (call_lenK (K := K) rfl) rfl T.b_len (by decide +kernel) (pa_cons (pv 0) pa_nil)) pe_int (nomark _)) (pss_one (ps_ret (pe_mkR T.mk_Columns (ok_Columns_init T) (hr.mono (by decide)) rfl T.m_Columns passL (pa_cons (pe_ix (ix_K (K := K) rfl) (pv 0) pe_int (fun _ _ => rfl)) (pa_cons (pe_ix (ix_K (K := K) rfl) (pv 0) pe_int (fun _ _ => rfl)) (pa_cons (pe_ix (ix_K (K := K) rfl) (pv 0) pe_int (fun _ _ => rfl)) pa_nil)))))) pss_nil)
    (pss_one (ps_ret (ClX.pe_cmeth (pe_glob (v := .ref T.C_Columns) rfl T.m_Columns rfl) T.cr_Columns T.cm_Columns_read (ok_Columns_read T) (hr.mono (by decide)) passL (pa_cons (pe_join pe_str (pv 0)) pa_nil)))))))), ?_⟩
  have N : Nx G H G H := Nx.refl hG
  have hs : SqL K H b (row.map V.str) := sqL (N.h _ _ hb)
  have hl := hn.n
  have mk : ∀ xs, row = xs → rMk T.C_Columns (spColsInit T.C_Columns) E0 (xs.map V.str) H Q := fun xs e => by
    subst e
    exact mk_cols N _ hn fun p G1 H1 N1 n1 hp => hQ _ G1 H1 N1 ⟨p, rfl, hp⟩
  got_up
  refine len_l hs ?_
  got_up
  refine t_if (fun e => ?_) (fun e0 => ?_)
  · got_up
    have e := of_decide_eq_true e
    exact mk [] (List.map_eq_nil_iff.mp (List.length_eq_zero_iff.mp (by exact_mod_cast e)))
  got_up
  refine len_l hs ?_
  got_up
  refine t_if (fun e => ?_) (fun e1 => ?_)
  · have e := of_decide_eq_true e
    obtain ⟨x, rfl⟩ : ∃ x, row = [x] := List.length_eq_one_iff.mp (by rw [List.length_map] at e; exact_mod_cast e)
    got_up
    refine ix_l hs rfl ?_
    got_up
    exact mk [x] rfl
  got_up
  refine len_l hs ?_
  got_up
  refine t_if (fun e => ?_) (fun e2 => ?_)
  · have e := of_decide_eq_true e
    obtain ⟨x, y, rfl⟩ : ∃ x y, row = [x, y] := len_two (by rw [List.length_map] at e; exact_mod_cast e)
    got_up
    refine ix_l hs rfl ?_
    got_up
    refine ix_l hs rfl ?_
    got_up
    exact mk [x, y] rfl
  got_up
  refine len_l hs ?_
  got_up
  refine t_if (fun e => ?_) (fun e3 => ?_)
  · have e := of_decide_eq_true e
    obtain ⟨x, y, z, rfl⟩ : ∃ x y z, row = [x, y, z] := len_three (by rw [List.length_map] at e; exact_mod_cast e)
    got_up
    refine ix_l hs rfl ?_
    got_up
    refine ix_l hs rfl ?_
    got_up
    refine ix_l hs rfl ?_
    got_up
    exact mk [x, y, z] rfl
  got_up
  refine ⟨rfl, ?_⟩
  got_up
  refine ⟨⟨_, rfl⟩, ?_⟩
  got_up
  refine ⟨_, b, row, rfl, rfl, .inl hs, join_le hn.ok (by omega), ?_⟩
  got_up
  refine cl0 N row ⟨rfl, hn⟩ fun v G1 H1 N1 n1 r => ?_
  exact hQ _ G1 H1 N1 r
end
end Lw

namespace Lw
open PySem PySem.Spec PyProof.Rows L2 SlX StX Ax
section
variable {P : Program} {w : World} {K : PySem.W.Frag} {mg : Str → Option Value} {base : Heap}
/-! _law_draw -/
theorem ok__law_draw (T : TX K mg) : FnR P w K mg base (L2.CX P w) 1 T.a__law_draw spDraw := by
  refine pool_draw (fnR_of T.d__law_draw sc__law_draw (fun _ _ _ _ _ _ us hl => match us, hl with | [_, _], _ => rfl) (fun vs H Q E h => ?_) fun cdv A outer s H vs Q E hr hsp => ?_)
  · obtain ⟨p, ns, m, G, Hm, rfl, _⟩ := h; rfl
  obtain ⟨p, ns, m, G, Hm, rfl, hp, hm0, hg0, N, hm, hQ⟩ := hsp
  refine ⟨_, (pss_cons (ps_if (pt_cmpR (op_eqK (K := K) rfl hr.units) (pv 0) (pe_lst pa_nil) (nomark _)) (pss_one (ps_ret pe_int)) pss_nil)
    (pss_one (ps_ret (pe_op op_mod (pe_callTy (call_int1) rfl T.b_int (by decide +kernel) (pa_cons (pe_bm0 PySem.F.plainAttrs_list PySem.F.slot_list_pop PySem.F.type_list_pop mt_pop (pv 0)) pa_nil)) (pv 1))))), ?_⟩
  got_up
  refine ⟨Nat.zero_le _, fun q hq0 => ?_⟩
  obtain ⟨G', H', e, N', n, hq⟩ := nobj N hq0 (.lst [])
  rw [e]
  have hp' := n.e _ _ hp
  have hg' := n.hid hp hg0
  refine eq_d (α := List Int) (x := ns) (y := []) (da_li (sqL hp')) (.lst (sqL (N'.h _ _ hq)) .nil) ?_
  got_up
  refine t_if (fun e => ?_) (fun e => ?_)
  · got_up
    exact hQ 0 ns G' H' N' hp' hg' (by omega) hm
  · got_up
    have hne : ns ≠ [] := of_decide_eq_false e
    obtain ⟨ys, y, rfl⟩ := snoc_of hne
    rw [List.map_append] at hp'
    refine ⟨ty_l hp', pop_l hp' ?_⟩
    obtain ⟨H2, e2, N2, hp2⟩ := mobj N' hm0 hg' (.lst (ys.map V.int))
    rw [e2]
    got_up
    refine .inl ⟨y, rfl, ?_⟩
    got_up
    refine mod_i hm ?_
    exact hQ _ ys G' H2 N2 hp2 hg' (Int.emod_nonneg _ (by omega)) (Int.emod_lt_of_pos _ hm)
end
end Lw

namespace Lw
open PySem PySem.Spec PyProof.Rows L2 SlX StX Ax
section
variable {P : Program} {w : World} {K : PySem.W.Frag} {mg : Str → Option Value} {base : Heap}
/-! _law_flag -/
theorem ok__law_flag (T : TX K mg) : FnR P w K mg base (L2.CX P w) 1 T.a__law_flag (spX (fun (d : Bool × Bool) vs _ => vs = [.bl d.1, .bl d.2]) (RBool fun d => decide (d.1 = d.2)) NoX) := by
  refine fnR_of T.d__law_flag sc__law_flag (fun _ _ _ _ _ _ us hl => match us, hl with | [_, _], _ => rfl) (spX_len fun a vs G h => by rw [h]; rfl) fun cdv A outer s H vs Q E hr hsp => ?_
  obtain ⟨⟨a, b⟩, G, hG, rfl, hQ, _⟩ := hsp
  try dsimp only at *
  refine ⟨_, (pss_one (ps_ret (pe_and (pe_callB (call_isiK' (K := K) rfl) rfl T.b_isinstance (by decide +kernel) (pa_cons (pv 0) (pa_cons (pe_bltn (v := .ty "bool") (u := .type "bool") rfl T.b_bool (by decide +kernel) rfl) pa_nil))) (pe_one (pe_cmpR (op_eqK (K := K) rfl hr.units) (pv 0) (pv 1) (nomark _)))))), ?_⟩
  have N : Nx G H G H := Nx.refl hG
  got_up
  refine ⟨_, _, _, _, true, rfl, .ty "bool", .base (.bl a), rfl, ?_⟩
  refine ⟨true, rfl, iteT ?_⟩
  got_up
  exact hQ _ G H N rfl
end
end Lw

namespace Lw
open PySem PySem.Spec PyProof.Rows L2 SlX StX Ax
section
variable {P : Program} {w : World} {K : PySem.W.Frag} {mg : Str → Option Value} {base : Heap}
/-! Columns_iter -/
theorem ok_Columns_iter (T : TX K mg) : FnIt P w K mg base (L2.CX P w) 1 T.a_Columns_iter (ItCols T.C_Columns) := by
  refine fnIt_of T.d_Columns_iter sc_Columns_iter (fun _ _ _ _ _ _ us hl => match us, hl with | [_], _ => rfl) fun cdv A outer s H a t Q E hr hA hQ => ?_
  obtain ⟨dx, zs, h1, h2⟩ := hA
  refine ⟨_, (pss_one (ps_ret (pe_callB (call_iterT (K := K) rfl rfl) rfl T.b_iter (by decide +kernel) (pa_cons (pe_fldK (K := K) rfl (pv 0)) pa_nil)))), ?_⟩
  got_up
  refine w_fld (w_var rfl ⟨a, _, dx, colsF t, .ref t, rfl, h1, T.c_Columns, T.na_Columns_names, rfl, ?_⟩)
  got_up
  exact ⟨t, zs, rfl, sqT h2, hQ⟩
end
end Lw

namespace Lw
open PySem PySem.Spec PyProof.Rows L2 SlX StX Ax
section
variable {P : Program} {w : World} {K : PySem.W.Frag} {mg : Str → Option Value} {base : Heap}
/-! Columns_len -/
theorem ok_Columns_len (T : TX K mg) : FnR P w K mg base (L2.CX P w) 1 T.a_Columns_len (spColsLen T.C_Columns) := by
  refine fnR_of T.d_Columns_len sc_Columns_len (fun _ _ _ _ _ _ us hl => match us, hl with | [_], _ => rfl) (spX_len fun a vs G h => by rw [h.1]; rfl) fun cdv A outer s H vs Q E hr hsp => ?_
  obtain ⟨⟨a, xs⟩, G, hG, ⟨rfl, ha⟩, hQ, _⟩ := hsp
  try dsimp only at *
  refine ⟨_, (pss_one (ps_ret (pe_callB (call_lenK (K := K) rfl) rfl T.b_len (by decide +kernel) (pa_cons (pe_fldK (K := K) rfl (pv 0)) pa_nil)))), ?_⟩
  have N : Nx G H G H := Nx.refl hG
  got_up
  refine fld_v rfl T.c_Columns T.na_Columns_names ha N.h fun t ht => ?_
  refine len_t (sqT (N.h _ _ ht)) ?_
  rw [List.length_map]
  got_up
  exact hQ _ G H N rfl
end
end Lw

namespace Lw
open PySem PySem.Spec PyProof.Rows L2 SlX StX Ax
section
variable {P : Program} {w : World} {K : PySem.W.Frag} {mg : Str → Option Value} {base : Heap}
/-! Columns_text -/
theorem ok_Columns_text (T : TX K mg) : FnR P w K mg base (L2.CX P w) 1 T.a_Columns_text (spColsText T.C_Columns) := by
  refine fnR_of T.d_Columns_text sc_Columns_text (fun _ _ _ _ _ _ us hl => match us, hl with | [_], _ => rfl) (spX_len fun a vs G h => by rw [h.1]; rfl) fun cdv A outer s H vs Q E hr hsp => ?_
  obtain ⟨⟨a, xs⟩, G, hG, ⟨rfl, ha⟩, hQ, _⟩ := hsp
  try dsimp only at *
  refine ⟨_, (pss_one (ps_ret (pe_join pe_str (pe_fldK (K := K) rfl (pv 0))))), ?_⟩
  have N : Nx G H G H := Nx.refl hG
  got_up
  refine ⟨⟨_, rfl⟩, ?_⟩
  got_up
  refine fld_v rfl T.c_Columns T.na_Columns_names ha N.h fun t ht => ?_
  refine ⟨_, t, xs, rfl, rfl, .inr (sqT (N.h _ _ ht)), ?_, ?_⟩
  · exact join_le ha.ok (by have := ha.n; omega)
  · exact hQ _ G H N rfl
end
end Lw

namespace Lw
open PySem PySem.Spec PyProof.Rows L2 SlX StX Ax
section
variable {P : Program} {w : World} {K : PySem.W.Frag} {mg : Str → Option Value} {base : Heap}
/-! _law_is_set -/
abbrev spIsSet (K : PySem.W.Frag) (C : Addr) : Sp := spX (fun (d : (Addr × List Str) × Addr × List Str) vs G => vs = [.ref d.1.1, .ref d.2.1] ∧ ColsAt C G d.1.1 d.1.2 ∧ G d.2.1 = some (.lst (d.2.2.map V.str)) ∧ Nms d.2.2) (RBool fun d => decide (d.1.2 = cset d.2.2)) NoX
theorem ok__law_is_set (T : TX K mg) : FnR P w K mg base (L2.CX P w) 13 T.a__law_is_set (spIsSet K T.C_Columns) := by
  refine fnR_of T.d__law_is_set sc__law_is_set (fun _ _ _ _ _ _ us hl => match us, hl with | [_, _], _ => rfl) (spX_len fun a vs G h => by rw [h.1]; rfl) fun cdv A outer s H vs Q E hr hsp => ?_
  obtain ⟨⟨⟨a, xs⟩, b, row⟩, G, hG, ⟨rfl, ha, hb, hn⟩, hQ, _⟩ := hsp
  try dsimp only at *
  refine ⟨_, (pss_cons (ps_asg (pe_callB (call_sortedK (P := P) (w := w) rfl rfl rfl) rfl T.b_sorted (by decide +kernel) (pa_cons (pe_callTy (call_setK (K := K) (P := P) (w := w) rfl rfl rfl rfl) rfl T.b_set (by decide +kernel) (pa_cons (pv 1) pa_nil)) pa_nil)) (pg_name (i := 2) sc__law_is_set.nd rfl (by first | exact Or.inl rfl | exact Or.inr rfl)))
    (pss_cons (ps_if (PW.pt (pw_or (pt_not (pt_val (pe_callB (call_isiK' (K := K) rfl) rfl T.b_isinstance (by decide +kernel) (pa_cons (pv 0) (pa_cons (pe_glob (v := .ref T.C_Columns) rfl T.m_Columns rfl) pa_nil))))) (pw_or1 (pt_not (pt_val (pe_callB (call_isiK' (K := K) rfl) rfl T.b_isinstance (by decide +kernel) (pa_cons (pe_fldK (K := K) rfl (pv 0)) (pa_cons (pe_bltn (v := .ty "tuple") (u := .type "tuple") rfl T.b_tuple (by decide +kernel) rfl) pa_nil)))))))) (pss_one (ps_ret pe_bl)) pss_nil)
    (pss_cons (ps_if (PW.pt (pw_or (pt_cmpR (op_neK (K := K) rfl hr.units) (pe_fldK (K := K) rfl (pv 0)) (pe_callTy (call_tupleK (K := K) rfl) rfl T.b_tuple (by decide +kernel) (pa_cons (pv 2) pa_nil)) (nomark _)) (pw_or1 (pt_cmpR (op_neK (K := K) rfl hr.units) (pe_callB (call_lenO T.me_Columns_len.at_ T.me_Columns_len.fn (ok_Columns_len T) (hr.mono (by decide)) passL) rfl T.b_len (by decide +kernel) (pa_cons (pv 0) pa_nil)) (pe_callB (call_lenK (K := K) rfl) rfl T.b_len (by decide +kernel) (pa_cons (pv 2) pa_nil)) (nomark _))))) (pss_one (ps_ret pe_bl)) pss_nil)
    (pss_cons (ps_asg (pe_join pe_str (pv 2)) (pg_name (i := 3) sc__law_is_set.nd rfl (by first | exact Or.inl rfl | exact Or.inr rfl)))
    (pss_cons (ps_if (PW.pt (pw_or (pt_cmpR (op_neK (K := K) rfl hr.units) (pe_methR0 (pv 0) T.c_Columns T.me_Columns_text (ok_Columns_text T) (hr.mono (by decide)) passL) (pv 3) (nomark _)) (pw_or1 (pt_cmpR op_notBl (pe_cmpR (op_cmp (fun _ _ => rfl) T.nf_Columns_Columns T.me_Columns_eq.at_ T.me_Columns_eq.fn (ok_Columns_eq T) (hr.mono (by decide)) passL) (pv 0) (ClX.pe_cmeth (pe_glob (v := .ref T.C_Columns) rfl T.m_Columns rfl) T.cr_Columns T.cm_Columns_read (ok_Columns_read T) (hr.mono (by decide)) passL (pa_cons (pv 3) pa_nil)) (nomark _)) pe_bl (nomark _))))) (pss_one (ps_ret pe_bl)) pss_nil)
    (pss_one (ps_ret (pe_and (pe_cmpR (op_eqK (K := K) rfl hr.units) (pe_callTy (call_listO (k := 1) (K := K) rfl T.me_Columns_iter ((ok_Columns_iter T).mono (by decide)) T.me_Columns_len ((ok_Columns_len T).mono (by decide)) (hr.mono (by decide))) rfl T.b_list (by decide +kernel) (pa_cons (pv 0) pa_nil)) (pv 2) (nomark _)) (pe_one (pe_cmpR (op_eqK (K := K) rfl hr.units) (pe_callTy (call_boolO T.nb_Columns T.me_Columns_len.at_ T.me_Columns_len.fn (ok_Columns_len T) (hr.mono (by decide)) passL) rfl T.b_bool (by decide +kernel) (pa_cons (pv 0) pa_nil)) (pe_cmpR (op_neK (K := K) rfl hr.units) (pv 2) (pe_lst pa_nil) (nomark _)) (nomark _))))))))))), ?_⟩
  have N : Nx G H G H := Nx.refl hG
  have hQ : ∀ G' H', Nx G H G' H' → Q (.bl (decide (xs = cset row))) H' := fun G' H' n => hQ _ G' H' n rfl
  have hl := hn.n
  have hx := ha.n
  got_up
  refine ⟨b, row, rfl, .inl (sqL (N.h _ _ hb)), hn.n, fun p hp => ?_⟩
  obtain ⟨G1, H1, e, N1, n1, hs⟩ := nobj N hp (SetT P w p (dd row))
  rw [e]; clear e
  got_up
  refine ⟨p, dd row, rfl, N1.h _ _ hs, by rw [dd_cset_len]; exact hn.c, fun ys q hy1 hy2 hq => ?_⟩
  rw [cset_dd hy1 hy2]
  obtain ⟨G2, H2, e, N2, n2, hl2⟩ := nobj N1 hq (.lst ((cset row).map V.str))
  rw [e]; clear e
  have ha2 := ha.up (n1.g.trans n2.g)
  obtain ⟨dxa, ta, ha3, ht3⟩ := ha2.at_
  got_up
  refine ⟨_, _, _, _, true, rfl, .own _, T.ty_Columns (N2.h _ _ ha3), T.ist_Columns_Columns, ?_⟩
  got_up
  refine iteF ?_
  got_up
  refine fld_v rfl T.c_Columns T.na_Columns_names ha2 N2.h fun t ht => ?_
  got_up
  refine ⟨_, _, _, _, true, rfl, .ty "tuple", .base (.tup (N2.h _ _ ht)), rfl, ?_⟩
  got_up
  refine iteF ?_
  got_up
  refine fld_v rfl T.c_Columns T.na_Columns_names ha2 N2.h fun t ht => ?_
  got_up
  refine ⟨q, _, rfl, .inl ⟨sqL (N2.h _ _ hl2), fun u hu => ?_⟩⟩
  obtain ⟨G3, H3, e, N3, n3, hu3⟩ := nobj N2 hu (.tup ((cset row).map V.str))
  rw [e]; clear e
  refine ne_d (α := PySem.W.Tup Str) (da_ts (sqT (N3.h _ _ (n3.g _ _ ht)))) (da_ts (sqT (N3.h _ _ hu3))) ?_
  have e0 : decide (PySem.W.Tup.mk xs ≠ PySem.W.Tup.mk (cset row)) = !decide (xs = cset row) := by rw [Bool.eq_iff_iff]; simp
  rw [e0]
  have ha3' := ha2.up n3.g
  got_up
  refine t_if (fun e => ?_) (fun e => ?_)
  · refine iteT ?_
    got_up
    have z := hQ G3 H3 N3
    rw [nlow e] at z
    exact z
  have exs : xs = cset row := of_decide_eq_true (nlow' e)
  subst exs
  simp only [decide_true] at hQ
  got_up
  refine ⟨a, rfl, cols_ins ha3' N3.h, ?_⟩
  refine cl0 N3 (a, _) ⟨rfl, ha3'⟩ fun v G4 H4 N4 n4 r => ?_
  obtain rfl : v = .int (cset row).length := r
  refine ⟨_, rfl, by omega, ?_⟩
  have hl4 := n4.g _ _ (n3.g _ _ hl2)
  have ha4 := ha3'.up n4.g
  got_up
  refine len_l (sqL (N4.h _ _ hl4)) ?_
  rw [List.length_map]
  got_up
  refine iteF' (by simp) ?_
  got_up
  refine ⟨⟨_, rfl⟩, ?_⟩
  got_up
  refine ⟨_, q, cset row, rfl, rfl, .inl (sqL (N4.h _ _ hl4)), join_le ha4.ok (by omega), ?_⟩
  got_up
  obtain ⟨dx4, t4, ha5, ht5⟩ := ha4.at_
  refine ⟨a, dx4, _, rfl, N4.h _ _ ha5, rfl, ?_⟩
  got_up
  refine cl0 N4 (a, _) ⟨rfl, ha4⟩ fun v G5 H5 N5 n5 r => ?_
  obtain rfl : v = .str (Txt.join " " (cset row)) := r
  got_up
  refine iteF' (by simp) ?_
  have ha5 := ha4.up n5.g
  got_up
  refine ⟨rfl, ?_⟩
  got_up
  refine cl0 N5 (cset row) ⟨rfl, ha5.nms⟩ fun v G6 H6 N6 n6 ⟨r6, e6, hr6⟩ => ?_
  subst e6
  replace hr6 : ColsAt T.C_Columns G6 r6 (cset (cset row)) := hr6
  rw [cset_cset] at hr6
  have ha6 := ha5.up n6.g
  refine ⟨a, r6, rfl, rfl, cols_ins ha6 N6.h, cols_ins hr6 N6.h, ?_⟩
  refine cl0 N6 ((a, _), r6, _) ⟨rfl, ha6, hr6⟩ fun v G7 H7 N7 n7 r => ?_
  obtain rfl : v = .bl (decide (cset row = cset row)) := r
  rw [decide_eq_true rfl]
  got_up
  refine ⟨_, _, rfl, rfl, ?_⟩
  got_up
  refine iteF' (by simp) ?_
  have ha7 := ha6.up n7.g
  have hl7 := n7.g _ _ (n6.g _ _ (n5.g _ _ hl4))
  got_up
  refine list_cols N7 ha7 fun p8 G8 H8 N8 n8 hp8 => ?_
  got_up
  refine eq_d (da_ls (sqL (N8.h _ _ hp8))) (da_ls (sqL (N8.h _ _ (n8.g _ _ hl7)))) ?_
  rw [decide_eq_true rfl]
  refine ⟨true, rfl, iteT ?_⟩
  have ha8 := ha7.up n8.g
  got_up
  refine ⟨a, rfl, cols_ins ha8 N8.h, ?_⟩
  refine cl0 N8 (a, _) ⟨rfl, ha8⟩ fun v G9 H9 N9 n9 r => ?_
  obtain rfl : v = .int (cset row).length := r
  refine ⟨_, rfl, by omega, ?_⟩
  got_up
  refine ⟨Nat.zero_le _, fun u9 hu9 => ?_⟩
  obtain ⟨G10, H10, e, N10, n10, hu10⟩ := nobj N9 hu9 (.lst [])
  rw [e]; clear e
  refine ne_d (α := List Str) (y := []) (da_ls (sqL (N10.h _ _ (n10.g _ _ (n9.g _ _ (n8.g _ _ hl7)))))) (.lst (sqL (N10.h _ _ hu10)) .nil) ?_
  got_up
  have e11 : decide (((cset row).length != 0) = decide (cset row ≠ [])) = true := by
    cases h : cset row with
    | nil => rfl
    | cons x r => rfl
  rw [e11]
  exact hQ G10 H10 N10
end
end Lw

namespace Lw
open PySem PySem.Spec PyProof.Rows L2 SlX StX Ax
section
variable {P : Program} {w : World} {K : PySem.W.Frag} {mg : Str → Option Value} {base : Heap}
/-! _law_names -/
abbrev spNames : Sp := spX (fun (d : Addr × Nat) vs G => vs = [.ref d.1, .int d.2] ∧ G d.1 = some (Pool d.1) ∧ d.2 ≤ 16) (fun d v G => ∃ a ns, v = .ref a ∧ G a = some (.lst (List.map V.str ns)) ∧ ns.length = d.2 ∧ ∀ x ∈ ns, isNm x = true) NoX
theorem ok__law_names (T : TX K mg) : FnR P w K mg base (L2.CX P w) 5 T.a__law_names spNames := by
  refine fnR_of T.d__law_names sc__law_names (fun _ _ _ _ _ _ us hl => match us, hl with | [_, _], _ => rfl) (spX_len fun a vs G h => by rw [h.1]; rfl) fun cdv A outer s H vs Q E hr hsp => ?_
  obtain ⟨⟨p, m⟩, G, hG, ⟨rfl, hp, hm⟩, hQ, _⟩ := hsp
  try dsimp only at *
  refine ⟨_, (pss_cons (ps_asg pe_str (pg_name (i := 2) sc__law_names.nd rfl (by first | exact Or.inl rfl | exact Or.inr rfl)))
    (pss_cons (ps_asg (pe_ix (ix_K (K := K) rfl) (pv 2) (pe_callR (ok__law_draw T) (hr.mono (by decide)) T.k__law_draw rfl T.m__law_draw passL (pa_cons (pv 0) (pa_cons pe_int pa_nil))) (fun _ _ => rfl)) (pg_name (i := 3) sc__law_names.nd rfl (by first | exact Or.inl rfl | exact Or.inr rfl)))
    (pss_cons (ps_for (passes_of rfl) rfl (pi_range1 rfl T.b_range (pa_cons pe_int pa_nil)) (pg_name (i := 4) sc__law_names.nd rfl (by first | exact Or.inl rfl | exact Or.inr rfl))
    (pss_one (ps_asg (pe_op (op_addK (K := K) rfl) (pv 3) (pe_ix (ix_K (K := K) rfl) (pe_op (op_addK (K := K) rfl) pe_str (pv 2)) (pe_callR (ok__law_draw T) (hr.mono (by decide)) T.k__law_draw rfl T.m__law_draw passL (pa_cons (pv 0) (pa_cons pe_int pa_nil))) (fun _ _ => rfl))) (pg_name (i := 3) sc__law_names.nd rfl (by first | exact Or.inl rfl | exact Or.inr rfl)))))
    (pss_cons (ps_asg (pe_callR (ok__law_draw T) (hr.mono (by decide)) T.k__law_draw rfl T.m__law_draw passL (pa_cons (pv 0) (pa_cons pe_int pa_nil))) (pg_name (i := 5) sc__law_names.nd rfl (by first | exact Or.inl rfl | exact Or.inr rfl)))
    (pss_cons (ps_asg (pe_ix (ix_K (K := K) rfl) (pe_lst (pa_cons pe_int (pa_cons pe_int (pa_cons pe_int (pa_cons pe_int (pa_cons pe_int (pa_cons pe_int (pa_cons pe_int (pa_cons pe_int (pa_cons pe_int (pa_cons pe_int (pa_cons pe_int (pa_cons pe_int pa_nil))))))))))))) (pe_callR (ok__law_draw T) (hr.mono (by decide)) T.k__law_draw rfl T.m__law_draw passL (pa_cons (pv 0) (pa_cons pe_int pa_nil))) (fun _ _ => rfl)) (pg_name (i := 6) sc__law_names.nd rfl (by first | exact Or.inl rfl | exact Or.inr rfl)))
    (pss_cons (ps_asg (pe_callR (ok__law_draw T) (hr.mono (by decide)) T.k__law_draw rfl T.m__law_draw passL (pa_cons (pv 0) (pa_cons pe_int pa_nil))) (pg_name (i := 7) sc__law_names.nd rfl (by first | exact Or.inl rfl | exact Or.inr rfl)))
    (pss_cons (ps_asg (pe_callR (ok__law_draw T) (hr.mono (by decide)) T.k__law_draw rfl T.m__law_draw passL (pa_cons (pv 0) (pa_cons pe_int pa_nil))) (pg_name (i := 8) sc__law_names.nd rfl (by first | exact Or.inl rfl | exact Or.inr rfl)))
    (pss_cons (ps_asg (pe_lst pa_nil) (pg_name (i := 9) sc__law_names.nd rfl (by first | exact Or.inl rfl | exact Or.inr rfl)))
    (pss_cons (ps_for (passes_of rfl) rfl (pi_range1 rfl T.b_range (pa_cons (pv 1) pa_nil)) (pg_name (i := 4) sc__law_names.nd rfl (by first | exact Or.inl rfl | exact Or.inr rfl))
    (pss_cons (ps_asg (pe_ix (ix_K (K := K) rfl) (pv 2) (pe_op op_mod (pe_callTy (call_int1) rfl T.b_int (by decide +kernel) (pa_cons (pe_op (op_addK (K := K) rfl) (pv 5) (pe_op op_mulU (pv 4) (pv 6))) pa_nil)) pe_int) (fun _ _ => rfl)) (pg_name (i := 10) sc__law_names.nd rfl (by first | exact Or.inl rfl | exact Or.inr rfl)))
    (pss_one (ps_if (pt_cmpR (op_eqK (K := K) rfl hr.units) (pv 7) pe_int (nomark _)) (pss_one (ps_expr (pe_bm PySem.F.plainAttrs_list PySem.F.slot_list_append PySem.F.type_list_append mt_append (pv 9) (pa_cons (pe_op (op_addK (K := K) rfl) (pe_op (op_addK (K := K) rfl) (pe_slice sl_str (pv 3) po_none (po_some (pv 8))) (pv 10)) (pe_slice sl_str (pv 3) (po_some (pv 8)) po_none)) pa_nil)))) (pss_one (ps_if (pt_cmpR (op_eqK (K := K) rfl hr.units) (pv 7) pe_int (nomark _)) (pss_one (ps_expr (pe_bm PySem.F.plainAttrs_list PySem.F.slot_list_append PySem.F.type_list_append mt_append (pv 9) (pa_cons (pe_op (op_addK (K := K) rfl) (pv 10) (pe_slice sl_str (pv 3) po_none (po_some (pe_callR (ok__law_draw T) (hr.mono (by decide)) T.k__law_draw rfl T.m__law_draw passL (pa_cons (pv 0) (pa_cons pe_int pa_nil)))))) pa_nil)))) (pss_one (ps_if (pt_cmpR (op_eqK (K := K) rfl hr.units) (pv 7) pe_int (nomark _)) (pss_one (ps_expr (pe_bm PySem.F.plainAttrs_list PySem.F.slot_list_append PySem.F.type_list_append mt_append (pv 9) (pa_cons (pv 10) pa_nil)))) (pss_one (ps_if (pt_cmpR (op_eqK (K := K) rfl hr.units) (pv 7) pe_int (nomark _)) (pss_cons (ps_asg (pe_ix (ix_K (K := K) rfl) (pv 2) (pe_op op_mod (pe_callTy (call_int1) rfl T.b_int (by decide +kernel) (pa_cons (pe_op (op_addK (K := K) rfl) (pv 5) (pe_op op_mulU (pe_op op_mod (pe_callTy (call_int1) rfl T.b_int (by decide +kernel) (pa_cons (pv 4) pa_nil)) pe_int) (pv 6))) pa_nil)) pe_int) (fun _ _ => rfl)) (pg_name (i := 10) sc__law_names.nd rfl (by first | exact Or.inl rfl | exact Or.inr rfl)))
    (pss_one (ps_expr (pe_bm PySem.F.plainAttrs_list PySem.F.slot_list_append PySem.F.type_list_append mt_append (pv 9) (pa_cons (pe_op (op_addK (K := K) rfl) (pv 10) (pe_slice sl_str (pv 3) po_none (po_some (pe_op op_sub pe_int (pe_op op_fdiv (pv 4) pe_int))))) pa_nil))))) (pss_one (ps_expr (pe_bm PySem.F.plainAttrs_list PySem.F.slot_list_append PySem.F.type_list_append mt_append (pv 9) (pa_cons (pe_op (op_addK (K := K) rfl) (pe_slice sl_str (pv 3) po_none (po_some (pe_op (op_addK (K := K) rfl) pe_int (pe_op op_fdiv (pv 8) pe_int)))) (pe_slice sl_str (pe_callTy (call_str_int) rfl T.b_str (by decide +kernel) (pa_cons (pv 4) pa_nil)) po_none (po_some (pv 4)))) pa_nil))))))))))))))
    (pss_one (ps_ret (pv 9)))))))))))), ?_⟩
  have N : Nx G H G H := Nx.refl hG
  got_up
  refine dr N (hp) (by decide) fun r1 G1 H1 N1 n1 r1a r1b => ?_
  have hp1 := n1.g _ _ hp
  obtain ⟨c1, hc1, lc1⟩ := let_at r1a r1b
  refine ix_s (by decide +kernel) hc1 ?_
  got_up
  refine ⟨_, rfl, by decide, by decide, ?_⟩
  refine frb (src_rng (n := 6) rfl) N1 (fun i σ G' H' => ∃ wd x4 x5 x6 x7 x8 x9 x10, σ = [some (.ref p), some (.int m), some (.str sLet), some (.str wd), x4, x5, x6, x7, x8, x9, x10] ∧ Hd wd ∧ An wd ∧ wd.length = 1 + i)
    ⟨⟨#[c1]⟩, _, _, _, _, _, _, _, rfl, .one lc1, .one (low_aln lc1), rfl⟩ ?_ ?_
  · rintro i x σ' G' H' G2 H2 hi ⟨wd, x4, x5, x6, x7, x8, x9, x10, rfl, hw1, hw2, hw3⟩ N2 s2 n2 rfl
    got_up
    refine add_s (by decide +kernel) ?_
    got_up
    refine dr N2 (s2 _ _ hp1) (by decide) fun r G3 H3 N3 n3 ra rb => ?_
    obtain ⟨c, hc, lc⟩ := aln_at ra rb
    refine ix_s (by decide +kernel) hc ?_
    refine add_s (by rw [len_one]; omega) ?_
    got_up
    exact ⟨G3, N3, s2.trans n3.g, _, _, _, _, _, _, _, _, rfl, hw1.app, hw2.app (.one lc), by rw [len_app, len_one, hw3]; omega⟩
  rintro σ' G' H' ⟨wd, x4, x5, x6, x7, x8, x9, x10, rfl, hw1, hw2, hw3⟩ N2 s2
  have hp2 := s2 _ _ hp1
  got_up
  refine dr N2 (hp2) (by decide) fun st G3 H3 N3 n3 sta stb => ?_
  have hp3 := n3.g _ _ hp2
  got_up
  refine ⟨sz (by decide), fun q hq0 => ?_⟩
  obtain ⟨G4, H4, e, N4, n4, hq⟩ := nobj N3 hq0 (.lst _)
  rw [e]; clear e
  have hp4 := n4.g _ _ hp3
  got_up
  refine dr N4 (hp4) (by decide) fun r5 G5 H5 N5 n5 r5a r5b => ?_
  have hp5 := n5.g _ _ hp4
  obtain ⟨sp, hsp⟩ : ∃ sp : Int, atI [V.int 1, V.int 3, V.int 5, V.int 7, V.int 9, V.int 11, V.int 15, V.int 17, V.int 19, V.int 21, V.int 23, V.int 25] r5 = some (.int sp) := by
    obtain ⟨k, rfl⟩ := Int.eq_ofNat_of_zero_le r5a
    have hk : k < 12 := by omega
    have h : ∀ k : Fin 12, ∃ sp : Int, [V.int 1, V.int 3, V.int 5, V.int 7, V.int 9, V.int 11, V.int 15, V.int 17, V.int 19, V.int 21, V.int 23, V.int 25][(k : Nat)]? = some (.int sp) := by
      intro k
      match k with
      | ⟨0, _⟩ => exact ⟨_, rfl⟩ | ⟨1, _⟩ => exact ⟨_, rfl⟩ | ⟨2, _⟩ => exact ⟨_, rfl⟩ | ⟨3, _⟩ => exact ⟨_, rfl⟩ | ⟨4, _⟩ => exact ⟨_, rfl⟩ | ⟨5, _⟩ => exact ⟨_, rfl⟩
      | ⟨6, _⟩ => exact ⟨_, rfl⟩ | ⟨7, _⟩ => exact ⟨_, rfl⟩ | ⟨8, _⟩ => exact ⟨_, rfl⟩ | ⟨9, _⟩ => exact ⟨_, rfl⟩ | ⟨10, _⟩ => exact ⟨_, rfl⟩ | ⟨11, _⟩ => exact ⟨_, rfl⟩
    obtain ⟨sp, e⟩ := h ⟨k, hk⟩
    exact ⟨sp, Ax.atI_nat e⟩
  refine ix_l (sqL (N5.h _ _ (n5.g _ _ hq))) hsp ?_
  got_up
  refine dr N5 (hp5) (by decide) fun kd G6 H6 N6 n6 kda kdb => ?_
  have hp6 := n6.g _ _ hp5
  got_up
  refine dr N6 (hp6) (by decide) fun pl G7 H7 N7 n7 pla plb => ?_
  have hp7 := n7.g _ _ hp6
  obtain ⟨pn, rfl⟩ := Int.eq_ofNat_of_zero_le pla
  got_up
  refine ⟨Nat.zero_le _, fun l hl0 => ?_⟩
  obtain ⟨H8, e, N8, n8, hl, gl, h0⟩ := nobjm N7 hl0 (.lst [])
  rw [e]; clear e
  got_up
  refine ⟨_, rfl, by omega, by omega, ?_⟩
  have hw7 : wd.length ≤ 7 := by omega
  refine frb (src_rng (n := m) (Int.toNat_natCast m)) N8 (fun i σ G' H' => ∃ x4 x10, ∃ ns : List Str, σ = [some (.ref p), some (.int m), some (.str sLet), some (.str wd), x4, some (.int st), some (.int sp), some (.int kd), some (.int (pn : Nat)), some (.ref l), x10] ∧
    H' l = some (.lst (ns.map V.str)) ∧ G' l = none ∧ ns.length = i ∧ ∀ x ∈ ns, isNm x = true) ⟨_, _, [], rfl, hl, gl, rfl, fun x h => by cases h⟩ ?_ ?_
  · rintro i x σ' G' H' Ga Ha hi ⟨x4, x10, ns, rfl, hla, gla, hn, hv⟩ Na sa na rfl
    have hlb := na.e _ _ hla
    have glb := na.hid hla gla
    have hpa := sa _ _ hp7
    -- one more name
    have fin : ∀ (y : Str) (Gb Hb : Hp) (x10 : Option V) (D : Ends), isNm y = true → Nx G H Gb Hb → Nx Ga Ha Gb Hb → D.nx = LI G H G7 (fun i σ G' H' => ∃ x4 x10, ∃ ns : List Str, σ = [some (.ref p), some (.int m), some (.str sLet), some (.str wd), x4, some (.int st), some (.int sp), some (.int kd), some (.int (pn : Nat)), some (.ref l), x10] ∧
        H' l = some (.lst (ns.map V.str)) ∧ G' l = none ∧ ns.length = i ∧ ∀ x ∈ ns, isNm x = true) (i + 1) →
        rAppend (.ref l) [.str y] Hb fun _ H1 => D.nx [some (.ref p), some (.int m), some (.str sLet), some (.str wd), some (.int i), some (.int st), some (.int sp), some (.int kd), some (.int (pn : Nat)), some (.ref l), x10] H1 := by
      intro y Gb Hb x10 D hy Nb nb hD
      rw [hD]
      have hlc := nb.e _ _ hlb
      have glc := nb.hid hlb glb
      refine app_l hlc (by rw [List.length_map]; omega) ?_
      obtain ⟨Hc, e, Nc, hlc'⟩ := mobj Nb h0 glc (.lst (ns.map V.str ++ [.str y]))
      rw [e]
      exact ⟨Gb, Nc, sa.trans nb.g, _, _, ns ++ [y], rfl, by rw [List.map_append]; exact hlc', glc, by simp [hn], fun x hx => (List.mem_append.mp hx).elim (hv x) fun z => by rw [List.mem_singleton.mp z]; exact hy⟩
    have sgn : ∀ z : Int, ∃ c, atI sLet.cps.toList (z % 26) = some c ∧ lowB c = true := fun z => let_at (Int.emod_nonneg _ (by decide)) (Int.emod_lt_of_pos _ (by decide))
    got_up
    refine mul_i (.inl ⟨by omega, by omega⟩) ?_
    got_up
    refine .inl ⟨_, rfl, ?_⟩
    got_up
    refine mod_i (by decide) ?_
    obtain ⟨c, hc, lc⟩ := sgn (st + (i : Nat) * sp)
    refine ix_s (by decide +kernel) hc ?_
    got_up
    refine t_if (fun _ => ?_) (fun _ => ?_)
    · got_up
      refine ⟨ty_l hlb, ?_⟩
      got_up
      refine ⟨wd, rfl, sz (by omega), ?_⟩
      got_up
      refine add_s (by have := cut_len_le wd none (some (pn : Int)); rw [len_one]; omega) ?_
      got_up
      refine ⟨wd, rfl, sz (by omega), ?_⟩
      got_up
      refine add_s (by have := cut_len_le wd none (some (pn : Int)); have := cut_len_le wd (some (pn : Int)) none; rw [len_app, len_one]; omega) ?_
      got_up
      exact fin _ Ga Ha _ _ (nm_ins hw1 hw2 hw7 lc) Na (Nx.refl Na.h) rfl
    got_up
    refine t_if (fun _ => ?_) (fun _ => ?_)
    · got_up
      refine ⟨ty_l hlb, ?_⟩
      got_up
      refine dr Na (hpa) (by decide) fun r Gb Hb Nb nb ra rb => ?_
      got_up
      refine ⟨wd, rfl, sz (by omega), ?_⟩
      got_up
      refine add_s (by have := cut_len_le wd none (some r); rw [len_one]; omega) ?_
      got_up
      exact fin _ Gb Hb _ _ (nm_sign hw2 hw7 lc) Nb nb rfl
    got_up
    refine t_if (fun _ => ?_) (fun _ => ?_)
    · got_up
      refine ⟨ty_l hlb, ?_⟩
      got_up
      exact fin _ Ga Ha _ _ (nm_one lc) Na (Nx.refl Na.h) rfl
    got_up
    refine t_if (fun _ => ?_) (fun _ => ?_)
    · got_up
      refine .inl ⟨_, rfl, ?_⟩
      got_up
      refine mod_i (by decide) ?_
      got_up
      refine mul_i (.inl ⟨by omega, by omega⟩) ?_
      got_up
      refine .inl ⟨_, rfl, ?_⟩
      got_up
      refine mod_i (by decide) ?_
      obtain ⟨c3, hc3, lc3⟩ := sgn (st + (i : Nat) % 2 * sp)
      refine ix_s (by decide +kernel) hc3 ?_
      got_up
      refine ⟨ty_l hlb, ?_⟩
      got_up
      refine ⟨_, _, rfl, rfl, ⟨by decide, by decide⟩, ?_⟩
      got_up
      refine ⟨wd, rfl, sz (by omega), ?_⟩
      got_up
      refine add_s (by have := cut_len_le wd none (some (7 - (i : Int) / 2)); rw [len_one]; omega) ?_
      got_up
      exact fin _ Ga Ha _ _ (nm_sign hw2 hw7 lc3) Na (Nx.refl Na.h) rfl
    · have h100 : i < 100 := by omega
      obtain ⟨an1, an2⟩ := an_num i h100
      got_up
      refine ⟨ty_l hlb, ?_⟩
      got_up
      refine ⟨_, _, rfl, rfl, ⟨by decide, by decide⟩, ?_⟩
      got_up
      refine ⟨wd, rfl, sz (by omega), ?_⟩
      got_up
      refine ⟨_, rfl, log_small (i := i) (by omega), ?_⟩
      got_up
      refine ⟨_, rfl, sz (Nat.le_trans an2 (by decide)), ?_⟩
      have e2 : (1 : Int) + (pn : Int) / 2 = ((1 + pn / 2 : Nat) : Int) := by omega
      rw [e2]
      have l1 := cut_len_take wd (1 + pn / 2)
      have l2 := cut_len_le (toString (i : Int) : Str) none (some (i : Int))
      refine add_s (by omega) ?_
      got_up
      exact fin _ Ga Ha _ _ (isNm_of (Hd.app (hd_take hw1)) ((hw2.cut _ _).app (An.cut an1 _ _)) (by rw [len_app]; omega)) Na (Nx.refl Na.h) rfl
  · rintro σ' G' H' ⟨x4, x10, ns, rfl, hla, gla, hn, hv⟩ Na sa
    got_up
    exact hQ _ _ _ (Na.fz hla h0 gla) ⟨l, ns, rfl, upd_same, hn, hv⟩
end
end Lw

namespace Lw
open PySem PySem.Spec PyProof.Rows L2 SlX StX Ax
section
variable {P : Program} {w : World} {K : PySem.W.Frag} {mg : Str → Option Value} {base : Heap}
/-! _law_pool -/
theorem ok__law_pool (T : TX K mg) : FnR P w K mg base (L2.CX P w) 1 T.a__law_pool (spPool (K := K) fun _ ns => ns.length ≤ 63) := by
  refine pool_make (fnR_of T.d__law_pool sc__law_pool (fun _ _ _ _ _ _ us hl => match us, hl with | [_], _ => rfl) (fun vs H Q E h => ?_) fun cdv A outer s H vs Q E hr hsp => ?_)
  · obtain ⟨a, ns, G, _, rfl, _⟩ := h; rfl
  obtain ⟨a, ns, G, hG, rfl, ha, hl, hQ⟩ := hsp
  refine ⟨_, (pss_cons (ps_asg (pe_lst pa_nil) (pg_name (i := 1) sc__law_pool.nd rfl (by first | exact Or.inl rfl | exact Or.inr rfl)))
    (pss_cons (ps_for (passes_of rfl) rfl (pi_range1 rfl T.b_range (pa_cons (pe_callB (call_lenK (K := K) rfl) rfl T.b_len (by decide +kernel) (pa_cons (pv 0) pa_nil)) pa_nil)) (pg_name (i := 2) sc__law_pool.nd rfl (by first | exact Or.inl rfl | exact Or.inr rfl))
    (pss_cons (ps_asg (pe_callB (call_abs) rfl T.b_abs (by decide +kernel) (pa_cons (pe_callTy (call_int1) rfl T.b_int (by decide +kernel) (pa_cons (pe_ix (ix_K (K := K) rfl) (pv 0) (pv 2) (fun _ _ => rfl)) pa_nil)) pa_nil)) (pg_name (i := 3) sc__law_pool.nd rfl (by first | exact Or.inl rfl | exact Or.inr rfl)))
    (pss_one (ps_if (pt_cmpR op_ge (pv 3) (pe_op op_pow pe_int pe_int) (nomark _)) (pss_one (ps_for (passes_of rfl) rfl (pi_range1 rfl T.b_range (pa_cons pe_int pa_nil)) (pg_name (i := 4) sc__law_pool.nd rfl (by first | exact Or.inl rfl | exact Or.inr rfl))
    (pss_cons (ps_if (pt_cmpR op_gt (pv 3) pe_int (nomark _)) (pss_one (ps_expr (pe_bm PySem.F.plainAttrs_list PySem.F.slot_list_append PySem.F.type_list_append mt_append (pv 1) (pa_cons (pe_op op_mod (pe_callTy (call_int1) rfl T.b_int (by decide +kernel) (pa_cons (pv 3) pa_nil)) pe_int) pa_nil)))) pss_nil)
    (pss_one (ps_asg (pe_op op_fdiv (pv 3) pe_int) (pg_name (i := 3) sc__law_pool.nd rfl (by first | exact Or.inl rfl | exact Or.inr rfl))))))) (pss_one (ps_for (passes_of rfl) rfl (pi_range1 rfl T.b_range (pa_cons pe_int pa_nil)) (pg_name (i := 4) sc__law_pool.nd rfl (by first | exact Or.inl rfl | exact Or.inr rfl))
    (pss_cons (ps_asg (pe_op op_mod (pe_callTy (call_int1) rfl T.b_int (by decide +kernel) (pa_cons (pe_op op_mulU (pe_op (op_addK (K := K) rfl) (pe_op (op_addK (K := K) rfl) (pe_op op_mulU (pv 3) pe_int) (pv 4)) pe_int) pe_int) pa_nil)) pe_int) (pg_name (i := 5) sc__law_pool.nd rfl (by first | exact Or.inl rfl | exact Or.inr rfl)))
    (pss_cons (ps_asg (pe_op op_mod (pe_callTy (call_int1) rfl T.b_int (by decide +kernel) (pa_cons (pe_op op_mulU (pe_op (op_addK (K := K) rfl) (pe_op (op_addK (K := K) rfl) (pv 5) (pe_op op_mulU (pv 2) pe_int)) pe_int) pe_int) pa_nil)) pe_int) (pg_name (i := 5) sc__law_pool.nd rfl (by first | exact Or.inl rfl | exact Or.inr rfl)))
    (pss_one (ps_expr (pe_bm PySem.F.plainAttrs_list PySem.F.slot_list_append PySem.F.type_list_append mt_append (pv 1) (pa_cons (pe_op op_mod (pe_callTy (call_int1) rfl T.b_int (by decide +kernel) (pa_cons (pe_op op_fdiv (pv 5) pe_int) pa_nil)) pe_int) pa_nil))))))))))))
    (pss_cons (ps_expr (pe_bm PySem.F.plainAttrs_list PySem.F.slot_list_extend PySem.F.type_list_extend mt_extend (pv 1) (pa_cons (pe_lst (pa_cons pe_int (pa_cons pe_int (pa_cons pe_int (pa_cons pe_int (pa_cons pe_int (pa_cons pe_int (pa_cons pe_int (pa_cons pe_int (pa_cons pe_int (pa_cons pe_int (pa_cons pe_int (pa_cons pe_int (pa_cons pe_int (pa_cons pe_int (pa_cons pe_int (pa_cons pe_int (pa_cons pe_int (pa_cons pe_int (pa_cons pe_int (pa_cons pe_int (pa_cons pe_int (pa_cons pe_int (pa_cons pe_int (pa_cons pe_int (pa_cons pe_int (pa_cons pe_int (pa_cons pe_int (pa_cons pe_int (pa_cons pe_int (pa_cons pe_int (pa_cons pe_int pa_nil)))))))))))))))))))))))))))))))) pa_nil)))
    (pss_cons (ps_expr (pe_bm PySem.F.plainAttrs_list PySem.F.slot_list_extend PySem.F.type_list_extend mt_extend (pv 1) (pa_cons (pe_lst (pa_cons pe_int (pa_cons pe_int (pa_cons pe_int (pa_cons pe_int (pa_cons pe_int (pa_cons pe_int (pa_cons pe_int (pa_cons pe_int (pa_cons pe_int (pa_cons pe_int (pa_cons pe_int (pa_cons pe_int (pa_cons pe_int (pa_cons pe_int (pa_cons pe_int (pa_cons pe_int (pa_cons pe_int (pa_cons pe_int (pa_cons pe_int (pa_cons pe_int (pa_cons pe_int (pa_cons pe_int (pa_cons pe_int (pa_cons pe_int (pa_cons pe_int pa_nil)))))))))))))))))))))))))) pa_nil)))
    (pss_cons (ps_expr (pe_bm PySem.F.plainAttrs_list PySem.F.slot_list_extend PySem.F.type_list_extend mt_extend (pv 1) (pa_cons (pe_lst (pa_cons pe_int (pa_cons pe_int (pa_cons pe_int (pa_cons pe_int (pa_cons pe_int (pa_cons pe_int (pa_cons pe_int (pa_cons pe_int (pa_cons pe_int (pa_cons pe_int (pa_cons pe_int (pa_cons pe_int (pa_cons pe_int (pa_cons pe_int (pa_cons pe_int (pa_cons pe_int (pa_cons pe_int (pa_cons pe_int (pa_cons pe_int (pa_cons pe_int (pa_cons pe_int (pa_cons pe_int (pa_cons pe_int (pa_cons pe_int (pa_cons pe_int (pa_cons pe_int (pa_cons pe_int (pa_cons pe_int (pa_cons pe_int (pa_cons pe_int (pa_cons pe_int (pa_cons pe_int pa_nil))))))))))))))))))))))))))))))))) pa_nil)))
    (pss_cons (ps_expr (pe_bm0 PySem.F.plainAttrs_list PySem.F.slot_list_reverse PySem.F.type_list_reverse mt_reverse (pv 1)))
    (pss_one (ps_ret (pv 1))))))))), ?_⟩
  have N : Nx G H G H := Nx.refl hG
  got_up
  refine ⟨Nat.zero_le _, fun p hp0 => ?_⟩
  obtain ⟨H1, e, N1, n1, hp, gp, h0⟩ := nobjm N hp0 (.lst [])
  rw [e]; clear e
  got_up
  refine len_l (Same.seqL N1.h ha) ?_
  refine ⟨_, rfl, by rw [List.length_map]; omega, by rw [List.length_map]; omega, ?_⟩
  refine frb (src_rng (n := ns.length) (by rw [List.length_map, Int.toNat_natCast])) N1 (fun i σ G' H' => ∃ x2 x3 x4 x5 ms, σ = [some (.ref a), some (.ref p), x2, x3, x4, x5] ∧ H' p = some (.lst (ms.map V.int)) ∧ G' p = none ∧ ms.length ≤ 60 * i)
    ⟨none, none, none, none, [], rfl, hp, gp, by simp⟩ ?_ ?_
  · rintro i x σ' G' H' G2 H2 hi ⟨x2, x3, x4, x5, ms, rfl, hp1, gp1, hm⟩ N2 s2 n2 rfl
    have hp2 := n2.e _ _ hp1
    have gp2 := n2.hid hp1 gp1
    have ha2 : SqL K H2 a (ns.map V.int) := Same.seqL (s2.trans N2.h) ha
    obtain ⟨z, hz⟩ : ∃ z, ns[i]? = some z := ⟨_, List.getElem?_eq_getElem hi⟩
    got_up
    refine ix_l ha2 (atI_nat (x := .int z) (by rw [List.getElem?_map, hz]; rfl)) ?_
    got_up
    refine .inl ⟨_, rfl, ?_⟩
    got_up
    refine ⟨_, rfl, ?_⟩
    generalize (if z < 0 then -z else z) = c
    got_up
    refine ⟨_, _, rfl, rfl, ⟨by decide, by decide, by decide⟩, ?_⟩
    got_up
    refine t_if (fun _ => ?_) (fun _ => ?_)
    · got_up
      refine ⟨_, rfl, by omega, by omega, ?_⟩
      refine frb (src_rng (n := 60) rfl) N2 (fun j σ G' H' => ∃ x2 x3 x4 x5 ms, ∃ c : Int, x3 = some (.int c) ∧ σ = [some (.ref a), some (.ref p), x2, x3, x4, x5] ∧ H' p = some (.lst (ms.map V.int)) ∧ G' p = none ∧ ms.length ≤ 60 * i + j)
        ⟨_, _, _, _, ms, c, rfl, rfl, hp2, gp2, by omega⟩ ?_ ?_
      · rintro j x σ' G' H' G3 H3 hj ⟨x2, x3, x4, x5, ms, c, rfl, rfl, hp1, gp1, hm⟩ N3 s3 n3 rfl
        have hp3 := n3.e _ _ hp1
        have gp3 := n3.hid hp1 gp1
        got_up
        refine t_if (fun _ => ?_) (fun _ => ?_)
        · got_up
          refine ⟨ty_l hp3, ?_⟩
          got_up
          refine .inl ⟨_, rfl, ?_⟩
          got_up
          refine mod_i (by decide) ?_
          got_up
          refine app_l hp3 (by rw [List.length_map]; omega) ?_
          obtain ⟨H4, e, N4, hp4⟩ := mobj N3 h0 gp3 (.lst (ms.map V.int ++ [.int (c % 5040)]))
          rw [e]; clear e
          got_up
          refine ⟨_, _, rfl, rfl, ⟨by decide, by decide⟩, ?_⟩
          got_up
          exact ⟨G3, N4, s3, _, _, _, _, ms ++ [c % 5040], _, rfl, rfl, by rw [List.map_append]; exact hp4, gp3, by simp; omega⟩
        · got_up
          refine ⟨_, _, rfl, rfl, ⟨by decide, by decide⟩, ?_⟩
          got_up
          exact ⟨G3, N3, s3, _, _, _, _, ms, _, rfl, rfl, hp3, gp3, by omega⟩
      · rintro σ' G' H' ⟨x2, x3, x4, x5, ms, c, rfl, rfl, hp1, gp1, hm⟩ N3 s3
        got_up
        exact ⟨G', N3, s2.trans s3, _, _, _, _, ms, rfl, hp1, gp1, by omega⟩
    · got_up
      refine ⟨_, rfl, by omega, by omega, ?_⟩
      refine frb (src_rng (n := 6) rfl) N2 (fun j σ G' H' => ∃ x4 x5 ms, σ = [some (.ref a), some (.ref p), some (.int (i : Nat)), some (.int c), x4, x5] ∧ H' p = some (.lst (ms.map V.int)) ∧ G' p = none ∧ ms.length ≤ 60 * i + j)
        ⟨_, _, ms, rfl, hp2, gp2, by omega⟩ ?_ ?_
      · rintro j x σ' G' H' G3 H3 hj ⟨x4, x5, ms, rfl, hp1, gp1, hm⟩ N3 s3 n3 rfl
        have hp3 := n3.e _ _ hp1
        have gp3 := n3.hid hp1 gp1
        got_up
        refine mul_i (.inr (by decide)) ?_
        got_up
        refine mul_i (.inr (by decide)) ?_
        got_up
        refine .inl ⟨_, rfl, ?_⟩
        got_up
        refine mod_i (by decide) ?_
        generalize (c * 6 + (j : Nat) + 1) * 48271 % 2147483647 = m1
        got_up
        refine mul_i (.inr (by decide)) ?_
        got_up
        refine mul_i (.inr (by decide)) ?_
        got_up
        refine .inl ⟨_, rfl, ?_⟩
        got_up
        refine mod_i (by decide) ?_
        got_up
        refine ⟨ty_l hp3, ?_⟩
        got_up
        refine ⟨_, _, rfl, rfl, ⟨by decide, by decide⟩, ?_⟩
        got_up
        refine .inl ⟨_, rfl, ?_⟩
        got_up
        refine mod_i (by decide) ?_
        got_up
        refine app_l hp3 (by rw [List.length_map]; omega) ?_
        obtain ⟨H4, e, N4, hp4⟩ := mobj N3 h0 gp3 (.lst (ms.map V.int ++ [.int ((m1 + (i : Int) * 7919 + 11) * 69621 % 2147483629 / 13 % 5040)]))
        rw [e]; clear e
        got_up
        exact ⟨G3, N4, s3, _, _, ms ++ [_], rfl, by rw [List.map_append]; exact hp4, gp3, by simp; omega⟩
      · rintro σ' G' H' ⟨x4, x5, ms, rfl, hp1, gp1, hm⟩ N3 s3
        got_up
        exact ⟨G', N3, s2.trans s3, _, _, _, _, ms, rfl, hp1, gp1, by omega⟩
  · rintro σ' G' H' ⟨x2, x3, x4, x5, ms, rfl, hp1, gp1, hm⟩ N2 s2
    got_up
    refine pool_ext (K := K) hp1 N2 gp1 h0 hm [0, 0, 0, 0, 0, 0, 0, 0, 0, 2, 0, 0, 1, 2, 0, 0, 2, 1, 0, 0, 1, 1, 0, 1, 1, 1, 0, 0, 1, 0, 1] rfl (by simp only [List.length]; omega) fun ms1 G3 H3 N3 hp3 gp3 hm3 => ?_
    got_up
    refine pool_ext (K := K) hp3 N3 gp3 h0 hm3 [1, 2, 4, 1, 2, 0, 1, 1, 4, 0, 0, 2, 0, 0, 1, 1, 1, 1, 1, 1, 0, 1, 0, 1, 0] rfl (by simp only [List.length]; omega) fun ms2 G4 H4 N4 hp4 gp4 hm4 => ?_
    got_up
    refine pool_ext (K := K) hp4 N4 gp4 h0 hm4 [3, 1, 4, 1, 5, 9, 2, 6, 5, 3, 5, 8, 9, 7, 9, 3, 2, 3, 8, 4, 6, 2, 6, 4, 3, 3, 8, 3, 2, 7, 9, 5] rfl (by simp only [List.length]; omega) fun ms3 G5 H5 N5 hp5 gp5 hm5 => ?_
    got_up
    refine ⟨ty_l hp5, rev_l hp5 ?_⟩
    obtain ⟨H6, e, N6, hp6⟩ := mobj N5 h0 gp5 (.lst (ms3.map V.int).reverse)
    rw [e]; clear e
    got_up
    exact hQ p _ _ ms3.reverse N6 (by rw [List.map_reverse]; exact hp6) gp5 h0
end
end Lw

namespace Lw
open PySem PySem.Spec PyProof.Rows L2 SlX StX Ax
section
variable {P : Program} {w : World} {K : PySem.W.Frag} {mg : Str → Option Value} {base : Heap}
/-! law -/
theorem ok_law (T : TX K mg) {fd : FuncData} (F : FunD K df_law.name df_law.qual df_law.params df_law.body df_law.scope [] [] T.a_law fd) : FnOk P w K mg base (L2.CX P w) 17 T.a_law fd ["_law_script"] (spLaw K) := by
  refine F.ok sc_law (spX_len fun a vs G h => by rw [h.1]; rfl) fun cdv A outer s H vs Q E hr hsp => ?_
  obtain ⟨⟨a, ns⟩, G, hG, ⟨rfl, ha, hl, _⟩, hQ, _⟩ := hsp
  try dsimp only at *
  have hQ : ∀ G' H', Nx G H G' H' → Q (.bl true) H' := fun G' H' n => hQ _ G' H' n rfl
  refine ⟨_, (pss_cons (ps_asg (pe_callR (ok__law_pool T) (hr.mono (by decide)) T.k__law_pool rfl T.m__law_pool passL (pa_cons (pv 0) pa_nil)) (pg_name (i := 1) sc_law.nd rfl (by first | exact Or.inl rfl | exact Or.inr rfl)))
    (pss_cons (ps_asg (pe_callR (ok__law_names T) (hr.mono (by decide)) T.k__law_names rfl T.m__law_names passL (pa_cons (pv 1) (pa_cons pe_int pa_nil))) (pg_name (i := 2) sc_law.nd rfl (by first | exact Or.inl rfl | exact Or.inr rfl)))
    (pss_cons (ps_lcU (i := 3) (own := [("_law_k", 11)]) rfl sc_law.nd rfl (by first | exact Or.inl ⟨rfl, rfl⟩ | exact Or.inr ⟨Or.inl rfl, rfl, Or.inl rfl⟩ | exact Or.inr ⟨Or.inr rfl, rfl, Or.inl rfl⟩) (pi_range1 rfl T.b_range (pa_cons (pe_callR (ok__law_draw T) (hr.mono (by decide)) T.k__law_draw rfl T.m__law_draw passL (pa_cons (pv 1) (pa_cons pe_int pa_nil))) pa_nil)) (blkOk_by (own := [("_law_k", 11)]) (N := N_law) (sc := df_law.scope) (by decide +kernel)) (fun _ _ _ _ _ => (pg_name (i := 11) sc_law.nd rfl (by first | exact Or.inl rfl | exact Or.inr rfl))) (fun _ _ _ _ _ => pts_nil) (fun _ _ _ _ _ => (pe_ix (ix_K (K := K) rfl) (pv 2) (pe_callR (ok__law_draw T) (hr.mono (by decide)) T.k__law_draw rfl T.m__law_draw passL (pa_cons (pv 1) (pa_cons pe_int pa_nil))) (fun _ _ => rfl))))
    (pss_cons (ps_lcU (i := 4) (own := [("_law_k", 11)]) rfl sc_law.nd rfl (by first | exact Or.inl ⟨rfl, rfl⟩ | exact Or.inr ⟨Or.inl rfl, rfl, Or.inl rfl⟩ | exact Or.inr ⟨Or.inr rfl, rfl, Or.inl rfl⟩) (pi_range1 rfl T.b_range (pa_cons (pe_callR (ok__law_draw T) (hr.mono (by decide)) T.k__law_draw rfl T.m__law_draw passL (pa_cons (pv 1) (pa_cons pe_int pa_nil))) pa_nil)) (blkOk_by (own := [("_law_k", 11)]) (N := N_law) (sc := df_law.scope) (by decide +kernel)) (fun _ _ _ _ _ => (pg_name (i := 11) sc_law.nd rfl (by first | exact Or.inl rfl | exact Or.inr rfl))) (fun _ _ _ _ _ => pts_nil) (fun _ _ _ _ _ => (pe_ix (ix_K (K := K) rfl) (pv 2) (pe_callR (ok__law_draw T) (hr.mono (by decide)) T.k__law_draw rfl T.m__law_draw passL (pa_cons (pv 1) (pa_cons pe_int pa_nil))) (fun _ _ => rfl))))
    (pss_cons (ps_asg (pe_callR (ok__law_draw T) (hr.mono (by decide)) T.k__law_draw rfl T.m__law_draw passL (pa_cons (pv 1) (pa_cons pe_int pa_nil))) (pg_name (i := 5) sc_law.nd rfl (by first | exact Or.inl rfl | exact Or.inr rfl)))
    (pss_cons (ps_if (pt_cmpR (op_eqK (K := K) rfl hr.units) (pv 5) pe_int (nomark _)) (pss_one (ps_asg (pe_op (op_addK (K := K) rfl) (pv 4) (pv 3)) (pg_name (i := 4) sc_law.nd rfl (by first | exact Or.inl rfl | exact Or.inr rfl)))) pss_nil)
    (pss_cons (ps_if (pt_cmpR (op_eqK (K := K) rfl hr.units) (pv 5) pe_int (nomark _)) (pss_one (ps_asg (pe_revK (K := K) rfl (pv 3)) (pg_name (i := 4) sc_law.nd rfl (by first | exact Or.inl rfl | exact Or.inr rfl)))) pss_nil)
    (pss_cons (ps_asg (pe_callR (ok__law_built T) (hr.mono (by decide)) T.k__law_built rfl T.m__law_built passL (pa_cons (pv 3) pa_nil)) (pg_name (i := 6) sc_law.nd rfl (by first | exact Or.inl rfl | exact Or.inr rfl)))
    (pss_cons (ps_asg (pe_callR (ok__law_built T) (hr.mono (by decide)) T.k__law_built rfl T.m__law_built passL (pa_cons (pv 4) pa_nil)) (pg_name (i := 7) sc_law.nd rfl (by first | exact Or.inl rfl | exact Or.inr rfl)))
    (pss_cons (ps_lcU (i := 8) (own := [("_law_name", 12)]) rfl sc_law.nd rfl (by first | exact Or.inl ⟨rfl, rfl⟩ | exact Or.inr ⟨Or.inl rfl, rfl, Or.inl rfl⟩ | exact Or.inr ⟨Or.inr rfl, rfl, Or.inl rfl⟩) (pi_listK (K := K) rfl (pv 3)) (blkOk_by (own := [("_law_name", 12)]) (N := N_law) (sc := df_law.scope) (by decide +kernel)) (fun _ _ _ _ _ => (pg_name (i := 12) sc_law.nd rfl (by first | exact Or.inl rfl | exact Or.inr rfl))) (fun _ _ _ _ _ => (pts_one (pt_cmpR (op_niK (K := K) rfl hr.units) (pv 12) (pv 4) rfl))) (fun _ _ _ _ _ => (pv 12)))
    (pss_cons (ps_lcU (i := 9) (own := [("_law_name", 12)]) rfl sc_law.nd rfl (by first | exact Or.inl ⟨rfl, rfl⟩ | exact Or.inr ⟨Or.inl rfl, rfl, Or.inl rfl⟩ | exact Or.inr ⟨Or.inr rfl, rfl, Or.inl rfl⟩) (pi_listK (K := K) rfl (pv 4)) (blkOk_by (own := [("_law_name", 12)]) (N := N_law) (sc := df_law.scope) (by decide +kernel)) (fun _ _ _ _ _ => (pg_name (i := 12) sc_law.nd rfl (by first | exact Or.inl rfl | exact Or.inr rfl))) (fun _ _ _ _ _ => (pts_one (pt_cmpR (op_niK (K := K) rfl hr.units) (pv 12) (pv 3) rfl))) (fun _ _ _ _ _ => (pv 12)))
    (pss_cons (ps_lcU (i := 10) (own := [("_law_name", 12)]) rfl sc_law.nd rfl (by first | exact Or.inl ⟨rfl, rfl⟩ | exact Or.inr ⟨Or.inl rfl, rfl, Or.inl rfl⟩ | exact Or.inr ⟨Or.inr rfl, rfl, Or.inl rfl⟩) (pi_listK (K := K) rfl (pv 3)) (blkOk_by (own := [("_law_name", 12)]) (N := N_law) (sc := df_law.scope) (by decide +kernel)) (fun _ _ _ _ _ => (pg_name (i := 12) sc_law.nd rfl (by first | exact Or.inl rfl | exact Or.inr rfl))) (fun _ _ _ _ _ => (pts_one (pt_cmpR (op_inK (K := K) rfl hr.units) (pv 12) (pv 4) rfl))) (fun _ _ _ _ _ => (pv 12)))
    (pss_cons (ps_if (PW.pt (pw_or (pt_not (pt_val (pe_callR (ok__law_is_set T) (hr.mono (by decide)) T.k__law_is_set rfl T.m__law_is_set passL (pa_cons (pe_op (op_bin T.sf_Columns T.me_Columns_or.at_ T.me_Columns_or.fn (ok_Columns_or T) (hr.mono (by decide)) passL) (pv 6) (pv 7)) (pa_cons (pe_op (op_addK (K := K) rfl) (pv 3) (pv 4)) pa_nil))))) (pw_or1 (pt_not (pt_val (pe_callR (ok__law_is_set T) (hr.mono (by decide)) T.k__law_is_set rfl T.m__law_is_set passL (pa_cons (pe_op (op_bin T.sf_Columns T.me_Columns_and.at_ T.me_Columns_and.fn (ok_Columns_and T) (hr.mono (by decide)) passL) (pv 6) (pv 7)) (pa_cons (pv 10) pa_nil)))))))) (pss_one (ps_ret pe_bl)) pss_nil)
    (pss_cons (ps_if (PW.pt (pw_or (pt_not (pt_val (pe_callR (ok__law_is_set T) (hr.mono (by decide)) T.k__law_is_set rfl T.m__law_is_set passL (pa_cons (pe_op (op_bin T.sf_Columns T.me_Columns_sub.at_ T.me_Columns_sub.fn (ok_Columns_sub T) (hr.mono (by decide)) passL) (pv 6) (pv 7)) (pa_cons (pv 8) pa_nil))))) (pw_or1 (pt_not (pt_val (pe_callR (ok__law_is_set T) (hr.mono (by decide)) T.k__law_is_set rfl T.m__law_is_set passL (pa_cons (pe_op (op_bin T.sf_Columns T.me_Columns_xor.at_ T.me_Columns_xor.fn (ok_Columns_xor T) (hr.mono (by decide)) passL) (pv 6) (pv 7)) (pa_cons (pe_op (op_addK (K := K) rfl) (pv 8) (pv 9)) pa_nil)))))))) (pss_one (ps_ret pe_bl)) pss_nil)
    (pss_cons (ps_if (PW.pt (pw_or (pt_not (pt_val (pe_callR (ok__law_flag T) (hr.mono (by decide)) T.k__law_flag rfl T.m__law_flag passL (pa_cons (pe_cmpR (op_cmp (fun _ _ => rfl) T.nf_Columns_Columns T.me_Columns_le.at_ T.me_Columns_le.fn (ok_Columns_le T) (hr.mono (by decide)) passL) (pv 6) (pv 7) (nomark _)) (pa_cons (pe_cmpR (op_eqK (K := K) rfl hr.units) (pv 8) (pe_lst pa_nil) (nomark _)) pa_nil))))) (pw_or1 (pt_not (pt_val (pe_callR (ok__law_flag T) (hr.mono (by decide)) T.k__law_flag rfl T.m__law_flag passL (pa_cons (pe_cmpR (op_cmp (fun _ _ => rfl) T.nf_Columns_Columns T.me_Columns_le.at_ T.me_Columns_le.fn (ok_Columns_le T) (hr.mono (by decide)) passL) (pv 7) (pv 6) (nomark _)) (pa_cons (pe_cmpR (op_eqK (K := K) rfl hr.units) (pv 9) (pe_lst pa_nil) (nomark _)) pa_nil)))))))) (pss_one (ps_ret pe_bl)) pss_nil)
    (pss_cons (ps_if (pt_not (pt_val (pe_callR (ok__law_flag T) (hr.mono (by decide)) T.k__law_flag rfl T.m__law_flag passL (pa_cons (pe_cmpR (op_cmp (fun _ _ => rfl) T.nf_Columns_Columns T.me_Columns_lt.at_ T.me_Columns_lt.fn (ok_Columns_lt T) (hr.mono (by decide)) passL) (pv 6) (pv 7) (nomark _)) (pa_cons (pe_and (pe_cmpR (op_eqK (K := K) rfl hr.units) (pv 8) (pe_lst pa_nil) (nomark _)) (pe_one (pe_cmpR (op_neK (K := K) rfl hr.units) (pv 9) (pe_lst pa_nil) (nomark _)))) pa_nil))))) (pss_one (ps_ret pe_bl)) pss_nil)
    (pss_cons (ps_if (pt_not (pt_val (pe_callR (ok__law_flag T) (hr.mono (by decide)) T.k__law_flag rfl T.m__law_flag passL (pa_cons (pe_cmpR (op_cmp (fun _ _ => rfl) T.nf_Columns_Columns T.me_Columns_eq.at_ T.me_Columns_eq.fn (ok_Columns_eq T) (hr.mono (by decide)) passL) (pv 6) (pv 7) (nomark _)) (pa_cons (pe_and (pe_cmpR (op_eqK (K := K) rfl hr.units) (pv 8) (pe_lst pa_nil) (nomark _)) (pe_one (pe_cmpR (op_eqK (K := K) rfl hr.units) (pv 9) (pe_lst pa_nil) (nomark _)))) pa_nil))))) (pss_one (ps_ret pe_bl)) pss_nil)
    (pss_cons (ps_if (pt_cmpR (op_neK (K := K) rfl hr.units) (pe_lc (own := [("_law_name", 12)]) rfl sc_law.nd (pi_listK (K := K) rfl (pv 2)) (blkOk_by (own := [("_law_name", 12)]) (N := N_law) (sc := df_law.scope) (by decide +kernel)) (fun _ _ _ _ _ => (pg_name (i := 12) sc_law.nd rfl (by first | exact Or.inl rfl | exact Or.inr rfl))) (fun _ _ _ _ _ => pts_nil) (fun _ _ _ _ _ => (pe_cmpR (op_inO T.me_Columns_contains.at_ T.me_Columns_contains.fn (ok_Columns_contains T) (hr.mono (by decide)) passL) (pv 12) (pv 6) rfl))) (pe_lc (own := [("_law_name", 12)]) rfl sc_law.nd (pi_listK (K := K) rfl (pv 2)) (blkOk_by (own := [("_law_name", 12)]) (N := N_law) (sc := df_law.scope) (by decide +kernel)) (fun _ _ _ _ _ => (pg_name (i := 12) sc_law.nd rfl (by first | exact Or.inl rfl | exact Or.inr rfl))) (fun _ _ _ _ _ => pts_nil) (fun _ _ _ _ _ => (pe_cmpR (op_inK (K := K) rfl hr.units) (pv 12) (pv 3) rfl))) (nomark _)) (pss_one (ps_ret pe_bl)) pss_nil)
    (pss_one (ps_ret (pe_and (pe_callR (ok__law_is_set T) (hr.mono (by decide)) T.k__law_is_set rfl T.m__law_is_set passL (pa_cons (pv 6) (pa_cons (pv 3) pa_nil))) (pe_one (pe_callR (ok__law_is_set T) (hr.mono (by decide)) T.k__law_is_set rfl T.m__law_is_set passL (pa_cons (pv 7) (pa_cons (pv 4) pa_nil))))))))))))))))))))))))), ?_⟩
  have N : Nx G H G H := Nx.refl hG
  got_up
  refine cl0 N (a, ns) ⟨rfl, ha, hl⟩ fun v G1 H1 N1 n1 ⟨p, e, hp1⟩ => ?_
  subst e
  got_up
  refine cl0 N1 (p, 8) ⟨rfl, hp1, by show (8 : Nat) ≤ 16; decide⟩ fun v G2 H2 N2 n2 ⟨b, nm, e, hb2, hlen, hok⟩ => ?_
  subst e
  have hlen : nm.length = 8 := hlen
  have hp2 := n2.g _ _ hp1
  have hnm : Nms nm := ⟨hok, by omega, Nat.lt_of_le_of_lt (cset_len _) (by omega)⟩
  -- a row of names
  got_up
  refine dr N2 hp2 (by decide) fun m1 G3 H3 N3 n3 m1a m1b => ?_
  have hp3 := n3.g _ _ hp2
  have hb3 := n3.g _ _ hb2
  got_up
  refine ⟨_, rfl, by omega, by omega, ?_⟩
  refine lcbK (src_rng rfl) N3 (List.range m1.toNat) (fun _ => true) (fun _ v _ => ∃ x, x ∈ nm ∧ v = .str x) (by simp) (by omega) (fun _ _ _ _ _ h => h) ?_ ?_
  · rintro i z v G' H' hz s1 s2 rfl
    refine ⟨_, fun Q q => w_gn q, rfl, fun Q q => q G' H' (Nx.refl s2), fun _ G2 H2 s3 s4 Q q => ?_⟩
    got_up
    refine dr (Nx.refl s4) ((s1.trans s3) _ _ hp3) (by decide) fun r G5 H5 N5 n5 ra rb => ?_
    obtain ⟨k, rfl⟩ := Int.eq_ofNat_of_zero_le ra
    have hk : k < nm.length := by omega
    refine ix_l (v := .str nm[k]) (sqL (N5.h _ _ (n5.g _ _ ((s1.trans s3) _ _ hb3)))) (Ax.atI_nat (by rw [List.getElem?_map, List.getElem?_eq_getElem hk]; rfl)) ?_
    exact q _ G5 H5 N5 ⟨_, List.getElem_mem hk, rfl⟩
  intro b1 L1 G4 H4 N4 s4 hb1 hA1
  rw [flt_true] at hA1
  obtain ⟨r1, rfl, hr1l, hr1⟩ := all2_strs (S := fun x => x ∈ nm) hA1
  rw [List.length_range] at hr1l
  clear hA1
  have hp4 := s4 _ _ hp3
  have hb4 := s4 _ _ hb3
  got_up
  refine dr N4 hp4 (by decide) fun m2 G5 H5 N5 n5 m2a m2b => ?_
  have hp5 := n5.g _ _ hp4
  have hb5 := n5.g _ _ hb4
  have hb15 := n5.g _ _ hb1
  got_up
  refine ⟨_, rfl, by omega, by omega, ?_⟩
  refine lcbK (src_rng rfl) N5 (List.range m2.toNat) (fun _ => true) (fun _ v _ => ∃ x, x ∈ nm ∧ v = .str x) (by simp) (by omega) (fun _ _ _ _ _ h => h) ?_ ?_
  · rintro i z v G' H' hz s1 s2 rfl
    refine ⟨_, fun Q q => w_gn q, rfl, fun Q q => q G' H' (Nx.refl s2), fun _ G2 H2 s3 s4 Q q => ?_⟩
    got_up
    refine dr (Nx.refl s4) ((s1.trans s3) _ _ hp5) (by decide) fun r G5 H5 N5 n5 ra rb => ?_
    obtain ⟨k, rfl⟩ := Int.eq_ofNat_of_zero_le ra
    have hk : k < nm.length := by omega
    refine ix_l (v := .str nm[k]) (sqL (N5.h _ _ (n5.g _ _ ((s1.trans s3) _ _ hb5)))) (Ax.atI_nat (by rw [List.getElem?_map, List.getElem?_eq_getElem hk]; rfl)) ?_
    exact q _ G5 H5 N5 ⟨_, List.getElem_mem hk, rfl⟩
  intro b2 L2 G6 H6 N6 s6 hb26 hA2
  rw [flt_true] at hA2
  obtain ⟨r2, rfl, hr2l, hr2⟩ := all2_strs (S := fun x => x ∈ nm) hA2
  rw [List.length_range] at hr2l
  clear hA2
  have hp6 := s6 _ _ hp5
  have hb6 := s6 _ _ hb5
  have hb16 := s6 _ _ hb15
  got_up
  refine dr N6 hp6 (by decide) fun m3 G7 H7 N7 n7 m3a m3b => ?_
  have hb7 := n7.g _ _ hb6
  have hb17 := n7.g _ _ hb16
  have hb27 := n7.g _ _ hb26
  have hr1n : r1.length ≤ 7 := by omega
  let St8 : L2.St → Hp → Prop := fun σ' H' => ∃ b2 r2 G', Nx G H G' H' ∧ Same G7 G' ∧ G' b2 = some (.lst (List.map V.str r2)) ∧ (∀ x ∈ r2, x ∈ nm) ∧ r2.length ≤ 14 ∧
    σ' = [some (.ref a), some (.ref p), some (.ref b), some (.ref b1), some (.ref b2), some (.int m3), none, none, none, none, none, none, none]
  with_reducible refine w_seqK St8 ?_ (fun R hR => ?_)
  rotate_left
  · got_up
    refine t_if (fun _ => ?_) (fun _ => ?_)
    · got_up
      refine add_l N7 hb27 hb17 (by rw [List.length_map, List.length_map]; omega) fun q G8 H8 N8 n8 hq => ?_
      rw [← List.map_append] at hq
      got_up
      exact hR _ _ ⟨q, r2 ++ r1, G8, N8, n8.g, hq, fun x hx => (List.mem_append.mp hx).elim (hr2 x) (hr1 x), by rw [List.length_append]; omega, rfl⟩
    · got_up
      exact hR _ _ ⟨b2, r2, G7, N7, Same.refl _, hb27, hr2, by omega, rfl⟩
  rintro σ8 H8 ⟨b2, r2, G8, N8, s8, hb28, hr2, hr2n, rfl⟩
  with_reducible refine w_seqK St8 ?_ (fun R hR => ?_)
  rotate_left
  · got_up
    refine t_if (fun _ => ?_) (fun _ => ?_)
    · got_up
      refine ⟨b1, r1.map V.str, rfl, sqL (N8.h _ _ (s8 _ _ hb17)), fun q hq0 => ?_⟩
      obtain ⟨G9, H9, e, N9, n9, hq⟩ := nobj N8 hq0 (.lst (r1.map V.str).reverse)
      rw [e]; clear e
      got_up
      exact hR _ _ ⟨q, r1.reverse, G9, N9, s8.trans n9.g, by rw [List.map_reverse]; exact hq, fun x hx => hr1 x (List.mem_reverse.mp hx), by rw [List.length_reverse]; omega, rfl⟩
    · got_up
      exact hR _ _ ⟨b2, r2, G8, N8, s8, hb28, hr2, hr2n, rfl⟩
  clear hb28 hr2 hr2n N8 s8 H8
  rintro σ8 H8 ⟨b2, r2, G8, N8, s8, hb28, hr2, hr2n, rfl⟩
  have hb8 := s8 _ _ hb7
  have hb18 := s8 _ _ hb17
  have hn1 : Nms r1 := hnm.of_subset hr1 (by omega)
  have hn2 : Nms r2 := hnm.of_subset hr2 (by omega)
  have hn12 : ∀ xs : List Str, (∀ x ∈ xs, x ∈ r1 ∨ x ∈ r2) → xs.length ≤ 1000 → Nms xs := fun xs h l => hnm.of_subset (fun x hx => (h x hx).elim (hr1 x) (hr2 x)) l
  clear N N1 N2 N3 N4 N5 N6 N7 n1 n2 n3 n5 n7 s4 s6 s8 hp1 hp2 hp3 hp4 hp5 hp6 hb2 hb3 hb4 hb5 hb6 hb7 hb1 hb15 hb16 hb17 hb26 hb27
  got_up
  refine cl0 N8 (b1, r1) ⟨rfl, hb18, hn1⟩ fun v G9 H9 N9 n9 ⟨p1, e, hc1⟩ => ?_
  subst e
  have hb9 := n9.g _ _ hb8
  have hb19 := n9.g _ _ hb18
  have hb29 := n9.g _ _ hb28
  got_up
  refine cl0 N9 (b2, r2) ⟨rfl, hb29, hn2⟩ fun v G10 H10 N10 n10 ⟨p2, e, hc2⟩ => ?_
  subst e
  have hb10 := n10.g _ _ hb9
  have hb1A := n10.g _ _ hb19
  have hb2A := n10.g _ _ hb29
  have hc1A := hc1.up n10.g
  got_up
  refine ⟨b1, rfl, ⟨_, sqL (N10.h _ _ hb1A)⟩, flt_strs (fun x => decide (x ∉ r2)) N10 hb1A (by omega) (fun i z G' H' hz s1 s2 => ⟨_, fun Q q => w_gn q, rfl, fun Q q => ?_, fun _ G2 H2 s3 s4 Q q => ?_⟩) fun d1 G11 H11 N11 s11 hd1 => ?_⟩
  · got_up
    refine ni_d da_s (ds_ls (sqL (s2 _ _ (s1 _ _ hb2A)))) ?_
    got_up
    exact q G' H' (Nx.refl s2)
  · got_up
    exact q _ G2 H2 (Nx.refl s4) rfl
  have hb1B := s11 _ _ hb1A
  have hb2B := s11 _ _ hb2A
  got_up
  refine ⟨b2, rfl, ⟨_, sqL (N11.h _ _ hb2B)⟩, flt_strs (fun x => decide (x ∉ r1)) N11 hb2B (by omega) (fun i z G' H' hz s1 s2 => ⟨_, fun Q q => w_gn q, rfl, fun Q q => ?_, fun _ G2 H2 s3 s4 Q q => ?_⟩) fun d2 G12 H12 N12 s12 hd2 => ?_⟩
  · got_up
    refine ni_d da_s (ds_ls (sqL (s2 _ _ (s1 _ _ hb1B)))) ?_
    got_up
    exact q G' H' (Nx.refl s2)
  · got_up
    exact q _ G2 H2 (Nx.refl s4) rfl
  have hb1C := s12 _ _ hb1B
  have hb2C := s12 _ _ hb2B
  got_up
  refine ⟨b1, rfl, ⟨_, sqL (N12.h _ _ hb1C)⟩, flt_strs (fun x => decide (x ∈ r2)) N12 hb1C (by omega) (fun i z G' H' hz s1 s2 => ⟨_, fun Q q => w_gn q, rfl, fun Q q => ?_, fun _ G2 H2 s3 s4 Q q => ?_⟩) fun d3 G13 H13 N13 s13 hd3 => ?_⟩
  · got_up
    refine in_d da_s (ds_ls (sqL (s2 _ _ (s1 _ _ hb2C)))) ?_
    got_up
    exact q G' H' (Nx.refl s2)
  · got_up
    exact q _ G2 H2 (Nx.refl s4) rfl
  -- what is known from here on
  have n13 : Same G10 G13 := s11.trans (s12.trans s13)
  have kb1 := s13 _ _ hb1C
  have kb2 := s13 _ _ hb2C
  have kd1 := s13 _ _ (s12 _ _ hd1)
  have kd2 := s13 _ _ hd2
  have kd3 := hd3
  have kc1 := hc1A.up n13
  have kc2 := hc2.up n13
  have kb := n13 _ _ hb10
  clear hb1A hb1B hb1C hb2A hb2B hb2C hd1 hd2 hd3 hc1 hc1A hc2 hb8 hb18 hb28 hb9 hb19 hb29 hb10 n9 n10 s11 s12 s13 N8 N9 N10 N11 N12 n13
  have il : ∀ (q : Str → Bool) (xs : List Str), (xs.filter q).length ≤ xs.length := fun q xs => List.length_filter_le _ _
  have i1 := il (fun x => decide (x ∉ r2)) r1
  have i2 := il (fun x => decide (x ∉ r1)) r2
  have i3 := il (fun x => decide (x ∈ r2)) r1
  have nmA : Nms (cset r1 ++ cset r2) := hn12 _ (fun x hx => by simpa [cset_mem] using hx) (by rw [List.length_append]; have := cset_len r1; have := cset_len r2; omega)
  -- or
  got_up
  refine ⟨p1, p2, rfl, rfl, cols_ins kc1 N13.h, cols_ins kc2 N13.h, ?_⟩
  refine cl0 N13 ((p1, _), p2, _) ⟨⟨rfl, kc1, kc2⟩, nmA⟩ fun v G14 H14 N14 n14 ⟨q14, e, hq14⟩ => ?_
  subst e
  replace hq14 : ColsAt T.C_Columns G14 q14 (cset (cset r1 ++ cset r2)) := hq14
  rw [m_or] at hq14
  got_up
  refine add_l N14 (n14.g _ _ kb1) (n14.g _ _ kb2) (by rw [List.length_map, List.length_map]; omega) fun w15 G15 H15 N15 n15 hw15 => ?_
  rw [← List.map_append] at hw15
  got_up
  refine cl0 N15 ((q14, _), w15, _) ⟨rfl, hq14.up n15.g, hw15, hn12 _ (fun x hx => by simpa using hx) (by rw [List.length_append]; omega)⟩ fun v G16 H16 N16 n16 r => ?_
  obtain rfl : v = .bl (decide (cset (r1 ++ r2) = cset (r1 ++ r2))) := r
  rw [decide_eq_true rfl]
  got_up
  refine iteF ?_
  have u16 := (n14.g.trans n15.g).trans n16.g
  -- and
  got_up
  refine ⟨p1, p2, rfl, rfl, cols_ins (kc1.up u16) N16.h, cols_ins (kc2.up u16) N16.h, ?_⟩
  refine cl0 N16 ((p1, _), p2, _) ⟨rfl, kc1.up u16, kc2.up u16⟩ fun v G17 H17 N17 n17 ⟨q17, e, hq17⟩ => ?_
  subst e
  replace hq17 : ColsAt T.C_Columns G17 q17 (cset ((cset r1).filter fun x => decide (x ∈ cset r2))) := hq17
  rw [m_and] at hq17
  have u17 := u16.trans n17.g
  got_up
  refine cl0 N17 ((q17, _), d3, _) ⟨rfl, hq17, u17 _ _ kd3, hn1.filter _⟩ fun v G18 H18 N18 n18 r => ?_
  obtain rfl : v = .bl (decide (cset (r1.filter fun x => decide (x ∈ r2)) = cset (r1.filter fun x => decide (x ∈ r2)))) := r
  rw [decide_eq_true rfl]
  got_up
  refine iteF ?_
  have u18 := u17.trans n18.g
  -- sub
  got_up
  refine ⟨p1, p2, rfl, rfl, cols_ins (kc1.up u18) N18.h, cols_ins (kc2.up u18) N18.h, ?_⟩
  refine cl0 N18 ((p1, _), p2, _) ⟨rfl, kc1.up u18, kc2.up u18⟩ fun v G19 H19 N19 n19 ⟨q19, e, hq19⟩ => ?_
  subst e
  replace hq19 : ColsAt T.C_Columns G19 q19 (cset ((cset r1).filter fun x => decide (x ∉ cset r2))) := hq19
  rw [m_sub] at hq19
  have u19 := u18.trans n19.g
  got_up
  refine cl0 N19 ((q19, _), d1, _) ⟨rfl, hq19, u19 _ _ kd1, hn1.filter _⟩ fun v G20 H20 N20 n20 r => ?_
  obtain rfl : v = .bl (decide (cset (r1.filter fun x => decide (x ∉ r2)) = cset (r1.filter fun x => decide (x ∉ r2)))) := r
  rw [decide_eq_true rfl]
  got_up
  refine iteF ?_
  have u20 := u19.trans n20.g
  -- xor
  got_up
  refine ⟨p1, p2, rfl, rfl, cols_ins (kc1.up u20) N20.h, cols_ins (kc2.up u20) N20.h, ?_⟩
  refine cl0 N20 ((p1, _), p2, _) ⟨⟨rfl, kc1.up u20, kc2.up u20⟩, nmA⟩ fun v G21 H21 N21 n21 ⟨q21, e, hq21⟩ => ?_
  subst e
  replace hq21 : ColsAt T.C_Columns G21 q21 (cset ((cset r1 ++ cset r2).filter fun x => !decide (decide (x ∈ cset r1) = decide (x ∈ cset r2)))) := hq21
  rw [m_xor] at hq21
  have u21 := u20.trans n21.g
  got_up
  refine add_l N21 (u21 _ _ kd1) (u21 _ _ kd2) (by rw [List.length_map, List.length_map]; omega) fun w22 G22 H22 N22 n22 hw22 => ?_
  rw [← List.map_append] at hw22
  got_up
  refine cl0 N22 ((q21, _), w22, _) ⟨rfl, hq21.up n22.g, hw22, hn12 _ (fun x hx => by
    rcases List.mem_append.mp hx with h | h
    · exact .inl (List.mem_filter.mp h).1
    · exact .inr (List.mem_filter.mp h).1) (by rw [List.length_append]; omega)⟩ fun v G23 H23 N23 n23 r => ?_
  obtain rfl := rb_t r (decide_eq_true rfl)
  got_up
  refine iteF ?_
  have u23 := (u21.trans n22.g).trans n23.g
  -- <=, <, ==
  have e1 : decide (r1.filter (fun x => decide (x ∉ r2)) = []) = (cset r1).all (fun x => decide (x ∈ cset r2)) := m_le.symm
  have e2 : decide (r2.filter (fun x => decide (x ∉ r1)) = []) = (cset r2).all (fun x => decide (x ∈ cset r1)) := m_le.symm
  have nil : ∀ {G0 H0 G H : Hp} {Q : VK} {c : Addr} {xs : List Str}, Nx G0 H0 G H → G c = some (.lst (xs.map V.str)) → (∀ G' H', Nx G0 H0 G' H' → Nx G H G' H' → Q (.bl (decide (xs = []))) H') → ∀ q, H q = none → EqR K (.ref c) (.ref q) (upd H q (.lst [])) Q := by
    intro G0 H0 G H Q c xs N hc k q hq
    obtain ⟨G1, H1, e, N1, n1, hq1⟩ := nobj N hq (.lst [])
    rw [e]; clear e
    exact eq_d (α := List Str) (y := []) (da_ls (sqL (N1.h _ _ (n1.g _ _ hc)))) (.lst (sqL (N1.h _ _ hq1)) .nil) (k G1 H1 N1 n1)
  have nnil : ∀ {G0 H0 G H : Hp} {Q : VK} {c : Addr} {xs : List Str}, Nx G0 H0 G H → G c = some (.lst (xs.map V.str)) → (∀ G' H', Nx G0 H0 G' H' → Nx G H G' H' → Q (.bl (decide (xs ≠ []))) H') → ∀ q, H q = none → NeR K (.ref c) (.ref q) (upd H q (.lst [])) Q := by
    intro G0 H0 G H Q c xs N hc k q hq
    obtain ⟨G1, H1, e, N1, n1, hq1⟩ := nobj N hq (.lst [])
    rw [e]; clear e
    exact ne_d (α := List Str) (y := []) (da_ls (sqL (N1.h _ _ (n1.g _ _ hc)))) (.lst (sqL (N1.h _ _ hq1)) .nil) (k G1 H1 N1 n1)
  got_up
  refine ⟨p1, p2, rfl, rfl, cols_ins (kc1.up u23) N23.h, cols_ins (kc2.up u23) N23.h, ?_⟩
  refine cl0 N23 ((p1, _), p2, _) ⟨rfl, kc1.up u23, kc2.up u23⟩ fun v G24 H24 N24 n24 r => ?_
  replace r := (show v = .bl ((cset r1).all fun x => decide (x ∈ cset r2)) from r)
  subst r
  have u24 := u23.trans n24.g
  got_up
  refine ⟨Nat.zero_le _, nil N24 (u24 _ _ kd1) fun G25 H25 N25 n25 => ?_⟩
  rw [e1]
  got_up
  refine cl0 N25 (_, _) rfl fun v G26 H26 N26 n26 r => ?_
  obtain rfl := rb_t r (decide_eq_true rfl)
  have u26 := (u24.trans n25.g).trans n26.g
  got_up
  refine iteF ?_
  got_up
  refine ⟨p2, p1, rfl, rfl, cols_ins (kc2.up u26) N26.h, cols_ins (kc1.up u26) N26.h, ?_⟩
  refine cl0 N26 ((p2, _), p1, _) ⟨rfl, kc2.up u26, kc1.up u26⟩ fun v G27 H27 N27 n27 r => ?_
  replace r := (show v = .bl ((cset r2).all fun x => decide (x ∈ cset r1)) from r)
  subst r
  have u27 := u26.trans n27.g
  got_up
  refine ⟨Nat.zero_le _, nil N27 (u27 _ _ kd2) fun G28 H28 N28 n28 => ?_⟩
  rw [e2]
  got_up
  refine cl0 N28 (_, _) rfl fun v G29 H29 N29 n29 r => ?_
  obtain rfl := rb_t r (decide_eq_true rfl)
  have u29 := (u27.trans n28.g).trans n29.g
  got_up
  refine iteF ?_
  let St9 : L2.St → Hp → Prop := fun σ' H' => ∃ G', Nx G H G' H' ∧ Same G29 G' ∧ σ' = [some (.ref a), some (.ref p), some (.ref b), some (.ref b1), some (.ref b2), some (.int m3), some (.ref p1), some (.ref p2), some (.ref d1), some (.ref d2), some (.ref d3), none, none]
  with_reducible refine w_next ?_
  with_reducible refine w_seqK St9 ?_ (fun R hR => ?_)
  rotate_left
  · got_up
    refine ⟨p1, p2, rfl, rfl, cols_ins (kc1.up u29) N29.h, cols_ins (kc2.up u29) N29.h, ?_⟩
    refine cl0 N29 ((p1, _), p2, _) ⟨rfl, kc1.up u29, kc2.up u29⟩ fun v G30 H30 N30 n30 r => ?_
    replace r := (show v = .bl (!decide (cset r1 = cset r2) && (cset r1).all fun x => decide (x ∈ cset r2)) from r)
    rw [m_eq, m_le] at r
    subst r
    have u30 := u29.trans n30.g
    got_up
    refine ⟨Nat.zero_le _, nil N30 (u30 _ _ kd1) fun G31 H31 N31 n31 => ?_⟩
    refine ⟨_, rfl, t_if (fun e => ?_) (fun e => ?_)⟩
    · rw [e, Bool.true_and, Bool.and_true]
      got_up
      refine ⟨Nat.zero_le _, nnil N31 ((u30.trans n31.g) _ _ kd2) fun G32 H32 N32 n32 => ?_⟩
      got_up
      refine cl0 N32 (_, _) rfl fun v G33 H33 N33 n33 r => ?_
      obtain rfl := rb_t r (decide_eq_true bnot_ne)
      got_up
      refine iteF ?_
      got_up
      exact hR _ _ ⟨G33, N33, ((n30.g.trans n31.g).trans n32.g).trans n33.g, rfl⟩
    · rw [e, Bool.and_false]
      got_up
      refine cl0 N31 (_, _) rfl fun v G33 H33 N33 n33 r => ?_
      obtain rfl := rb_t r (decide_eq_true rfl)
      got_up
      refine iteF ?_
      got_up
      exact hR _ _ ⟨G33, N33, (n30.g.trans n31.g).trans n33.g, rfl⟩
  rintro σ40 H40 ⟨G40, N40, s40, rfl⟩
  have v40 := u29.trans s40
  let St10 : L2.St → Hp → Prop := fun σ' H' => ∃ G', Nx G H G' H' ∧ Same G40 G' ∧ σ' = [some (.ref a), some (.ref p), some (.ref b), some (.ref b1), some (.ref b2), some (.int m3), some (.ref p1), some (.ref p2), some (.ref d1), some (.ref d2), some (.ref d3), none, none]
  with_reducible refine w_seqK St10 ?_ (fun R hR => ?_)
  rotate_left
  · got_up
    refine ⟨p1, p2, rfl, rfl, cols_ins (kc1.up v40) N40.h, cols_ins (kc2.up v40) N40.h, ?_⟩
    refine cl0 N40 ((p1, _), p2, _) ⟨rfl, kc1.up v40, kc2.up v40⟩ fun v G30 H30 N30 n30 r => ?_
    replace r := (show v = .bl (decide (cset r1 = cset r2)) from r)
    rw [m_eq] at r
    subst r
    have u30 := v40.trans n30.g
    got_up
    refine ⟨Nat.zero_le _, nil N30 (u30 _ _ kd1) fun G31 H31 N31 n31 => ?_⟩
    refine ⟨_, rfl, t_if (fun e => ?_) (fun e => ?_)⟩
    · rw [e, Bool.true_and]
      got_up
      refine ⟨Nat.zero_le _, nil N31 ((u30.trans n31.g) _ _ kd2) fun G32 H32 N32 n32 => ?_⟩
      got_up
      refine cl0 N32 (_, _) rfl fun v G33 H33 N33 n33 r => ?_
      obtain rfl := rb_t r (decide_eq_true rfl)
      got_up
      refine iteF ?_
      got_up
      exact hR _ _ ⟨G33, N33, ((n30.g.trans n31.g).trans n32.g).trans n33.g, rfl⟩
    · rw [e, Bool.false_and]
      got_up
      refine cl0 N31 (_, _) rfl fun v G33 H33 N33 n33 r => ?_
      obtain rfl := rb_t r (decide_eq_true rfl)
      got_up
      refine iteF ?_
      got_up
      exact hR _ _ ⟨G33, N33, (n30.g.trans n31.g).trans n33.g, rfl⟩
  rintro σ50 H50 ⟨G50, N50, s50, rfl⟩
  have v50 := v40.trans s50
  got_up
  refine ⟨b, rfl, ⟨_, sqL (N50.h _ _ (v50 _ _ kb))⟩, ?_⟩
  refine lcbK (src_list (sqL (v50 _ _ kb))) N50 nm (fun _ => true) (fun z v _ => v = .bl (decide (z ∈ r1))) (by rw [List.length_map]) (by rw [List.length_map]; omega) (fun _ _ _ _ _ h => h) ?_ ?_
  · rintro i z v G' H' hz s1 s2 hv
    rw [List.getElem?_map, hz] at hv
    cases Option.some.inj hv
    refine ⟨_, fun Q q => w_gn q, rfl, fun Q q => q G' H' (Nx.refl s2), fun _ G2 H2 s3 s4 Q q => ?_⟩
    have kc := kc1.up ((v50.trans s1).trans s3)
    got_up
    refine ⟨p1, rfl, cols_ins kc s4, ?_⟩
    refine cl0 (Nx.refl s4) ((p1, _), z) ⟨rfl, kc⟩ fun v G5 H5 N5 n5 r => ?_
    refine ⟨_, r, ?_⟩
    refine q _ G5 H5 N5 ?_
    show V.bl (decide (z ∈ cset r1)) = V.bl (decide (z ∈ r1))
    rw [decide_eq_decide.mpr cset_mem]
  intro w51 L51 G51 H51 N51 s51 hw51 hA51
  rw [flt_true] at hA51
  have hL51 := All2.eq hA51
  subst hL51
  clear hA51
  have v51 := v50.trans s51
  got_up
  refine ⟨b, rfl, ⟨_, sqL (N51.h _ _ (v51 _ _ kb))⟩, ?_⟩
  refine lcbK (src_list (sqL (v51 _ _ kb))) N51 nm (fun _ => true) (fun z v _ => v = .bl (decide (z ∈ r1))) (by rw [List.length_map]) (by rw [List.length_map]; omega) (fun _ _ _ _ _ h => h) ?_ ?_
  · rintro i z v G' H' hz s1 s2 hv
    rw [List.getElem?_map, hz] at hv
    cases Option.some.inj hv
    refine ⟨_, fun Q q => w_gn q, rfl, fun Q q => q G' H' (Nx.refl s2), fun _ G2 H2 s3 s4 Q q => ?_⟩
    have kc := ((v51.trans s1).trans s3) _ _ kb1
    got_up
    refine in_d da_s (ds_ls (sqL (s4 _ _ kc))) ?_
    exact q _ G2 H2 (Nx.refl s4) rfl
  intro w52 L52 G52 H52 N52 s52 hw52 hA52
  rw [flt_true] at hA52
  have hL52 := All2.eq hA52
  subst hL52
  clear hA52
  have v52 := v51.trans s52
  have lb : ∀ {G H : Hp} {w : Addr}, Same G H → G w = some (.lst (nm.map fun z => V.bl (decide (z ∈ r1)))) → Da K H (.ref w) (nm.map fun z => decide (z ∈ r1)) := fun s h => da_lb (sqL (by rw [List.map_map]; exact s _ _ h))
  refine ne_d (lb N52.h (s52 _ _ hw51)) (lb N52.h hw52) ?_
  got_up
  refine iteF' (by simp) ?_
  got_up
  refine cl0 N52 ((p1, _), b1, _) ⟨rfl, kc1.up v52, v52 _ _ kb1, hn1⟩ fun v G53 H53 N53 n53 r => ?_
  obtain rfl := rb_t r (decide_eq_true rfl)
  refine ⟨true, rfl, iteT ?_⟩
  have v53 := v52.trans n53.g
  got_up
  refine cl0 N53 ((p2, _), b2, _) ⟨rfl, kc2.up v53, v53 _ _ kb2, hn2⟩ fun v G54 H54 N54 n54 r => ?_
  obtain rfl := rb_t r (decide_eq_true rfl)
  exact hQ _ _ N54
end
end Lw

namespace Lw
open PySem PySem.Spec PyProof.Rows L2 SlX StX Ax
def fcts : List (Fr' → Bool) := [fun K => (He.Fa.free "abs").ok K, fun K => (He.Fa.free "all").ok K, fun K => (He.Fa.free "bool").ok K, fun K => (He.Fa.free "int").ok K, fun K => (He.Fa.free "isinstance").ok K, fun K => (He.Fa.free "iter").ok K, fun K => (He.Fa.free "len").ok K, fun K => (He.Fa.free "list").ok K, fun K => (He.Fa.free "range").ok K, fun K => (He.Fa.free "set").ok K, fun K => (He.Fa.free "sorted").ok K, fun K => (He.Fa.free "str").ok K, fun K => (He.Fa.free "tuple").ok K, fun K => (He.Fa.cls "Columns").ok K, cmB "Columns" "read", crB "Columns", fun K => (He.Fa.str "DIGITS" "0123456789").ok K, fun K => (He.Fa.str "LETTERS" "abcdefghijklmnopqrstuvwxyz").ok K, fun K => (He.Fa.int "LONGEST" 8).ok K, isB "Columns" "Columns" true, fun K => (He.Fa.keep "_law_built").ok K, fun K => (He.Fa.keep "_law_draw").ok K, fun K => (He.Fa.keep "_law_flag").ok K, fun K => (He.Fa.keep "_law_is_set").ok K, fun K => (He.Fa.keep "_law_names").ok K, fun K => (He.Fa.keep "_law_pool").ok K, fun K => (He.Fa.keep "is_name").ok K, fun K => (He.Fa.glo "Columns").ok K, fun K => (He.Fa.glo "_law_built").ok K, fun K => (He.Fa.glo "_law_draw").ok K, fun K => (He.Fa.glo "_law_flag").ok K, fun K => (He.Fa.glo "_law_is_set").ok K, fun K => (He.Fa.glo "_law_names").ok K, fun K => (He.Fa.glo "_law_pool").ok K, fun K => (He.Fa.glo "is_name").ok K, fun K => (He.Fa.glo "law").ok K, fun K => (He.Fa.meth "Columns" "__and__").ok K, fun K => (He.Fa.meth "Columns" "__contains__").ok K, fun K => (He.Fa.meth "Columns" "__eq__").ok K, fun K => (He.Fa.meth "Columns" "__iter__").ok K, fun K => (He.Fa.meth "Columns" "__le__").ok K, fun K => (He.Fa.meth "Columns" "__len__").ok K, fun K => (He.Fa.meth "Columns" "__lt__").ok K, fun K => (He.Fa.meth "Columns" "__or__").ok K, fun K => (He.Fa.meth "Columns" "__sub__").ok K, fun K => (He.Fa.meth "Columns" "text").ok K, fun K => (He.Fa.meth "Columns" "__xor__").ok K, fun K => (He.Fa.mkr "Columns").ok K, fun K => (He.Fa.noat "Columns" "names").ok K, fun K => (He.Fa.noat "Columns" "__bool__").ok K, nfB "Columns" "Columns", sfB "Columns", tyB "Columns"]
def dfx : List DfX := [df_Columns_and, df_Columns_contains, df_Columns_eq, df_Columns_init, df_Columns_iter, df_Columns_le, df_Columns_len, df_Columns_lt, df_Columns_or, df_Columns_read, df_Columns_sub, df_Columns_text, df_Columns_xor, df__law_built, df__law_draw, df__law_flag, df__law_is_set, df__law_names, df__law_pool, df_is_name, df_law]
def mkT {K : Fr'} {h : Heap} {mg : Str → Option Value} (X : K.In h) (G : h.Ns mainGlobals mg) (c : SaysX fcts dfx K) : TX K mg :=
  { C_Columns := He.ga K "Columns", a_Columns_and := He.ma K (He.ga K "Columns") "__and__", a_Columns_contains := He.ma K (He.ga K "Columns") "__contains__", a_Columns_eq := He.ma K (He.ga K "Columns") "__eq__", a_Columns_init := He.ma K (He.ga K "Columns") "__init__", a_Columns_iter := He.ma K (He.ga K "Columns") "__iter__", a_Columns_le := He.ma K (He.ga K "Columns") "__le__", a_Columns_len := He.ma K (He.ga K "Columns") "__len__", a_Columns_lt := He.ma K (He.ga K "Columns") "__lt__", a_Columns_or := He.ma K (He.ga K "Columns") "__or__", a_Columns_read := cmG K "Columns" "read", a_Columns_sub := He.ma K (He.ga K "Columns") "__sub__", a_Columns_text := He.ma K (He.ga K "Columns") "text", a_Columns_xor := He.ma K (He.ga K "Columns") "__xor__", a__law_built := He.ga K "_law_built", a__law_draw := He.ga K "_law_draw", a__law_flag := He.ga K "_law_flag", a__law_is_set := He.ga K "_law_is_set", a__law_names := He.ga K "_law_names", a__law_pool := He.ga K "_law_pool", a_is_name := He.ga K "is_name", a_law := He.ga K "law", p_Columns_read := cmP K "Columns" "read",
    b_abs := He.free_ok X G (c.fact 0 rfl),
    b_all := He.free_ok X G (c.fact 1 rfl),
    b_bool := He.free_ok X G (c.fact 2 rfl),
    b_int := He.free_ok X G (c.fact 3 rfl),
    b_isinstance := He.free_ok X G (c.fact 4 rfl),
    b_iter := He.free_ok X G (c.fact 5 rfl),
    b_len := He.free_ok X G (c.fact 6 rfl),
    b_list := He.free_ok X G (c.fact 7 rfl),
    b_range := He.free_ok X G (c.fact 8 rfl),
    b_set := He.free_ok X G (c.fact 9 rfl),
    b_sorted := He.free_ok X G (c.fact 10 rfl),
    b_str := He.free_ok X G (c.fact 11 rfl),
    b_tuple := He.free_ok X G (c.fact 12 rfl),
    c_Columns := He.cls_ok (c.fact 13 rfl),
    cm_Columns_read := cmB_ok (c.fact 14 rfl),
    cr_Columns := crB_ok (c.fact 15 rfl),
    d_Columns_and := c.def_ 0 (d := df_Columns_and) rfl,
    d_Columns_contains := c.def_ 1 (d := df_Columns_contains) rfl,
    d_Columns_eq := c.def_ 2 (d := df_Columns_eq) rfl,
    d_Columns_init := c.def_ 3 (d := df_Columns_init) rfl,
    d_Columns_iter := c.def_ 4 (d := df_Columns_iter) rfl,
    d_Columns_le := c.def_ 5 (d := df_Columns_le) rfl,
    d_Columns_len := c.def_ 6 (d := df_Columns_len) rfl,
    d_Columns_lt := c.def_ 7 (d := df_Columns_lt) rfl,
    d_Columns_or := c.def_ 8 (d := df_Columns_or) rfl,
    d_Columns_read := c.def_ 9 (d := df_Columns_read) rfl,
    d_Columns_sub := c.def_ 10 (d := df_Columns_sub) rfl,
    d_Columns_text := c.def_ 11 (d := df_Columns_text) rfl,
    d_Columns_xor := c.def_ 12 (d := df_Columns_xor) rfl,
    d__law_built := c.def_ 13 (d := df__law_built) rfl,
    d__law_draw := c.def_ 14 (d := df__law_draw) rfl,
    d__law_flag := c.def_ 15 (d := df__law_flag) rfl,
    d__law_is_set := c.def_ 16 (d := df__law_is_set) rfl,
    d__law_names := c.def_ 17 (d := df__law_names) rfl,
    d__law_pool := c.def_ 18 (d := df__law_pool) rfl,
    d_is_name := c.def_ 19 (d := df_is_name) rfl,
    d_law := c.def_ 20 (d := df_law) rfl,
    g_DIGITS := He.str_ok X G (c.fact 16 rfl),
    g_LETTERS := He.str_ok X G (c.fact 17 rfl),
    g_LONGEST := He.int_ok X G (c.fact 18 rfl),
    ist_Columns_Columns := of_decide_eq_true (c.fact 19 rfl),
    k__law_built := He.keep_ok (c.fact 20 rfl),
    k__law_draw := He.keep_ok (c.fact 21 rfl),
    k__law_flag := He.keep_ok (c.fact 22 rfl),
    k__law_is_set := He.keep_ok (c.fact 23 rfl),
    k__law_names := He.keep_ok (c.fact 24 rfl),
    k__law_pool := He.keep_ok (c.fact 25 rfl),
    k_is_name := He.keep_ok (c.fact 26 rfl),
    m_Columns := He.glo_ok X G (c.fact 27 rfl),
    m__law_built := He.glo_ok X G (c.fact 28 rfl),
    m__law_draw := He.glo_ok X G (c.fact 29 rfl),
    m__law_flag := He.glo_ok X G (c.fact 30 rfl),
    m__law_is_set := He.glo_ok X G (c.fact 31 rfl),
    m__law_names := He.glo_ok X G (c.fact 32 rfl),
    m__law_pool := He.glo_ok X G (c.fact 33 rfl),
    m_is_name := He.glo_ok X G (c.fact 34 rfl),
    m_law := He.glo_ok X G (c.fact 35 rfl),
    me_Columns_and := He.meth_ok (c.fact 36 rfl),
    me_Columns_contains := He.meth_ok (c.fact 37 rfl),
    me_Columns_eq := He.meth_ok (c.fact 38 rfl),
    me_Columns_iter := He.meth_ok (c.fact 39 rfl),
    me_Columns_le := He.meth_ok (c.fact 40 rfl),
    me_Columns_len := He.meth_ok (c.fact 41 rfl),
    me_Columns_lt := He.meth_ok (c.fact 42 rfl),
    me_Columns_or := He.meth_ok (c.fact 43 rfl),
    me_Columns_sub := He.meth_ok (c.fact 44 rfl),
    me_Columns_text := He.meth_ok (c.fact 45 rfl),
    me_Columns_xor := He.meth_ok (c.fact 46 rfl),
    mk_Columns := He.mkr_ok (c.fact 47 rfl),
    na_Columns_names := He.noat_ok (c.fact 48 rfl),
    nb_Columns := He.noat_ok (c.fact 49 rfl),
    nf_Columns_Columns := (c.fact 50 rfl),
    sf_Columns := (c.fact 51 rfl),
    ty_Columns := tyB_ok (He.cls_ok (c.fact 13 rfl)) (c.fact 52 rfl) }
def nms0 : List Str := ["TableError", "InvalidName", "LETTERS", "DIGITS", "LONGEST", "is_name", "Columns", "_law_pool", "_law_draw", "_law_names", "_law_built", "_law_is_set"]
def nms1 : List Str := ["_law_flag"]
def nms : List Str := nms0 ++ nms1
abbrev R : PySem.W.OpenRow := PySem.W.OpenLaw.row PySem.Challenge.rw_aloneright_k01_column_sets
abbrev hk : PySem.W.Hook := hookX 6 fcts dfx
def ob (s : PySem.W.SharedT) : He.AlD := obsXG 6 fcts dfx (HandSHeadRun.getT s)
theorem ob_eq (s : PySem.W.SharedT) : ob s = hk.obs s.abs := obsXG_eq (HandSHeadRun.getT_eq s)
theorem run (w : World) : HandSHeadRun.RunEq R (PySem.W.view R.prog [16]) hk ob 20000 nms w := by
  intro os
  kernel_rfl
theorem fin {P : Program} {w : World} {K : Fr'} {h : Heap} {mg : Str → Option Value} {fa : Addr} (X : K.In h) (G : h.Ns mainGlobals mg) (hfa : mg ("law" : Str) = some (.ref fa)) (c : SaysX fcts dfx K) :
    ∃ (K : PySem.W.Frag) (fd : FuncData) (sp : Sp), K.In h ∧ (∀ (s : Shared) (u : Value), BindsTo s fd ⟨[u], []⟩ [("_law_script", u)]) ∧
      (∀ (H : Hp) (a : Addr) (ns : List Int), ns.length ≤ 63 → (∀ z ∈ ns, Builtin.Int.intBits z ≤ 1048576) → Only H → SqL K H a (ns.map V.int) → sp [.ref a] H (fun v _ => v = .bl true) fun _ _ _ => False) ∧
      ∀ base : Heap, K.In base → base.Ns mainGlobals mg → FnOk P w K mg base (L2.CX P w) 17 fa fd ["_law_script"] sp := by
  have T := mkT X G c
  obtain ⟨fd, F⟩ := T.d_law
  have e := hfa.symm.trans T.m_law
  injection e with e
  injection e with e
  subst e
  refine ⟨K, fd, spLaw K, X, fun s v => FunD.bindsA (ps := ["_law_script"]) F (fun _ _ _ _ _ _ us hl => match us, hl with | [_], _ => rfl) s [v] rfl, fun H a ns hl hb _ hS => law_sp hl hb hS, fun base _ _ => ok_law (base := base) T F⟩
end Lw
open PySem PySem.W PySem.Calls PyProof.Rows in
theorem PySem.Challenge.cw_aloneright_k01_column_sets_holds : PySem.Challenge.rw_aloneright_k01_column_sets.Holds := by
  w_on; o_law
  refine HandSHeadRun.head_any (r := OpenLaw.row PySem.Challenge.rw_aloneright_k01_column_sets) (q := view (OpenLaw.row PySem.Challenge.rw_aloneright_k01_column_sets).prog [16]) (H := Lw.hk) (ob := Lw.ob) (M := 20000) (loose := Lw.nms) (d := HandSHeadRun.topDef (OpenLaw.row PySem.Challenge.rw_aloneright_k01_column_sets).prog 16) (kwd := []) Lw.ob_eq
    (by kernel_rfl) (fun s => by kernel_rfl) Lw.run (by kernel_rfl) (by kernel_rfl) (by kernel_rfl) (by rfl) (by first | assumption | decide +kernel) (by decide +kernel) ⟨rfl, rfl, rfl, rfl, rfl, by decide +kernel⟩ ?hw ?hc
  case hw => w_witness2
  case hc =>
    refine Ax.walk_ofX (l := PySem.Challenge.rw_aloneright_k01_column_sets) (n := 63) (k := 17) (x := "_law_script") rfl (by decide) (by kernel_rfl) ⟨rfl, by decide, by decide⟩ ?F
    intro w mg fa h Y G hmg0
    obtain ⟨K, KX, c⟩ := Y
    exact Lw.fin KX G hmg0 c
