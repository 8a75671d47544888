import PyProof.Rows.All
import Wide.All
import OpenK.AllK
import Wide.FinOn
import HandS.ForExc
import HandS.Comp
import HandS.Iter
import HandS.Zip
import HandS.IsInst
import HandS.NoneIn
import HandS.Codes
import PyProof.NeKinds
import KE.KDictZip
import KE.KItemsList
import KE.KExcSuper
import KE.KExcInit
import HandS.ExcInit
import HandS.TryMany
import HandS.ExcIs
import KE.KExcIs
import PySem.Challenge.RW_pieceasks_k01_errors
import HandS.WordsExc
import HandS.Walk
set_option Elab.async false
set_option linter.all false
set_option maxRecDepth 100000
set_option maxHeartbeats 0
/-! Rd: one lemma a construct for the readings, so that a reading is walked by one word. -/
namespace Rd
open PySem L2
section
variable {σ : L2.St} {H H1 : Hp} {Q : VK} {QB : Bool → Hp → Prop} {QA : List V → Hp → Prop} {v x y : V} {i j : Int} {n : Nat} {te ta tb : TE} {t u c : TT} {tA : TA} {g : TG} {s s' : TS} {nx : L2.St → Hp → Prop} {rt : VK} {bk ct : L2.St → Hp → Prop} {D : Ends} {K : PySem.W.Frag} {p : Addr} {xs ys : List V}
theorem var (h : σ[n]? = some (some v)) (q : Q v H) : tVar n σ H Q := ⟨v, h, q⟩
theorem cst (q : Q v H) : tC v σ H Q := q
theorem seq (h : s ⟨s' ⟨nx, rt, bk, ct⟩, rt, bk, ct⟩ σ H) : tSeq s s' ⟨nx, rt, bk, ct⟩ σ H := h
theorem asg (h : te σ H fun x H1 => g x σ H1 nx) : tAsg te g ⟨nx, rt, bk, ct⟩ σ H := h
theorem gname {QS : L2.St → Hp → Prop} (h : QS (σ.set n (some v)) H) : gName n v σ H QS := h
theorem ret (h : te σ H rt) : tRet te ⟨nx, rt, bk, ct⟩ σ H := h
theorem next (h : nx σ H) : tNext ⟨nx, rt, bk, ct⟩ σ H := h
theorem brk (h : bk σ H) : tBreak ⟨nx, rt, bk, ct⟩ σ H := h
theorem cont (h : ct σ H) : tCont ⟨nx, rt, bk, ct⟩ σ H := h
theorem drop (h : te σ H fun _ H1 => nx σ H1) : tDrop te ⟨nx, rt, bk, ct⟩ σ H := h
theorem ifs (h : c σ H fun b H1 => if b = true then s D σ H1 else s' D σ H1) : tIfS c s s' D σ H := h
theorem test (h : te σ H fun x H' => ∃ k, x = .bl k ∧ QB k H') : tTest te σ H QB := h
theorem testB (h : te σ H fun x H' => ∃ k, x = .bl k ∧ QB k H') : tB te σ H QB := h
theorem exbl {b : Bool} {P : Bool → Prop} (h : P b) : ∃ k, V.bl b = .bl k ∧ P k := ⟨b, rfl, h⟩
theorem and_ (h : t σ H fun c H1 => if c = true then u σ H1 QB else QB false H1) : tAnd t u σ H QB := h
theorem or_ (h : t σ H fun c H1 => if c = true then QB true H1 else u σ H1 QB) : tOr t u σ H QB := h
theorem not_ (h : t σ H fun c H1 => QB (!c) H1) : tNot t σ H QB := h
theorem andV (h : ta σ H fun x H1 => ∃ c, x = .bl c ∧ if c = true then tb σ H1 Q else Q (.bl false) H1) : tAndV ta tb σ H Q := h
theorem orV (h : ta σ H fun x H1 => ∃ c, x = .bl c ∧ if c = true then Q (.bl true) H1 else tb σ H1 Q) : tOrV ta tb σ H Q := h
theorem notV (h : ta σ H fun x H1 => ∃ c, x = .bl c ∧ Q (.bl (!c)) H1) : tNotV ta σ H Q := h
theorem ifE (h : t σ H fun c H1 => if c = true then ta σ H1 Q else tb σ H1 Q) : tIf t ta tb σ H Q := h
theorem op {r : R2} (h : ta σ H fun x H1 => tb σ H1 fun y H2 => r x y H2 Q) : tOp r ta tb σ H Q := h
theorem un {r : V → Hp → VK → Prop} (h : ta σ H fun x H1 => r x H1 Q) : tUn r ta σ H Q := h
theorem rI0_ {g : Int → Int → V} (q : Q (g i j) H) : rI0 g (.int i) (.int j) H Q := ⟨i, j, rfl, rfl, q⟩
theorem rI_ {C : Int → Int → Prop} {g : Int → Int → V} (hc : C i j) (q : Q (g i j) H) : rI C g (.int i) (.int j) H Q := ⟨i, j, rfl, rfl, hc, q⟩
theorem rU_ {g : Int → V} (q : Q (g i) H) : rU g (.int i) H Q := ⟨i, rfl, q⟩
theorem eq_ (hs : scal x y = true) (q : Q (.bl (decide (x = y))) H) : rEq x y H Q := ⟨hs, q⟩
theorem ne_ (hs : scal x y = true) (q : Q (.bl (!decide (x = y))) H) : rNe x y H Q := ⟨hs, q⟩
theorem cb {r : List V → Hp → VK → Prop} (h : tA σ H fun vs H1 => r vs H1 Q) : tCB r tA σ H Q := h
theorem nil_ (h : QA [] H) : tNil σ H QA := h
theorem cons_ (h : te σ H fun x H1 => tA σ H1 fun xs H2 => QA (x :: xs) H2) : tCons te tA σ H QA := h
theorem lst_ (h : tA σ H fun xs H1 => xs.length ≤ sizeLine ∧ ∀ p, H1 p = none → Q (.ref p) (upd H1 p (.lst xs))) : tLst tA σ H Q := h
theorem tup_ (h : tA σ H fun xs H1 => xs.length ≤ sizeLine ∧ ∀ p, H1 p = none → Q (.ref p) (upd H1 p (.tup xs))) : tTup tA σ H Q := h
theorem new_ {B : Prop} (hl : n ≤ sizeLine) (h : B) : n ≤ sizeLine ∧ B := ⟨hl, h⟩
theorem call_ {sp : Sp} {dvs : List V} {E : XK} (h : tA σ H fun vs H1 => sp (vs ++ dvs) H1 Q E) : tCall sp dvs E tA σ H Q := h
theorem ixL (h : SqL K H p xs) (ha : atI xs i = some v) (q : Q v H) : rIxL K (.ref p) (.int i) H Q := ⟨p, xs, i, v, rfl, rfl, h, ha, q⟩
theorem ixT (h : SqT K H p xs) (ha : atI xs i = some v) (q : Q v H) : rIxT K (.ref p) (.int i) H Q := ⟨p, xs, i, v, rfl, rfl, h, ha, q⟩
theorem gsub {to ti : TE} {ts : TSet} {QS : L2.St → Hp → Prop} (h : to σ H fun o H1 => ti σ H1 fun i H2 => ts o i v H2 fun H3 => QS σ H3) : gSub to ti ts v σ H QS := h
theorem setL {k : Nat} {QH : Hp → Prop} (h : H p = some (.lst xs)) (hk : ixN xs.length i = some k) (q : QH (upd H p (.lst (xs.set k v)))) : rSetL (.ref p) (.int i) v H QH := ⟨p, xs, i, k, rfl, rfl, h, hk, q⟩
/-- int(n), int(b) -/
def rInt : List V → Hp → VK → Prop := fun xs H Q => (∃ i, xs = [.int i] ∧ Q (.int i) H) ∨ ∃ k, xs = [.bl k] ∧ Q (.int (if k then 1 else 0)) H
theorem c_int {X : Cx} : CallR X (.type "int") rInt := call_int1
theorem int_ (q : Q (.int i) H) : rInt [.int i] H Q := .inl ⟨i, rfl, q⟩
theorem intB {b : Bool} (q : Q (.int (if b then 1 else 0)) H) : rInt [.bl b] H Q := .inr ⟨b, rfl, q⟩
/-- len of a list or tuple -/
def rLen (K : PySem.W.Frag) : List V → Hp → VK → Prop := fun xs H Q => ∃ p ys, xs = [.ref p] ∧ (SqL K H p ys ∨ SqT K H p ys) ∧ Q (.int ys.length) H
theorem c_len {X : Cx} : CallR X (.builtin "len") (rLen X.K) := call_len_seq
theorem lenL (h : SqL K H p xs) (q : Q (.int xs.length) H) : rLen K [.ref p] H Q := ⟨p, xs, rfl, .inl h, q⟩
theorem lenT (h : SqT K H p xs) (q : Q (.int xs.length) H) : rLen K [.ref p] H Q := ⟨p, xs, rfl, .inr h, q⟩
theorem catL {p' : Addr} (h : H p = some (.lst xs)) (h' : H p' = some (.lst ys)) (hl : xs.length + ys.length ≤ sizeLine) (q : ∀ a, H a = none → Q (.ref a) (upd H a (.lst (xs ++ ys)))) : rCat (.ref p) (.ref p') H Q := ⟨p, p', xs, ys, rfl, rfl, h, h', hl, q⟩
/-- list(x), tuple(x) of a list or a tuple -/
def rTupOf (K : PySem.W.Frag) : List V → Hp → VK → Prop := fun xs H Q => ∃ p ys, xs = [.ref p] ∧ ((SqL K H p ys ∧ ∀ l, H l = none → Q (.ref l) (upd H l (.tup ys))) ∨ (SqT K H p ys ∧ Q (.ref p) H))
theorem c_tuple {X : Cx} : CallR X (.type "tuple") (rTupOf X.K) := call_tuple_of
theorem tupL (h : SqL K H p xs) (q : ∀ l, H l = none → Q (.ref l) (upd H l (.tup xs))) : rTupOf K [.ref p] H Q := ⟨p, xs, rfl, .inl ⟨h, q⟩⟩
theorem tupT (h : SqT K H p xs) (q : Q (.ref p) H) : rTupOf K [.ref p] H Q := ⟨p, xs, rfl, .inr ⟨h, q⟩⟩
def rLstOf (K : PySem.W.Frag) : List V → Hp → VK → Prop := fun xs H Q => ∃ p ys, xs = [.ref p] ∧ (SqL K H p ys ∨ SqT K H p ys) ∧ ∀ l, H l = none → Q (.ref l) (upd H l (.lst ys))
theorem c_list {X : Cx} : CallR X (.type "list") (rLstOf X.K) := call_list_of
theorem lstL (h : SqL K H p xs) (q : ∀ l, H l = none → Q (.ref l) (upd H l (.lst xs))) : rLstOf K [.ref p] H Q := ⟨p, xs, rfl, .inl h, q⟩
theorem lstT (h : SqT K H p xs) (q : ∀ l, H l = none → Q (.ref l) (upd H l (.lst xs))) : rLstOf K [.ref p] H Q := ⟨p, xs, rfl, .inr h, q⟩
theorem yes (h : QB true H) : tYes σ H QB := h
theorem rng1 {R : It → Hp → Prop} (h : tA σ H fun vs H1 => ∃ j : Int, vs = [.int j] ∧ -(2 ^ 62) ≤ j ∧ j < 2 ^ 62 ∧ R (Itr 0 j.toNat) H1) : iRng1 tA σ H R := h
theorem rng1_ {P : Int → Prop} (h1 : -(2 ^ 62) ≤ i) (h2 : i < 2 ^ 62) (h : P i) : ∃ j : Int, [V.int i] = [V.int j] ∧ -(2 ^ 62) ≤ j ∧ j < 2 ^ 62 ∧ P j := ⟨i, rfl, h1, h2, h⟩
theorem br {b : Bool} {A B : Prop} (h1 : b = true → A) (h2 : b = false → B) : if b = true then A else B := by
  cases b with
  | true => exact iteT (h1 rfl)
  | false => exact iteF (h2 rfl)
theorem cut (Mid : L2.St → Hp → Prop) (h1 : s ⟨Mid, rt, bk, ct⟩ σ H) (h2 : ∀ σ' H', Mid σ' H' → s' ⟨nx, rt, bk, ct⟩ σ' H') : C8.tCut s s' ⟨nx, rt, bk, ct⟩ σ H := ⟨Mid, h1, h2⟩
theorem sz {n : Nat} (h : n ≤ 100000) : n ≤ sizeLine := Nat.le_trans h (by decide)
end
end Rd
/-! Ne: xs != [] -/
namespace L2
open PySem PySem.Spec PyProof.Rows
theorem ne_lens {prog : Program} {w : World} {A : Around} {E : Value → Shared → Prop} {s : Shared} {l b : Addr} {xs ys : Array Value} {Q : Value → Shared → Prop} (hl : s.heap.IsList l xs) (hb : s.heap.IsList b ys) (hz : (xs.size != ys.size) = true) (hu : A.units < cLine) (h : Q (.bool true) s) :
    wpAny (model prog w) A (compareOp .NotEq (.ref l) (.ref b)) Q E s := by
  obtain ⟨⟨c, dd, da, sl⟩, ho, hc, n, hd⟩ := hl
  obtain ⟨⟨c2, dd2, da2, sl2⟩, ho2, hc2, n2, hd2⟩ := hb
  simp only at hc hd hc2 hd2
  subst hc hd hc2 hd2
  exact richCompare_meets_room (op := .NotEq) ⟨_, ho, rfl⟩ ⟨_, ho2, rfl⟩ F.slot_list_ne F.entry_list_ne (F.args_list_ne_2 _ _) (SeqAt.list_ne_lengthsAt l b xs ys n n2 dd dd2 sl sl2 hz) ⟨ho, ho2, (fun x => nomatch x), h⟩ hu
theorem ne_nils {prog : Program} {w : World} {A : Around} {E : Value → Shared → Prop} {s : Shared} {l b : Addr} {Q : Value → Shared → Prop} (hl : s.heap.IsList l #[]) (hb : s.heap.IsList b #[]) (hu : A.units < cLine) (h : Q (.bool false) s) :
    wpAny (model prog w) A (compareOp .NotEq (.ref l) (.ref b)) Q E s := by
  obtain ⟨⟨c, dd, da, sl⟩, ho, hc, n, hd⟩ := hl
  obtain ⟨⟨c2, dd2, da2, sl2⟩, ho2, hc2, n2, hd2⟩ := hb
  simp only at hc hd hc2 hd2
  subst hc hd hc2 hd2
  exact richCompare_meets_room (op := .NotEq) ⟨_, ho, rfl⟩ ⟨_, ho2, rfl⟩ F.slot_list_ne F.entry_list_ne (F.args_list_ne_2 _ _) (SeqAt.list_neAt l b #[] #[] n n2 dd dd2 sl sl2 rfl (fun _ => true)) ⟨ho, ho2, (fun j h1 _ => absurd h1 (Nat.not_lt_zero _)), (fun x => nomatch x), h⟩ hu
/-- xs != [] -/
def rNeNil : R2 := fun x y H Q => ∃ a b xs, x = .ref a ∧ y = .ref b ∧ H a = some (.lst xs) ∧ H b = some (.lst []) ∧ Q (.bl (!xs.isEmpty)) H
theorem op_neNil {X : Cx} (hu : X.A.units < cLine) : OpR X (compareOp .NotEq) rNeNil := by
  intro pins s σ H x y v u Q I rx ry h
  obtain ⟨a, b, xs, rfl, rfl, ha, hb, q⟩ := h
  cases (show v = Value.ref a from rx)
  cases (show u = Value.ref b from ry)
  obtain ⟨its, r1, p1, _⟩ := I.list (SqL.of ha)
  obtain ⟨its2, r2, p2, _⟩ := I.list (SqL.of hb)
  have l1 := r1.length
  have e2 : its2 = [] := by
    cases r2
    rfl
  subst e2
  cases xs with
  | nil =>
    have e1 : its = [] := by
      cases r1
      rfl
    subst e1
    exact ne_nils p1.isList p2.isList hu ⟨.bl false, H, I, rfl, q⟩
  | cons z zs =>
    refine ne_lens p1.isList p2.isList ?_ hu ⟨.bl true, H, I, rfl, q⟩
    rw [List.size_toArray, List.size_toArray, ← l1]
    rfl
end L2
/-! Zl: list(zip(a, b)), a and b two lists or two tuples. -/
namespace Zl
open PySem PySem.W PySem.Calls PyProof.Rows RZ
/-- an iterator over a list (false) or a tuple (true), at place k -/
def It (b : Bool) (h : Heap) (it l : Addr) (k : Nat) : Prop := if b = true then h.IsTupleIter it l k else h.IsListIter it l k
def Sq (b : Bool) (h : Heap) (l : Addr) (xs : Array Value) : Prop := if b = true then h.IsTuple l xs else h.IsList l xs
theorem It.off {b : Bool} {h h' : Heap} {it l y : Addr} {k : Nat} (x : It b h it l k) (e : ∀ c o, c ≠ y → h.get? c = some o → h'.get? c = some o) (hy : it ≠ y) : It b h' it l k := by
  cases b with
  | true => exact Heap.IsTupleIter.at (show h.IsTupleIter it l k from x) fun o z => e _ o hy z
  | false => exact Heap.IsListIter.at (show h.IsListIter it l k from x) fun o z => e _ o hy z
theorem Sq.off {b : Bool} {h h' : Heap} {l y : Addr} {xs : Array Value} (x : Sq b h l xs) (e : ∀ c o, c ≠ y → h.get? c = some o → h'.get? c = some o) (hy : l ≠ y) : Sq b h' l xs := by
  cases b with
  | true =>
    obtain ⟨o, ho, r⟩ := (show h.IsTuple l xs from x)
    exact ⟨o, e _ o hy ho, r⟩
  | false =>
    obtain ⟨o, ho, r⟩ := (show h.IsList l xs from x)
    exact ⟨o, e _ o hy ho, r⟩
theorem It.lt {b : Bool} {h : Heap} {it l : Addr} {k : Nat} (x : It b h it l k) : it < h.objs.size := by
  cases b with
  | true =>
    obtain ⟨o, ho, _⟩ := (show h.IsTupleIter it l k from x)
    exact Heap.lt_size ho
  | false =>
    obtain ⟨o, ho, _⟩ := (show h.IsListIter it l k from x)
    exact Heap.lt_size ho
theorem Sq.lt {b : Bool} {h : Heap} {l : Addr} {xs : Array Value} (x : Sq b h l xs) : l < h.objs.size := by
  cases b with
  | true =>
    obtain ⟨o, ho, _⟩ := (show h.IsTuple l xs from x)
    exact Heap.lt_size ho
  | false =>
    obtain ⟨o, ho, _⟩ := (show h.IsList l xs from x)
    exact Heap.lt_size ho
section
variable {prog : Program} {w : World} {A : Around} {E : Value → Shared → Prop} {s : Shared} {b : Bool}
theorem nx_item {it l : Addr} {k : Nat} {xs : Array Value} {x : Value} {Q : Value → Shared → Prop} (hi : It b s.heap it l k) (hl : Sq b s.heap l xs) (hx : xs[k]? = some x)
    (hq : ∀ h', It b h' it l (k + 1) → Heap.SameBut it s.heap h' → Q x { s with heap := h' }) : wpAny (model prog w) A (Builtin.SmallTypes.nextOf (.ref it)) Q E s := by
  cases b with
  | true => exact nextOf_tuple_item hi hl hx hq
  | false => exact wpAny_nextOf_list_item hi hl hx hq
theorem nx_end {it l : Addr} {k : Nat} {xs : Array Value} {Q : Value → Shared → Prop} (hh : A.handled = none) (hi : It b s.heap it l k) (hl : Sq b s.heap l xs) (hx : xs[k]? = none)
    (hE : ∀ h' e, Heap.ExtBut it s.heap h' → (∃ o, h'.get? e = some o ∧ o.cls = .type "StopIteration") → E (.ref e) { s with heap := h' }) : wpAny (model prog w) A (Builtin.SmallTypes.nextOf (.ref it)) Q E s := by
  cases b with
  | true => exact nextOf_tuple_end hh hi hl hx hE
  | false => exact wpAny_nextOf_list_end hh hi hl hx hE
/-- the next pair while the last one is held by somebody -/
theorem held_item {z TI TO T i1 i2 l1 l2 : Addr} {f : Bool} {oT : Obj} {k : Nat} {xs ys : Array Value} {x y : Value} {Q : Option Value → Shared → Prop} (D : ZipApart z TI TO i1 i2 l1 l2) (hz : IsZipHeld s.heap z TI TO T f) (hT : s.heap.get? T = some oT) (hTI : IsPair s.heap TI (.ref i1) (.ref i2))
    (h1 : It b s.heap i1 l1 k) (h2 : It b s.heap i2 l2 k) (hl1 : Sq b s.heap l1 xs) (hl2 : Sq b s.heap l2 ys) (hx : xs[k]? = some x) (hy : ys[k]? = some y)
    (hQ : ∀ h', IsZipHeld h' z TI TO T true → It b h' i1 l1 (k + 1) → It b h' i2 l2 (k + 1) → IsPair h' s.heap.objs.size x y → h'.objs.size = s.heap.objs.size + 1 →
      (∀ c o, c ≠ z → c ≠ i1 → c ≠ i2 → s.heap.get? c = some o → h'.get? c = some o) → Q (some (.ref s.heap.objs.size)) { s with heap := h' }) :
    wpAny (model prog w) A (pyNext (.ref z)) Q E s := by
  have hTy : s.TypeIs (.ref z) "zip" := ⟨_, hz, rfl⟩
  unfold pyNext
  refine wpAny_bind (wpAny_attempt (wpAny_callSpecial?_slot (name := Str.ofString "__next__") hTy F.slot_zip_next
    (wpAny_call_entry F.slot_zip_next hTy F.entry_zip_next ?_ (F.args_zip_next_1 _))))
  show wpAny _ _ (field (.ref z) 2 >>= _) _ _ _
  refine wpAny_bind (wpAny_field hz rfl (x := .bool false) rfl ?_)
  show wpAny _ _ (field (.ref z) 3 >>= _) _ _ _
  refine wpAny_bind (wpAny_field hz rfl (x := .ref TI) rfl ?_)
  refine wpAny_bind (wpAny_seqItems hTI rfl ?_)
  show wpAny _ _ (Builtin.SmallTypes.ownedTupleIsFree (.ref z) >>= _) _ _ _
  refine wpAny_bind (wpAny_tupleHeld_zip hz hT fun ha za sa => ?_)
  simp only [Bool.false_eq_true, if_false]
  refine wpAny_bind ?_
  rw [← Array.forIn_toList]
  simp only [List.forIn_cons, List.forIn_nil]
  refine wpAny_bind (wpAny_bind (wpAny_holding ?_))
  show wpAny _ _ (Builtin.SmallTypes.nextOf (.ref i1) >>= _) _ _ _
  refine wpAny_bind (nx_item (s := { s with heap := ha }) (h1.off sa.extBut D.i1z) (hl1.off sa.extBut D.l1z) hx fun hb h1b sb => wpAny_pure ?_)
  refine wpAny_pure ?_
  refine wpAny_bind (wpAny_bind (wpAny_holding ?_))
  show wpAny _ _ (Builtin.SmallTypes.nextOf (.ref i2) >>= _) _ _ _
  refine wpAny_bind (nx_item (s := { s with heap := hb }) ((h2.off sa.extBut D.i2z).off sb.extBut D.i12.symm) ((hl2.off sa.extBut D.l2z).off sb.extBut D.l2i1) hy fun hc h2c sc => wpAny_pure ?_)
  refine wpAny_pure (wpAny_pure ?_)
  show wpAny _ _ (newTuple [x, y] >>= _) _ _ _
  refine wpAny_bind (wpAny_newTuple ?_)
  have hsz : hc.objs.size = s.heap.objs.size := by rw [sc.1, sb.1, sa.1]
  have zc : IsZipHeld hc z TI TO T true := sc.extBut _ _ D.i2z.symm (sb.extBut _ _ D.i1z.symm za)
  have kc : ∀ c o, c ≠ z → c ≠ i1 → c ≠ i2 → s.heap.get? c = some o → hc.get? c = some o := fun c o c1 c2 c3 e => sc.extBut _ _ c3 (sb.extBut _ _ c2 (sa.extBut _ _ c1 e))
  refine wpAny_pure ⟨_, rfl, wpAny_pure ?_⟩
  show Q (some (.ref hc.objs.size)) _
  have pr : IsPair (hc.push { cls := .type "tuple", data := .seq #[x, y] }) hc.objs.size x y := Heap.get?_push_size _ rfl
  have zs : (hc.push { cls := .type "tuple", data := .seq #[x, y] }).objs.size = hc.objs.size + 1 := Heap.size_push ..
  have pu : ∀ c o, c ≠ hc.objs.size + 1 → hc.get? c = some o → (hc.push { cls := .type "tuple", data := .seq #[x, y] }).get? c = some o := fun c o _ e => Heap.get?_push_of_some _ e
  have n1 : i1 ≠ hc.objs.size + 1 := Nat.ne_of_lt (Nat.lt_succ_of_lt (h1b.off sc.extBut D.i12).lt)
  have n2 : i2 ≠ hc.objs.size + 1 := Nat.ne_of_lt (Nat.lt_succ_of_lt h2c.lt)
  have q1 := (h1b.off sc.extBut D.i12).off pu n1
  have q2 := h2c.off pu n2
  rw [hsz] at pr zs ⊢
  exact hQ _ (Heap.get?_push_of_some _ zc) q1 q2 pr zs fun c o c1 c2 c3 e => Heap.get?_push_of_some _ (kc c o c1 c2 c3 e)
theorem held_end {z TI TO T i1 i2 l1 l2 : Addr} {f : Bool} {oT : Obj} {k : Nat} {xs : Array Value} {Q : Option Value → Shared → Prop} (hh : A.handled = none) (D : ZipApart z TI TO i1 i2 l1 l2) (hz : IsZipHeld s.heap z TI TO T f) (hT : s.heap.get? T = some oT) (hTI : IsPair s.heap TI (.ref i1) (.ref i2))
    (h1 : It b s.heap i1 l1 k) (hl1 : Sq b s.heap l1 xs) (hx : xs[k]? = none)
    (hQ : ∀ h', (∀ c o, c ≠ z → c ≠ i1 → c ≠ i2 → s.heap.get? c = some o → h'.get? c = some o) → Q none { s with heap := h' }) : wpAny (model prog w) A (pyNext (.ref z)) Q E s := by
  have hTy : s.TypeIs (.ref z) "zip" := ⟨_, hz, rfl⟩
  unfold pyNext
  refine wpAny_bind (wpAny_attempt (wpAny_callSpecial?_slot (name := Str.ofString "__next__") hTy F.slot_zip_next
    (wpAny_call_entry F.slot_zip_next hTy F.entry_zip_next ?_ (F.args_zip_next_1 _))))
  show wpAny _ _ (field (.ref z) 2 >>= _) _ _ _
  refine wpAny_bind (wpAny_field hz rfl (x := .bool false) rfl ?_)
  show wpAny _ _ (field (.ref z) 3 >>= _) _ _ _
  refine wpAny_bind (wpAny_field hz rfl (x := .ref TI) rfl ?_)
  refine wpAny_bind (wpAny_seqItems hTI rfl ?_)
  show wpAny _ _ (Builtin.SmallTypes.ownedTupleIsFree (.ref z) >>= _) _ _ _
  refine wpAny_bind (wpAny_tupleHeld_zip hz hT fun ha za sa => ?_)
  simp only [Bool.false_eq_true, if_false]
  refine wpAny_bind ?_
  rw [← Array.forIn_toList]
  simp only [List.forIn_cons, List.forIn_nil]
  refine wpAny_bind (wpAny_bind (wpAny_holding ?_))
  show wpAny _ _ (Builtin.SmallTypes.nextOf (.ref i1) >>= _) _ _ _
  refine wpAny_bind (nx_end (s := { s with heap := ha }) hh (h1.off sa.extBut D.i1z) (hl1.off sa.extBut D.l1z) hx fun hb e sb he => ?_)
  obtain ⟨oe, hoe, hce⟩ := he
  refine wpAny_bind (wpAny_isInstance (T := "StopIteration") (b := true) ⟨_, hoe, hce⟩ isSubtype_stop ?_)
  exact wpAny_pure (hQ hb fun c o c1 c2 _ x => sb _ _ c2 (sa.extBut _ _ c1 x))
/-- a zip on its way: k pairs are out and kept -/
def St (b : Bool) (S z TI TO i1 i2 l1 l2 : Addr) (xs ys : Array Value) (k : Nat) (h : Heap) : Prop :=
  ((k = 0 ∧ IsZip h z TI TO .none ∧ ∃ p q, IsPair h TO p q) ∨ ∃ T f oT, IsZipHeld h z TI TO T f ∧ h.get? T = some oT ∧ T ≠ z ∧ T ≠ i1 ∧ T ≠ i2 ∧ T ≠ S) ∧
  IsPair h TI (.ref i1) (.ref i2) ∧ It b h i1 l1 k ∧ It b h i2 l2 k ∧ Sq b h l1 xs ∧ Sq b h l2 ys
/-- the addresses stand apart, the new list S among them -/
structure Ap (S z TI TO i1 i2 l1 l2 : Addr) : Prop where
  D : ZipApart z TI TO i1 i2 l1 l2
  Sz : S ≠ z
  STI : S ≠ TI
  STO : S ≠ TO
  Si1 : S ≠ i1
  Si2 : S ≠ i2
  Sl1 : S ≠ l1
  Sl2 : S ≠ l2
theorem st_item {S z TI TO i1 i2 l1 l2 : Addr} {k : Nat} {xs ys : Array Value} {x y : Value} {Q : Option Value → Shared → Prop} (P : Ap S z TI TO i1 i2 l1 l2) (hS : S < s.heap.objs.size) (st : St b S z TI TO i1 i2 l1 l2 xs ys k s.heap) (hx : xs[k]? = some x) (hy : ys[k]? = some y)
    (hQ : ∀ h', St b S z TI TO i1 i2 l1 l2 xs ys (k + 1) h' → IsPair h' s.heap.objs.size x y → h'.objs.size = s.heap.objs.size + 1 →
      (∀ c o, c ≠ z → c ≠ TO → c ≠ i1 → c ≠ i2 → s.heap.get? c = some o → h'.get? c = some o) → Q (some (.ref s.heap.objs.size)) { s with heap := h' }) :
    wpAny (model prog w) A (pyNext (.ref z)) Q E s := by
  obtain ⟨st, hTI, h1, h2, hl1, hl2⟩ := st
  have D := P.D
  have fin : ∀ h' T f oT, IsZipHeld h' z TI TO T f → h'.get? T = some oT → T ≠ z → T ≠ i1 → T ≠ i2 → T ≠ S → It b h' i1 l1 (k + 1) → It b h' i2 l2 (k + 1) → IsPair h' s.heap.objs.size x y → h'.objs.size = s.heap.objs.size + 1 →
      (∀ c o, c ≠ z → c ≠ TO → c ≠ i1 → c ≠ i2 → s.heap.get? c = some o → h'.get? c = some o) → Q (some (.ref s.heap.objs.size)) { s with heap := h' } := fun h' T f oT e1 e2 n1 n2 n3 n4 j1 j2 pr sz kk => by
    refine hQ h' ⟨.inr ⟨T, f, oT, e1, e2, n1, n2, n3, n4⟩, kk _ _ D.TIz D.TITO D.TIi1 D.TIi2 hTI, j1, j2, ?_, ?_⟩ pr sz kk
    · have e : ∀ c o, c ≠ z → (c ≠ TO ∧ c ≠ i1 ∧ c ≠ i2) → s.heap.get? c = some o → h'.get? c = some o := fun c o c1 c2 q => kk c o c1 c2.1 c2.2.1 c2.2.2 q
      cases b with
      | true =>
        obtain ⟨o, ho, r⟩ := (show s.heap.IsTuple l1 xs from hl1)
        exact ⟨o, e _ o D.l1z ⟨D.l1TO, D.l1i1, D.l1i2⟩ ho, r⟩
      | false =>
        obtain ⟨o, ho, r⟩ := (show s.heap.IsList l1 xs from hl1)
        exact ⟨o, e _ o D.l1z ⟨D.l1TO, D.l1i1, D.l1i2⟩ ho, r⟩
    · have e : ∀ c o, c ≠ z → (c ≠ TO ∧ c ≠ i1 ∧ c ≠ i2) → s.heap.get? c = some o → h'.get? c = some o := fun c o c1 c2 q => kk c o c1 c2.1 c2.2.1 c2.2.2 q
      cases b with
      | true =>
        obtain ⟨o, ho, r⟩ := (show s.heap.IsTuple l2 ys from hl2)
        exact ⟨o, e _ o D.l2z ⟨D.l2TO, D.l2i1, D.l2i2⟩ ho, r⟩
      | false =>
        obtain ⟨o, ho, r⟩ := (show s.heap.IsList l2 ys from hl2)
        exact ⟨o, e _ o D.l2z ⟨D.l2TO, D.l2i1, D.l2i2⟩ ho, r⟩
  rcases st with ⟨rfl, hz, p, q, hTO⟩ | ⟨T, f, oT, hz, hT, n1, n2, n3, n4⟩
  · have m1 : s.heap.objs.size ≠ z := Nat.ne_of_gt (Heap.lt_size hz)
    have m2 : s.heap.objs.size ≠ i1 := Nat.ne_of_gt h1.lt
    have m3 : s.heap.objs.size ≠ i2 := Nat.ne_of_gt h2.lt
    have m4 : s.heap.objs.size ≠ S := Nat.ne_of_gt hS
    cases b with
    | true => exact pyNext_zipT_item D hz hTI hTO h1 h2 hl1 hl2 hx hy fun h' a1 a2 a3 a4 a5 a6 a7 => fin h' _ false _ a1 a5 m1 m2 m3 m4 a3 a4 a5 a6 a7
    | false => exact wpAny_pyNext_zip_item D hz hTI hTO h1 h2 hl1 hl2 hx hy fun h' a1 a2 a3 a4 a5 a6 a7 => fin h' _ false _ a1 a5 m1 m2 m3 m4 a3 a4 a5 a6 a7
  · exact held_item D hz hT hTI h1 h2 hl1 hl2 hx hy fun h' a1 a2 a3 a4 a5 a6 => fin h' T true oT a1 (a6 T oT n1 n2 n3 hT) n1 n2 n3 n4 a2 a3 a4 a5 fun c o c1 _ c3 c4 e => a6 c o c1 c3 c4 e
theorem st_end {S z TI TO i1 i2 l1 l2 : Addr} {k : Nat} {xs ys : Array Value} {Q : Option Value → Shared → Prop} (hh : A.handled = none) (P : Ap S z TI TO i1 i2 l1 l2) (st : St b S z TI TO i1 i2 l1 l2 xs ys k s.heap) (hx : xs[k]? = none)
    (hQ : ∀ h', (∀ c o, c ≠ z → c ≠ TO → c ≠ i1 → c ≠ i2 → s.heap.get? c = some o → h'.get? c = some o) → Q none { s with heap := h' }) : wpAny (model prog w) A (pyNext (.ref z)) Q E s := by
  obtain ⟨st, hTI, h1, h2, hl1, hl2⟩ := st
  have D := P.D
  rcases st with ⟨rfl, hz, p, q, hTO⟩ | ⟨T, f, oT, hz, hT, _⟩
  · cases b with
    | true => exact pyNext_zipT_end hh D hz hTI hTO h1 h2 hl1 hl2 (.inl hx) hQ
    | false => exact wpAny_pyNext_zip_end hh D hz hTI hTO h1 h2 hl1 hl2 (.inl hx) hQ
  · exact held_end hh D hz hT hTI h1 hl1 hx fun h' kk => hQ h' fun c o c1 _ c3 c4 e => kk c o c1 c3 c4 e
theorem St.keep {S z TI TO i1 i2 l1 l2 : Addr} {k : Nat} {xs ys : Array Value} {h h' : Heap} (P : Ap S z TI TO i1 i2 l1 l2) (st : St b S z TI TO i1 i2 l1 l2 xs ys k h) (kk : ∀ c o, c ≠ S → h.get? c = some o → h'.get? c = some o) : St b S z TI TO i1 i2 l1 l2 xs ys k h' := by
  obtain ⟨st, hTI, h1, h2, hl1, hl2⟩ := st
  refine ⟨?_, kk _ _ P.STI.symm hTI, h1.off kk P.Si1.symm, h2.off kk P.Si2.symm, hl1.off kk P.Sl1.symm, hl2.off kk P.Sl2.symm⟩
  rcases st with ⟨e, hz, p, q, hTO⟩ | ⟨T, f, oT, hz, hT, n1, n2, n3, n4⟩
  · exact .inl ⟨e, kk _ _ P.Sz.symm hz, p, q, kk _ _ P.STO.symm hTO⟩
  · exact .inr ⟨T, f, oT, kk _ _ P.Sz.symm hz, kk _ _ n4 hT, n1, n2, n3, n4⟩
/-- the pairs that are out -/
structure Gs (xs ys : Array Value) (lo : Addr) (h : Heap) (as : List Addr) : Prop where
  rise : as.Pairwise (· < ·)
  above : ∀ a ∈ as, lo ≤ a
  pairs : ∀ (j : Nat) (a : Addr), as[j]? = some a → ∃ x y, xs[j]? = some x ∧ ys[j]? = some y ∧ IsPair h a x y
end
section
variable {prog : Program} {w : World} {A : Around} {s : Shared} {R : Result → Shared → Prop} {b : Bool} {xs ys : Array Value}
theorem loop {S z TI TO i1 i2 l1 l2 lo : Addr} (hh : A.handled = none) (P : Ap S z TI TO i1 i2 l1 l2) (hS : S < lo) (hz : z < lo) (hTO : TO < lo) (hi1 : i1 < lo) (hi2 : i2 < lo) (hn : xs.size ≤ sizeLine) (hxy : ys.size = xs.size) (res : Value) {h₁ : Heap}
    (hR : ∀ h' tk acc c as, (∀ b o, b ≠ S → b ≠ z → b ≠ TO → b ≠ i1 → b ≠ i2 → h₁.get? b = some o → h'.get? b = some o) → h'.get? S = some { cls := .type "list", dict := none, data := .seq acc c, slots := #[] } → as.length = xs.size → Gs xs ys lo h' as →
      acc.toList = as.map Value.ref → R (.ok (.ret res)) { s with heap := h', toks := tk }) :
    ∀ (k i : Nat) (h : Heap) (tk c : Nat) (acc : Array Value) (as : List Addr), xs.size - i = k → i ≤ xs.size → St b S z TI TO i1 i2 l1 l2 xs ys i h → (∀ b o, b ≠ S → b ≠ z → b ≠ TO → b ≠ i1 → b ≠ i2 → h₁.get? b = some o → h.get? b = some o) →
      h.get? S = some { cls := .type "list", dict := none, data := .seq acc c, slots := #[] } → acc.toList = as.map Value.ref → as.length = i → Gs xs ys lo h as → lo ≤ h.objs.size →
      codeAny (model prog w) A (.builtin "list.extend.loop" ⟨[.ref S, .ref z, res], []⟩) R { s with heap := h, toks := tk } := by
  have big : ∀ {a : Addr}, lo ≤ a → a ≠ S ∧ a ≠ z ∧ a ≠ TO ∧ a ≠ i1 ∧ a ≠ i2 := fun {a} ha => ⟨Nat.ne_of_gt (Nat.lt_of_lt_of_le hS ha), Nat.ne_of_gt (Nat.lt_of_lt_of_le hz ha), Nat.ne_of_gt (Nat.lt_of_lt_of_le hTO ha), Nat.ne_of_gt (Nat.lt_of_lt_of_le hi1 ha), Nat.ne_of_gt (Nat.lt_of_lt_of_le hi2 ha)⟩
  intro k
  induction k with
  | zero =>
    intro i h tk c acc as hk hi st kp hSl hacc hal hG hlo
    have hin : i = xs.size := by omega
    refine codeAny_builtin PySem.F.entry_extend_loop ?_
    rw [Around.under_plainId PySem.F.plain_extend_loop _]
    show wpAny _ A.in1 (pyNext (.ref z) >>= _) _ _ _
    refine wpAny_bind (st_end (s := { s with heap := h, toks := tk }) (A := A.in1) hh P st (Array.getElem?_eq_none (by omega)) fun h' he => ?_)
    refine wpAny_pure (hR h' tk acc c as (fun b o n1 n2 n3 n4 n5 e => he b o n2 n3 n4 n5 (kp b o n1 n2 n3 n4 n5 e)) (he S _ P.Sz P.STO P.Si1 P.Si2 hSl) (by omega) ⟨hG.rise, hG.above, fun j a hj => ?_⟩ hacc)
    obtain ⟨x, y, e1, e2, e3⟩ := hG.pairs j a hj
    obtain ⟨n1, n2, n3, n4, n5⟩ := big (hG.above a (List.mem_of_getElem? hj))
    exact ⟨x, y, e1, e2, he a _ n2 n3 n4 n5 e3⟩
  | succ k ih =>
    intro i h tk c acc as hk hi st kp hSl hacc hal hG hlo
    have hlt : i < xs.size := by omega
    have hx : xs[i]? = some xs[i] := Array.getElem?_eq_getElem hlt
    have hy : ys[i]? = some (ys[i]'(by omega)) := Array.getElem?_eq_getElem (by omega)
    have hsz : acc.size = i := by rw [← Array.length_toList, hacc, List.length_map, hal]
    refine codeAny_builtin PySem.F.entry_extend_loop ?_
    rw [Around.under_plainId PySem.F.plain_extend_loop _]
    show wpAny _ A.in1 (pyNext (.ref z) >>= _) _ _ _
    refine wpAny_bind (st_item (s := { s with heap := h, toks := tk }) P (Heap.lt_size hSl) st hx hy fun h' st' pr hz' hkp => ?_)
    dsimp only at pr hz' hkp ⊢
    have hS' := hkp S _ P.Sz P.STO P.Si1 P.Si2 hSl
    have up : ∀ b o, b ≠ S → h'.get? b = some o → (h'.update S (Obj.mapSeq (·.push (Value.ref h.objs.size)))).get? b = some o := fun b o hb e => (Heap.get?_update_other _ _ (Ne.symm hb)).trans e
    obtain ⟨m1, m2, m3, m4, m5⟩ := big hlo
    show wpAny _ A.in1 (updateSeq S (·.push (Value.ref h.objs.size)) >>= _) _ _ _
    refine wpAny_bind ?_
    refine wpAny_updateSeq hS' rfl (wpAny_pure ⟨plainId_quiet PySem.F.plain_extend_loop _, ih (i + 1) _ tk _ (acc.push (Value.ref h.objs.size)) (as ++ [h.objs.size]) (by omega) hlt (st'.keep P up)
      (fun b o n1 n2 n3 n4 n5 e => up b o n1 (hkp b o n2 n3 n4 n5 (kp b o n1 n2 n3 n4 n5 e))) (Heap.get?_update_self _ hS' rfl) (by rw [Array.toList_push, hacc, List.map_append]; rfl) (by rw [List.length_append, hal]; rfl) ⟨?_, ?_, ?_⟩ ?_⟩) (by rw [hsz]; omega) (by show (acc.push (Value.ref h.objs.size)).size ≤ sizeLine + 1; rw [Array.size_push, hsz]; omega)
    · refine List.pairwise_append.mpr ⟨hG.rise, List.pairwise_singleton _ _, fun a ha b' hb => ?_⟩
      rw [List.mem_singleton.mp hb]
      obtain ⟨j, hj⟩ := List.mem_iff_getElem?.mp ha
      obtain ⟨_, _, _, _, e⟩ := hG.pairs j a hj
      exact Heap.lt_size e
    · intro a ha
      rcases List.mem_append.mp ha with ha | ha
      · exact hG.above a ha
      · rw [List.mem_singleton.mp ha]
        exact hlo
    · intro j a hj
      rcases Nat.lt_trichotomy j as.length with q | q | q
      · rw [List.getElem?_append_left q] at hj
        obtain ⟨x, y, e1, e2, e3⟩ := hG.pairs j a hj
        obtain ⟨n1, n2, n3, n4, n5⟩ := big (hG.above a (List.mem_of_getElem? hj))
        exact ⟨x, y, e1, e2, up a _ n1 (hkp a _ n2 n3 n4 n5 e3)⟩
      · subst q
        have e : h.objs.size = a := by simpa using hj
        subst e
        exact ⟨_, _, by rw [hal]; exact hx, by rw [hal]; exact hy, up _ _ m1 pr⟩
      · have no : (as ++ [h.objs.size])[j]? = none := List.getElem?_eq_none (by rw [List.length_append, List.length_singleton]; omega)
        rw [no] at hj
        cases hj
    · have e : (h'.update S (Obj.mapSeq (·.push (Value.ref h.objs.size)))).get? h.objs.size = _ := up _ _ m1 pr
      exact Nat.le_trans hlo (Nat.le_of_lt (Heap.lt_size e))
theorem zip_nolen : typeLookup (.type "zip") "__len__" = pure none := am_miss_of_fast (by decide +kernel)
theorem zip_nohint : typeLookup (.type "zip") "__length_hint__" = pure none := am_miss_of_fast (by decide +kernel)
theorem hint {E : Value → Shared → Prop} {r : Addr} (hT : s.TypeIs (.ref r) "zip") {Q : Bool → Shared → Prop} (h : Q true s) : wpAny (model prog w) A (Builtin.List.listLengthHint (.ref r)) Q E s := by
  unfold Builtin.List.listLengthHint
  refine wpAny_bind (wpAny_specialOf hT zip_nolen ?_)
  refine wpAny_bind (wpAny_specialOf hT zip_nohint ?_)
  exact wpAny_pure h
theorem extend {S z TI TO i1 i2 l1 l2 : Addr} (hh : A.handled = none) (P : Ap S z TI TO i1 i2 l1 l2) (st : St b S z TI TO i1 i2 l1 l2 xs ys 0 s.heap) (h0 : IsZip s.heap z TI TO .none) (hTO : TO < s.heap.objs.size) (hn : xs.size ≤ sizeLine) (hxy : ys.size = xs.size) (res : Value) {c₀ : Nat} (hS : s.heap.get? S = some { cls := .type "list", data := .seq #[] c₀ })
    (hR : ∀ h' tk acc c as, (∀ b o, b ≠ S → b ≠ z → b ≠ TO → b ≠ i1 → b ≠ i2 → s.heap.get? b = some o → h'.get? b = some o) → h'.get? S = some { cls := .type "list", dict := none, data := .seq acc c, slots := #[] } → as.length = xs.size → Gs xs ys s.heap.objs.size h' as →
      acc.toList = as.map Value.ref → R (.ok (.ret res)) { s with heap := h', toks := tk }) :
    wpAny (model prog w) A.in1 (Builtin.List.listExtendWith (.ref S) (.ref z) res)
      (fun fin s' => match fin with | .done f => R (.ok f) s' | .again c' => c'.quiet = true ∧ codeAny (model prog w) A c' R s') (fun e s' => R (.error e) s') s := by
  have hSl : S < s.heap.objs.size := Heap.lt_size hS
  have hzl : z < s.heap.objs.size := Heap.lt_size h0
  have hTy : s.TypeIs (.ref z) "zip" := ⟨_, h0, rfl⟩
  have key : ∀ (h : Heap) (c₁ tk : Nat), (∀ b o, b ≠ S → s.heap.get? b = some o → h.get? b = some o) → s.heap.objs.size ≤ h.objs.size →
      h.get? S = some { cls := .type "list", data := .seq #[] c₁ } → codeAny (model prog w) A (.builtin "list.extend.loop" ⟨[.ref S, .ref z, res], []⟩) R { s with heap := h, toks := tk } := by
    intro h c₁ tk hk hsz hS₁
    exact loop (lo := s.heap.objs.size) (h₁ := s.heap) hh P hSl hzl hTO st.2.2.1.lt st.2.2.2.1.lt hn hxy res hR xs.size 0 h tk c₁ #[] [] (Nat.sub_zero _) (Nat.zero_le _) (st.keep P hk) (fun b o n1 _ _ _ _ e => hk b o n1 e) hS₁ rfl rfl
      ⟨List.Pairwise.nil, (fun _ ha => nomatch ha), (fun j a hj => by simp at hj)⟩ hsz
  unfold Builtin.List.listExtendWith
  refine wpAny_bind (wpAny_typeOf (T := "zip") hTy ?_)
  have e1 : Builtin.List.listSameRef (.ref S) (.ref z) = false := by simp [Builtin.List.listSameRef, P.Sz]
  have e2 : (Value.type "zip" == Value.type "list") = false := by decide
  have e3 : (Value.type "zip" == Value.type "tuple") = false := by decide
  simp only [e1, e2, e3, Bool.or_false, Bool.false_eq_true, if_false]
  refine wpAny_bind (wpAny_pyIter_zip h0 ?_)
  refine wpAny_bind (wpAny_holding (hint hTy ?_))
  refine wpAny_ite_split (fun _ => ?_) (fun _ => wpAny_pure ⟨plainId_quiet PySem.F.plain_extend_loop _, key _ c₀ _ (fun b o _ e => e) (Nat.le_refl _) hS⟩)
  refine wpAny_bind (wpAny_rule ?_)
  refine wpAny_bind ?_
  show wpAny _ _ (updateSeq S (·.push .none) >>= fun _ => updateSeq S (·.pop)) _ _ _
  refine wpAny_bind (wpAny_updateSeq hS rfl ?_)
  have hS₂ := Heap.get?_update_self (Obj.mapSeq (·.push Value.none)) hS rfl
  refine wpAny_updateSeq (hz := by seq_fits) hS₂ rfl ?_
  have hS₃ := Heap.get?_update_self (Obj.mapSeq (·.pop)) hS₂ rfl
  refine wpAny_pure ⟨plainId_quiet PySem.F.plain_extend_loop _, key _ _ _ (fun b o hb e => ?_) ?_ hS₃⟩
  · exact (Heap.get?_update_other _ _ (Ne.symm hb)).trans ((Heap.get?_update_other _ _ (Ne.symm hb)).trans e)
  · exact Nat.le_of_eq (((Heap.SameBut.update ..).1).trans ((Heap.SameBut.update ..).1)).symm
theorem init {S z TI TO i1 i2 l1 l2 : Addr} (hh : A.handled = none) (P : Ap S z TI TO i1 i2 l1 l2) (st : St b S z TI TO i1 i2 l1 l2 xs ys 0 s.heap) (h0 : IsZip s.heap z TI TO .none) (hTO : TO < s.heap.objs.size) (hn : xs.size ≤ sizeLine) (hxy : ys.size = xs.size) (hS : s.heap.get? S = some { cls := .type "list", data := .seq #[] })
    (hR : ∀ h' tk acc c as, (∀ b o, b ≠ S → b ≠ z → b ≠ TO → b ≠ i1 → b ≠ i2 → s.heap.get? b = some o → h'.get? b = some o) → h'.get? S = some { cls := .type "list", dict := none, data := .seq acc c, slots := #[] } → as.length = xs.size → Gs xs ys s.heap.objs.size h' as →
      acc.toList = as.map Value.ref → R (.ok (.ret .none)) { s with heap := h', toks := tk }) :
    wpAny (model prog w) A.in1 (Builtin.«list.__init__» ⟨[.ref S, .ref z], []⟩)
      (fun fin s' => match fin with | .done f => R (.ok f) s' | .again c' => c'.quiet = true ∧ codeAny (model prog w) A c' R s') (fun e s' => R (.error e) s') s := by
  show wpAny _ _ (do let old ← Builtin.List.listItems (.ref S); Builtin.List.listUpdate (.ref S) (fun _ => #[]); letGo old.toList.reverse; Builtin.List.listExtendWith (.ref S) (.ref z) .none) _ _ s
  refine wpAny_bind ?_
  unfold Builtin.List.listItems
  refine wpAny_bind (wpAny_seqItems hS rfl (wpAny_pure ?_))
  show wpAny _ _ (updateSeq S (fun _ => #[]) >>= fun _ => letGo (#[] : Array Value).toList.reverse >>= fun _ => Builtin.List.listExtendWith (.ref S) (.ref z) .none) _ _ s
  refine wpAny_bind (wpAny_updateSeq hS rfl ?_)
  have hS₂ := Heap.get?_update_self (Obj.mapSeq (fun _ => (#[] : Array Value))) hS rfl
  have oth : ∀ b o, b ≠ S → s.heap.get? b = some o → (s.heap.update S (Obj.mapSeq (fun _ => (#[] : Array Value)))).get? b = some o := fun b o hb e => (Heap.get?_update_other _ _ (Ne.symm hb)).trans e
  have sz : (s.heap.update S (Obj.mapSeq (fun _ => (#[] : Array Value)))).objs.size = s.heap.objs.size := (Heap.SameBut.update ..).1
  refine wpAny_bind (wpAny_letGo ?_)
  refine extend (s := { s with heap := s.heap.update S (Obj.mapSeq (fun _ => (#[] : Array Value))) }) hh P (st.keep P oth) (oth _ _ P.Sz.symm h0) (by show TO < (s.heap.update S _).objs.size; rw [sz]; exact hTO) hn hxy .none hS₂ fun h' tk acc c as hk hS' hl hG hacc => ?_
  have hG' : Gs xs ys (s.heap.update S (Obj.mapSeq (fun _ => (#[] : Array Value)))).objs.size h' as := hG
  rw [sz] at hG'
  exact hR h' tk acc c as (fun b o n1 n2 n3 n4 n5 e => hk b o n1 n2 n3 n4 n5 (oth b o n1 e)) hS' hl hG' hacc
theorem Gs.low {lo lo' : Addr} {h : Heap} {as : List Addr} (g : Gs xs ys lo h as) (hl : lo' ≤ lo) : Gs xs ys lo' h as := ⟨g.rise, fun a ha => Nat.le_trans hl (g.above a ha), g.pairs⟩
/-- list(z), z a fresh zip -/
theorem call {E : Value → Shared → Prop} {z TI TO i1 i2 l1 l2 : Addr} {Q : Value → Shared → Prop} (hh : A.handled = none) (D : ZipApart z TI TO i1 i2 l1 l2) (h0 : IsZip s.heap z TI TO .none) (hTI : IsPair s.heap TI (.ref i1) (.ref i2)) (hTO : ∃ p q, IsPair s.heap TO p q)
    (h1 : It b s.heap i1 l1 0) (h2 : It b s.heap i2 l2 0) (hl1 : Sq b s.heap l1 xs) (hl2 : Sq b s.heap l2 ys) (hn : xs.size ≤ sizeLine) (hxy : ys.size = xs.size)
    (hQ : ∀ h' tk acc c as, (∀ b o, b ≠ z → b ≠ TO → b ≠ i1 → b ≠ i2 → s.heap.get? b = some o → h'.get? b = some o) → h'.get? s.heap.objs.size = some { cls := .type "list", dict := none, data := .seq acc c, slots := #[] } → as.length = xs.size → Gs xs ys (s.heap.objs.size + 1) h' as →
      acc.toList = as.map Value.ref → Q (.ref s.heap.objs.size) { s with heap := h', toks := tk }) :
    wpAny (model prog w) A (PySem.call (.type "list") [.ref z]) Q E s := by
  refine callType_codes (Q₁ := fun obj s₁ => obj = .ref s.heap.objs.size ∧ s₁ = { s with heap := s.heap.push { cls := .type "list", data := .seq #[] } }) PySem.F.called_list (PySem.F.typeCall_list_1 _) PySem.F.entry_list_init
    (code_list_new _ ⟨rfl, rfl⟩) fun obj s₁ e₁ => ?_
  obtain ⟨rfl, rfl⟩ := e₁
  have hS : (s.heap.push { cls := .type "list", data := .seq #[] }).get? s.heap.objs.size = some { cls := .type "list", data := .seq #[] } := Heap.get?_push_size _ rfl
  have pu : ∀ b o, s.heap.get? b = some o → (s.heap.push { cls := .type "list", data := .seq #[] }).get? b = some o := fun b o e => Heap.get?_push_of_some _ e
  have sz : (s.heap.push { cls := .type "list", data := .seq #[] }).objs.size = s.heap.objs.size + 1 := Heap.size_push ..
  obtain ⟨p, q, hTO⟩ := hTO
  have P : Ap s.heap.objs.size z TI TO i1 i2 l1 l2 := ⟨D, Nat.ne_of_gt (Heap.lt_size h0), Nat.ne_of_gt (Heap.lt_size hTI), Nat.ne_of_gt (Heap.lt_size hTO), Nat.ne_of_gt h1.lt, Nat.ne_of_gt h2.lt, Nat.ne_of_gt hl1.lt, Nat.ne_of_gt hl2.lt⟩
  have st : St b s.heap.objs.size z TI TO i1 i2 l1 l2 xs ys 0 (s.heap.push { cls := .type "list", data := .seq #[] }) :=
    ⟨.inl ⟨rfl, pu _ _ h0, p, q, pu _ _ hTO⟩, pu _ _ hTI, h1.off (y := s.heap.objs.size) (fun c o _ e => pu c o e) P.Si1.symm, h2.off (y := s.heap.objs.size) (fun c o _ e => pu c o e) P.Si2.symm, hl1.off (y := s.heap.objs.size) (fun c o _ e => pu c o e) P.Sl1.symm, hl2.off (y := s.heap.objs.size) (fun c o _ e => pu c o e) P.Sl2.symm⟩
  refine ⟨⟨_, hS, rfl⟩, PySem.F.args_list_init_2 _ _, init (s := { s with heap := s.heap.push { cls := .type "list", data := .seq #[] } }) (A := A.in1) hh P st (pu _ _ h0) (Heap.lt_size (pu _ _ hTO)) hn hxy hS fun h' tk acc c as hk hS' hl hG hacc => ?_⟩
  have hG' : Gs xs ys (s.heap.push { cls := .type "list", data := .seq #[] }).objs.size h' as := hG
  rw [sz] at hG'
  exact ⟨rfl, hQ h' tk acc c as (fun b o n2 n3 n4 n5 e => hk b o (Nat.ne_of_lt (Heap.lt_size e)) n2 n3 n4 n5 (pu b o e)) hS' hl hG' hacc⟩
end
end Zl
namespace Zl
open PySem PySem.Spec PyProof.Rows L2 RZ
/-- the pairs tracked at their addresses -/
def putU : Hp → List Addr → List (V × V) → Hp
  | H, a :: as, p :: ps => putU (upd H a (.tup [p.1, p.2])) as ps
  | H, _, _ => H
theorem putU_off {b : Addr} : ∀ (as : List Addr) (ps : List (V × V)) (H : Hp), b ∉ as → putU H as ps b = H b
  | [], _, _, _ => rfl
  | _ :: _, [], _, _ => rfl
  | a :: as, p :: ps, H, h => by
    show putU (upd H a (.tup [p.1, p.2])) as ps b = H b
    rw [putU_off as ps _ (fun z => h (List.mem_cons_of_mem _ z)), upd_ne (fun z => h (by rw [z]; exact List.mem_cons_self))]
theorem putU_at : ∀ (as : List Addr) (ps : List (V × V)) (H : Hp), as.length = ps.length → as.Nodup → ∀ (j : Nat) (a : Addr) (p : V × V), as[j]? = some a → ps[j]? = some p → putU H as ps a = some (.tup [p.1, p.2])
  | [], _, _, _, _, j, a, p, ha, _ => by simp at ha
  | _ :: _, [], _, h, _, _, _, _, _, _ => by cases h
  | a :: as, p :: ps, H, h, hn, 0, a', p', ha, hp => by
    have e1 : a = a' := by simpa using ha
    have e2 : p = p' := by simpa using hp
    subst e1 e2
    show putU (upd H a (.tup [p.1, p.2])) as ps a = _
    rw [putU_off as ps _ (List.nodup_cons.mp hn).1, upd_same]
  | a :: as, p :: ps, H, h, hn, j + 1, a', p', ha, hp =>
    putU_at as ps (upd H a (.tup [p.1, p.2])) (Nat.succ.inj h) (List.nodup_cons.mp hn).2 j a' p' (by simpa using ha) (by simpa using hp)
section
variable {X : Cx} {e e2 : Expr} {ta : TA} {p p2 q pos : Pos}
/-- a new list of new pairs -/
theorem laid {pins : List (Addr × Obj)} {σ : L2.St} {H : Hp} {s : Shared} {h' : Heap} {tk : Nat} {xs ys : List V} {us ws : List Value} {acc : Array Value} {c : Nat} {as : List Addr} {L : Addr} (I : Inv X pins σ H s) (hz : xs.length ≤ sizeLine) (hxy : ys.length = xs.length) (rx : Vals xs us) (ry : Vals ys ws)
    (hk : ∀ b o, s.heap.get? b = some o → h'.get? b = some o) (hL : s.heap.objs.size ≤ L) (hS : h'.get? L = some { cls := .type "list", dict := none, data := .seq acc c, slots := #[] }) (hl : as.length = us.toArray.size) (hG : Gs us.toArray ws.toArray (L + 1) h' as) (hacc : acc.toList = as.map Value.ref) :
    ∃ H' : Hp, (∀ b o, H b = some o → H' b = some o) ∧ H L = none ∧ (∀ t ∈ as, H t = none) ∧ L ∉ as ∧ as.length = xs.length ∧ H' L = some (.lst (as.map V.ref)) ∧ (∀ (j : Nat) (t : Addr) (x y : V), as[j]? = some t → xs[j]? = some x → ys[j]? = some y → H' t = some (.tup [x, y])) ∧ Inv X pins σ H' { s with heap := h', toks := tk } := by
  have lx : xs.length = us.length := rx.length
  have ly : ys.length = ws.length := ry.length
  have hl' : as.length = xs.length := by rw [hl, lx]; simp
  have lz : as.length = (xs.zip ys).length := by rw [List.length_zip, hxy, Nat.min_self, hl']
  have above : ∀ a ∈ as, s.heap.objs.size ≤ a := fun a ha => Nat.le_trans hL (Nat.le_trans (Nat.le_succ _) (hG.above a ha))
  have hLn : L ∉ as := fun z => Nat.lt_irrefl _ (hG.above _ z)
  have nd : as.Nodup := List.Pairwise.imp (fun {a b} (h : a < b) => Nat.ne_of_lt h) hG.rise
  have new : ∀ t ∈ as, H t = none := fun t ht => I.hok.fresh (above t ht)
  have newL : H L = none := I.hok.fresh hL
  have off : ∀ b, b ∉ as → b ≠ L → putU (upd H L (.lst (as.map V.ref))) as (xs.zip ys) b = H b := fun b n1 n2 => by rw [putU_off as _ _ n1, upd_ne n2]
  have low : ∀ b o, s.heap.get? b = some o → b ∉ as ∧ b ≠ L := fun b o e => ⟨fun z => absurd (Heap.lt_size e) (Nat.not_lt.mpr (above b z)), Nat.ne_of_lt (Nat.lt_of_lt_of_le (Heap.lt_size e) hL)⟩
  have kp : ∀ b u, H b = some u → putU (upd H L (.lst (as.map V.ref))) as (xs.zip ys) b = some u := fun b u e => by
    rw [off b (fun z => by rw [new b z] at e; cases e) (fun z => by rw [z, newL] at e; cases e)]
    exact e
  have eL : putU (upd H L (.lst (as.map V.ref))) as (xs.zip ys) L = some (.lst (as.map V.ref)) := by rw [putU_off as _ _ hLn, upd_same]
  have atP : ∀ (j : Nat) (t : Addr) (x y : V), as[j]? = some t → xs[j]? = some x → ys[j]? = some y → putU (upd H L (.lst (as.map V.ref))) as (xs.zip ys) t = some (.tup [x, y]) := fun j t x y h1 h2 h3 =>
    putU_at as (xs.zip ys) _ lz nd j t (x, y) h1 (by rw [List.getElem?_zip_eq_some]; exact ⟨h2, h3⟩)
  refine ⟨putU (upd H L (.lst (as.map V.ref))) as (xs.zip ys), kp, newL, new, hLn, hl', eL, atP, ?_⟩
  refine I.call' (ch := []) rfl ⟨fun b o z _ _ _ => hk b o z, fun b o z _ _ _ => ⟨o.slots, hk b o z⟩, fun b o z n _ => ?_, fun b o z _ => ⟨o, hk b o z⟩, fun b xs z => kp b _ z, fun b o u z => kp b _ z, fun b ps z => ⟨#[], by rw [kp b _ z]; simp⟩⟩ (fun b u z => ?_) I.bare fun b z => by simp at z
  · obtain ⟨z1, z2⟩ := low b o z
    rw [off b z1 z2]
    exact n
  · by_cases hb : b ∈ as
    · obtain ⟨j, hj⟩ := List.mem_iff_getElem?.mp hb
      have hjl : j < as.length := (List.getElem?_eq_some_iff.mp hj).1
      have gx : xs[j]? = some (xs[j]'(by omega)) := List.getElem?_eq_getElem (by omega)
      have gy : ys[j]? = some (ys[j]'(by omega)) := List.getElem?_eq_getElem (by omega)
      rw [atP j b _ _ hj gx gy] at z
      cases z
      obtain ⟨v1, v2, f1, f2, f3⟩ := hG.pairs j b hj
      obtain ⟨u1, w1, r1⟩ := rx.get gx
      obtain ⟨u2, w2, r2⟩ := ry.get gy
      have e1 : v1 = u1 := by
        have z1 : us[j]? = some v1 := by simpa using f1
        rw [w1] at z1
        exact (Option.some.inj z1).symm
      have e2 : v2 = u2 := by
        have z1 : ws[j]? = some v2 := by simpa using f2
        rw [w2] at z1
        exact (Option.some.inj z1).symm
      rw [e1, e2] at f3
      exact ⟨by show 2 ≤ sizeLine; decide, [u1, u2], .cons r1 (.cons r2 .nil), ⟨_, f3, rfl, _, rfl⟩⟩
    · by_cases hb2 : b = L
      · rw [hb2] at z ⊢
        rw [eL] at z
        cases z
        refine ⟨by rw [List.length_map]; omega, acc.toList, c, by rw [hacc]; exact vals_of as, ?_⟩
        rw [Array.toArray_toList]
        exact hS
      · rw [off b hb hb2] at z
        exact (I.hok b u z).stay (fun d v _ y => hk d v y) (fun d y => kp d _ y) fun d xs y => kp d _ y
where
  vals_of : ∀ as : List Addr, Vals (as.map V.ref) (as.map Value.ref)
    | [] => .nil
    | _ :: as => .cons rfl (vals_of as)
def tLzip (K : PySem.W.Frag) (ta : TA) : TE := fun σ H Q => ta σ H fun vs H1 => ∃ (a b : Addr) (xs ys : List V), vs = [.ref a, .ref b] ∧ ((SqL K H1 a xs ∧ SqL K H1 b ys) ∨ (SqT K H1 a xs ∧ SqT K H1 b ys)) ∧ ys.length = xs.length ∧
  ∀ (H' : Hp) (l : Addr) (ts : List Addr), (∀ c o, H1 c = some o → H' c = some o) → H1 l = none → (∀ t ∈ ts, H1 t = none) → l ∉ ts → ts.length = xs.length → H' l = some (.lst (ts.map V.ref)) →
    (∀ (j : Nat) (t : Addr) (x y : V), ts[j]? = some t → xs[j]? = some x → ys[j]? = some y → H' t = some (.tup [x, y])) → Q (.ref l) H'
theorem pe_listZip (hc : X.calm = true) (hg : Gl X "list") (hm : X.mg "list" = none) (hg2 : Gl X "zip") (hm2 : X.mg "zip" = none) (ha : PA X [e, e2] ta)
    (hs : starEach [.Call (.Name "zip" p2) [e, e2] [] q] X.env = (false, eval (.Call (.Name "zip" p2) [e, e2] [] q) X.env) :: starEach [] X.env := by rfl)
    (hs2 : starEach [e, e2] X.env = (false, eval e X.env) :: starEach [e2] X.env := by rfl) (hpl : (backTo q (starEach [e2] X.env)).any (·.1) = false := by rfl) :
    PE X (.Call (.Name "list" p) [.Call (.Name "zip" p2) [e, e2] [] q] [] pos) (tLzip X.K ta) := by
  refine ⟨fun pins s σ H Q I h => ?_⟩
  refine wpAny_Call_Name_kw (ld_blt I hg hm (by decide +kernel : bootBuiltins "list" = some (.type "list")) ?_)
  refine PyProof.Rows.callWith_type1 ?_ hs rfl
  rw [hs]
  show wpAny _ _ (spliced ((false, eval (.Call (.Name "zip" p2) [e, e2] [] q) X.env) :: backTo pos (starEach [] X.env))) _ _ s
  refine Calls.spliced_cons ?_
  refine Call_ (ld_blt I hg2 hm2 PyProof.Rows.boot_zip (PyProof.Rows.callWith_type1 (thn (ha.run q pins s σ H _ I h) fun us s1 ⟨vs, H1, I1, r1, q1⟩ => ?_) hs2 hpl))
  obtain ⟨a, b, xs, ys, rfl, hq, hxy, q1⟩ := q1
  obtain ⟨u1, u2, rfl, ra, rb⟩ := vals2 r1
  cases (show u1 = Value.ref a from ra)
  cases (show u2 = Value.ref b from rb)
  have hh : X.A.handled = none := I1.ok.hd hc
  rcases hq with ⟨hqx, hqy⟩ | ⟨hqx, hqy⟩
  · obtain ⟨its, rv, p1, z1⟩ := I1.list hqx
    obtain ⟨its2, rv2, p2', z2⟩ := I1.list hqy
    refine call_zip_2 p1.isList p2'.isList fun h' hz hTI hTO h1 h2 hsz hk => Calls.spliced_nil ?_
    refine Zl.call (b := false) (s := { s1 with heap := h' }) (l1 := a) (l2 := b) (xs := its.toArray) (ys := its2.toArray) hh (PySem.W.ktu_apart s1.heap.objs.size a b p1.lt p2'.lt) hz hTI ⟨_, _, hTO⟩ h1 h2 ?_ ?_ ?_ ?_ fun h2' tk acc c as hk2 hS hl hG hacc => ?_
    · obtain ⟨o, ho, r⟩ := p1.isList
      exact ⟨o, hk _ _ ho, r⟩
    · obtain ⟨o, ho, r⟩ := p2'.isList
      exact ⟨o, hk _ _ ho, r⟩
    · rw [List.size_toArray, ← rv.length]; exact z1
    · rw [List.size_toArray, List.size_toArray, ← rv.length, ← rv2.length]; exact hxy
    · have hL : s1.heap.objs.size ≤ h'.objs.size := by rw [hsz]; exact Nat.le_add_right _ _
      have kk : ∀ c o, s1.heap.get? c = some o → h2'.get? c = some o := fun c o z => by
        have lt := Heap.lt_size z
        exact hk2 c o (Nat.ne_of_lt (Nat.lt_add_right 4 lt)) (Nat.ne_of_lt (Nat.lt_add_right 3 lt)) (Nat.ne_of_lt lt) (Nat.ne_of_lt (Nat.lt_add_right 1 lt)) (hk c o z)
      obtain ⟨H', k1, k2, k3, k4, k5, k6, k7, J⟩ := laid (tk := tk) I1 z1 hxy rv rv2 kk hL hS hl hG hacc
      exact ⟨.ref _, H', J, rfl, q1 H' _ as k1 k2 k3 k4 k5 k6 k7⟩
  · obtain ⟨its, rv, p1, z1⟩ := I1.tuple hqx
    obtain ⟨its2, rv2, p2', z2⟩ := I1.tuple hqy
    obtain ⟨o1, ho1, _⟩ := id p1
    obtain ⟨o2, ho2, _⟩ := id p2'
    refine call_zipT (show s1.heap.IsTuple a its.toArray from p1) (show s1.heap.IsTuple b its2.toArray from p2') fun h' hz hTI hTO h1 h2 hsz hk => Calls.spliced_nil ?_
    refine Zl.call (b := true) (s := { s1 with heap := h' }) (l1 := a) (l2 := b) (xs := its.toArray) (ys := its2.toArray) hh (PySem.W.ktu_apart s1.heap.objs.size a b (Heap.lt_size ho1) (Heap.lt_size ho2)) hz hTI ⟨_, _, hTO⟩ h1 h2 ?_ ?_ ?_ ?_ fun h2' tk acc c as hk2 hS hl hG hacc => ?_
    · obtain ⟨o, ho, r⟩ := (show s1.heap.IsTuple a its.toArray from p1)
      exact ⟨o, hk _ _ ho, r⟩
    · obtain ⟨o, ho, r⟩ := (show s1.heap.IsTuple b its2.toArray from p2')
      exact ⟨o, hk _ _ ho, r⟩
    · rw [List.size_toArray, ← rv.length]; exact z1
    · rw [List.size_toArray, List.size_toArray, ← rv.length, ← rv2.length]; exact hxy
    · have hL : s1.heap.objs.size ≤ h'.objs.size := by rw [hsz]; exact Nat.le_add_right _ _
      have kk : ∀ c o, s1.heap.get? c = some o → h2'.get? c = some o := fun c o z => by
        have lt := Heap.lt_size z
        exact hk2 c o (Nat.ne_of_lt (Nat.lt_add_right 4 lt)) (Nat.ne_of_lt (Nat.lt_add_right 3 lt)) (Nat.ne_of_lt lt) (Nat.ne_of_lt (Nat.lt_add_right 1 lt)) (hk c o z)
      obtain ⟨H', k1, k2, k3, k4, k5, k6, k7, J⟩ := laid (tk := tk) I1 z1 hxy rv rv2 kk hL hS hl hG hacc
      exact ⟨.ref _, H', J, rfl, q1 H' _ as k1 k2 k3 k4 k5 k6 k7⟩
end
end Zl
namespace Rd
open PySem L2
section
variable {σ : L2.St} {H H1 : Hp} {Q : VK} {QB : Bool → Hp → Prop} {QA : List V → Hp → Prop} {v x y : V} {i j : Int} {n : Nat} {te ta tb : TE} {tA : TA} {g : TG} {gs : TGs} {QS : L2.St → Hp → Prop} {K : PySem.W.Frag} {p : Addr} {xs ys : List V} {a m k : String} {b : Bool}
theorem ifT {c : Bool} {A B : Prop} (hc : c = true) (h : A) : if c = true then A else B := by rw [if_pos hc]; exact h
theorem ifF {c : Bool} {A B : Prop} (hc : c = false) (h : B) : if c = true then A else B := by rw [hc, if_neg Bool.false_ne_true]; exact h
theorem ifNe {x : V} {A B : Prop} (h : B) : if (!decide (x = x)) = true then A else B := ifF (by simp) h
theorem ifEq {x : V} {A B : Prop} (h : A) : if (decide (x = x)) = true then A else B := ifT (by simp) h
theorem lzip (h : tA σ H fun vs H1 => ∃ (a b : Addr) (xs ys : List V), vs = [.ref a, .ref b] ∧ ((SqL K H1 a xs ∧ SqL K H1 b ys) ∨ (SqT K H1 a xs ∧ SqT K H1 b ys)) ∧ ys.length = xs.length ∧
  ∀ (H' : Hp) (l : Addr) (ts : List Addr), (∀ c o, H1 c = some o → H' c = some o) → H1 l = none → (∀ t ∈ ts, H1 t = none) → l ∉ ts → ts.length = xs.length → H' l = some (.lst (ts.map V.ref)) →
    (∀ (j : Nat) (t : Addr) (x y : V), ts[j]? = some t → xs[j]? = some x → ys[j]? = some y → H' t = some (.tup [x, y])) → Q (.ref l) H') : Zl.tLzip K tA σ H Q := h
theorem isi (ty : TyX K H x (.type a)) (h : kitB a k = some b) (q : Q (.bl b) H) : rIsi K [x, .ty k] H Q := ⟨x, .ty k, .type a, .type k, b, rfl, ClsV.ty k, ty, kit_ty h, q⟩
theorem isiT2 {b1 b2 : Bool} (hT : H p = some (.tup [.ty m, .ty k])) (ty : TyX K H x (.type a)) (h1 : kitB a m = some b1) (h2 : kitB a k = some b2) (q : Q (.bl (b1 || b2)) H) : rIsiT K [x, .ref p] H Q := by
  refine ⟨x, p, _, .type a, [.type m, .type k], b1 || b2, rfl, hT, .cons (ClsV.ty m) (.cons (ClsV.ty k) .nil), ty, ?_, q⟩
  refine kitAny_cons (kit_ty h1) (fun e => ?_) (fun e => by rw [e]; rfl)
  rw [e]
  exact kitAny_cons (kit_ty h2) (fun e2 => by rw [e2]; exact kitAny_nil) fun e2 => by rw [e2]; rfl
theorem tyInt : TyX K H (.int i) (.type "int") := .base (.int i)
theorem tyStr {z : Str} : TyX K H (.str z) (.type "str") := .base (.str z)
theorem tyBl : TyX K H (.bl b) (.type "bool") := .base (.bl b)
theorem tyNon : TyX K H .non (.type "NoneType") := .base .non
theorem tyLst (h : H p = some (.lst xs)) : TyX K H (.ref p) (.type "list") := .base (.lst h)
theorem tyTup (h : H p = some (.tup xs)) : TyX K H (.ref p) (.type "tuple") := .base (.tup h)
theorem kit1 : kitB "int" "tuple" = some false := by decide +kernel
theorem kit2 : kitB "int" "list" = some false := by decide +kernel
theorem kit3 : kitB "int" "bool" = some false := by decide +kernel
theorem kit4 : kitB "int" "int" = some true := by decide +kernel
theorem kit5 : kitB "int" "str" = some false := by decide +kernel
theorem kit6 : kitB "str" "tuple" = some false := by decide +kernel
theorem kit7 : kitB "str" "list" = some false := by decide +kernel
theorem kit8 : kitB "str" "bool" = some false := by decide +kernel
theorem kit9 : kitB "str" "int" = some false := by decide +kernel
theorem kit10 : kitB "str" "str" = some true := by decide +kernel
theorem kit11 : kitB "bool" "tuple" = some false := by decide +kernel
theorem kit12 : kitB "bool" "list" = some false := by decide +kernel
theorem kit13 : kitB "bool" "bool" = some true := by decide +kernel
theorem kit14 : kitB "bool" "int" = some true := by decide +kernel
theorem kit15 : kitB "bool" "str" = some false := by decide +kernel
theorem kit16 : kitB "NoneType" "tuple" = some false := by decide +kernel
theorem kit17 : kitB "NoneType" "list" = some false := by decide +kernel
theorem kit18 : kitB "NoneType" "bool" = some false := by decide +kernel
theorem kit19 : kitB "NoneType" "int" = some false := by decide +kernel
theorem kit20 : kitB "NoneType" "str" = some false := by decide +kernel
theorem kit21 : kitB "list" "tuple" = some false := by decide +kernel
theorem kit22 : kitB "list" "list" = some true := by decide +kernel
theorem kit23 : kitB "list" "bool" = some false := by decide +kernel
theorem kit24 : kitB "list" "int" = some false := by decide +kernel
theorem kit25 : kitB "list" "str" = some false := by decide +kernel
theorem kit26 : kitB "tuple" "tuple" = some true := by decide +kernel
theorem kit27 : kitB "tuple" "list" = some false := by decide +kernel
theorem kit28 : kitB "tuple" "bool" = some false := by decide +kernel
theorem kit29 : kitB "tuple" "int" = some false := by decide +kernel
theorem kit30 : kitB "tuple" "str" = some false := by decide +kernel
theorem bm0 {r : V → List V → Hp → VK → Prop} {T : String} (h : te σ H fun x H1 => tyV K T x H1 ∧ r x [] H1 Q) : tBM0 K T r te σ H Q := h
theorem bm {r : V → List V → Hp → VK → Prop} {T : String} (h : te σ H fun x H1 => tyV K T x H1 ∧ tA σ H1 fun xs H2 => r x xs H2 Q) : tBM K T r te tA σ H Q := h
theorem tyL {B : Prop} (h : SqL K H p xs) (q : B) : tyV K "list" (.ref p) H ∧ B := ⟨.inl ⟨rfl, _, h⟩, q⟩
theorem pop_ (h : H p = some (.lst (xs ++ [v]))) (q : Q v (upd H p (.lst xs))) : rPop (.ref p) [] H Q := by
  refine ⟨p, _, v, rfl, rfl, h, ?_, ?_⟩
  · rw [List.length_append, List.length_singleton, Nat.add_sub_cancel, List.getElem?_append_right (Nat.le_refl _), Nat.sub_self]
    rfl
  · rw [List.dropLast_concat]
    exact q
theorem ext_ {p' : Addr} (h : H p = some (.lst xs)) (h' : H p' = some (.lst ys)) (hl : xs.length + ys.length ≤ sizeLine) (q : Q .non (upd H p (.lst (xs ++ ys)))) : rExtend (.ref p) [.ref p'] H Q := ⟨p, p', xs, ys, rfl, rfl, h, h', hl, q⟩
theorem app_ (h : H p = some (.lst xs)) (hl : xs.length < sizeLine) (q : Q .non (upd H p (.lst (xs ++ [v])))) : rAppend (.ref p) [v] H Q := ⟨p, xs, v, rfl, rfl, h, hl, q⟩
theorem gtup (h : SqT K H p xs) (hl : xs.length = n) (q : gs xs σ H QS) : gTup K n gs (.ref p) σ H QS := ⟨p, xs, rfl, h, hl, q⟩
theorem gunl (h : SqL K H p xs) (hl : xs.length = n) (q : gs xs σ H QS) : gUnl K n gs (.ref p) σ H QS := ⟨p, xs, rfl, h, hl, q⟩
theorem gcons (q : g v σ H fun σ' H' => gs ys σ' H' QS) : gCons g gs (v :: ys) σ H QS := ⟨v, ys, rfl, q⟩
theorem gnil (q : QS σ H) : gNil [] σ H QS := ⟨rfl, q⟩
theorem neNil {p' : Addr} (h : H p = some (.lst xs)) (h' : H p' = some (.lst [])) (q : Q (.bl (!xs.isEmpty)) H) : rNeNil (.ref p) (.ref p') H Q := ⟨p, p', xs, rfl, rfl, h, h', q⟩
end
end Rd
/-! Xn: own exception classes whose __init__ says super().__init__(..) and keeps its arguments: the heap's side. -/
namespace Xn
open PySem PySem.W PySem.Calls PyProof.Rows
theorem store_KeyError : StoreFacts "KeyError" [.type "KeyError", .type "LookupError", .type "Exception", .type "BaseException", .type "object"] "object.__setattr__" "object" where
  mro := by kernel_rfl
  slot := .of (n := "__setattr__") (owner := "object") (by rw [typeLookup_type, builtinLookup_eq_fast]; kernel_rfl) (by decide +kernel) (by decide +kernel) (by decide +kernel)
    (by first | exact .inr (by decide +kernel) | exact .inl (by decide +kernel)) (by rw [isSubtype_type]; kernel_rfl)
  entry := F.entry_object_sa
  kind := by decide +kernel
  split := by decide +kernel
  hasOwner := by decide +kernel
  args := fun x y z => by unfold argsOk; kernel_rfl
  passes := fun x => by kernel_rfl
theorem sup_KeyError : KxsFacts "KeyError" "KeyError.__init__" := ⟨by show builtinType _ = _; rw [builtinType_eq_fast]; kernel_rfl, by first | rfl | kernel_rfl⟩
/-- what the written part says of an own exception class: its tail bmB, the base B whose init is i, made by newId -/
structure ExT (K : Frag) (C : Addr) (B i newId : String) (bmB : List Value) : Prop where
  cls : ∃ nm q N bs bm sn sub ab col dd k0 k1 k2 k3 k5, K.lookup C = some (excClassObj nm q C N bs bm true sn sub ab col dd k0 k1 k2 k3 k5 newId) ∧ excTail bmB bm = true
  sup : ks_superIn K C C "__init__" = some (some (.builtin i))
  subB : subIn K (.ref C) (.type B) = some true
  subC : mroIn K C (.ref C) = some true
  sa : findIn K (.ref C) "__setattr__" = some (some (.builtin "object.__setattr__"))
  st : nsIn K cStatics "thirdparty.any" = some none
section
variable {prog : Program} {w : World} {A : Around} {E : Value → Shared → Prop} {K : Frag} {C x : Addr} {B i newId : String} {bmB : List Value} {h : Heap} {g : Array GenState} {d : Drawn} {t : Nat} {os : OsState}
theorem ExT.over (T : ExT K C B i newId bmB) : excOver K C bmB = true := by
  obtain ⟨nm, q, N, bs, bm, sn, sub, ab, col, dd, k0, k1, k2, k3, k5, hC, ht⟩ := T.cls
  unfold excOver clsIn
  rw [hC]
  show (C == C && excTail bmB bm) = true
  rw [ht]
  simp
theorem ExT.data (T : ExT K C B i newId bmB) : ∃ cd, clsIn K C = some cd ∧ cd.hasDict = true := by
  obtain ⟨nm, q, N, bs, bm, sn, sub, ab, col, dd, k0, k1, k2, k3, k5, hC, ht⟩ := T.cls
  unfold clsIn
  rw [hC]
  exact ⟨_, rfl, rfl⟩
theorem taker_none {name : Str} (ha : findIn K (.ref C) name = some none) : takerIn K C name = some none := by
  unfold takerIn
  rw [ha]
  rfl
/-- self.name = v, the first one -/
theorem set_new (SF : StoreFacts B bmB "object.__setattr__" "object") (T : ExT K C B i newId bmB) {fv : Array Value} {name : Str} {v : Value} {Q : Unit → Shared → Prop} (X : K.In h) (hx : h.get? x = some { cls := .ref C, data := .fields fv }) (ha : findIn K (.ref C) name = some none)
    (hq : ∀ h' tk' dx, (∀ b o, b ≠ x → h.get? b = some o → h'.get? b = some o) → h.objs.size ≤ dx → dx ≠ x → h'.get? x = some { cls := .ref C, dict := some dx, data := .fields fv } →
      h'.Ns1 dx (fun y => if y = name then some v else none) → Q () ⟨h', g, d, tk', os⟩) :
    wpAny (model prog w) A (setAttr (.ref x) name v) Q E ⟨h, g, d, t, os⟩ := by
  have J : InstAt h x { cls := .ref C, data := .fields fv } C none := ⟨hx, rfl, rfl, trivial⟩
  have hxs : x ≠ h.objs.size := Nat.ne_of_lt (Heap.lt_size hx)
  obtain ⟨cd, hcd, hh⟩ := T.data
  refine set_plain (s := ⟨h, g, d, t, os⟩) X J T.sa (osa_openX SF X J T.over (taker_none ha) fun b => ?_)
  have hcls : Looks (model prog w) h (classData C) cd := looks_clsIn X hcd
  obtain ⟨nm, bs, mro, ns, qn, hd, sn, sb, ab, col, del⟩ := cd
  dsimp only at hh
  subst hh
  show wpAny _ _ (Builtin.ObjectAttr.storeInOwnDict (.ref x) (.ref C) (.str name _) name v b) _ _ _
  unfold Builtin.ObjectAttr.storeInOwnDict Builtin.ObjectAttr.ownDictForStores
  repeat (first | with_reducible refine HandSPX.store_in_new ?_ ?_ | with_reducible refine hcls.at ?_ | with_reducible refine wpAny_loadPart_at hx ?_ | wp_step)
  · exact ⟨_, #[], _, (Heap.get?_update_ne _ _ _ _ hxs.symm).trans (Heap.get?_push_at rfl rfl), rfl, fun e he => absurd he (by simp), fun _ => rfl⟩
  · intro h' tk' hn' hs
    have hx₁ : (h.push { cls := .type "dict", data := .dict #[] }).get? x = some { cls := .ref C, data := .fields fv } := Heap.get?_push_of_some _ hx
    refine hq h' tk' h.objs.size (fun b o hb ho => ?_) (Nat.le_refl _) hxs.symm ?_ hn'
    · exact (hs.2 b (Nat.ne_of_lt (Heap.lt_size ho))).trans ((Heap.get?_update_ne _ _ _ _ hb).trans (Heap.get?_push_of_some _ ho))
    · exact (hs.2 x hxs).trans (Heap.get?_update_self _ hx₁ rfl)
/-- self.name = v, a further one -/
theorem set_old (SF : StoreFacts B bmB "object.__setattr__" "object") (T : ExT K C B i newId bmB) {fv : Array Value} {dx : Addr} {m0 : Str → Option Value} {nl : List Str} {name : Str} {v : Value} {Q : Unit → Shared → Prop} (X : K.In h) (hx : h.get? x = some { cls := .ref C, dict := some dx, data := .fields fv })
    (hns : h.Ns1 dx m0) (hw : Within m0 nl) (hz : nl.length ≤ 1000) (ha : findIn K (.ref C) name = some none)
    (hq : ∀ h' tk', (∀ b o, b ≠ dx → h.get? b = some o → h'.get? b = some o) → h'.Ns1 dx (fun y => if y = name then some v else m0 y) → Q () ⟨h', g, d, tk', os⟩) :
    wpAny (model prog w) A (setAttr (.ref x) name v) Q E ⟨h, g, d, t, os⟩ := by
  obtain ⟨oD, esD, epD, hoD, hdD, _⟩ := hns.count hw
  have J : InstAt h x { cls := .ref C, dict := some dx, data := .fields fv } C (some oD) := ⟨hx, rfl, rfl, hoD⟩
  obtain ⟨cd, hcd, hh⟩ := T.data
  refine set_plain (s := ⟨h, g, d, t, os⟩) X J T.sa (osa_openX SF X J T.over (taker_none ha) fun b => ?_)
  have hcls : Looks (model prog w) h (classData C) cd := looks_clsIn X hcd
  obtain ⟨nm, bs, mro, ns, qn, hd, sn, sb, ab, col, del⟩ := cd
  dsimp only at hh
  subst hh
  show wpAny _ _ (Builtin.ObjectAttr.storeInOwnDict (.ref x) (.ref C) (.str name _) name v b) _ _ _
  unfold Builtin.ObjectAttr.storeInOwnDict Builtin.ObjectAttr.ownDictForStores
  repeat (first | with_reducible refine OEX.store_in_old hns hw hz ?_ | with_reducible refine hcls.at ?_ | with_reducible refine wpAny_loadPart_at hx ?_ | wp_step)
  intro h' tk' hn' hs
  exact hq h' tk' (fun b o hb ho => (hs.2 b hb).trans ho) hn'
end
/-! ### super().__init__(..) -/
/-- what the built-in __init__ of the base is -/
structure IniF (B i : String) : Prop where
  noStar : (B != "*") = true
  kind : builtinKind i = some .slot
  row : Manifest.signature? i = some ⟨.positional, "*", B, .self, [⟨"args", .varPos, false⟩]⟩
  entry : entryFor table i = some Builtin.«BaseException.__init__»
  plain : plainId i = true
theorem ini_ValueError : IniF "ValueError" "ValueError.__init__" := ⟨F.excCall_ValueError.noStar, F.excCall_ValueError.initKind, F.excCall_ValueError.initRow, F.excCall_ValueError.initEntry, F.excCall_ValueError.init.plain⟩
theorem ini_KeyError : IniF "KeyError" "KeyError.__init__" := ⟨excClass_KeyError.notStar, excClass_KeyError.initKind, excClass_KeyError.initSig, excClass_KeyError.initEntry, excClass_KeyError.init.plain⟩
section
variable {prog : Program} {w : World} {M : Model} {A : Around} {E : Value → Shared → Prop} {K : Frag} {C : Addr} {B i newId : String} {bmB : List Value} {h : Heap} {g : Array GenState} {d : Drawn} {t : Nat} {os : OsState}
variable {nm q : Str} {N : Addr} {bs bm : List Value} {hdct : Bool} {sn : List Str} {sub : List Value} {ab : Bool} {col : Option Bool} {dd : Option Addr} {k0 k1 k2 k3 k5 : Option Value}
theorem check_ini (FI : IniF B i) {e : Addr} {oe : Obj} {us : List Value} {Q : Unit → Shared → Prop}
    (hC : h.get? C = some (excClassObj nm q C N bs bm hdct sn sub ab col dd k0 k1 k2 k3 k5 newId)) (hoe : h.get? e = some oe) (hcls : oe.cls = .ref C) (hq : Q () ⟨h, g, d, t, os⟩) :
    wpAny M A (checkBoundCall i ⟨.ref e :: us, []⟩) Q E ⟨h, g, d, t, os⟩ := by
  have hst := FI.noStar
  simp only [checkBoundCall, FI.kind, FI.row]
  repeat (first | with_reducible refine wpAny_loadPart_at hC ?_ | (with_reducible refine wpAny_loadPart_at hoe ?_; rw [hcls]) | wp_step)
  refine wpAny_onRaise ?_
  have cs : ∀ (a b : String) (n : Nat), Bind.check ⟨.positional, "*", B, .self, [⟨"args", .varPos, false⟩]⟩ a b n (List.map (fun y => y.fst) ({ pos := Value.ref e :: us } : Args).kw) = pure () := fun a b n => check_star_args _ _ _ _ _ _
  rw [cs]
  exact wpAny_pure hq
/-- the bound __init__ called: the args are laid anew -/
theorem call_mw (FI : IniF B i) {e t0 u : Addr} {us : List Value} {Q : Value → Shared → Prop}
    (hC : h.get? C = some (excClassObj nm q C N bs bm hdct sn sub ab col dd k0 k1 k2 k3 k5 newId)) (hoe : h.get? e = some (HandSPX.excO C t0)) (hu : h.get? u = some (kxs_mw i e)) (hus : us.length ≤ sizeLine)
    (hq : ∀ h' t1, (∀ b o, b ≠ e → h.get? b = some o → h'.get? b = some o) → h'.get? e = some (HandSPX.excO C t1) → Q .none ⟨h', g, d, t, os⟩) :
    wpAny (model prog w) A (call (.ref u) us) Q E ⟨h, g, d, t, os⟩ := by
  refine wpAny_call (codeAny_of_tree ?_)
  show wpAny _ A.in1 (callAny (.ref u) ⟨us, []⟩) _ _ _
  simp only [callAny]
  refine wpAny_bind (wpAny_load hu ?_)
  simp only [kxs_mw, show (Value.type "method-wrapper" == Value.type "method" || Value.type "method-wrapper" == Value.type "builtin_function_or_method" || Value.type "method-wrapper" == Value.type "method-wrapper") = true by decide, if_true]
  refine KFB.if_so (by decide) ?_
  refine wpAny_bind (check_ini FI hC hoe rfl ?_)
  refine wpAny_bind (wpAny_pure (wpAny_pure ?_))
  refine ⟨plainId_quiet FI.plain _, codeAny_builtin FI.entry ?_⟩
  exact exc_init_tree (cls := .ref C) (t0 := t0) (dv := none) (c2 := .none) (c3 := .none) (b4 := .bool false) hoe hus fun h' k e1 _ => hq h' _ k e1
end
/-- the def at fI, __init__ of the class at C, closes over its class's cell cc -/
structure InT (prog : Program) (K : Frag) (fI cc cda C : Addr) (qual : Str) (fd : FuncData) : Prop where
  fn : ∃ oc od osl, K.lookup fI = some ⟨oc, od, .func fd, osl⟩
  sh : fd.globals = mainGlobals ∧ fd.builtins = builtinsNs ∧ fd.closure = [((("__class__" : Str)), cc)] ∧ fd.code = .ref cda ∧ fd.qualname = qual
  cd : codeIn K (.ref cda) qual = true
  code : ∃ ccl cdd vs ccs file tf, K.lookup cda = some ⟨ccl, cdd, .fields vs, ccs⟩ ∧ vs[2]? = some (.str file tf) ∧ ((prog.main.file : Str) == file) = true
  cell : ∃ cl cld csl, K.lookup cc = some ⟨cl, cld, .cell (some (.ref C)), csl⟩
  top : (prog.main.scope.names.lookup ("super" : Str)).isSome = false
/-- the names of such a def -/
structure ScI (sc : Scope) (ns : List Str) : Prop where
  kind : sc.kind = .function
  co : sc.isCoroutine = false
  gen : sc.isGenerator = false
  sup : sc.names.lookup ("super" : Str) = some .globalImplicit
  cls : sc.names.lookup ("__class__" : Str) = some .free
  loc : ∀ n ∈ (("self" : Str) :: ns), sc.names.lookup n = some .local
  noc : ∀ y ∈ sc.names, y.2 ≠ .cell
/-- the module's names at a heap -/
structure Gb (mg : Str → Option Value) (h : Heap) : Prop where
  glob : h.Ns mainGlobals mg
  blt : ∃ mb, h.Ns builtinsNs mb ∧ mb "super" = some (.type "super")
  sup : mg "super" = none
theorem Gb.keeps {mg : Str → Option Value} {h h' : Heap} (G : Gb mg h) (k : ∀ b o, h.get? b = some o → h'.get? b = some o) : Gb mg h' := by
  obtain ⟨a, ⟨mb, b, c⟩, e⟩ := G
  exact ⟨a.keeps k, ⟨mb, b.keeps k, c⟩, e⟩
section
variable {prog : Program} {w : World} {A : Around} {E : Value → Shared → Prop} {K : Frag} {C x fI cc cda : Addr} {B i newId : String} {bmB : List Value} {h : Heap} {g : Array GenState} {d : Drawn} {t : Nat} {os : OsState} {qual : Str} {fd : FuncData} {mg : Str → Option Value} {L t0 : Addr} {ns : List Str}
theorem sup_stmt (FI : IniF B i) (KF : KxsFacts B i) (T : ExT K C B i newId bmB) (I : InT prog K fI cc cda C qual fd) (S : ScI fd.scope ns) (hpar : ∃ ar, (fd.params.posonlyargs ++ fd.params.args).head? = some ar ∧ ar.arg = "self")
    (X : K.In h) (G : Gb mg h) {m : Str → Option Value} (hn : h.Ns L m) (hself : m "self" = some (.ref x)) (hx : h.get? x = some (HandSPX.excO C t0)) {body : List Stmt} {e1 : Expr} {es : List Expr} {us : List Value} {p0 p1 p2 p3 p4 : Pos} {Q : Flow → Shared → Prop} (hus : us.length ≤ sizeLine)
    (hargs : ∀ (h' : Heap) (t' : Nat) (Q' : List Value → Shared → Prop), (∀ b o, h.get? b = some o → h'.get? b = some o) → Q' us ⟨h', g, d, t', os⟩ → wpAny (model prog w) A (spliced (backTo p3 (starEach (e1 :: es) (callEnv fd L fI)))) Q' E ⟨h', g, d, t', os⟩)
    (hq : ∀ h' t' t1, (∀ b o, b ≠ x → h.get? b = some o → h'.get? b = some o) → h'.get? x = some (HandSPX.excO C t1) → Q .next ⟨h', g, d, t', os⟩)
    (he : starEach (e1 :: es) (callEnv fd L fI) = (false, eval e1 (callEnv fd L fI)) :: starEach es (callEnv fd L fI)) (hpl : (backTo p3 (starEach es (callEnv fd L fI))).any (·.1) = false) {pl : Sem Bool}
    (hev : eval (.Call (.Attribute (.Call (.Name "super" p0) [] [] p1) "__init__" p2) (e1 :: es) [] p3) (callEnv fd L fI) = (do
      let ov ← attributeBase (.Call (.Name "super" p0) [] [] p1) "__init__" (callEnv fd L fI) (eval (.Call (.Name "super" p0) [] [] p1) (callEnv fd L fI))
      standAt p2.atName
      let (f, first) ← holding [ov] (getMethod ov "__init__" pl)
      callWith p3 f first (backTo p3 (starEach (e1 :: es) (callEnv fd L fI))) []))
    (hi : interactive (callEnv fd L fI) = false) (hs : swapsWith (.Call (.Attribute (.Call (.Name "super" p0) [] [] p1) "__init__" p2) (e1 :: es) [] p3) none p4.line (callEnv fd L fI) = pure false) :
    PySem.wpAt (model prog w) A (.func body (callEnv fd L fI)) (exec (.Expr (.Call (.Attribute (.Call (.Name "super" p0) [] [] p1) "__init__" p2) (e1 :: es) [] p3) p4) (callEnv fd L fI)) Q E ⟨h, g, d, t, os⟩ := by
  obtain ⟨g1, g2, g3, g4, g5⟩ := I.sh
  obtain ⟨oc, od, osl, hfn⟩ := I.fn
  obtain ⟨ccl, cdd, vs, ccs, file, tf, hcode, hvs, hfile⟩ := I.code
  obtain ⟨cl, cld, csl, hcell⟩ := I.cell
  obtain ⟨ar, hp, har⟩ := hpar
  obtain ⟨nm, q, N, bs, bm, sn, sub, ab, col, dd, k0, k1, k2, k3, k5, hC, ht⟩ := T.cls
  obtain ⟨mb, hb, hsup⟩ := G.blt
  refine ks_wpAt_Expr_any (ks_wpAt_MethodCall ?_ hev) hi hs
  refine ks_wpAt_super_base (env := callEnv fd L fI) S.sup S.cls (by decide) rfl (X _ _ hfn) rfl hp g4 (X _ _ hcode) rfl hvs hfile I.top ?_
  refine ks_loadName_global S.kind S.sup (loadGlobal_builtin (env := callEnv fd L fI) (s := ⟨h, g, d, t, os⟩) (by show h.Ns fd.globals mg; rw [g1]; exact G.glob) G.sup (by show h.Ns fd.builtins mb; rw [g2]; exact hb) hsup ⟨rfl, ?_⟩)
  refine wpAny_loadName_free (c := cc) S.kind S.cls (by show fd.closure.lookup _ = _; rw [g3]; rfl) ⟨_, X _ _ hcell, rfl⟩ ?_
  rw [har]
  refine wpAny_loadName_local S.kind (S.loc _ (List.mem_cons_self ..)) hn hself ?_
  refine ks_wpAny_isType_cls (X _ _ hC) rfl ⟨rfl, ?_⟩
  refine ks_wpAny_call_super (X _ _ hC) rfl hx rfl (fun c e => nomatch e) (looks_mroIn X T.subC) (fun h1 e1 kk1 => ?_)
  have X1 : K.In h1 := X.keeps kk1
  have hx1 := kk1 _ _ hx
  have J1 : InstAt h1 x (HandSPX.excO C t0) C none := ⟨hx1, rfl, rfl, trivial⟩
  have hcl : clsIn K C = some { name := nm, bases := bs, mro := .ref C :: bm, ns := N, qualname := q, hasDict := true, slotNames := sn, subclasses := sub, abstract := ab, collection := col, hasDel := false } := by unfold clsIn; rw [hC]
  have hf := T.sup
  unfold ks_superIn at hf
  rw [hcl] at hf
  refine kxs_getMethod KF e1 (looks_opaque X1 T.st) (l₀ := .ref C :: bm) ((looks_clsIn X1 hcl).andThen .now) rfl X1 hf (J1.type.andThen (looks_subIn X1 T.subB)) (ks_ne X1 J1 hcl) (by decide) ?_
  have k2' : ∀ b o, h1.get? b = some o → (h1.push (kxs_mw i x)).get? b = some o := fun b o e => Heap.get?_push_of_some _ e
  have hu : (h1.push (kxs_mw i x)).get? h1.objs.size = some (kxs_mw i x) := Heap.get?_push_size _ rfl
  refine kxs_callWith (i := i) (x := x) (by rw [he]; show (false || (backTo p3 (starEach es (callEnv fd L fI))).any (·.1)) = false; rw [hpl]; rfl) ?_
  rw [he]
  refine evalArgs_plain ?_
  have hA := hargs (h1.push (kxs_mw i x)) (t + 1)
  rw [he] at hA
  refine hA _ (fun b o e => k2' b o (kk1 b o e)) ⟨hu, ?_⟩
  show wpAny _ _ (call (.ref h1.objs.size) us) _ _ _
  refine call_mw FI (k2' _ _ (X1 _ _ hC)) (k2' _ _ hx1) hu hus fun h' t1 kk hx' => ?_
  exact hq h' _ t1 (fun b o hb e => kk b o hb (k2' b o (kk1 b o e))) hx'
theorem ldv {M : Model} {s : Shared} {m : Str → Option Value} {n : Str} {p : Pos} {v : Value} {Q : Value → Shared → Prop} (S : ScI fd.scope ns) (hm : n ∈ (("self" : Str) :: ns)) (hn : s.heap.Ns L m) (hv : m n = some v) (hd : (n == ("__debug__" : Str)) = false) (hq : Q v s) :
    wpAny M A (eval (.Name n p) (callEnv fd L fI)) Q E s := wpAny_Name (wpAny_loadName_local S.kind (S.loc n hm) hn hv hq) hd
theorem kin_but {h h' : Heap} (X : K.In h) (hx : K.lookup x = none) (k : ∀ b o, b ≠ x → h.get? b = some o → h'.get? b = some o) : K.In h' := fun a o e =>
  k a o (fun z => by rw [z, hx] at e; cases e) (X a o e)
theorem fresh_K {h : Heap} {a : Addr} (X : K.In h) (ha : h.objs.size ≤ a) : K.lookup a = none := by
  cases e : K.lookup a with
  | none => rfl
  | some o => exact absurd (Heap.lt_size (X _ _ e)) (Nat.not_lt.mpr ha)
/-- super().__init__(..) is one node: a method called -/
def EvOk (fd : FuncData) (fI : Addr) (es : List Expr) (p0 p1 p2 p3 : Pos) : Prop := ∀ L : Addr, ∃ pl : Sem Bool, eval (.Call (.Attribute (.Call (.Name "super" p0) [] [] p1) "__init__" p2) es [] p3) (callEnv fd L fI) = (do
      let ov ← attributeBase (.Call (.Name "super" p0) [] [] p1) "__init__" (callEnv fd L fI) (eval (.Call (.Name "super" p0) [] [] p1) (callEnv fd L fI))
      standAt p2.atName
      let (f, first) ← holding [ov] (getMethod ov "__init__" pl)
      callWith p3 f first (backTo p3 (starEach es (callEnv fd L fI))) [])
theorem inter (S : ScI fd.scope ns) : interactive (callEnv fd L fI) = false := by
  show (fd.scope.kind == _ && _) = false
  rw [S.kind]
  rfl
/-- what __init__ leaves of a fresh exception at x -/
structure Ended (C : Addr) (h h' : Heap) (x dx : Addr) (m : Str → Option Value) (nl : List Str) : Prop where
  keep : ∀ b o, b ≠ x → h.get? b = some o → h'.get? b = some o
  obj : ∃ t1, h'.get? x = some { cls := .ref C, dict := some dx, data := .fields #[.ref t1, .none, .none, .none, .bool false, .none] }
  dbig : h.objs.size ≤ dx
  dne : dx ≠ x
  ns : h'.Ns1 dx m
  win : Within m nl
abbrev supX (es : List Expr) (p0 p1 p2 p3 p4 : Pos) : Stmt := .Expr (.Call (.Attribute (.Call (.Name "super" p0) [] [] p1) "__init__" p2) es [] p3) p4
abbrev keepX (n : Str) (p0 p1 p2 p3 : Pos) : Stmt := .Assign [.Attribute (.Name "self" p0) n p1] (.Name n p2) p3
/-- the keeping of one more argument -/
theorem keep1 (SF : StoreFacts B bmB "object.__setattr__" "object") (T : ExT K C B i newId bmB) (S : ScI fd.scope ns) {n : Str} {v : Value} (hm : n ∈ ns) (ha : findIn K (.ref C) n = some none) (hd : (n == ("__debug__" : Str)) = false) (X : K.In h) {m : Str → Option Value} (hn : h.Ns L m) (hself : m "self" = some (.ref x)) (hv : m n = some v)
    {p0 p1 p2 p3 : Pos} {fv : Array Value} (hx : h.get? x = some { cls := .ref C, data := .fields fv }) {Q : Flow → Shared → Prop}
    (hq : ∀ h' tk' dx, (∀ b o, b ≠ x → h.get? b = some o → h'.get? b = some o) → h.objs.size ≤ dx → dx ≠ x → h'.get? x = some { cls := .ref C, dict := some dx, data := .fields fv } →
      h'.Ns1 dx (fun y => if y = n then some v else none) → Q .next ⟨h', g, d, tk', os⟩) (hs : swapsWith (.Name n p2) (some (.Attribute (.Name "self" p0) n p1)) p3.line (callEnv fd L fI) = pure false) :
    wpAny (model prog w) A (exec (keepX n p0 p1 p2 p3) (callEnv fd L fI)) Q E ⟨h, g, d, t, os⟩ := by
  refine plainObj_wpAny_Assign_Attribute ?_ hs
  refine ldv (s := ⟨h, g, d, t, os⟩) S (List.mem_cons_of_mem _ hm) hn hv hd (ldv (s := ⟨h, g, d, t, os⟩) S (List.mem_cons_self ..) hn hself (by decide) ?_)
  exact set_new SF T X hx ha hq
theorem keep2 (SF : StoreFacts B bmB "object.__setattr__" "object") (T : ExT K C B i newId bmB) (S : ScI fd.scope ns) {n : Str} {v : Value} (hm : n ∈ ns) (ha : findIn K (.ref C) n = some none) (hd : (n == ("__debug__" : Str)) = false) (X : K.In h) {m : Str → Option Value} (hn : h.Ns L m) (hself : m "self" = some (.ref x)) (hv : m n = some v)
    {p0 p1 p2 p3 : Pos} {fv : Array Value} {dx : Addr} {m0 : Str → Option Value} {nl : List Str} (hx : h.get? x = some { cls := .ref C, dict := some dx, data := .fields fv }) (hns : h.Ns1 dx m0) (hw : Within m0 nl) (hz : nl.length ≤ 1000) {Q : Flow → Shared → Prop}
    (hq : ∀ h' tk', (∀ b o, b ≠ dx → h.get? b = some o → h'.get? b = some o) → h'.Ns1 dx (fun y => if y = n then some v else m0 y) → Q .next ⟨h', g, d, tk', os⟩) (hs : swapsWith (.Name n p2) (some (.Attribute (.Name "self" p0) n p1)) p3.line (callEnv fd L fI) = pure false) :
    wpAny (model prog w) A (exec (keepX n p0 p1 p2 p3) (callEnv fd L fI)) Q E ⟨h, g, d, t, os⟩ := by
  refine plainObj_wpAny_Assign_Attribute ?_ hs
  refine ldv (s := ⟨h, g, d, t, os⟩) S (List.mem_cons_of_mem _ hm) hn hv hd (ldv (s := ⟨h, g, d, t, os⟩) S (List.mem_cons_self ..) hn hself (by decide) ?_)
  exact set_old SF T X hx hns hw hz ha hq
/-- __init__(self, n): super().__init__(n); self.n = n -/
theorem init1 (FI : IniF B i) (KF : KxsFacts B i) (SF : StoreFacts B bmB "object.__setattr__" "object") (T : ExT K C B i newId bmB) (I : InT prog K fI cc cda C qual fd) {n : Str} (S : ScI fd.scope [n]) (hpar : ∃ ar, (fd.params.posonlyargs ++ fd.params.args).head? = some ar ∧ ar.arg = "self")
    {p0 p1 p2 p3 p4 q1 r0 r1 r2 r3 : Pos} (hbody : fd.body = .stmts [supX [.Name n q1] p0 p1 p2 p3 p4, keepX n r0 r1 r2 r3]) (hev : EvOk fd fI [.Name n q1] p0 p1 p2 p3) (hne : n ≠ "self") (hd : (n == ("__debug__" : Str)) = false) (ha : findIn K (.ref C) n = some none)
    {v : Value} {args : Args} {R : Result → Shared → Prop} (X : K.In h) (hlim : h.NoLimit) (G : Gb mg h) (hx : h.get? x = some (HandSPX.excO C t0)) (hnx : K.lookup x = none) (hroom : A.depth < recursionLimit)
    (hbind : BindsTo ⟨h, g, d, t, os⟩ fd args [("self", .ref x), (n, v)])
    (hq : ∀ h' tk dx, Ended C h h' x dx (fun y => if y = n then some v else none) [n] → R (.ok (.ret .none)) ⟨h', g, d, tk, os⟩) :
    codeAny (model prog w) A (.call (.ref fI) args) R ⟨h, g, d, t, os⟩ := by
  obtain ⟨oc, od, osl, hfn⟩ := I.fn
  obtain ⟨g1, g2, g3, g4, g5⟩ := I.sh
  refine ks_codeAny_call_defAt (s := ⟨h, g, d, t, os⟩) hroom (X _ _ hfn) rfl hlim (by rw [g4, g5]; exact codeRec_of X I.cd) hbody hbind S.noc (fun y hy => ?_) (fun h1 hns kk1 => ?_) S.co S.gen S.kind
  · rcases List.mem_cons.mp hy with rfl | hy
    · exact S.loc _ (List.mem_cons_self ..)
    · rw [List.mem_singleton.mp hy]
      exact S.loc _ (List.mem_cons_of_mem _ (List.mem_cons_self ..))
  have X1 : K.In h1 := X.keeps kk1
  have hself : (fun y => ([((("self" : Str)), Value.ref x), (n, v)].reverse).lookup y) "self" = some (.ref x) := by
    show List.lookup _ [(n, v), ((("self" : Str)), Value.ref x)] = _
    have e : ((("self" : Str)) == n) = false := by simpa using Ne.symm hne
    simp [List.lookup, e]
  have hv : (fun y => ([((("self" : Str)), Value.ref x), (n, v)].reverse).lookup y) n = some v := by
    show List.lookup _ [(n, v), ((("self" : Str)), Value.ref x)] = _
    simp [List.lookup]
  refine ks_wpAt_execs_cons ?_
  obtain ⟨pl, hev'⟩ := hev h.objs.size
  refine sup_stmt FI KF T I S hpar X1 (G.keeps kk1) hns hself (kk1 _ _ hx) (us := [v]) (Rd.sz (by exact Nat.le_of_ble_eq_true rfl)) (fun h' t' Q' kk q => ?_) (fun h2 t2 t1 kk2 hx2 => ?_) rfl rfl hev' (inter S) rfl
  · refine Calls.spliced_cons (ldv (s := ⟨h', g, d, t', os⟩) S (List.mem_cons_of_mem _ (List.mem_cons_self ..)) (hns.keeps kk) hv hd ?_)
    exact Calls.spliced_nil q
  · have hLx : h.objs.size ≠ x := Nat.ne_of_gt (Heap.lt_size hx)
    have hns2 : h2.Ns h.objs.size (fun y => ([((("self" : Str)), Value.ref x), (n, v)].reverse).lookup y) := hns.at' fun o e => kk2 _ o hLx e
    refine wpAt_of_wpAny (wpAny_execs_cons ?_)
    refine keep1 SF T S (List.mem_cons_self ..) ha hd (kin_but X1 hnx kk2) hns2 hself hv hx2 (fun h3 tk3 dx kk3 db dn hx3 hn3 => ?_) rfl
    refine wpAny_execs_nil (hq h3 tk3 dx ⟨fun b o hb e => kk3 b o hb (kk2 b o hb (kk1 b o e)), ⟨t1, hx3⟩, ?_, dn, hn3, Within.cons n v Within.nil⟩)
    have z1 : h.objs.size < h2.objs.size := hns2.lt
    exact Nat.le_of_lt (Nat.lt_of_lt_of_le z1 db)
/-- __init__(self, n, k): super().__init__(n, k); self.n = n; self.k = k -/
theorem init2 (FI : IniF B i) (KF : KxsFacts B i) (SF : StoreFacts B bmB "object.__setattr__" "object") (T : ExT K C B i newId bmB) (I : InT prog K fI cc cda C qual fd) {n k : Str} (S : ScI fd.scope [n, k]) (hpar : ∃ ar, (fd.params.posonlyargs ++ fd.params.args).head? = some ar ∧ ar.arg = "self")
    {p0 p1 p2 p3 p4 q1 q2 r0 r1 r2 r3 y0 y1 y2 y3 : Pos} (hbody : fd.body = .stmts [supX [.Name n q1, .Name k q2] p0 p1 p2 p3 p4, keepX n r0 r1 r2 r3, keepX k y0 y1 y2 y3]) (hev : EvOk fd fI [.Name n q1, .Name k q2] p0 p1 p2 p3) (hne : n ≠ "self") (hke : k ≠ "self") (hnk : n ≠ k) (hd : (n == ("__debug__" : Str)) = false) (hd2 : (k == ("__debug__" : Str)) = false)
    (ha : findIn K (.ref C) n = some none) (ha2 : findIn K (.ref C) k = some none)
    {v u : Value} {args : Args} {R : Result → Shared → Prop} (X : K.In h) (hlim : h.NoLimit) (G : Gb mg h) (hx : h.get? x = some (HandSPX.excO C t0)) (hnx : K.lookup x = none) (hroom : A.depth < recursionLimit)
    (hbind : BindsTo ⟨h, g, d, t, os⟩ fd args [("self", .ref x), (n, v), (k, u)])
    (hq : ∀ h' tk dx, Ended C h h' x dx (fun y => if y = k then some u else if y = n then some v else none) [k, n] → R (.ok (.ret .none)) ⟨h', g, d, tk, os⟩) :
    codeAny (model prog w) A (.call (.ref fI) args) R ⟨h, g, d, t, os⟩ := by
  obtain ⟨oc, od, osl, hfn⟩ := I.fn
  obtain ⟨g1, g2, g3, g4, g5⟩ := I.sh
  have ms : (("self" : Str)) ∈ [(("self" : Str)), n, k] := List.mem_cons_self ..
  have mn : n ∈ [n, k] := List.mem_cons_self ..
  have mk' : k ∈ [n, k] := List.mem_cons_of_mem _ (List.mem_cons_self ..)
  refine ks_codeAny_call_defAt (s := ⟨h, g, d, t, os⟩) hroom (X _ _ hfn) rfl hlim (by rw [g4, g5]; exact codeRec_of X I.cd) hbody hbind S.noc (fun y hy => ?_) (fun h1 hns kk1 => ?_) S.co S.gen S.kind
  · rcases List.mem_cons.mp hy with rfl | hy
    · exact S.loc _ ms
    · rcases List.mem_cons.mp hy with rfl | hy
      · exact S.loc _ (List.mem_cons_of_mem _ mn)
      · rw [List.mem_singleton.mp hy]
        exact S.loc _ (List.mem_cons_of_mem _ mk')
  have X1 : K.In h1 := X.keeps kk1
  have e1 : ((("self" : Str)) == n) = false := by simpa using Ne.symm hne
  have e2 : ((("self" : Str)) == k) = false := by simpa using Ne.symm hke
  have e3 : (n == k) = false := by simpa using hnk
  have hself : (fun y => ([((("self" : Str)), Value.ref x), (n, v), (k, u)].reverse).lookup y) "self" = some (.ref x) := by
    show List.lookup _ [(k, u), (n, v), ((("self" : Str)), Value.ref x)] = _
    simp [List.lookup, e1, e2]
  have hv : (fun y => ([((("self" : Str)), Value.ref x), (n, v), (k, u)].reverse).lookup y) n = some v := by
    show List.lookup _ [(k, u), (n, v), ((("self" : Str)), Value.ref x)] = _
    simp [List.lookup, e3]
  have hu : (fun y => ([((("self" : Str)), Value.ref x), (n, v), (k, u)].reverse).lookup y) k = some u := by
    show List.lookup _ [(k, u), (n, v), ((("self" : Str)), Value.ref x)] = _
    simp [List.lookup]
  refine ks_wpAt_execs_cons ?_
  obtain ⟨pl, hev'⟩ := hev h.objs.size
  refine sup_stmt FI KF T I S hpar X1 (G.keeps kk1) hns hself (kk1 _ _ hx) (us := [v, u]) (Rd.sz (by exact Nat.le_of_ble_eq_true rfl)) (fun h' t' Q' kk q => ?_) (fun h2 t2 t1 kk2 hx2 => ?_) rfl rfl hev' (inter S) rfl
  · refine Calls.spliced_cons (ldv (s := ⟨h', g, d, t', os⟩) S (List.mem_cons_of_mem _ mn) (hns.keeps kk) hv hd ?_)
    refine Calls.spliced_cons (ldv (s := ⟨h', g, d, t', os⟩) S (List.mem_cons_of_mem _ mk') (hns.keeps kk) hu hd2 ?_)
    exact Calls.spliced_nil q
  · have hLx : h.objs.size ≠ x := Nat.ne_of_gt (Heap.lt_size hx)
    have hns2 : h2.Ns h.objs.size (fun y => ([((("self" : Str)), Value.ref x), (n, v), (k, u)].reverse).lookup y) := hns.at' fun o e => kk2 _ o hLx e
    have X2 := kin_but X1 hnx kk2
    refine wpAt_of_wpAny (wpAny_execs_cons ?_)
    refine keep1 SF T S mn ha hd X2 hns2 hself hv hx2 (fun h3 tk3 dx kk3 db dn hx3 hn3 => ?_) rfl
    have z1 : h.objs.size < h2.objs.size := hns2.lt
    have hns3 : h3.Ns h.objs.size (fun y => ([((("self" : Str)), Value.ref x), (n, v), (k, u)].reverse).lookup y) := hns2.at' fun o e => kk3 _ o hLx e
    have hLd : h.objs.size ≠ dx := Nat.ne_of_lt (Nat.lt_of_lt_of_le z1 db)
    show wpAny _ _ (execs _ _) _ _ _
    refine wpAny_execs_cons ?_
    refine keep2 SF T S mk' ha2 hd2 (kin_but X2 hnx kk3) hns3 hself hu hx3 hn3 (Within.cons n v Within.nil) (by show 1 ≤ 1000; decide) (fun h4 tk4 kk4 hn4 => ?_) rfl
    have low : ∀ b o, h.get? b = some o → b ≠ dx := fun b o e => Nat.ne_of_lt (Nat.lt_trans (Heap.lt_size e) (Nat.lt_of_lt_of_le z1 db))
    refine wpAny_execs_nil (hq h4 tk4 dx ⟨fun b o hb e => kk4 b o (low b o e) (kk3 b o hb (kk2 b o hb (kk1 b o e))), ⟨t1, kk4 _ _ (Ne.symm dn) hx3⟩, Nat.le_of_lt (Nat.lt_of_lt_of_le z1 db), dn, hn4, Within.cons k u (Within.cons n v Within.nil)⟩)
end
end Xn
namespace Xn
open PySem PySem.W PySem.Calls PyProof.Rows
/-- what the built-in __new__ is, and what the tail must bear -/
structure NewF (B0 newId : String) (bmB : List Value) : Prop where
  F : ∃ initId bm0, ExcBaseFacts B0 newId initId bm0
  hasB : bmB.contains (.type B0) = true
  noA : bmB.contains (.type "AttributeError") = false
  noN : bmB.contains (.type "NameError") = false
abbrev bmV : List Value := [.type "ValueError", .type "Exception", .type "BaseException", .type "object"]
abbrev bmK : List Value := [.type "KeyError", .type "LookupError", .type "Exception", .type "BaseException", .type "object"]
theorem new_V : NewF "ValueError" "ValueError.__new__" bmV := ⟨⟨_, _, F.excBase_ValueError⟩, by decide +kernel, by decide +kernel, by decide +kernel⟩
theorem new_K : NewF "LookupError" "LookupError.__new__" bmK := ⟨⟨_, _, F.excBase_LookupError⟩, by decide +kernel, by decide +kernel, by decide +kernel⟩
section
variable {M : Model} {A : Around} {E : Value → Shared → Prop} {h : Heap} {g : Array GenState} {d : Drawn} {t : Nat} {os : OsState}
variable {nm q : Str} {C N : Addr} {bs bm bmB : List Value} {hdct : Bool} {sn : List Str} {sub : List Value} {ab : Bool} {col : Option Bool} {dd : Option Addr} {k0 k1 k2 k3 k5 : Option Value} {B0 newId : String}
theorem check_new (NF : NewF B0 newId bmB) (ht : excTail bmB bm = true) {us : List Value} {kws : List (Str × Value)} {Q : Unit → Shared → Prop}
    (hC : h.get? C = some (excClassObj nm q C N bs bm hdct sn sub ab col dd k0 k1 k2 k3 k5 newId)) (hq : Q () ⟨h, g, d, t, os⟩) : wpAny M A (checkBuiltinCall newId ⟨.ref C :: us, kws⟩) Q E ⟨h, g, d, t, os⟩ := by
  obtain ⟨initId, bm0, F⟩ := NF.F
  have hin : (Value.ref C :: bm).contains (.type B0) = true := by rw [List.contains_cons, excTail_contains B0 _ ht, NF.hasB, Bool.or_true]
  have hst := F.noStar
  simp only [checkBuiltinCall, F.newKind, F.newSplit, F.newRow]
  repeat (first | with_reducible refine wpAny_loadPart_at hC ?_ | (with_reducible refine wpAny_isSubtype_exc hC ?_; rw [hin]) | with_reducible refine wpAny_staticBase_exc hC ?_ | with_reducible refine wpAny_madeBy_exc hC ?_ | simp only [bne_self_eq_false, Bool.false_eq_true, if_false] | wp_step)
  exact hq
end
section
variable {prog : Program} {w : World} {A : Around} {E : Value → Shared → Prop} {R : Result → Shared → Prop} {h : Heap} {g : Array GenState} {d : Drawn} {t : Nat} {os : OsState}
variable {nm q : Str} {C N : Addr} {bs bm bmB : List Value} {hdct : Bool} {sn : List Str} {sub : List Value} {ab : Bool} {col : Option Bool} {dd : Option Addr} {k0 k1 k2 k3 k5 : Option Value} {B0 newId : String}
theorem run_new (NF : NewF B0 newId bmB) (ht : excTail bmB bm = true) {us : List Value} {kws : List (Str × Value)}
    (hC : h.get? C = some (excClassObj nm q C N bs bm hdct sn sub ab col dd k0 k1 k2 k3 k5 newId))
    (hq : R (.ok (.ret (.ref (h.objs.size + 1)))) ⟨(h.push (kdv_tup us)).push (HandSPX.excO C h.objs.size), g, d, t, os⟩) (hus : us.length ≤ sizeLine) :
    codeAny (model prog w) A (.builtin newId ⟨.ref C :: us, kws⟩) R ⟨h, g, d, t, os⟩ := by
  obtain ⟨initId, bm0, F⟩ := NF.F
  have hends := F.ends
  have hin : (Value.ref C :: bm).contains (.type B0) = true := by rw [List.contains_cons, excTail_contains B0 _ ht, NF.hasB, Bool.or_true]
  have hnA : (Value.ref C :: bm).contains (.type "AttributeError") = false := by rw [List.contains_cons, excTail_contains _ _ ht, NF.noA]; rfl
  have hnN : (Value.ref C :: bm).contains (.type "NameError") = false := by rw [List.contains_cons, excTail_contains _ _ ht, NF.noN]; rfl
  refine codeAny_builtinAt F.entry ?_
  unfold Builtin.«BaseException.__new__»
  refine PySem.wpAt_bind ?_
  show PySem.wpAt _ _ _ (stack >>= _) _ _ _
  refine PySem.wpAt_bind (PySem.wpAt_stack fun p below => PySem.wpAt_of_wpAny ?_)
  wp_walk
  refine PySem.wpAt_of_wpAny ?_
  rw [F.owner]
  repeat (first | with_reducible refine wpAny_madeHere_exc F.canon hC ?_ | (with_reducible refine wpAny_isSubtype_exc hC ?_; first | rw [hin] | rw [hnA] | rw [hnN]) | with_reducible refine wpAny_loadPart_at hC ?_ | wp_step)
  show R _ _
  rw [Heap.size_push]
  exact hq
theorem type_call (NF : NewF B0 newId bmB) (ht : excTail bmB bm = true) {us : List Value} {kws : List (Str × Value)} {fI : Value} {fs : Value → List Value} {Q : Fin → Shared → Prop}
    (hC : h.get? C = some (excClassObj nm q C N bs bm hdct sn sub ab col dd k0 k1 k2 k3 k5 newId))
    (hi : W.Looks (model prog w) h (typeLookup (.ref C) "__init__") (some fI)) (hb : ∀ self, W.Looks (model prog w) h (bindSpecial fI self) (fI, fs self)) (hus : us.length ≤ sizeLine)
    (hq : codeAny (model prog w) A (.call fI ⟨fs (.ref (h.objs.size + 1)) ++ us, kws⟩)
      (fun r s' => match r with | .ok (.ret v) => v = .none ∧ Q (.done (.ret (.ref (h.objs.size + 1)))) s' | .ok _ => False | .error e => E e s')
      ⟨(h.push (W.kdv_tup us)).push (HandSPX.excO C h.objs.size), g, d, t, os⟩) :
    wpAny (model prog w) A (Builtin.«type.__call__» ⟨.ref C :: us, kws⟩) Q E ⟨h, g, d, t, os⟩ := by
  obtain ⟨initId, bm0, F⟩ := NF.F
  repeat (first | with_reducible refine wpAny_madeBy_exc hC ?_ | with_reducible refine wpAny_loadPart_at hC ?_ | wp_step)
  refine codeAny_call_builtin_code (Code.quiet_builtin _ F.quiet) (check_new NF ht hC ?_)
  refine run_new NF ht hC ?_ hus
  show wpAny _ _ _ _ _ _
  have k : ∀ b o, h.get? b = some o → ((h.push (kdv_tup us)).push (HandSPX.excO C h.objs.size)).get? b = some o := fun b o e => Heap.get?_push_of_some _ (Heap.get?_push_of_some _ e)
  have hC1 := k _ _ hC
  have hget : ((h.push (kdv_tup us)).push (HandSPX.excO C h.objs.size)).get? (h.objs.size + 1) = some (HandSPX.excO C h.objs.size) := by heap_get
  have hcc : (Value.ref C :: bm).contains (.ref C) = true := by simp
  have i1 := hi.keeps k
  have b1 := (hb (.ref (h.objs.size + 1))).keeps k
  unfold isInstance
  repeat (first | (with_reducible refine wpAny_isSubtype_exc hC1 ?_; rw [hcc]) | with_reducible refine wpAny_loadPart_at hget ?_ | wp_step)
  show wpAny _ _ (typeLookup (.ref C) _) _ _ _
  refine i1.at ?_
  refine wpAny_holding (wpAny_bind (b1.at ?_))
  refine wpAny_bind (wpAny_call (codeAny_mono hq fun r s' z => ?_))
  rcases r with e | (v | _ | _ | _) <;> first | exact z.elim | exact z | skip
  obtain ⟨rfl, z⟩ := z
  first
    | (wp_walk; exact z)
    | exact wpAny_pure (wpAny_pure z)
theorem check_tc {us : List Value} {kws : List (Str × Value)} {M : Model} {Q : Unit → Shared → Prop} (hC : h.get? C = some (excClassObj nm q C N bs bm hdct sn sub ab col dd k0 k1 k2 k3 k5 newId))
    (hq : Q () ⟨h, g, d, t, os⟩) : wpAny M A (checkBuiltinCall "type.__call__" ⟨.ref C :: us, kws⟩) Q E ⟨h, g, d, t, os⟩ := by
  have f3 := tc_sub
  have hTy : (⟨h, g, d, t, os⟩ : Shared).TypeIs (.ref C) "type" := ⟨_, hC, rfl⟩
  simp only [checkBuiltinCall, tc_kind, tc_split]
  repeat (any_goals (first | assumption | with_reducible refine wpAny_onRaise ?_ | with_reducible refine wpAny_loadPart_at hC ?_ | with_reducible refine wpAny_map ?_ | wp_step))
/-- C(..), by position and by keyword -/
theorem call_cls (NF : NewF B0 newId bmB) (ht : excTail bmB bm = true) {us : List Value} {kws : List (Str × Value)} {fI : Value} {fs : Value → List Value}
    (hC : h.get? C = some (excClassObj nm q C N bs bm hdct sn sub ab col dd k0 k1 k2 k3 k5 newId))
    (hi : W.Looks (model prog w) h (typeLookup (.ref C) "__init__") (some fI)) (hb : ∀ self, W.Looks (model prog w) h (bindSpecial fI self) (fI, fs self)) (hus : us.length ≤ sizeLine)
    (hq : codeAny (model prog w) (A.under (.builtin "type.__call__" ⟨.ref C :: us, kws⟩)) (.call fI ⟨fs (.ref (h.objs.size + 1)) ++ us, kws⟩) (W.InitBack (h.objs.size + 1) R)
      ⟨(h.push (W.kdv_tup us)).push (HandSPX.excO C h.objs.size), g, d, t, os⟩) :
    codeAny (model prog w) A (.call (.ref C) ⟨us, kws⟩) R ⟨h, g, d, t, os⟩ := by
  have f1 := tc_lookup
  have f2 := tc_bind (.ref C)
  have hTy : (⟨h, g, d, t, os⟩ : Shared).TypeIs (.ref C) "type" := ⟨_, hC, rfl⟩
  refine codeAny_of_tree ?_
  show wpAny _ _ (callAny (.ref C) _) _ _ _
  repeat (any_goals (first | assumption | wp_step | with_reducible refine wpAny_loadPart_at hC ?_))
  refine ⟨rfl, ?_⟩
  refine codeAny_call_builtin_at (Code.quiet_builtin _ (by decide +kernel)) entry_typeCall (check_tc hC (type_call NF ht hC hi hb hus ?_))
  refine codeAny_mono hq fun r s' z => ?_
  rcases r with e | (v | _ | _ | _) <;> exact z
end
end Xn
namespace Xn
open PySem PySem.W PySem.Calls PyProof.Rows
def mOf : List (Str × Value) → Str → Option Value
  | [] => fun _ => none
  | (n, v) :: r => fun y => if y = n then some v else mOf r y
/-- an exception made: at e, its dict at dx -/
structure Made (C : Addr) (h h' : Heap) (e dx : Addr) (l : List (Str × Value)) : Prop where
  keep : ∀ b o, h.get? b = some o → h'.get? b = some o
  new : h.objs.size ≤ e
  obj : ∃ t1, h'.get? e = some { cls := .ref C, dict := some dx, data := .fields #[.ref t1, .none, .none, .none, .bool false, .none] }
  dbig : h.objs.size ≤ dx
  dne : dx ≠ e
  ns : h'.Ns1 dx (mOf l)
/-- C(*us, **kws) keeps l -/
def Mks (prog : Program) (w : World) (K : Frag) (mg : Str → Option Value) (C : Addr) (us : List Value) (kws : List (Str × Value)) (l : List (Str × Value)) : Prop :=
  ∀ (A : Around) (R : Result → Shared → Prop) (h : Heap) (g : Array GenState) (d : Drawn) (t : Nat) (os : OsState), K.In h → h.NoLimit → Gb mg h → A.depth + 1 < recursionLimit →
    (∀ h' tk e dx, Made C h h' e dx l → R (.ok (.ret (.ref e))) ⟨h', g, d, tk, os⟩) → codeAny (model prog w) A (.call (.ref C) ⟨us, kws⟩) R ⟨h, g, d, t, os⟩
section
variable {prog : Program} {w : World} {K : Frag} {mg : Str → Option Value} {C fI cc cda : Addr} {B i B0 newId : String} {bmB : List Value} {qual : Str} {fd : FuncData}
/-- all that is known of the class and its __init__ -/
structure ExC (prog : Program) (K : Frag) (C fI cc cda : Addr) (B i B0 newId : String) (bmB : List Value) (qual : Str) (fd : FuncData) : Prop where
  NF : NewF B0 newId bmB
  FI : IniF B i
  KF : KxsFacts B i
  SF : StoreFacts B bmB "object.__setattr__" "object"
  T : ExT K C B i newId bmB
  I : InT prog K fI cc cda C qual fd
  par : ∃ ar, (fd.params.posonlyargs ++ fd.params.args).head? = some ar ∧ ar.arg = "self"
  iC : findIn K (.ref C) "__init__" = some (some (.ref fI))
  tI : typeIn K (.ref fI) = some (.type "function")
theorem ended_made {h h' : Heap} {us : List Value} {dx : Addr} {m : Str → Option Value} {nl : List Str} {l : List (Str × Value)} (hm : m = mOf l) (e : Ended C ((h.push (kdv_tup us)).push (HandSPX.excO C h.objs.size)) h' (h.objs.size + 1) dx m nl) : Made C h h' (h.objs.size + 1) dx l where
  keep := fun b o q => e.keep b o (Nat.ne_of_lt (Nat.lt_succ_of_lt (Heap.lt_size q))) (Heap.get?_push_of_some _ (Heap.get?_push_of_some _ q))
  new := Nat.le_succ _
  obj := e.obj
  dbig := by
    have z := e.dbig
    rw [Heap.size_push, Heap.size_push] at z
    exact Nat.le_trans (Nat.le_trans (Nat.le_succ _) (Nat.le_succ _)) z
  dne := e.dne
  ns := hm ▸ e.ns
theorem mks1 (X : ExC prog K C fI cc cda B i B0 newId bmB qual fd) {n : Str} (S : ScI fd.scope [n]) {p0 p1 p2 p3 p4 q1 r0 r1 r2 r3 : Pos} (hbody : fd.body = .stmts [supX [.Name n q1] p0 p1 p2 p3 p4, keepX n r0 r1 r2 r3]) (hev : EvOk fd fI [.Name n q1] p0 p1 p2 p3)
    (hne : n ≠ "self") (hd : (n == ("__debug__" : Str)) = false) (ha : findIn K (.ref C) n = some none) {us : List Value} {kws : List (Str × Value)} {v : Value} (hus : us.length ≤ sizeLine)
    (hbind : ∀ (s : Shared) (x : Value), BindsTo s fd ⟨x :: us, kws⟩ [("self", x), (n, v)]) : Mks prog w K mg C us kws [(n, v)] := by
  intro A R h g d t os Xh hlim G hroom hq
  obtain ⟨nm, q, N, bs, bm, sn, sub, ab, col, dd, k0, k1, k2, k3, k5, hC, ht⟩ := X.T.cls
  refine call_cls X.NF ht (fs := fun s => [s]) (Xh _ _ hC) (looks_findIn Xh X.iC) (fun self => bind_fn Xh self X.tI) hus ?_
  have k : ∀ b o, h.get? b = some o → ((h.push (kdv_tup us)).push (HandSPX.excO C h.objs.size)).get? b = some o := fun b o e => Heap.get?_push_of_some _ (Heap.get?_push_of_some _ e)
  have hget : ((h.push (kdv_tup us)).push (HandSPX.excO C h.objs.size)).get? (h.objs.size + 1) = some (HandSPX.excO C h.objs.size) := by heap_get
  refine init1 X.FI X.KF X.SF X.T X.I S X.par hbody hev hne hd ha (x := h.objs.size + 1) (Xh.keeps k) (hlim.keeps k) (G.keeps k) hget (fresh_K Xh (Nat.le_succ _)) (by rw [L2.make_depth]; exact hroom) (hbind _ _) fun h' tk dx e => ?_
  exact ⟨rfl, hq h' tk _ dx (ended_made rfl e)⟩
theorem mks2 (X : ExC prog K C fI cc cda B i B0 newId bmB qual fd) {n k : Str} (S : ScI fd.scope [n, k]) {p0 p1 p2 p3 p4 q1 q2 r0 r1 r2 r3 y0 y1 y2 y3 : Pos} (hbody : fd.body = .stmts [supX [.Name n q1, .Name k q2] p0 p1 p2 p3 p4, keepX n r0 r1 r2 r3, keepX k y0 y1 y2 y3]) (hev : EvOk fd fI [.Name n q1, .Name k q2] p0 p1 p2 p3)
    (hne : n ≠ "self") (hke : k ≠ "self") (hnk : n ≠ k) (hd : (n == ("__debug__" : Str)) = false) (hd2 : (k == ("__debug__" : Str)) = false) (ha : findIn K (.ref C) n = some none) (ha2 : findIn K (.ref C) k = some none) {us : List Value} {kws : List (Str × Value)} {v u : Value} (hus : us.length ≤ sizeLine)
    (hbind : ∀ (s : Shared) (x : Value), BindsTo s fd ⟨x :: us, kws⟩ [("self", x), (n, v), (k, u)]) : Mks prog w K mg C us kws [(k, u), (n, v)] := by
  intro A R h g d t os Xh hlim G hroom hq
  obtain ⟨nm, q, N, bs, bm, sn, sub, ab, col, dd, k0, k1, k2, k3, k5, hC, ht⟩ := X.T.cls
  refine call_cls X.NF ht (fs := fun s => [s]) (Xh _ _ hC) (looks_findIn Xh X.iC) (fun self => bind_fn Xh self X.tI) hus ?_
  have kk : ∀ b o, h.get? b = some o → ((h.push (kdv_tup us)).push (HandSPX.excO C h.objs.size)).get? b = some o := fun b o e => Heap.get?_push_of_some _ (Heap.get?_push_of_some _ e)
  have hget : ((h.push (kdv_tup us)).push (HandSPX.excO C h.objs.size)).get? (h.objs.size + 1) = some (HandSPX.excO C h.objs.size) := by heap_get
  refine init2 X.FI X.KF X.SF X.T X.I S X.par hbody hev hne hke hnk hd hd2 ha ha2 (x := h.objs.size + 1) (Xh.keeps kk) (hlim.keeps kk) (G.keeps kk) hget (fresh_K Xh (Nat.le_succ _)) (by rw [L2.make_depth]; exact hroom) (hbind _ _) fun h' tk dx e => ?_
  exact ⟨rfl, hq h' tk _ dx (ended_made rfl e)⟩
end
end Xn
namespace L2
open PySem PySem.Spec PyProof.Rows
/-- the own dict of an exception at dx -/
theorem relO_all : ∀ {fs : List (Str × V)} {l : List (Str × Value)}, Paired (fun (p : Str × V) (q : Str × Value) => p.1 = q.1 ∧ RelV p.2 q.2) fs l → ∀ f, RelO (fs.lookup f) (Xn.mOf l f)
  | _, _, .nil, _ => True.intro
  | (n, v) :: fs, (k, u) :: l, .cons r t, f => by
    obtain ⟨e, rv⟩ := r
    have e' : n = k := e
    subst e'
    exact relO_put rv (relO_all t) f
theorem gb_of {X : Cx} {pins : List (Addr × Obj)} {σ : St} {H : Hp} {s : Shared} (I : Inv X pins σ H s) (hm : X.mg "super" = none) : Xn.Gb X.mg s.heap := by
  obtain ⟨mb, h1, h2⟩ := I.mod.blt
  exact ⟨I.mod.glob.keeps I.bk, ⟨mb, h1.keeps I.bk, (h2 _ (by decide)).trans (by decide +kernel)⟩, hm⟩
section
variable {X : Cx} {C : Addr}
/-- the exception as a value that stands in H: at e, its dict at d with the fields fs -/
theorem exc_laid {pins : List (Addr × Obj)} {σ : St} {H : Hp} {h h' : Heap} {g : Array GenState} {dr : Drawn} {tk tk' : Nat} {os : OsState} {e d : Addr} {fs : List (Str × V)} {l : List (Str × Value)} (I : Inv X pins σ H ⟨h, g, dr, tk, os⟩) (M : Xn.Made C h h' e d l)
    (r : Paired (fun (p : Str × V) (q : Str × Value) => p.1 = q.1 ∧ RelV p.2 q.2) fs l) : H e = none ∧ H d = none ∧ Inv X pins σ (upd (upd H d (exd d fs)) e (exo e C (some d))) ⟨h', g, dr, tk', os⟩ := by
  have ne : H e = none := I.hok.fresh M.new
  have nd : H d = none := I.hok.fresh M.dbig
  refine ⟨ne, nd, ?_⟩
  obtain ⟨t1, hobj⟩ := M.obj
  have low : ∀ b o, h.get? b = some o → b ≠ e ∧ b ≠ d := fun b o q => ⟨Nat.ne_of_lt (Nat.lt_of_lt_of_le (Heap.lt_size q) M.new), Nat.ne_of_lt (Nat.lt_of_lt_of_le (Heap.lt_size q) M.dbig)⟩
  have up : ∀ b, b ≠ e → b ≠ d → upd (upd H d (exd d fs)) e (exo e C (some d)) b = H b := fun b h1 h2 => by rw [upd_ne h1, upd_ne h2]
  have keepH : ∀ b o, H b = some o → upd (upd H d (exd d fs)) e (exo e C (some d)) b = some o := fun b o q => by rw [up b (ne_of_none q ne) (ne_of_none q nd)]; exact q
  refine I.un (t' := tk') ⟨fun b o q _ _ _ => M.keep b o q, fun b o q _ _ _ => ⟨o.slots, M.keep b o q⟩, fun b o q n _ => by rw [up b (low b o q).1 (low b o q).2]; exact n, fun b o q _ => ⟨o, M.keep b o q⟩,
    fun b xs q => keepH b _ q, fun b o u q => keepH b _ q, fun b ps q => ⟨#[], by rw [keepH b _ q]; simp⟩⟩ fun b o q => ?_
  by_cases hb : b = e
  · subst hb
    rw [upd_same] at q
    cases q
    exact exo_ok hobj
  · rw [upd_ne hb] at q
    by_cases hd : b = d
    · subst hd
      rw [upd_same] at q
      cases q
      exact exd_ok M.ns (relO_all r)
    · rw [upd_ne hd] at q
      exact (I.hok b o q).stay (fun c v _ z => M.keep c v z) (fun c z => keepH c _ z) fun c xs z => keepH c _ z
/-- C(e, ..) as a value -/
def tExV (C : Addr) (ns : List Str) (ta : TA) : TE := fun σ H Q => ta σ H fun vs H1 => vs.length = ns.length ∧ ∀ e d, H1 e = none → H1 d = none → d ≠ e → Q (.ref e) (upd (upd H1 d (exd d (ns.zip vs).reverse)) e (exo e C (some d)))
theorem zip_paired : ∀ {ns : List Str} {vs : List V} {us : List Value}, Vals vs us → Paired (fun (p : Str × V) (q : Str × Value) => p.1 = q.1 ∧ RelV p.2 q.2) (ns.zip vs) (ns.zip us)
  | [], _, _, _ => .nil
  | _ :: _, _, _, .nil => .nil
  | n :: ns, _, _, .cons r t => .cons ⟨rfl, r⟩ (zip_paired t)
theorem paired_app {α β : Type} {F : α → β → Prop} : ∀ {xs xs' : List α} {ys ys' : List β}, Paired F xs ys → Paired F xs' ys' → Paired F (xs ++ xs') (ys ++ ys')
  | _, _, _, _, .nil, s => s
  | _, _, _, _, .cons r t, s => .cons r (paired_app t s)
theorem paired_rev {α β : Type} {F : α → β → Prop} : ∀ {xs : List α} {ys : List β}, Paired F xs ys → Paired F xs.reverse ys.reverse
  | _, _, .nil => .nil
  | _, _, .cons r t => by
    rw [List.reverse_cons, List.reverse_cons]
    exact paired_app (paired_rev t) (.cons r .nil)
theorem pe_exV {x : Str} {e : Expr} {es : List Expr} {ns : List Str} {ta : TA} {p pos : Pos} {k : Nat} (hr : Room k X.A) (hg : Gl X x) (hm : X.mg x = some (.ref C)) (hs : X.mg "super" = none) (hk : PySem.W.keepIn X.K (.ref C) = true)
    (mk : ∀ us : List Value, us.length = ns.length → Xn.Mks X.prog X.w X.K X.mg C us [] (ns.zip us).reverse) (ha : PA X (e :: es) ta)
    (hdb : (x == ("__debug__" : Str)) = false := by decide) (he : starEach (e :: es) X.env = (false, eval e X.env) :: starEach es X.env := by rfl) (hpl : (backTo pos (starEach es X.env)).any (·.1) = false := by rfl) :
    PE X (.Call (.Name x p) (e :: es) [] pos) (tExV C ns ta) := by
  refine ⟨fun pins s σ H Q I h => ?_⟩
  refine wpAny_Call_Name_kw (ld_glob I hg hm ?_ hdb)
  refine PySem.W.callWith_K (h₀ := X.base) I.ok.mod.kin hk (thn (ha.run pos pins s σ H _ I h) fun us s1 ⟨vs, H1, I1, r1, hl, q1⟩ => ⟨I1.kIn, ?_⟩) he hpl
  show wpAny _ _ (call (.ref C) us) _ _ _
  have hlim := I1.nolimit
  have hG := gb_of I1 hs
  have hK := I1.kIn
  obtain ⟨hp, g, dr, tk, os⟩ := s1
  refine wpAny_call (mk us (by rw [← r1.length]; exact hl) X.A _ hp g dr tk os hK hlim hG (by have := hr.dp; omega) fun h' tk' ee d M => ?_)
  obtain ⟨n1, n2, J⟩ := exc_laid (tk' := tk') I1 M (paired_rev (zip_paired r1))
  exact ⟨.ref ee, _, J, rfl, q1 ee d n1 n2 M.dne⟩
end
end L2
namespace Xn
open PySem PySem.W PySem.Calls PyProof.Rows
/-- an exception without a dict made -/
structure Made0 (C : Addr) (h h' : Heap) (e : Addr) : Prop where
  keep : ∀ b o, h.get? b = some o → h'.get? b = some o
  new : h.objs.size ≤ e
  obj : ∃ t1, h'.get? e = some { cls := .ref C, dict := none, data := .fields #[.ref t1, .none, .none, .none, .bool false, .none] }
/-- an own class over ValueError without an own __init__ -/
structure ExZ (K : Frag) (C : Addr) : Prop where
  cls : ∃ nm q N bs bm hdct sn sub ab col dd k0 k1 k2 k3 k5, K.lookup C = some (excClassObj nm q C N bs bm hdct sn sub ab col dd k0 k1 k2 k3 k5 "ValueError.__new__") ∧ excTail bmV bm = true
  iC : findIn K (.ref C) "__init__" = some (some (.builtin "ValueError.__init__"))
theorem made0 {prog : Program} {w : World} {K : Frag} {C : Addr} {A : Around} {R : Result → Shared → Prop} {h : Heap} {g : Array GenState} {d : Drawn} {t : Nat} {os : OsState} (Z : ExZ K C) (X : K.In h)
    (hq : ∀ h' e, Made0 C h h' e → R (.ok (.ret (.ref e))) ⟨h', g, d, t, os⟩) : codeAny (model prog w) A (.call (.ref C) ⟨[], []⟩) R ⟨h, g, d, t, os⟩ := by
  obtain ⟨nm, q, N, bs, bm, hdct, sn, sub, ab, col, dd, k0, k1, k2, k3, k5, hC, ht⟩ := Z.cls
  refine call_cls new_V ht (fI := .builtin "ValueError.__init__") (fs := fun s => [s]) (X _ _ hC) (looks_findIn X Z.iC) (fun self => Looks.of_pure (F.excBase_ValueError.init.bind self)) (Nat.zero_le _) ?_
  have k : ∀ b o, h.get? b = some o → ((h.push (kdv_tup [])).push (HandSPX.excO C h.objs.size)).get? b = some o := fun b o e => Heap.get?_push_of_some _ (Heap.get?_push_of_some _ e)
  have hget : ((h.push (kdv_tup [])).push (HandSPX.excO C h.objs.size)).get? (h.objs.size + 1) = some (HandSPX.excO C h.objs.size) := by heap_get
  refine HandSPX.init_base F.excBase_ValueError (fun Y => excTail_contains Y bm ht) (k _ _ (X _ _ hC)) hget (Nat.zero_le _) fun h' t1 kk hx => ?_
  exact ⟨rfl, hq h' _ ⟨fun b o e => kk b o (Nat.ne_of_lt (Nat.lt_succ_of_lt (Heap.lt_size e))) (k b o e), Nat.le_succ _, ⟨t1, hx⟩⟩⟩
end Xn
namespace L2
open PySem PySem.Spec PyProof.Rows
section
variable {X : Cx} {C : Addr}
/-- C(k = v, ..), the keywords in the turned order of the parameters -/
def tExK (C : Addr) (ns : List Str) (ta : TA) : TE := fun σ H Q => ta σ H fun vs H1 => vs.length = ns.length ∧ ∀ e d, H1 e = none → H1 d = none → d ≠ e → Q (.ref e) (upd (upd H1 d (exd d (ns.zip vs.reverse).reverse)) e (exo e C (some d)))
theorem pe_exK {x : Str} {ns : List Str} {kws : List Keyword} {tk : TA} {p pos : Pos} {k : Nat} (hr : Room k X.A) (hg : Gl X x) (hm : X.mg x = some (.ref C)) (hs : X.mg "super" = none) (hk : PySem.W.keepIn X.K (.ref C) = true)
    (mk : ∀ us : List Value, us.length = ns.length → Xn.Mks X.prog X.w X.K X.mg C [] (ns.reverse.zip us) (ns.zip us.reverse).reverse) (hkw : PK X kws tk)
    (hall : (backToKw pos (keywordEach kws X.env)).all (·.1.isSome) = true := by rfl) (hks : (backToKw pos (keywordEach kws X.env)).filterMap (·.1) = ns.reverse := by rfl)
    (hdb : (x == ("__debug__" : Str)) = false := by decide) (hpl : ((backTo pos (starEach [] X.env)).any (·.1) || (backToKw pos (keywordEach kws X.env)).any (·.1.isNone)) = false := by rfl) :
    PE X (.Call (.Name x p) [] kws pos) (tExK C ns tk) := by
  refine ⟨fun pins s σ H Q I h => ?_⟩
  refine wpAny_Call_Name_kw (ld_glob I hg hm ?_ hdb)
  refine PySem.W.callWith_KW0 (h₀ := X.base) I.ok.mod.kin hk hall (thn (hkw.run pos pins s σ H _ I h) fun us s1 ⟨vs, H1, I1, r1, hl, q1⟩ => ⟨I1.kIn, ?_⟩) hpl
  rw [hks]
  show wpAny _ _ (call (.ref C) [] (ns.reverse.zip us)) _ _ _
  have hlim := I1.nolimit
  have hG := gb_of I1 hs
  have hK := I1.kIn
  obtain ⟨hp, g, dr, tk, os⟩ := s1
  refine wpAny_call (mk us (by rw [← r1.length]; exact hl) X.A _ hp g dr tk os hK hlim hG (by have := hr.dp; omega) fun h' tk' ee d M => ?_)
  obtain ⟨n1, n2, J⟩ := exc_laid (tk' := tk') I1 M (paired_rev (zip_paired (paired_rev r1)))
  exact ⟨.ref ee, _, J, rfl, q1 ee d n1 n2 M.dne⟩
/-- C(), no __init__ of its own -/
def tExZ (C : Addr) : TE := fun σ H Q => ∀ e, H e = none → Q (.ref e) (upd H e (exo e C none))
theorem pe_exZ {x : Str} {p pos : Pos} (hg : Gl X x) (hm : X.mg x = some (.ref C)) (hk : PySem.W.keepIn X.K (.ref C) = true) (Z : Xn.ExZ X.K C) (hdb : (x == ("__debug__" : Str)) = false := by decide) : PE X (.Call (.Name x p) [] [] pos) (tExZ C) := by
  refine ⟨fun pins s σ H Q I h => ?_⟩
  refine wpAny_Call_Name_kw (ld_glob I hg hm ?_ hdb)
  refine PySem.W.callWith_K0 I.kIn hk ?_
  show wpAny _ _ (call (.ref C) []) _ _ _
  have hK := I.kIn
  obtain ⟨hp, g, dr, tk, os⟩ := s
  refine wpAny_call (Xn.made0 Z hK fun h' e M => ?_)
  obtain ⟨t1, ho⟩ := M.obj
  exact ⟨.ref e, _, I.laid (t' := tk) M.keep M.new (exo_ok ho), rfl, h e (I.hok.fresh M.new)⟩
/-- .. raised: the exception is let go, its dict stands -/
def tMkV (C : Addr) (ns : List Str) (ta : TA) : St → Hp → XK → Prop := fun σ H Q => ta σ H fun vs H1 => vs.length = ns.length ∧ ∀ d, H1 d = none → Q (.ref C) (some d) (upd H1 d (.xd (ns.zip vs).reverse))
theorem pmk_exV {x : Str} {e : Expr} {es : List Expr} {ns : List Str} {ta : TA} {p pos : Pos} {k : Nat} (hr : Room k X.A) (hg : Gl X x) (hm : X.mg x = some (.ref C)) (hs : X.mg "super" = none) (hk : PySem.W.keepIn X.K (.ref C) = true) (hR : Raises X (.ref C))
    (mk : ∀ us : List Value, us.length = ns.length → Xn.Mks X.prog X.w X.K X.mg C us [] (ns.zip us).reverse) (ha : PA X (e :: es) ta)
    (hdb : (x == ("__debug__" : Str)) = false := by decide) (he : starEach (e :: es) X.env = (false, eval e X.env) :: starEach es X.env := by rfl) (hpl : (backTo pos (starEach es X.env)).any (·.1) = false := by rfl) :
    PMk X (.Call (.Name x p) (e :: es) [] pos) (tMkV C ns ta) := by
  intro pins s σ H Q I h
  refine wpAny_Call_Name_kw (ld_glob I hg hm ?_ hdb)
  refine PySem.W.callWith_K (h₀ := X.base) I.ok.mod.kin hk (thn (ha.run pos pins s σ H _ I h) fun us s1 ⟨vs, H1, I1, r1, hl, q1⟩ => ⟨I1.kIn, ?_⟩) he hpl
  show wpAny _ _ (call (.ref C) us) _ _ _
  have hlim := I1.nolimit
  have hG := gb_of I1 hs
  have hK := I1.kIn
  obtain ⟨hp, g, dr, tk, os⟩ := s1
  refine wpAny_call (mk us (by rw [← r1.length]; exact hl) X.A _ hp g dr tk os hK hlim hG (by have := hr.dp; omega) fun h' tk' e d M => ?_)
  show MkP X pins σ Q (.ref e) ⟨h', g, dr, tk', os⟩
  obtain ⟨t1, hoe⟩ := M.obj
  obtain ⟨G', g1, g2⟩ := restrict h' fun b => decide (b ≠ e)
  have gk : ∀ b, b ≠ e → G'.get? b = h'.get? b := fun b hb => g1 b (decide_eq_true hb)
  have ge : G'.get? e = none := g2 e (by simp)
  have old : ∀ b o, hp.get? b = some o → G'.get? b = some o := fun b o z => (gk b (Nat.ne_of_lt (Nat.lt_of_lt_of_le (Heap.lt_size z) M.new))).trans (M.keep b o z)
  have ob : ObjOk X.prog X.w (upd H1 d (.xd (ns.zip vs).reverse)) G' d (.xd (ns.zip vs).reverse) := ⟨_, M.ns.at (fun o z => (gk d M.dne).trans z), relO_all (paired_rev (zip_paired r1))⟩
  have J : Inv X pins σ (upd H1 d (.xd (ns.zip vs).reverse)) ⟨G', g, dr, tk', os⟩ := I1.laid (t' := tk') old M.dbig ob
  refine ⟨e, _, _, ⟨G', g, dr, tk', os⟩, _, .ref C, some d, rfl, J, fun b o z => ?_, ge, hoe, ⟨rfl, rfl⟩, rfl, rfl, ?_, rfl, I1.bare, hR, q1 d (I1.hok.fresh M.dbig)⟩
  · by_cases hb : b = e
    · have z' : G'.get? b = some o := z
      rw [hb, ge] at z'
      cases z'
    · exact (gk b hb).symm.trans z
  · rw [upd_ne (Ne.symm M.dne)]
    exact I1.hok.fresh M.new
theorem pmk_exZ {x : Str} {p pos : Pos} (hg : Gl X x) (hm : X.mg x = some (.ref C)) (hk : PySem.W.keepIn X.K (.ref C) = true) (hR : Raises X (.ref C)) (Z : Xn.ExZ X.K C) (hdb : (x == ("__debug__" : Str)) = false := by decide) :
    PMk X (.Call (.Name x p) [] [] pos) (fun _ H Q => Q (.ref C) none H) := by
  intro pins s σ H Q I h
  refine wpAny_Call_Name_kw (ld_glob I hg hm ?_ hdb)
  refine PySem.W.callWith_K0 I.kIn hk ?_
  show wpAny _ _ (call (.ref C) []) _ _ _
  have hK := I.kIn
  obtain ⟨hp, g, dr, tk, os⟩ := s
  refine wpAny_call (Xn.made0 Z hK fun h' e M => ?_)
  obtain ⟨t1, hoe⟩ := M.obj
  obtain ⟨G', g1, g2⟩ := restrict h' fun b => decide (b ≠ e)
  have gk : ∀ b, b ≠ e → G'.get? b = h'.get? b := fun b hb => g1 b (decide_eq_true hb)
  have ge : G'.get? e = none := g2 e (by simp)
  have old : ∀ b o, hp.get? b = some o → G'.get? b = some o := fun b o z => (gk b (Nat.ne_of_lt (Nat.lt_of_lt_of_le (Heap.lt_size z) M.new))).trans (M.keep b o z)
  refine ⟨e, _, _, ⟨G', g, dr, tk, os⟩, H, .ref C, none, rfl, I.kept (t' := tk) old, fun b o z => ?_, ge, hoe, ⟨rfl, rfl⟩, rfl, rfl, I.hok.fresh M.new, rfl, I.bare, hR, h⟩
  by_cases hb : b = e
  · have z' : G'.get? b = some o := z
    rw [hb, ge] at z'
    cases z'
  · exact (gk b hb).symm.trans z
/-- an exception of the class at C stands at a -/
def IsEx (H : Hp) (a C : Addr) : Prop := H a = some (exo a C none) ∨ ∃ d fs, H a = some (exo a C (some d)) ∧ H d = some (exd d fs)
theorem IsEx.inst {pins : List (Addr × Obj)} {σ : St} {H : Hp} {s : Shared} {a : Addr} (I : Inv X pins σ H s) (h : IsEx H a C) : ∃ ox od, PySem.W.InstAt s.heap a ox C od := by
  rcases h with e | ⟨d, fs, e, ed⟩
  · obtain ⟨t1, ho⟩ := exo_at I.hok e
    exact ⟨_, none, ho, rfl, rfl, trivial⟩
  · obtain ⟨t1, ho⟩ := exo_at I.hok e
    obtain ⟨mA, hns, _⟩ := exd_at I.hok ed
    obtain ⟨od, hod, _⟩ := lookIn_ns hns
    exact ⟨_, some od, ho, rfl, rfl, hod⟩
/-- e.f -/
structure ExA (K : PySem.W.Frag) (C : Addr) (f : Str) : Prop where
  c : ExcC K C
  no : PySem.W.findIn K (.ref C) f = some none
def tExF (K : PySem.W.Frag) (f : Str) (to : TE) : TE := fun σ H Q => to σ H fun x H1 => ∃ e C d fs v, x = .ref e ∧ ExA K C f ∧ H1 e = some (exo e C (some d)) ∧ H1 d = some (exd d fs) ∧ fs.lookup f = some v ∧ Q v H1
theorem pe_exF {o : Expr} {f : Str} {to : TE} {pos : Pos} (ho : PE X o to) (hb : attributeBase o f X.env (eval o X.env) = eval o X.env := by rfl) : PE X (.Attribute o f pos) (tExF X.K f to) := by
  refine ⟨fun pins s σ H Q I h => ?_⟩
  refine attr_of hb (thn (ho.run pins s σ H _ I h) fun u s1 ⟨x, H1, I1, rx, e, C, d, fs, v, ex, A, he, hd, hl, q⟩ => ?_)
  subst ex
  obtain rfl : u = Value.ref e := rx
  obtain ⟨t1, hoe⟩ := exo_at I1.hok he
  obtain ⟨mA, hns, hr⟩ := exd_at I1.hok hd
  obtain ⟨od, hod, hlk⟩ := lookIn_ns hns
  obtain ⟨u, hu, ru⟩ := RelO.some_of (v := v) (o := mA f) (by rw [← hl]; exact hr f)
  have J : PySem.W.InstAt s1.heap e _ C (some od) := ⟨hoe, rfl, rfl, hod⟩
  exact HandSPX.exc_get I1.kIn J A.c.hg A.c.hk A.c.hs (PySem.W.findObj_own A.c.hd A.no rfl (by rw [hlk, hu])) (handed_of ru) ⟨v, H1, I1.tok _, ru, q⟩
/-- isinstance(e, c) -/
def rIsX (K : PySem.W.Frag) : List V → Hp → VK → Prop := fun xs H Q => ∃ (a C : Addr) (c : V) (u : Value) (b : Bool), xs = [.ref a, c] ∧ ClsV c u ∧ IsEx H a C ∧ ExcC K C ∧ PySem.W.kitOne K (.ref C) u = some b ∧ Q (.bl b) H
def rIsXT (K : PySem.W.Frag) : List V → Hp → VK → Prop := fun xs H Q => ∃ (a C tp : Addr) (cs : List V) (us : List Value) (b : Bool), xs = [.ref a, .ref tp] ∧ H tp = some (.tup cs) ∧ Paired ClsV cs us ∧ IsEx H a C ∧ ExcC K C ∧ PySem.W.kitAny K (.ref C) us = some b ∧ Q (.bl b) H
theorem exc_cls (c : ExcC X.K C) : (PySem.W.clsIn X.K C).isSome = true := by
  obtain ⟨cd, h, _⟩ := PySem.W.any_some c.hd
  rw [h]
  rfl
theorem call_isX : CallR X (.builtin "isinstance") (rIsX X.K) := by
  intro pins s σ H xs us Q I r h
  obtain ⟨a, C, c, u, b, rfl, k, hE, cc, e, q⟩ := h
  obtain ⟨u1, u2, rfl, r1, r2⟩ := vals2 r
  have e2 := k.eq r2
  subst e2
  cases (show u1 = Value.ref a from r1)
  obtain ⟨ox, od, J⟩ := hE.inst I
  exact PySem.W.kia_one (PySem.W.kitx_exc (exc_cls cc) cc.hg cc.hk cc.hs cc.ha cc.hn cc.ht cc.hm) I.kIn J e (fun z => nomatch z) fun tk => ⟨.bl b, H, I.tok tk, rfl, q⟩
theorem call_isXT : CallR X (.builtin "isinstance") (rIsXT X.K) := by
  intro pins s σ H xs us Q I r h
  obtain ⟨a, C, tp, cs, ws, b, rfl, hT, k, hE, cc, e, q⟩ := h
  obtain ⟨u1, u2, rfl, r1, r2⟩ := vals2 r
  cases (show u2 = Value.ref tp from r2)
  cases (show u1 = Value.ref a from r1)
  obtain ⟨ox, od, J⟩ := hE.inst I
  obtain ⟨_, its, rv, o, h1, h2, n, h3⟩ := (show ObjOk X.prog X.w H s.heap tp (.tup cs) from I.hok tp _ hT)
  have e3 := ClsV.all k rv
  subst e3
  obtain ⟨oc, od', dt, sl⟩ := o
  simp only at h2 h3
  subst h2 h3
  exact PySem.W.kia_tup (PySem.W.kitx_exc (exc_cls cc) cc.hg cc.hk cc.hs cc.ha cc.hn cc.ht cc.hm) I.kIn J h1 e (fun z => nomatch z) fun tk => ⟨.bl b, H, I.tok tk, rfl, q⟩
end
end L2
/-! Xc: what is asked of the written part about exception classes, as one Bool. -/
namespace Xn
open PySem PySem.W PySem.Calls PyProof.Rows
def okCls (K : Frag) (C : Addr) (bmB : List Value) (newId : String) : Bool := match K.lookup C with
  | some ⟨.type "type", _, .cls cd, sl⟩ => (match cd.mro, sl.toList with
    | .ref C' :: bm, [_, _, _, _, some (.builtin n), _] => C' == C && n == newId && !cd.hasDel && cd.hasDict && excTail bmB bm
    | _, _ => false)
  | _ => false
theorem okCls_of {K : Frag} {C : Addr} {bmB : List Value} {newId : String} (q : okCls K C bmB newId = true) :
    ∃ nm qn N bs bm sn sub ab col dd k0 k1 k2 k3 k5, K.lookup C = some (excClassObj nm qn C N bs bm true sn sub ab col dd k0 k1 k2 k3 k5 newId) ∧ excTail bmB bm = true := by
  unfold okCls at q
  split at q
  · rename_i dd cd sl ho
    split at q
    · rename_i C' bm k0 k1 k2 k3 n k5 hm hs
      simp only [Bool.and_eq_true, beq_iff_eq, Bool.not_eq_true'] at q
      obtain ⟨⟨⟨⟨rfl, rfl⟩, hdel⟩, hd⟩, ht⟩ := q
      obtain ⟨nm, bs, mro, ns, qn, hdd, sn, sub, ab, col, del⟩ := cd
      dsimp only at hm hdel hd
      subst hm hdel hd
      have hsl : sl = #[k0, k1, k2, k3, some (.builtin n), k5] := by
        obtain ⟨l⟩ := sl
        simp only at hs
        rw [hs]
      subst hsl
      exact ⟨nm, qn, ns, bs, bm, sn, sub, ab, col, dd, k0, k1, k2, k3, k5, ho, ht⟩
    · cases q
  · cases q
def okT (K : Frag) (C : Addr) (B i newId : String) (bmB : List Value) : Bool :=
  okCls K C bmB newId && (ks_superIn K C C "__init__" == some (some (.builtin i))) && (subIn K (.ref C) (.type B) == some true) && (mroIn K C (.ref C) == some true) &&
  (findIn K (.ref C) "__setattr__" == some (some (.builtin "object.__setattr__"))) && (nsIn K cStatics "thirdparty.any" == some none)
theorem okT_of {K : Frag} {C : Addr} {B i newId : String} {bmB : List Value} (q : okT K C B i newId bmB = true) : ExT K C B i newId bmB := by
  unfold okT at q
  simp only [Bool.and_eq_true, beq_iff_eq] at q
  obtain ⟨⟨⟨⟨⟨q1, q2⟩, q3⟩, q4⟩, q5⟩, q6⟩ := q
  exact ⟨okCls_of q1, q2, q3, q4, q5, q6⟩
/-- what isinstance, a field, raise and except ask -/
def okE (K : Frag) (C : Addr) : Bool :=
  (findIn K (.ref C) "__getattribute__" == some (some (.builtin "BaseException.__getattribute__"))) && (findIn K (.ref C) "__getattr__" == some none) && (subIn K (.ref C) (.type "BaseException") == some true) && hasDictIn K C &&
  (findIn K (.ref C) "__class__" == some (some (.builtin "object.__class__"))) && (specialIn K (.builtin "object.__class__") "__get__" == some (some (.builtin "getset_descriptor.__get__"))) && (takesIn K (.builtin "object.__class__") == some true) && (mroIn K C (.type "object") == some true) &&
  (typeIn K (.ref C) == some (.type "type")) && keepIn K (.ref C)
theorem okE_of {K : Frag} {C : Addr} (q : okE K C = true) : L2.ExcC K C ∧ typeIn K (.ref C) = some (.type "type") ∧ keepIn K (.ref C) = true := by
  unfold okE at q
  simp only [Bool.and_eq_true, beq_iff_eq] at q
  obtain ⟨⟨⟨⟨⟨⟨⟨⟨⟨q1, q2⟩, q3⟩, q4⟩, q5⟩, q6⟩, q7⟩, q8⟩, q9⟩, q10⟩ := q
  exact ⟨⟨q1, q2, q3, q4, q5, q6, q7, q8⟩, q9, q10⟩
/-- the __init__ and its surroundings -/
def okI (prog : Program) (K : Frag) (C fI cc cda : Addr) (qual : Str) (ns : List Str) : Bool :=
  (findIn K (.ref C) "__init__" == some (some (.ref fI))) && (typeIn K (.ref fI) == some (.type "function")) && codeIn K (.ref cda) qual &&
  (match K.lookup cda with | some ⟨_, _, .fields vs, _⟩ => (match (vs[2]? : Option Value) with | some (Value.str file _) => ((prog.main.file : Str) == file) | _ => false) | _ => false) &&
  (match K.lookup cc with | some ⟨_, _, .cell (some (.ref C')), _⟩ => C' == C | _ => false) && !(prog.main.scope.names.lookup ("super" : Str)).isSome && ns.all fun n => findIn K (.ref C) n == some none
theorem okI_of {prog : Program} {K : Frag} {C fI cc cda : Addr} {qual : Str} {ns : List Str} {fd : FuncData} (q : okI prog K C fI cc cda qual ns = true) (hf : ∃ oc od osl, K.lookup fI = some ⟨oc, od, .func fd, osl⟩)
    (sh : fd.globals = mainGlobals ∧ fd.builtins = builtinsNs ∧ fd.closure = [((("__class__" : Str)), cc)] ∧ fd.code = .ref cda ∧ fd.qualname = qual) :
    InT prog K fI cc cda C qual fd ∧ findIn K (.ref C) "__init__" = some (some (.ref fI)) ∧ typeIn K (.ref fI) = some (.type "function") ∧ ∀ n ∈ ns, findIn K (.ref C) n = some none := by
  unfold okI at q
  simp only [Bool.and_eq_true, beq_iff_eq, Bool.not_eq_true', List.all_eq_true] at q
  obtain ⟨⟨⟨⟨⟨⟨q1, q2⟩, q3⟩, q4⟩, q5⟩, q6⟩, q7⟩ := q
  refine ⟨⟨hf, sh, q3, ?_, ?_, q6⟩, q1, q2, fun n hn => q7 n hn⟩
  · split at q4
    · rename_i c dd vs sl ho
      split at q4
      · rename_i file tf hv
        exact ⟨_, _, vs, _, file, tf, ho, hv, q4⟩
      · cases q4
    · cases q4
  · split at q5
    · rename_i c dd C' sl ho
      rw [beq_iff_eq.mp q5] at ho
      exact ⟨_, _, _, ho⟩
    · cases q5
end Xn
namespace K01
open PySem L2
local macro_rules | `(tactic| walk_at "ne") => `(tactic| first
  | assumption
  | exact Ne.symm (by assumption)
  | exact ne_of_none (by walk_at "hp") (by assumption)
  | exact Ne.symm (ne_of_none (by walk_at "hp") (by assumption)))
local macro_rules | `(tactic| walk_at "hp") => `(tactic| first
  | assumption
  | with_reducible exact upd_same
  | exact Eq.trans (upd_ne (by walk_at "ne")) (by walk_at "hp"))
local macro_rules | `(tactic| walk_at "lit") => `(tactic| first
  | ((with_reducible show atI _ 0 = _); exact rfl) | ((with_reducible show atI _ 1 = _); exact rfl) | ((with_reducible show atI _ 2 = _); exact rfl)
  | ((with_reducible show atI _ 3 = _); exact rfl) | ((with_reducible show atI _ 4 = _); exact rfl) | ((with_reducible show atI _ (-1) = _); exact rfl))
local macro_rules | `(tactic| walk_at "litN") => `(tactic| first
  | ((with_reducible show ixN _ 0 = _); exact rfl) | ((with_reducible show ixN _ 1 = _); exact rfl) | ((with_reducible show ixN _ 2 = _); exact rfl))
local macro_rules | `(tactic| walk_at "sqL") => `(tactic| first
  | ((with_reducible show SqL _ _ _ _); assumption)
  | exact SqL.of (by walk_at "hp"))
local macro_rules | `(tactic| walk_at "sqT") => `(tactic| first
  | ((with_reducible show SqT _ _ _ _); assumption)
  | exact SqT.of (by walk_at "hp"))
local macro_rules | `(tactic| walk_at "rd1") => `(tactic| first
  | with_reducible refine Rd.seq ?_
  | with_reducible refine Rd.asg ?_
  | ((with_reducible show tVar _ _ _ _); refine Rd.var (by exact rfl) ?_)
  | with_reducible refine Rd.cst ?_
  | with_reducible refine Rd.gname ?_
  | with_reducible refine Rd.ret ?_
  | with_reducible refine Rd.next ?_
  | with_reducible refine Rd.op ?_
  | with_reducible refine Rd.un ?_
  | with_reducible refine Rd.cons_ ?_
  | with_reducible refine Rd.nil_ ?_
  | with_reducible refine Rd.cb ?_
  | with_reducible refine Rd.int_ ?_
  | with_reducible refine Rd.intB ?_
  | with_reducible refine Rd.rI0_ ?_
  | ((with_reducible show rI CMul _ _ _ _ _); refine Rd.rI_ (by first | exact Or.inl ⟨by decide, by decide⟩ | exact Or.inr ⟨by decide, by decide⟩ | assumption) ?_)
  | ((with_reducible show rI CDiv _ _ _ _ _); refine Rd.rI_ ⟨by omega, by omega⟩ ?_)
  | ((with_reducible show rI CPow _ _ _ _ _); refine Rd.rI_ ⟨by decide, by decide, by decide⟩ ?_)
  | ((with_reducible show rI (fun _ j => 0 < j) _ _ _ _ _); refine Rd.rI_ (by show (0 : Int) < _; omega) ?_)
  | with_reducible refine Rd.rU_ ?_
  | ((with_reducible show rEq _ _ _ _); refine Rd.eq_ (by exact rfl) ?_)
  | ((with_reducible show rNe _ _ _ _); refine Rd.ne_ (by exact rfl) ?_)
  | with_reducible refine Rd.test ?_
  | with_reducible refine Rd.testB ?_
  | with_reducible refine Rd.exbl ?_
  | with_reducible refine Rd.ifs ?_
  | with_reducible refine Rd.ifE ?_
  | with_reducible refine Rd.and_ ?_
  | with_reducible refine Rd.or_ ?_
  | with_reducible refine Rd.not_ ?_
  | with_reducible refine Rd.andV ?_
  | with_reducible refine Rd.orV ?_
  | with_reducible refine Rd.notV ?_
  | with_reducible refine Rd.drop ?_
  | with_reducible refine Rd.cont ?_
  | with_reducible refine Rd.brk ?_
  | with_reducible refine Rd.lst_ ?_
  | with_reducible refine Rd.tup_ ?_
  | ((with_reducible show List.length _ ≤ sizeLine ∧ _); refine Rd.new_ (Rd.sz (by exact Nat.le_of_ble_eq_true rfl)) ?_)
  | with_reducible refine Rd.call_ ?_
  | with_reducible refine Rd.gsub ?_
  | ((with_reducible show rSetL _ _ _ _ _); refine Rd.setL (by walk_at "hp") (by walk_at "litN") ?_)
  | ((with_reducible show rIxL _ _ _ _ _); refine Rd.ixL (by walk_at "sqL") (by walk_at "lit") ?_)
  | ((with_reducible show rIxT _ _ _ _ _); refine Rd.ixT (by walk_at "sqT") (by walk_at "lit") ?_)
  | ((with_reducible show Rd.rLen _ _ _ _); refine Rd.lenL (by walk_at "sqL") ?_)
  | ((with_reducible show Rd.rLen _ _ _ _); refine Rd.lenT (by walk_at "sqT") ?_)
  | ((with_reducible show Rd.rTupOf _ _ _ _); refine Rd.tupL (by walk_at "sqL") ?_)
  | ((with_reducible show Rd.rTupOf _ _ _ _); refine Rd.tupT (by walk_at "sqT") ?_)
  | ((with_reducible show Rd.rLstOf _ _ _ _); refine Rd.lstL (by walk_at "sqL") ?_)
  | ((with_reducible show Rd.rLstOf _ _ _ _); refine Rd.lstT (by walk_at "sqT") ?_)
  | with_reducible refine Rd.rng1 ?_
  | with_reducible refine Rd.yes ?_
  | ((with_reducible show rCat _ _ _ _); refine Rd.catL (by walk_at "hp") (by walk_at "hp") (Rd.sz (by exact Nat.le_of_ble_eq_true rfl)) ?_)
  | with_reducible refine iteT ?_
  | with_reducible refine iteF ?_)
local macro_rules | `(tactic| walk_at "rd") => `(tactic| repeat walk_at "rd1")
def top (i : Nat) : Stmt := PySem.Challenge.pw_pieceasks_k01_errors.main.body.getD i (.Pass ⟨0, 0, 0, 0⟩)
/-- the built-in names that the law uses are not bound by the module -/
structure TB (mg : Str → Option Value) : Prop where
  n_int : mg "int" = none
  n_len : mg "len" = none
  n_range : mg "range" = none
  n_max : mg "max" = none
  n_min : mg "min" = none
  n_isinstance : mg "isinstance" = none
  n_enumerate : mg "enumerate" = none
  n_zip : mg "zip" = none
  n_list : mg "list" = none
  n_tuple : mg "tuple" = none
  n_bool : mg "bool" = none
  n_KeyError : mg "KeyError" = none
  n_ValueError : mg "ValueError" = none
abbrev bx (x s c : Int) : HO := .lst [.int x, .int s, .int c]
/-- the box at p -/
def Box (H : Hp) (p : Addr) : Prop := ∃ x s c, H p = some (bx x s c)
def spTake : Sp := fun vs H Q _ => ∃ (p : Addr) (m : Int), vs = [.ref p, .int m] ∧ Box H p ∧ 0 < m ∧ m < 1073741824 ∧
  ∀ r x' s' c', 0 ≤ r → r < m → Q (.int r) (upd H p (bx x' s' c'))
abbrev sTake : Stmt := top 15
theorem scTake : FnScope ["_law_box_here", "_law_many", "_law_digit", "_law_one"] ["_law_box_here", "_law_many"] (defScope sTake) :=
  ⟨rfl, rfl, rfl, by decide +kernel, rfl, by decide +kernel, by decide +kernel⟩
section
variable {P : Program} {w : World} {K : PySem.W.Frag} {mg : Str → Option Value} {base : Heap} {f : Addr} {fd : FuncData}
theorem ok_take (F : Fun K "_law_take" "_law_take" sTake f fd) (T : TB mg) : FnOk P w K mg base CX0 1 f fd ["_law_box_here", "_law_many"] spTake := by
  refine F.ok scTake (fun vs H Q E h => ?_) (fun cdv A outer s H vs Q E hr h => ?_)
  · obtain ⟨p, m, rfl, _⟩ := h
    rfl
  obtain ⟨p, m, rfl, ⟨x, s0, c, hb⟩, h0, h1, q⟩ := h
  refine ⟨_, (pss_cons (ps_if (pt_cmpR op_gt (pe_ix ix_list (pv 0) pe_int (fun _ _ => rfl)) pe_int (nomark _)) (pss_cons (ps_set (i := 2) scTake.nd rfl (Or.inl rfl) (pe_op op_mod (pe_callTy Rd.c_int rfl T.n_int (by decide +kernel) (pa_cons (pe_ix ix_list (pv 0) pe_int (fun _ _ => rfl)) pa_nil)) (pv 1)))
  (pss_cons (ps_asg (pe_op op_fdiv (pe_ix ix_list (pv 0) pe_int (fun _ _ => rfl)) (pv 1)) (pg_sub (pv 0) pe_int set_list))
  (pss_one (ps_ret (pv 2))))) pss_nil)
  (pss_cons (ps_asg (pe_op op_add (pe_ix ix_list (pv 0) pe_int (fun _ _ => rfl)) pe_int) (pg_sub (pv 0) pe_int set_list))
  (pss_cons (ps_set (i := 3) scTake.nd rfl (Or.inl rfl) (pe_op op_mod (pe_callTy Rd.c_int rfl T.n_int (by decide +kernel) (pa_cons (pe_op op_mul (pe_op op_add (pe_ix ix_list (pv 0) pe_int (fun _ _ => rfl)) (pe_op op_mul pe_int (pe_ix ix_list (pv 0) pe_int (fun _ _ => rfl)))) pe_int) pa_nil)) pe_int))
  (pss_cons (ps_asg (pe_op op_add (pe_op op_mod (pe_callTy Rd.c_int rfl T.n_int (by decide +kernel) (pa_cons (pe_op op_add (pe_op op_mul (pv 3) pe_int) pe_int) pa_nil)) pe_int) pe_int) (pg_sub (pv 0) pe_int set_list))
  (pss_one (ps_ret (pe_op op_mod (pe_callTy Rd.c_int rfl T.n_int (by decide +kernel) (pa_cons (pe_op op_fdiv (pe_op op_add (pe_op op_mul (pv 3) pe_int) (pe_ix ix_list (pv 0) pe_int (fun _ _ => rfl))) pe_int) pa_nil)) (pv 1)))))))), ?_⟩
  walk_at "rd"
  refine Rd.br (fun cc => ?_) (fun cc => ?_)
  · walk_at "rd"
    exact q _ _ _ _ (Int.emod_nonneg _ (by omega)) (Int.emod_lt_of_pos _ h0)
  · walk_at "rd"
    rw [upd_upd]
    exact q _ _ _ _ (Int.emod_nonneg _ (by omega)) (Int.emod_lt_of_pos _ h0)
/-- the box at p has turned, nothing else -/
structure Put (p : Addr) (H H' : Hp) : Prop where
  box : Box H' p
  off : ∀ b, b ≠ p → H' b = H b
theorem use_take {p : Addr} {m : Int} {H : Hp} {Q : VK} {E : XK} (hB : Box H p) (h : ∀ r H', 0 ≤ r → r < m → Put p H H' → Q (.int r) H') (h0 : 0 < m := by decide) (h1 : m < 1073741824 := by decide) : spTake ([.ref p, .int m] ++ []) H Q E :=
  ⟨p, m, rfl, hB, h0, h1, fun r x' s' c' a b => h r _ a b ⟨⟨x', s', c', upd_same⟩, fun _ hb => upd_ne hb⟩⟩
/-! the box -/
abbrev sBox : Stmt := top 14
theorem scBox : FnScope ["_law_script", "_law_k", "_law_cell", "_law_seed"] ["_law_script", "_law_k"] (defScope sBox) :=
  ⟨rfl, rfl, rfl, by decide +kernel, rfl, by decide +kernel, by decide +kernel⟩
def spBox (K : PySem.W.Frag) : Sp := fun vs H Q _ => ∃ (a : Addr) (ns : List Int) (k : Int), vs = [.ref a, .int k] ∧ SqL K H a (ns.map V.int) ∧ 0 ≤ k ∧
  ∀ p H', Same H H' → H p = none → Box H' p → Q (.ref p) H'
theorem at_ints {ns : List Int} {k : Int} (h0 : 0 ≤ k) (h : k < (ns.map V.int).length) : ∃ v : Int, atI (ns.map V.int) k = some (.int v) := by
  rw [List.length_map] at h
  refine ⟨ns[k.toNat]'(by omega), at_of (j := k.toNat) (by omega) ?_⟩
  rw [List.getElem?_map, List.getElem?_eq_getElem (by omega)]
  rfl
theorem at_mem {xs : List V} {r : Int} (h0 : 0 ≤ r) (h1 : r < (xs.length : Int)) : ∃ v, v ∈ xs ∧ atI xs r = some v := by
  have h2 : r.toNat < xs.length := by omega
  exact ⟨xs[r.toNat], List.getElem_mem h2, at_of (j := r.toNat) (by omega) (List.getElem?_eq_getElem h2)⟩
theorem lt_line {n : Nat} (h : n < 100000) : n < sizeLine := Nat.lt_of_lt_of_le h (by decide)
theorem pick2 {x y : Int} {b : Bool} : ∃ z : Int, atI [V.int x, V.int y] (if b = true then 1 else 0) = some (.int z) := by
  cases b
  · exact ⟨x, rfl⟩
  · exact ⟨y, rfl⟩
theorem same_new {H : Hp} {p : Addr} (h : H p = none) (o : HO) : Same H (upd H p o) := fun b u q => by rw [upd_ne (ne_of_none q h)]; exact q
theorem ok_box (F : Fun K "_law_box" "_law_box" sBox f fd) (T : TB mg) : FnOk P w K mg base CX0 1 f fd ["_law_script", "_law_k"] (spBox K) := by
  refine F.ok scBox (fun vs H Q E h => ?_) (fun cdv A outer s H vs Q E hr h => ?_)
  · obtain ⟨a, ns, k, rfl, _⟩ := h
    rfl
  obtain ⟨a, ns, k, rfl, hS, h0, q⟩ := h
  refine ⟨_, (pss_cons (ps_set (i := 2) scBox.nd rfl (Or.inl rfl) (pe_op op_add (pe_op op_mul pe_int (pv 1)) pe_int))
  (C8.pss_cut (ps_if (pt_cmpR op_lt (pv 1) (pe_callB Rd.c_len rfl T.n_len (by decide +kernel) (pa_cons (pv 0) pa_nil)) (nomark _)) (pss_one (ps_set (i := 2) scBox.nd rfl (Or.inl rfl) (pe_ix ix_list (pv 0) (pv 1) (fun _ _ => rfl)))) (pss_one (ps_if (pt_cmpR op_gt (pe_callB Rd.c_len rfl T.n_len (by decide +kernel) (pa_cons (pv 0) pa_nil)) pe_int (nomark _)) (pss_one (ps_set (i := 2) scBox.nd rfl (Or.inl rfl) (pe_op op_add (pv 2) (pe_op op_mul (pe_op op_mod (pe_callTy Rd.c_int rfl T.n_int (by decide +kernel) (pa_cons (pe_ix ix_list (pv 0) (pe_op op_mod (pe_callTy Rd.c_int rfl T.n_int (by decide +kernel) (pa_cons (pv 1) pa_nil)) (pe_callB Rd.c_len rfl T.n_len (by decide +kernel) (pa_cons (pv 0) pa_nil))) (fun _ _ => rfl)) pa_nil)) pe_int) pe_int)))) pss_nil)))
  (pss_cons (ps_set (i := 3) scBox.nd rfl (Or.inl rfl) (pe_op op_add (pe_op op_mod (pe_callTy Rd.c_int rfl T.n_int (by decide +kernel) (pa_cons (pe_op op_add (pe_op op_mul (pe_op op_mod (pe_callTy Rd.c_int rfl T.n_int (by decide +kernel) (pa_cons (pv 2) pa_nil)) pe_int) pe_int) (pe_op op_mul pe_int (pv 1))) pa_nil)) pe_int) pe_int))
  (pss_one (ps_ret (pe_lst (pa_cons (pe_ix ix_list (pe_lst (pa_cons pe_int (pa_cons (pv 2) pa_nil))) (pe_callTy Rd.c_int rfl T.n_int (by decide +kernel) (pa_cons (pe_cmpR op_ge (pv 2) (pe_op op_pow pe_int pe_int) (nomark _)) pa_nil)) (fun _ _ => rfl)) (pa_cons (pv 3) (pa_cons pe_int pa_nil))))))))), ?_⟩
  walk_at "rd"
  refine Rd.cut (fun σ' H' => ∃ x : Int, σ' = [some (.ref a), some (.int k), some (.int x), none] ∧ H' = H) ?_ ?_
  · walk_at "rd"
    refine Rd.br (fun cc => ?_) (fun cc => ?_)
    · obtain ⟨v, hv⟩ := at_ints h0 (of_decide_eq_true cc)
      walk_at "rd"
      refine Rd.ixL hS hv ?_
      walk_at "rd"
      exact ⟨v, rfl, rfl⟩
    · walk_at "rd"
      refine Rd.br (fun c2 => ?_) (fun c2 => ?_)
      · have c3 : (0 : Int) < ((ns.map V.int).length : Int) := of_decide_eq_true c2
        obtain ⟨v, hv⟩ := at_ints (ns := ns) (k := k % ((ns.map V.int).length : Int)) (Int.emod_nonneg _ (by omega)) (Int.emod_lt_of_pos _ c3)
        walk_at "rd"
        refine Rd.ixL hS hv ?_
        walk_at "rd"
        exact ⟨_, rfl, rfl⟩
      · walk_at "rd"
        exact ⟨_, rfl, rfl⟩
  · rintro σ' H' ⟨x, rfl, rfl⟩
    walk_at "rd"
    intro p hp
    walk_at "rd"
    obtain ⟨z, hz⟩ := pick2 (x := 0) (y := x) (b := decide ((10 : Int) ^ Int.toNat 18 ≤ x))
    refine Rd.ixL (SqL.of upd_same) hz ?_
    walk_at "rd"
    intro p2 hp2
    have s1 : Same H' (upd (upd H' p (.lst [.int 0, .int x])) p2 (.lst [.int z, .int ((x % 2147483629 * 48271 + 40692 * k) % 2147483629 + 1), .int 0])) := (same_new hp _).trans (same_new hp2 _)
    exact q p2 _ s1 ((same_new hp _).free hp2) ⟨_, _, _, upd_same⟩
end
end K01
namespace K01
open PySem L2
local macro_rules | `(tactic| walk_at "ne") => `(tactic| first
  | assumption
  | exact Ne.symm (by assumption)
  | exact ne_of_none (by walk_at "hp") (by assumption)
  | exact Ne.symm (ne_of_none (by walk_at "hp") (by assumption)))
local macro_rules | `(tactic| walk_at "hp") => `(tactic| first
  | assumption
  | with_reducible exact upd_same
  | exact Eq.trans (upd_ne (by walk_at "ne")) (by walk_at "hp"))
local macro_rules | `(tactic| walk_at "lit") => `(tactic| first
  | ((with_reducible show atI _ 0 = _); exact rfl) | ((with_reducible show atI _ 1 = _); exact rfl) | ((with_reducible show atI _ 2 = _); exact rfl)
  | ((with_reducible show atI _ 3 = _); exact rfl) | ((with_reducible show atI _ 4 = _); exact rfl) | ((with_reducible show atI _ (-1) = _); exact rfl))
local macro_rules | `(tactic| walk_at "litN") => `(tactic| first
  | ((with_reducible show ixN _ 0 = _); exact rfl) | ((with_reducible show ixN _ 1 = _); exact rfl) | ((with_reducible show ixN _ 2 = _); exact rfl))
local macro_rules | `(tactic| walk_at "sqL") => `(tactic| first
  | ((with_reducible show SqL _ _ _ _); assumption)
  | exact SqL.of (by walk_at "hp"))
local macro_rules | `(tactic| walk_at "sqT") => `(tactic| first
  | ((with_reducible show SqT _ _ _ _); assumption)
  | exact SqT.of (by walk_at "hp"))
local macro_rules | `(tactic| walk_at "rd1") => `(tactic| first
  | with_reducible refine Rd.seq ?_
  | with_reducible refine Rd.asg ?_
  | ((with_reducible show tVar _ _ _ _); refine Rd.var (by exact rfl) ?_)
  | with_reducible refine Rd.cst ?_
  | with_reducible refine Rd.gname ?_
  | with_reducible refine Rd.ret ?_
  | with_reducible refine Rd.next ?_
  | with_reducible refine Rd.op ?_
  | with_reducible refine Rd.un ?_
  | with_reducible refine Rd.cons_ ?_
  | with_reducible refine Rd.nil_ ?_
  | with_reducible refine Rd.cb ?_
  | with_reducible refine Rd.int_ ?_
  | with_reducible refine Rd.intB ?_
  | with_reducible refine Rd.rI0_ ?_
  | ((with_reducible show rI CMul _ _ _ _ _); refine Rd.rI_ (by first | exact Or.inl ⟨by decide, by decide⟩ | exact Or.inr ⟨by decide, by decide⟩ | assumption) ?_)
  | ((with_reducible show rI CDiv _ _ _ _ _); refine Rd.rI_ ⟨by omega, by omega⟩ ?_)
  | ((with_reducible show rI CPow _ _ _ _ _); refine Rd.rI_ ⟨by decide, by decide, by decide⟩ ?_)
  | ((with_reducible show rI (fun _ j => 0 < j) _ _ _ _ _); refine Rd.rI_ (by show (0 : Int) < _; omega) ?_)
  | with_reducible refine Rd.rU_ ?_
  | ((with_reducible show rEq _ _ _ _); refine Rd.eq_ (by exact rfl) ?_)
  | ((with_reducible show rNe _ _ _ _); refine Rd.ne_ (by exact rfl) ?_)
  | with_reducible refine Rd.test ?_
  | with_reducible refine Rd.testB ?_
  | with_reducible refine Rd.exbl ?_
  | with_reducible refine Rd.ifs ?_
  | with_reducible refine Rd.ifE ?_
  | with_reducible refine Rd.and_ ?_
  | with_reducible refine Rd.or_ ?_
  | with_reducible refine Rd.not_ ?_
  | with_reducible refine Rd.andV ?_
  | with_reducible refine Rd.orV ?_
  | with_reducible refine Rd.notV ?_
  | with_reducible refine Rd.drop ?_
  | with_reducible refine Rd.cont ?_
  | with_reducible refine Rd.brk ?_
  | with_reducible refine Rd.lst_ ?_
  | with_reducible refine Rd.tup_ ?_
  | ((with_reducible show List.length _ ≤ sizeLine ∧ _); refine Rd.new_ (Rd.sz (by exact Nat.le_of_ble_eq_true rfl)) ?_)
  | with_reducible refine Rd.call_ ?_
  | with_reducible refine Rd.gsub ?_
  | ((with_reducible show rSetL _ _ _ _ _); refine Rd.setL (by walk_at "hp") (by walk_at "litN") ?_)
  | ((with_reducible show rIxL _ _ _ _ _); refine Rd.ixL (by walk_at "sqL") (by walk_at "lit") ?_)
  | ((with_reducible show rIxT _ _ _ _ _); refine Rd.ixT (by walk_at "sqT") (by walk_at "lit") ?_)
  | ((with_reducible show Rd.rLen _ _ _ _); refine Rd.lenL (by walk_at "sqL") ?_)
  | ((with_reducible show Rd.rLen _ _ _ _); refine Rd.lenT (by walk_at "sqT") ?_)
  | ((with_reducible show Rd.rTupOf _ _ _ _); refine Rd.tupL (by walk_at "sqL") ?_)
  | ((with_reducible show Rd.rTupOf _ _ _ _); refine Rd.tupT (by walk_at "sqT") ?_)
  | ((with_reducible show Rd.rLstOf _ _ _ _); refine Rd.lstL (by walk_at "sqL") ?_)
  | ((with_reducible show Rd.rLstOf _ _ _ _); refine Rd.lstT (by walk_at "sqT") ?_)
  | with_reducible refine Rd.rng1 ?_
  | with_reducible refine Rd.yes ?_
  | ((with_reducible show rCat _ _ _ _); refine Rd.catL (by walk_at "hp") (by walk_at "hp") (Rd.sz (by exact Nat.le_of_ble_eq_true rfl)) ?_)
  | with_reducible refine iteT ?_
  | with_reducible refine iteF ?_)
local macro_rules | `(tactic| walk_at "rd") => `(tactic| repeat walk_at "rd1")
/-! values of any depth: no object of them but those of N -/
def Atom : V → Prop
  | .non => True
  | .bl _ => True
  | .int _ => True
  | .str _ => True
  | _ => False
def Dat (N : Addr → Prop) : Nat → Hp → V → Prop
  | 0, _, v => Atom v
  | n + 1, H, v => Atom v ∨ ∃ a xs, v = .ref a ∧ N a ∧ (H a = some (.lst xs) ∨ H a = some (.tup xs)) ∧ xs.length ≤ 3 ∧ ∀ x ∈ xs, Dat N n H x
theorem Dat.mono {N N' : Addr → Prop} {H H' : Hp} (hN : ∀ a, N a → N' a) (e : ∀ a o, N a → H a = some o → H' a = some o) : ∀ {n : Nat} {v : V}, Dat N n H v → Dat N' n H' v
  | 0, _, h => h
  | n + 1, v, h => by
    rcases h with h | ⟨a, xs, hv, ha, ho, hl, hx⟩
    · exact .inl h
    · exact .inr ⟨a, xs, hv, hN a ha, ho.imp (e a _ ha) (e a _ ha), hl, fun x hm => Dat.mono hN e (hx x hm)⟩
/-- all but p is as it was -/
def Ext (p : Addr) (H H' : Hp) : Prop := ∀ b o, b ≠ p → H b = some o → H' b = some o
theorem Ext.refl (p : Addr) (H : Hp) : Ext p H H := fun _ _ _ h => h
theorem Ext.trans {p : Addr} {H H1 H2 : Hp} (a : Ext p H H1) (b : Ext p H1 H2) : Ext p H H2 := fun c o hc h => b c o hc (a c o hc h)
theorem Ext.put {p : Addr} {H : Hp} (o : HO) : Ext p H (upd H p o) := fun b u hb h => by rw [upd_ne hb]; exact h
theorem Ext.new {p a : Addr} {H : Hp} (h : H a = none) (o : HO) : Ext p H (upd H a o) := fun b u _ q => by rw [upd_ne (ne_of_none q h)]; exact q
theorem Put.ext {p : Addr} {H H' : Hp} (h : Put p H H') : Ext p H H' := fun b o hb e => by rw [h.off b hb]; exact e
theorem Put.none {p a : Addr} {H H' : Hp} (h : Put p H H') (ha : H' a = none) : a ≠ p ∧ H a = none := by
  obtain ⟨x, s, c, e⟩ := h.box
  have ne : a ≠ p := fun z => by rw [z, e] at ha; cases ha
  exact ⟨ne, by rw [← h.off a ne]; exact ha⟩
theorem Box.ne {p a : Addr} {H : Hp} (h : Box H p) (ha : H a = none) : a ≠ p := fun z => by
  obtain ⟨x, s, c, e⟩ := h
  rw [z, e] at ha
  cases ha
theorem Ext.free {p a : Addr} {H H' : Hp} (e : Ext p H H') (hp : Box H p) (hp' : H' a = none) (hne : a ≠ p) : H a = none := by
  cases q : H a with
  | none => rfl
  | some o =>
    rw [e a o hne q] at hp'
    cases hp'
/-- _law_some(box, d), d below n -/
def spSome (n : Nat) : Sp := fun vs H Q _ => ∃ (p : Addr) (d : Int), vs = [.ref p, .int d] ∧ Box H p ∧ 0 ≤ d ∧ d.toNat < n ∧
  ∀ v H', Ext p H H' → Box H' p → Dat (fun a => H a = none) (d.toNat + 1) H' v → Q v H'
abbrev sSome : Stmt := top 17
abbrev nSome : List Str := ["_law_box_here", "_law_deep", "_law_form", "_law_found", "_law_some_here", "_law_turn"]
theorem scSome : FnScope nSome ["_law_box_here", "_law_deep"] (defScope sSome) :=
  ⟨rfl, rfl, rfl, by decide +kernel, rfl, by decide +kernel, by decide +kernel⟩
section
variable {P : Program} {w : World} {K : PySem.W.Frag} {mg : Str → Option Value} {base : Heap} {f fT : Addr} {fd fdT : FuncData}
theorem step_some {n k : Nat} (hk : 1 ≤ k) (F : Fun K "_law_some" "_law_some" sSome f fd) (T : TB mg)
    (GT : FnOk P w K mg base CX0 1 fT fdT ["_law_box_here", "_law_many"] spTake) (bT : Binds K fdT ["_law_box_here", "_law_many"] []) (kT : PySem.W.keepIn K (.ref fT) = true) (mT : mg "_law_take" = some (.ref fT))
    (GS : FnOk P w K mg base CX0 k f fd ["_law_box_here", "_law_deep"] (spSome n)) (bS : Binds K fd ["_law_box_here", "_law_deep"] []) (kS : PySem.W.keepIn K (.ref f) = true) (mS : mg "_law_some" = some (.ref f)) :
    FnOk P w K mg base CX0 (k + 1) f fd ["_law_box_here", "_law_deep"] (spSome (n + 1)) := by
  refine F.ok scSome (fun vs H Q E h => ?_) (fun cdv A outer s H vs Q E hr h => ?_)
  · obtain ⟨p, d, rfl, _⟩ := h
    rfl
  obtain ⟨p, d, rfl, hB, h0, hn, q⟩ := h
  refine ⟨_, (pss_cons (ps_set (i := 2) scSome.nd rfl (Or.inl rfl) (pe_call GT (hr.mono (by omega)) rfl mT kT bT .nil pass0 (pa_cons (pv 0) (pa_cons pe_int pa_nil))))
  (C8.pss_cut (ps_if (PW.pt (pw_and (pt_cmpR op_lt (pv 2) pe_int (nomark _)) (pw_and1 (pt_cmpR op_gt (pv 1) pe_int (nomark _))))) (pss_cons (ps_setLc (i := 3) (own := [("_law_turn", 5)]) (g := gName 5) (tt := tYes) rfl scSome.nd rfl rfl (sw_true rfl rfl rfl (by decide +kernel)) (pi_range1 rfl T.n_range (pa_cons (pe_call GT (hr.mono (by omega)) rfl mT kT bT .nil pass0 (pa_cons (pv 0) (pa_cons pe_int pa_nil))) pa_nil)) (blkOk_by (N := nSome) (sc := defScope sSome) (by decide +kernel)) (fun _ _ _ _ _ => (pg_name (i := 5) scSome.nd rfl (Or.inl rfl))) (fun _ _ _ _ _ => pts_nil) (fun _ _ _ _ _ => (pe_call GS (hr.mono (by omega)) rfl mS kS bS .nil pass0 (pa_cons (pv 0) (pa_cons (pe_op op_sub (pv 1) pe_int) pa_nil)))))
  (pss_one (ps_ret (pe_ifExp (pt_cmpR op_lt (pv 2) pe_int (nomark _)) (pe_callTy Rd.c_tuple rfl T.n_tuple (by decide +kernel) (pa_cons (pv 3) pa_nil)) (pv 3))))) pss_nil)
  (pss_cons (ps_set (i := 4) scSome.nd rfl (Or.inl rfl) (pe_lst (pa_cons pe_str (pa_cons pe_str (pa_cons pe_str (pa_cons pe_int (pa_cons (pe_un un_neg pe_int) (pa_cons pe_int (pa_cons (pe_op op_pow pe_int pe_int) (pa_cons pe_bl (pa_cons pe_bl (pa_cons pe_non (pa_cons (pe_tup pa_nil) pa_nil)))))))))))))
  (pss_one (ps_ret (pe_ix ix_list (pv 4) (pe_call GT (hr.mono (by omega)) rfl mT kT bT .nil pass0 (pa_cons (pv 0) (pa_cons pe_int pa_nil))) (fun _ _ => rfl))))))), ?_⟩
  walk_at "rd"
  refine use_take hB fun r H1 r0 r1 p1 => ?_
  walk_at "rd"
  refine Rd.cut (fun σ' H' => σ' = [some (.ref p), some (.int d), some (.int r), none, none, none] ∧ H' = H1) ?_ ?_
  · walk_at "rd"
    refine Rd.br (fun c1 => ?_) (fun c1 => ?_)
    · walk_at "rd"
      refine Rd.br (fun c2 => ?_) (fun c2 => ?_)
      · have d0 : 0 < d := of_decide_eq_true c2
        walk_at "rd"
        refine (show iRng1 _ _ _ _ from ?_)
        walk_at "rd"
        refine use_take p1.box fun r2 H2 r20 r21 p2 => ?_
        walk_at "rd"
        refine Rd.rng1_ (by omega) (by omega) fun D hD => ?_
        have nD := (p2.none hD).1
        have hD1 := p1.none (p2.none hD).2
        refine lc_range (lo := 0) (n := r2.toNat) (fun i H' => Ext p H H' ∧ Box H' p ∧ ∃ acc, H' D = some (.lst acc) ∧ acc.length = i ∧ ∀ x ∈ acc, Dat (fun a => H a = none ∧ a ≠ D) d.toNat H' x) ?_ ?_ ?_
        · refine ⟨p1.ext.trans (p2.ext.trans (Ext.new hD _)), ?_, [], upd_same, rfl, fun x hx => nomatch hx⟩
          obtain ⟨x, s, c, e⟩ := p2.box
          exact ⟨x, s, c, by rw [upd_ne (Ne.symm nD)]; exact e⟩
        · rintro i H3 hi ⟨e3, b3, acc, ha, hl, hx⟩
          walk_at "rd"
          refine ⟨rfl, ?_⟩
          walk_at "rd"
          refine ⟨p, d - 1, rfl, b3, by omega, by omega, fun v H4 e4 b4 hv => ?_⟩
          have hD4 : H4 D = some (.lst acc) := e4 D _ nD ha
          have hDn : H D = none := hD1.2
          refine ⟨acc, hD4, lt_line (by omega), fun b o hb e => ?_, ?_, acc ++ [v], upd_same, by rw [List.length_append, hl]; rfl, fun x hxm => ?_⟩
          · rw [upd_ne (ne_of_none e hDn)]
            exact e4 b o hb (e3 b o hb e)
          · obtain ⟨x, s, c, e⟩ := b4
            exact ⟨x, s, c, by rw [upd_ne (Ne.symm nD)]; exact e⟩
          · rcases List.mem_append.mp hxm with hm | hm
            · exact Dat.mono (fun a h => h) (fun a o h e => by rw [upd_ne h.2]; exact e4 a o (hB.ne h.1) e) (hx x hm)
            · rw [List.mem_singleton.mp hm]
              rw [show (d - 1).toNat + 1 = d.toNat by omega] at hv
              refine Dat.mono (fun a h => ⟨?_, fun z => by rw [z, ha] at h; cases h⟩) (fun a o h e => by rw [upd_ne (fun z => by rw [z, ha] at h; cases h)]; exact e) hv
              cases q2 : H a with
              | none => rfl
              | some o =>
                rw [e3 a o (b3.ne h) q2] at h
                cases h
        · rintro H3 ⟨e3, b3, acc, ha, hl, hx⟩
          have hDn : H D = none := hD1.2
          have h3 : acc.length ≤ 3 := by omega
          walk_at "rd"
          refine Rd.br (fun c3 => ?_) (fun c3 => ?_)
          · walk_at "rd"
            intro l hl2
            have b5 : Box (upd H3 l (.tup acc)) p := by
              obtain ⟨x, s, c, e⟩ := b3
              exact ⟨x, s, c, by rw [upd_ne (ne_of_none e hl2)]; exact e⟩
            have e5 : Ext p H (upd H3 l (.tup acc)) := e3.trans (Ext.new hl2 _)
            have lp : l ≠ p := b3.ne hl2
            refine q _ _ e5 b5 (.inr ⟨l, acc, rfl, ?_, .inr upd_same, h3, fun x hm => Dat.mono (fun a h => h.1) (fun a o h e => ?_) (hx x hm)⟩)
            · show H l = none
              cases q2 : H l with
              | none => rfl
              | some o =>
                rw [e3 l o lp q2] at hl2
                cases hl2
            · rw [upd_ne (ne_of_none e hl2)]
              exact e
          · walk_at "rd"
            exact q _ _ e3 b3 (.inr ⟨D, acc, rfl, hDn, .inl ha, h3, fun x hm => Dat.mono (fun a h => h.1) (fun a o h e => e) (hx x hm)⟩)
      · walk_at "rd"
        exact ⟨rfl, rfl⟩
    · walk_at "rd"
      exact ⟨rfl, rfl⟩
  · rintro σ' H' ⟨rfl, rfl⟩
    walk_at "rd"
    intro t ht
    walk_at "rd"
    intro l hl
    walk_at "rd"
    have tp : t ≠ p := p1.box.ne ht
    have lp : l ≠ p := fun z => by
      obtain ⟨x, s, c, e⟩ := p1.box
      rw [z, upd_ne (ne_of_none e ht), e] at hl
      cases hl
    have b6 : Box (upd (upd H' t (.tup [])) l (.lst [.str "", .str "a b", .str "c\n", .int 0, .int (-1), .int 61, .int (10 ^ Int.toNat 30), .bl true, .bl false, .non, .ref t])) p := by
      obtain ⟨x, s, c, e⟩ := p1.box
      exact ⟨x, s, c, by rw [upd_ne (Ne.symm lp), upd_ne (Ne.symm tp)]; exact e⟩
    refine use_take b6 fun r4 H4 r40 r41 p4 => ?_
    have lt' : t ≠ l := fun z => by
      rw [← z, upd_same] at hl
      cases hl
    have hl4 : H4 l = some (.lst [.str "", .str "a b", .str "c\n", .int 0, .int (-1), .int 61, .int (10 ^ Int.toNat 30), .bl true, .bl false, .non, .ref t]) := by
      rw [p4.off l lp]
      exact upd_same
    have ht4 : H4 t = some (.tup []) := by
      rw [p4.off t tp, upd_ne lt']
      exact upd_same
    obtain ⟨v, hv, ha⟩ := at_mem (xs := [.str "", .str "a b", .str "c\n", .int 0, .int (-1), .int 61, .int (10 ^ Int.toNat 30), .bl true, .bl false, .non, .ref t]) r40 r41
    refine Rd.ixL (SqL.of hl4) ha (q v H4 ?_ p4.box ?_)
    · refine fun b o hb e => ?_
      have e1 := p1.ext b o hb e
      rw [p4.off b hb, upd_ne (ne_of_none (same_new ht (.tup []) b o e1) hl)]
      exact same_new ht (.tup []) b o e1
    · by_cases hvt : v = .ref t
      · exact .inr ⟨t, [], hvt, (p1.none ht).2, .inr ht4, by decide, fun x hx => nomatch hx⟩
      · refine .inl ?_
        simp only [List.mem_cons, List.not_mem_nil, or_false] at hv
        rcases hv with e | e | e | e | e | e | e | e | e | e | e <;> first | exact absurd e hvt | (rw [e]; trivial)
theorem none_some {k : Nat} : FnOk P w K mg base CX0 k f fd ["_law_box_here", "_law_deep"] (spSome 0) := by
  have no : ∀ vs H Q E, ¬ spSome 0 vs H Q E := fun vs H Q E h => by
    obtain ⟨_, d, _, _, _, h2, _⟩ := h
    omega
  exact ⟨fun vs H Q E h => absurd h (no vs H Q E), fun A outer s H args us vs Q E _ _ _ _ h => absurd h (no vs H Q E)⟩
theorem ok_some (F : Fun K "_law_some" "_law_some" sSome f fd) (T : TB mg)
    (GT : FnOk P w K mg base CX0 1 fT fdT ["_law_box_here", "_law_many"] spTake) (bT : Binds K fdT ["_law_box_here", "_law_many"] []) (kT : PySem.W.keepIn K (.ref fT) = true) (mT : mg "_law_take" = some (.ref fT))
    (bS : Binds K fd ["_law_box_here", "_law_deep"] []) (kS : PySem.W.keepIn K (.ref f) = true) (mS : mg "_law_some" = some (.ref f)) :
    ∀ n : Nat, FnOk P w K mg base CX0 (n + 1) f fd ["_law_box_here", "_law_deep"] (spSome n)
  | 0 => none_some
  | n + 1 => step_some (Nat.succ_le_succ (Nat.zero_le n)) F T GT bT kT mT (ok_some F T GT bT kT mT bS kS mS n) bS kS mS
end
end K01
namespace K01
open PySem L2
local macro_rules | `(tactic| walk_at "ne") => `(tactic| first
  | assumption
  | exact Ne.symm (by assumption)
  | exact ne_of_none (by assumption) (by assumption)
  | exact Ne.symm (ne_of_none (by assumption) (by assumption)))
local macro_rules | `(tactic| walk_at "hp") => `(tactic| first
  | assumption
  | with_reducible exact upd_same
  | exact Eq.trans (upd_ne (by walk_at "ne")) (by walk_at "hp"))
local macro_rules | `(tactic| walk_at "lit") => `(tactic| first
  | ((with_reducible show atI _ 0 = _); exact rfl) | ((with_reducible show atI _ 1 = _); exact rfl) | ((with_reducible show atI _ 2 = _); exact rfl)
  | ((with_reducible show atI _ 3 = _); exact rfl) | ((with_reducible show atI _ 4 = _); exact rfl) | ((with_reducible show atI _ (-1) = _); exact rfl))
local macro_rules | `(tactic| walk_at "litN") => `(tactic| first
  | ((with_reducible show ixN _ 0 = _); exact rfl) | ((with_reducible show ixN _ 1 = _); exact rfl) | ((with_reducible show ixN _ 2 = _); exact rfl))
local macro_rules | `(tactic| walk_at "sqL") => `(tactic| first
  | ((with_reducible show SqL _ _ _ _); assumption)
  | exact SqL.of (by walk_at "hp"))
local macro_rules | `(tactic| walk_at "sqT") => `(tactic| first
  | ((with_reducible show SqT _ _ _ _); assumption)
  | exact SqT.of (by walk_at "hp"))
local macro_rules | `(tactic| walk_at "ty") => `(tactic| with_reducible first
  | exact Rd.tyInt | exact Rd.tyStr | exact Rd.tyBl | exact Rd.tyNon
  | exact Rd.tyLst (by walk_at "hp") | exact Rd.tyTup (by walk_at "hp"))
local macro_rules | `(tactic| walk_at "kit") => `(tactic| with_reducible first | exact Rd.kit1 | exact Rd.kit2 | exact Rd.kit3 | exact Rd.kit4 | exact Rd.kit5 | exact Rd.kit6 | exact Rd.kit7 | exact Rd.kit8 | exact Rd.kit9 | exact Rd.kit10 | exact Rd.kit11 | exact Rd.kit12 | exact Rd.kit13 | exact Rd.kit14 | exact Rd.kit15 | exact Rd.kit16 | exact Rd.kit17 | exact Rd.kit18 | exact Rd.kit19 | exact Rd.kit20 | exact Rd.kit21 | exact Rd.kit22 | exact Rd.kit23 | exact Rd.kit24 | exact Rd.kit25 | exact Rd.kit26 | exact Rd.kit27 | exact Rd.kit28 | exact Rd.kit29 | exact Rd.kit30)
local macro_rules | `(tactic| walk_at "rd1") => `(tactic| first
  | with_reducible refine Rd.seq ?_
  | with_reducible refine Rd.asg ?_
  | ((with_reducible show tVar _ _ _ _); refine Rd.var (by exact rfl) ?_)
  | with_reducible refine Rd.cst ?_
  | with_reducible refine Rd.gname ?_
  | with_reducible refine Rd.ret ?_
  | with_reducible refine Rd.next ?_
  | with_reducible refine Rd.op ?_
  | with_reducible refine Rd.un ?_
  | with_reducible refine Rd.cons_ ?_
  | with_reducible refine Rd.nil_ ?_
  | with_reducible refine Rd.cb ?_
  | with_reducible refine Rd.int_ ?_
  | with_reducible refine Rd.intB ?_
  | with_reducible refine Rd.rI0_ ?_
  | ((with_reducible show rI CMul _ _ _ _ _); refine Rd.rI_ (by first | exact Or.inl ⟨by decide, by decide⟩ | exact Or.inr ⟨by decide, by decide⟩ | assumption) ?_)
  | ((with_reducible show rI CDiv _ _ _ _ _); refine Rd.rI_ ⟨by omega, by omega⟩ ?_)
  | ((with_reducible show rI CPow _ _ _ _ _); refine Rd.rI_ ⟨by decide, by decide, by decide⟩ ?_)
  | ((with_reducible show rI (fun _ j => 0 < j) _ _ _ _ _); refine Rd.rI_ (by show (0 : Int) < _; omega) ?_)
  | with_reducible refine Rd.rU_ ?_
  | ((with_reducible show rEq _ _ _ _); refine Rd.eq_ (by exact rfl) ?_)
  | ((with_reducible show rNe _ _ _ _); refine Rd.ne_ (by exact rfl) ?_)
  | with_reducible refine Rd.test ?_
  | with_reducible refine Rd.testB ?_
  | with_reducible refine Rd.exbl ?_
  | with_reducible refine Rd.ifs ?_
  | with_reducible refine Rd.ifE ?_
  | with_reducible refine Rd.and_ ?_
  | with_reducible refine Rd.or_ ?_
  | with_reducible refine Rd.not_ ?_
  | with_reducible refine Rd.andV ?_
  | with_reducible refine Rd.orV ?_
  | with_reducible refine Rd.notV ?_
  | with_reducible refine Rd.drop ?_
  | with_reducible refine Rd.cont ?_
  | with_reducible refine Rd.brk ?_
  | with_reducible refine Rd.lst_ ?_
  | with_reducible refine Rd.tup_ ?_
  | ((with_reducible show List.length _ ≤ sizeLine ∧ _); refine Rd.new_ (Rd.sz (by exact Nat.le_of_ble_eq_true rfl)) ?_)
  | with_reducible refine Rd.call_ ?_
  | with_reducible refine Rd.gsub ?_
  | ((with_reducible show rSetL _ _ _ _ _); refine Rd.setL (by walk_at "hp") (by walk_at "litN") ?_)
  | ((with_reducible show rIxL _ _ _ _ _); refine Rd.ixL (by walk_at "sqL") (by walk_at "lit") ?_)
  | ((with_reducible show rIxT _ _ _ _ _); refine Rd.ixT (by walk_at "sqT") (by walk_at "lit") ?_)
  | ((with_reducible show Rd.rLen _ _ _ _); refine Rd.lenL (by walk_at "sqL") ?_)
  | ((with_reducible show Rd.rLen _ _ _ _); refine Rd.lenT (by walk_at "sqT") ?_)
  | ((with_reducible show Rd.rTupOf _ _ _ _); refine Rd.tupL (by walk_at "sqL") ?_)
  | ((with_reducible show Rd.rTupOf _ _ _ _); refine Rd.tupT (by walk_at "sqT") ?_)
  | ((with_reducible show Rd.rLstOf _ _ _ _); refine Rd.lstL (by walk_at "sqL") ?_)
  | ((with_reducible show Rd.rLstOf _ _ _ _); refine Rd.lstT (by walk_at "sqT") ?_)
  | with_reducible refine Rd.rng1 ?_
  | with_reducible refine Rd.yes ?_
  | ((with_reducible show rCat _ _ _ _); refine Rd.catL (by walk_at "hp") (by walk_at "hp") (Rd.sz (by exact Nat.le_of_ble_eq_true rfl)) ?_)
  | ((with_reducible show rIsi _ _ _ _); refine Rd.isi (by walk_at "ty") (by walk_at "kit") ?_)
  | ((with_reducible show rIsiT _ _ _ _); refine Rd.isiT2 (by walk_at "hp") (by walk_at "ty") (by walk_at "kit") (by walk_at "kit") ?_)
  | with_reducible refine Rd.bm0 ?_
  | with_reducible refine Rd.bm ?_
  | ((with_reducible show tyV _ "list" (V.ref _) _ ∧ _); refine Rd.tyL (by walk_at "sqL") ?_)
  | ((with_reducible show gTup _ _ _ _ _ _ _); refine Rd.gtup (by walk_at "sqT") (by exact rfl) ?_)
  | ((with_reducible show gUnl _ _ _ _ _ _ _); refine Rd.gunl (by walk_at "sqL") (by exact rfl) ?_)
  | with_reducible refine Rd.gcons ?_
  | with_reducible refine Rd.gnil ?_
  | ((with_reducible show rNeNil _ _ _ _); refine Rd.neNil (by walk_at "hp") (by walk_at "hp") ?_)
  | with_reducible refine iteT ?_
  | with_reducible refine iteF ?_
  | with_reducible refine Rd.ifNe ?_
  | with_reducible refine Rd.ifEq ?_
  | ((with_reducible show ite (_ = true) _ _); first | refine Rd.ifT (by decide) ?_ | refine Rd.ifF (by decide) ?_)
  | with_reducible refine Rd.lzip ?_)
local macro_rules | `(tactic| walk_at "rd") => `(tactic| repeat walk_at "rd1")
abbrev DatA (n : Nat) (H : Hp) (v : V) : Prop := Dat (fun _ => True) n H v
/-- two values that are to be found alike -/
def Pr (n : Nat) (H : Hp) (v w : V) : Prop := (Atom v ∧ v = w) ∨ ∃ m a b xs, n = m + 1 ∧ v = .ref a ∧ w = .ref b ∧ ((H a = some (.lst xs) ∧ H b = some (.lst xs)) ∨ (H a = some (.tup xs) ∧ H b = some (.tup xs))) ∧ xs.length ≤ 3 ∧ ∀ x ∈ xs, DatA m H x
theorem Pr.of : ∀ {n : Nat} {H : Hp} {v : V}, DatA n H v → Pr n H v v
  | 0, _, _, h => .inl ⟨h, rfl⟩
  | n + 1, _, _, h => by
    rcases h with h | ⟨a, xs, rfl, _, ho, hl, hx⟩
    · exact .inl ⟨h, rfl⟩
    · exact .inr ⟨n, a, a, xs, rfl, rfl, rfl, ho.imp (fun e => ⟨e, e⟩) (fun e => ⟨e, e⟩), hl, hx⟩
def meas (ps : List (Nat × V × V)) : Nat := (ps.map fun p => 4 ^ p.1).sum
theorem meas_app (ps qs : List (Nat × V × V)) : meas (ps ++ qs) = meas ps + meas qs := by
  unfold meas
  rw [List.map_append, List.sum_append]
theorem meas_len : ∀ ps : List (Nat × V × V), ps.length ≤ meas ps
  | [] => Nat.le_refl 0
  | p :: ps => by
    have ih := meas_len ps
    have h1 : 1 ≤ 4 ^ p.1 := Nat.one_le_pow _ _ (by decide)
    show ps.length + 1 ≤ ((4 ^ p.1) :: ps.map fun p => 4 ^ p.1).sum
    rw [List.sum_cons]
    unfold meas at ih
    omega
theorem meas_xs (m : Nat) (xs : List V) : meas (xs.map fun x => (m, x, x)) = xs.length * 4 ^ m := by
  unfold meas
  rw [List.map_map]
  induction xs with
  | nil => simp
  | cons x xs ih =>
    rw [List.map_cons, List.sum_cons, ih, List.length_cons, Nat.succ_mul]
    simp only [Function.comp]
    omega
/-- what holds between two turns: the stack at l -/
def AW (H : Hp) (l : Addr) (v1 v2 : V) (m : Nat) (σ' : L2.St) (H' : Hp) : Prop := ∃ (ts : List Addr) (ps : List (Nat × V × V)) (o1 o2 : Option V), σ' = [some v1, some v2, some (.ref l), o1, o2] ∧ Same H H' ∧ H l = none ∧ H' l = some (.lst (ts.map V.ref)) ∧ ts.length = ps.length ∧
  (∀ (j : Nat) (t : Addr) (p : Nat × V × V), ts[j]? = some t → ps[j]? = some p → H' t = some (.tup [p.2.1, p.2.2])) ∧ (∀ p ∈ ps, Pr p.1 H p.2.1 p.2.2) ∧ m = meas ps ∧ m ≤ 20000
def spAlike : Sp := fun vs H Q _ => ∃ (n : Nat) (v w : V), vs = [v, w] ∧ n ≤ 7 ∧ Pr n H v w ∧ ∀ H', Same H H' → Q (.bl true) H'
abbrev sAlike : Stmt := top 16
theorem scAlike : FnScope ["_law_found", "_law_due", "_law_left", "_law_one", "_law_other"] ["_law_found", "_law_due"] (defScope sAlike) :=
  ⟨rfl, rfl, rfl, by decide +kernel, rfl, by decide +kernel, by decide +kernel⟩
section
variable {P : Program} {w : World} {K : PySem.W.Frag} {mg : Str → Option Value} {base : Heap} {f : Addr} {fd : FuncData}
theorem ok_alike (F : Fun K "_law_alike" "_law_alike" sAlike f fd) (T : TB mg) : FnOk P w K mg base CX0 1 f fd ["_law_found", "_law_due"] spAlike := by
  refine F.ok scAlike (fun vs H Q E h => ?_) (fun cdv A outer s H vs Q E hr h => ?_)
  · obtain ⟨n, v, w', rfl, _⟩ := h
    rfl
  obtain ⟨n, v1, v2, rfl, hn, hP, q⟩ := h
  refine ⟨_, (pss_cons (ps_set (i := 2) scAlike.nd rfl (Or.inl rfl) (pe_lst (pa_cons (pe_tup (pa_cons (pv 0) (pa_cons (pv 1) pa_nil))) pa_nil)))
  (pss_cons (ps_while PassesOwn.never (pt_cmpR (op_neNil hr.units0) (pv 2) (pe_lst pa_nil) (nomark _)) (pss_cons (ps_asg (pe_bm0 PySem.F.plainAttrs_list PySem.F.slot_list_pop PySem.F.type_list_pop mt_pop (pv 2)) (pg_tup rfl (pgs_cons (pg_name (i := 3) scAlike.nd rfl (Or.inl rfl)) (pgs_cons (pg_name (i := 4) scAlike.nd rfl (Or.inl rfl)) pgs_nil))))
  (pss_one (ps_if (pt_val (pe_callB call_isiT rfl T.n_isinstance (by decide +kernel) (pa_cons (pv 4) (pa_cons (pe_tup (pa_cons (pe_bltn (v := .ty "tuple") rfl T.n_tuple (by decide +kernel) rfl) (pa_cons (pe_bltn (v := .ty "list") rfl T.n_list (by decide +kernel) rfl) pa_nil))) pa_nil)))) (pss_cons (ps_if (PW.pt (pw_or (pt_cmpR op_ne (pe_callB call_isi rfl T.n_isinstance (by decide +kernel) (pa_cons (pv 3) (pa_cons (pe_bltn (v := .ty "tuple") rfl T.n_tuple (by decide +kernel) rfl) pa_nil))) (pe_callB call_isi rfl T.n_isinstance (by decide +kernel) (pa_cons (pv 4) (pa_cons (pe_bltn (v := .ty "tuple") rfl T.n_tuple (by decide +kernel) rfl) pa_nil))) (nomark _)) (pw_or1 (pt_cmpR op_ne (pe_callB call_isi rfl T.n_isinstance (by decide +kernel) (pa_cons (pv 3) (pa_cons (pe_bltn (v := .ty "list") rfl T.n_list (by decide +kernel) rfl) pa_nil))) (pe_callB call_isi rfl T.n_isinstance (by decide +kernel) (pa_cons (pv 4) (pa_cons (pe_bltn (v := .ty "list") rfl T.n_list (by decide +kernel) rfl) pa_nil))) (nomark _))))) (pss_one (ps_ret pe_bl)) pss_nil)
  (pss_cons (ps_if (pt_cmpR op_ne (pe_callB Rd.c_len rfl T.n_len (by decide +kernel) (pa_cons (pv 3) pa_nil)) (pe_callB Rd.c_len rfl T.n_len (by decide +kernel) (pa_cons (pv 4) pa_nil)) (nomark _)) (pss_one (ps_ret pe_bl)) pss_nil)
  (pss_one (ps_expr (pe_bm PySem.F.plainAttrs_list PySem.F.slot_list_extend PySem.F.type_list_extend mt_extend (pv 2) (pa_cons (Zl.pe_listZip rfl rfl T.n_list rfl T.n_zip (pa_cons (pv 3) (pa_cons (pv 4) pa_nil))) pa_nil)))))) (pss_one (ps_if (PW.pt (pw_or (pt_val (pe_callB call_isiT rfl T.n_isinstance (by decide +kernel) (pa_cons (pv 3) (pa_cons (pe_tup (pa_cons (pe_bltn (v := .ty "tuple") rfl T.n_tuple (by decide +kernel) rfl) (pa_cons (pe_bltn (v := .ty "list") rfl T.n_list (by decide +kernel) rfl) pa_nil))) pa_nil)))) (pw_or (pt_cmpR op_ne (pe_callB call_isi rfl T.n_isinstance (by decide +kernel) (pa_cons (pv 3) (pa_cons (pe_bltn (v := .ty "bool") rfl T.n_bool (by decide +kernel) rfl) pa_nil))) (pe_callB call_isi rfl T.n_isinstance (by decide +kernel) (pa_cons (pv 4) (pa_cons (pe_bltn (v := .ty "bool") rfl T.n_bool (by decide +kernel) rfl) pa_nil))) (nomark _)) (pw_or1 (pt_cmpR op_ne (pv 3) (pv 4) (nomark _)))))) (pss_one (ps_ret pe_bl)) pss_nil))))))
  (pss_one (ps_ret pe_bl)))), ?_⟩
  walk_at "rd"
  intro t ht
  walk_at "rd"
  intro l hl
  walk_at "rd"
  have s1 : Same H (upd (upd H t (.tup [v1, v2])) l (.lst [.ref t])) := (same_new ht _).trans (same_new hl _)
  have hl0 : H l = none := (same_new ht (.tup [v1, v2])).free hl
  have tl : t ≠ l := fun z => by
    rw [← z, upd_same] at hl
    cases hl
  refine ⟨AW H l v1 v2, ⟨_, [t], [(n, v1, v2)], none, none, rfl, s1, hl0, upd_same, rfl, ?_, ?_, rfl, ?_⟩, ?_⟩
  · intro j t' p h1 h2
    cases j with
    | zero =>
      have e1 : t = t' := by simpa using h1
      have e2 : (n, v1, v2) = p := by simpa using h2
      subst e1 e2
      rw [upd_ne tl]
      exact upd_same
    | succ j => simp at h1
  · intro p hp
    rw [List.mem_singleton.mp hp]
    exact hP
  · show (([(n, v1, v2)] : List (Nat × V × V)).map fun p => 4 ^ p.1).sum ≤ 20000
    rw [List.map_singleton, List.sum_singleton]
    exact Nat.le_trans (Nat.pow_le_pow_right (by decide) hn) (by decide)
  · rintro m σ' H1 ⟨ts, ps, o1, o2, rfl, hS, _, hlst, hlen, hts, hps, rfl, hm⟩
    walk_at "rd"
    intro e he
    walk_at "rd"
    rcases List.eq_nil_or_concat ps with rfl | ⟨ps', p, rfl⟩
    · have e0 : ts = [] := List.length_eq_zero_iff.mp hlen
      subst e0
      walk_at "rd"
      exact q _ (hS.trans (same_new he _))
    · rw [List.concat_eq_append] at hlen hts hps hm ⊢
      have hts0 : ts ≠ [] := fun z => by
        rw [z, List.length_append] at hlen
        simp at hlen
      obtain ⟨ts', t', rfl⟩ : ∃ ts' t', ts = ts' ++ [t'] := ⟨ts.dropLast, ts.getLast hts0, (List.dropLast_concat_getLast hts0).symm⟩
      have hlen' : ts'.length = ps'.length := by simpa using hlen
      have ht' : H1 t' = some (.tup [p.2.1, p.2.2]) := hts ts'.length t' p (by simp) (by rw [hlen']; simp)
      have hold : ∀ (j : Nat) (t : Addr) (p : Nat × V × V), ts'[j]? = some t → ps'[j]? = some p → H1 t = some (.tup [p.2.1, p.2.2]) := fun j t p h1 h2 => hts j t p (by
        rw [List.getElem?_append_left (List.getElem?_eq_some_iff.mp h1).1]; exact h1) (by rw [List.getElem?_append_left (List.getElem?_eq_some_iff.mp h2).1]; exact h2)
      have hp := hps p (List.mem_append_right _ (List.mem_singleton.mpr rfl))
      have hps' : ∀ p ∈ ps', Pr p.1 H p.2.1 p.2.2 := fun p hm => hps p (List.mem_append_left _ hm)
      rw [List.map_append] at hlst ⊢
      have tl' : t' ≠ l := ne_of ht' hlst (fun z => nomatch z)
      have te' : t' ≠ e := ne_of_none ht' he
      have le : l ≠ e := ne_of_none hlst he
      refine Rd.ifT (by cases ts' <;> rfl) ?_
      rw [meas_app] at hm ⊢
      have hp1 : 1 ≤ meas [p] := meas_len [p]
      refine ⟨fun σ' H' => ∃ m', m' < meas ps' + meas [p] ∧ AW H l v1 v2 m' σ' H', fun _ _ h => h, ?_⟩
      walk_at "rd"
      refine Rd.pop_ (xs := ts'.map V.ref) (v := .ref t') (by rw [upd_ne le]; exact hlst) ?_
      -- the pair is off the stack
      have hS2 : Same H (upd (upd H1 e (.lst [])) l (.lst (ts'.map V.ref))) := fun b o hb => by
        rw [upd_ne (ne_of_none hb hl0)]
        exact same_new he _ b o (hS b o hb)
      have fin : ∀ (H' : Hp) (a b : Option V), (∀ b o, b ≠ l → (upd H1 e (.lst [])) b = some o → H' b = some o) → H' l = some (.lst (ts'.map V.ref)) → ∃ m', m' < meas ps' + meas [p] ∧ AW H l v1 v2 m' [some v1, some v2, some (.ref l), a, b] H' := fun H' a b hk hl' =>
        ⟨meas ps', by omega, ts', ps', a, b, rfl, fun b o hb => hk b o (ne_of_none hb hl0) (same_new he _ b o (hS b o hb)), hl0, hl', hlen', fun j t p h1 h2 => by
          have z := hold j t p h1 h2
          exact hk t _ (ne_of z hlst (fun z => nomatch z)) (same_new he _ t _ z), hps', rfl, by omega⟩
      obtain ⟨pn, x1, x2⟩ := p
      dsimp only at hp ht' ⊢
      rcases hp with ⟨hA, rfl⟩ | ⟨m, a, b, xs, rfl, rfl, rfl, ho, hxl, hx⟩
      · have aend : ∀ (c c2 : Addr) (y : V), (upd (upd H1 e (.lst [])) l (.lst (ts'.map V.ref))) c = none → (upd (upd (upd H1 e (.lst [])) l (.lst (ts'.map V.ref))) c (.tup [.ty "tuple", .ty "list"])) c2 = none →
            ∃ m', m' < meas ps' + meas [(pn, x1, x1)] ∧ AW H l v1 v2 m' [some v1, some v2, some (.ref l), some y, some y] (upd (upd (upd (upd H1 e (.lst [])) l (.lst (ts'.map V.ref))) c (.tup [.ty "tuple", .ty "list"])) c2 (.tup [.ty "tuple", .ty "list"])) := fun c c2 y hc hc2 => by
          refine fin _ _ _ (fun b o hb hbo => ?_) ?_
          · have z : (upd (upd H1 e (.lst [])) l (.lst (ts'.map V.ref))) b = some o := by rw [upd_ne hb]; exact hbo
            exact same_new hc2 _ b o (same_new hc _ b o z)
          · exact same_new hc2 _ l _ (same_new hc _ l _ upd_same)
        cases x1 with
        | non =>
          walk_at "rd"
          intro c hc
          walk_at "rd"
          intro c2 hc2
          walk_at "rd"
          exact aend c c2 _ hc hc2
        | bl y =>
          walk_at "rd"
          intro c hc
          walk_at "rd"
          intro c2 hc2
          walk_at "rd"
          exact aend c c2 _ hc hc2
        | int y =>
          walk_at "rd"
          intro c hc
          walk_at "rd"
          intro c2 hc2
          walk_at "rd"
          exact aend c c2 _ hc hc2
        | str y =>
          walk_at "rd"
          intro c hc
          walk_at "rd"
          intro c2 hc2
          walk_at "rd"
          exact aend c c2 _ hc hc2
        | byt y => exact hA.elim
        | flt y => exact hA.elim
        | ref y => exact hA.elim
        | ty y => exact hA.elim
      · have push : ∀ (c : Addr) (H' : Hp) (l2 : Addr) (ts2 : List Addr), (upd (upd H1 e (.lst [])) l (.lst (ts'.map V.ref))) c = none → (∀ b o, (upd (upd (upd H1 e (.lst [])) l (.lst (ts'.map V.ref))) c (.tup [.ty "tuple", .ty "list"])) b = some o → H' b = some o) → ts2.length = xs.length →
            (∀ (j : Nat) (t : Addr) (x y : V), ts2[j]? = some t → xs[j]? = some x → xs[j]? = some y → H' t = some (.tup [x, y])) →
            ∃ m', m' < meas ps' + meas [(m + 1, V.ref a, V.ref b)] ∧ AW H l v1 v2 m' [some v1, some v2, some (.ref l), some (.ref a), some (.ref b)] (upd H' l (.lst (ts'.map V.ref ++ ts2.map V.ref))) := fun c H' l2 ts2 hc hk hl2 hp2 => by
          have hk1 : ∀ b o, b ≠ l → H1 b = some o → H' b = some o := fun b o hb z => by
            refine hk b o (same_new hc _ b o ?_)
            rw [upd_ne hb]
            exact same_new he _ b o z
          have hl' : H' l = some (.lst (ts'.map V.ref)) := hk l _ (same_new hc _ l _ upd_same)
          have mx : meas (xs.map fun x => (m, x, x)) < meas [(m + 1, V.ref a, V.ref b)] := by
            rw [meas_xs]
            show _ < (([(m + 1, V.ref a, V.ref b)] : List (Nat × V × V)).map fun p => 4 ^ p.1).sum
            rw [List.map_singleton, List.sum_singleton, Nat.pow_succ]
            have z : 1 ≤ 4 ^ m := Nat.one_le_pow _ _ (by decide)
            have z2 : xs.length * 4 ^ m ≤ 3 * 4 ^ m := Nat.mul_le_mul_right _ hxl
            omega
          refine ⟨meas (ps' ++ xs.map fun x => (m, x, x)), by rw [meas_app]; omega, ts' ++ ts2, ps' ++ xs.map fun x => (m, x, x), _, _, rfl, fun b o hb => ?_, hl0, by rw [List.map_append]; exact upd_same, by rw [List.length_append, List.length_append, List.length_map, hlen', hl2], fun j t p h1 h2 => ?_, fun p hpm => ?_, rfl, by rw [meas_app]; omega⟩
          · have bl := ne_of_none hb hl0
            rw [upd_ne bl]
            exact hk1 b o bl (hS b o hb)
          · by_cases hj : j < ts'.length
            · rw [List.getElem?_append_left hj] at h1
              rw [List.getElem?_append_left (by omega)] at h2
              have z := hold j t p h1 h2
              have zl := ne_of z hlst (fun z => nomatch z)
              rw [upd_ne zl]
              exact hk1 t _ zl z
            · rw [List.getElem?_append_right (by omega)] at h1
              rw [List.getElem?_append_right (by omega), ← hlen', List.getElem?_map] at h2
              cases hxj : xs[j - ts'.length]? with
              | none =>
                rw [hxj] at h2
                cases h2
              | some x =>
                rw [hxj] at h2
                have e2 : (m, x, x) = p := Option.some.inj h2
                subst e2
                have z := hp2 _ t x x h1 hxj hxj
                rw [upd_ne (ne_of z hl' (fun z => nomatch z))]
                exact z
          · rcases List.mem_append.mp hpm with hpm | hpm
            · exact hps' p hpm
            · obtain ⟨x, hxm, rfl⟩ := List.mem_map.mp hpm
              exact Pr.of (hx x hxm)
        have small : ts'.length + xs.length ≤ 100000 := by
          have z1 := meas_len ps'
          omega
        rcases ho with ⟨ha, hb⟩ | ⟨ha, hb⟩
        · have al : a ≠ l := ne_of_none ha hl0
          have bl : b ≠ l := ne_of_none hb hl0
          have ha1 := hS a _ ha
          have hb1 := hS b _ hb
          have ae : a ≠ e := ne_of_none ha1 he
          have be : b ≠ e := ne_of_none hb1 he
          walk_at "rd"
          intro c hc
          have ha2 : (upd (upd H1 e (.lst [])) l (.lst (ts'.map V.ref))) a = some (.lst xs) := by rw [upd_ne al, upd_ne ae]; exact ha1
          have hb2 : (upd (upd H1 e (.lst [])) l (.lst (ts'.map V.ref))) b = some (.lst xs) := by rw [upd_ne bl, upd_ne be]; exact hb1
          have ac : a ≠ c := ne_of_none ha2 hc
          have bc : b ≠ c := ne_of_none hb2 hc
          have lc : l ≠ c := ne_of_none upd_same hc
          walk_at "rd"
          refine ⟨a, b, xs, xs, rfl, .inl ⟨SqL.of (by walk_at "hp"), SqL.of (by walk_at "hp")⟩, rfl, fun H' l2 ts2 hk hl2 hn2 hn3 hlen2 hlst2 hp2 => ?_⟩
          walk_at "rd"
          refine Rd.ext_ (hk l _ (same_new hc _ l _ upd_same)) hlst2 (Rd.sz (by rw [List.length_map, List.length_map, hlen2]; exact small)) ?_
          walk_at "rd"
          exact push c H' l2 ts2 hc hk hlen2 hp2
        · have al : a ≠ l := ne_of_none ha hl0
          have bl : b ≠ l := ne_of_none hb hl0
          have ha1 := hS a _ ha
          have hb1 := hS b _ hb
          have ae : a ≠ e := ne_of_none ha1 he
          have be : b ≠ e := ne_of_none hb1 he
          walk_at "rd"
          intro c hc
          have ha2 : (upd (upd H1 e (.lst [])) l (.lst (ts'.map V.ref))) a = some (.tup xs) := by rw [upd_ne al, upd_ne ae]; exact ha1
          have hb2 : (upd (upd H1 e (.lst [])) l (.lst (ts'.map V.ref))) b = some (.tup xs) := by rw [upd_ne bl, upd_ne be]; exact hb1
          have ac : a ≠ c := ne_of_none ha2 hc
          have bc : b ≠ c := ne_of_none hb2 hc
          have lc : l ≠ c := ne_of_none upd_same hc
          walk_at "rd"
          refine ⟨a, b, xs, xs, rfl, .inr ⟨SqT.of (by walk_at "hp"), SqT.of (by walk_at "hp")⟩, rfl, fun H' l2 ts2 hk hl2 hn2 hn3 hlen2 hlst2 hp2 => ?_⟩
          walk_at "rd"
          refine Rd.ext_ (hk l _ (same_new hc _ l _ upd_same)) hlst2 (Rd.sz (by rw [List.length_map, List.length_map, hlen2]; exact small)) ?_
          walk_at "rd"
          exact push c H' l2 ts2 hc hk hlen2 hp2
end
end K01
namespace K01
open PySem L2
local macro_rules | `(tactic| walk_at "ne") => `(tactic| first
  | assumption
  | exact Ne.symm (by assumption)
  | exact ne_of_none (by assumption) (by assumption)
  | exact Ne.symm (ne_of_none (by assumption) (by assumption)))
local macro_rules | `(tactic| walk_at "hp") => `(tactic| first
  | assumption
  | with_reducible exact upd_same
  | exact Eq.trans (upd_ne (by walk_at "ne")) (by walk_at "hp"))
local macro_rules | `(tactic| walk_at "lit") => `(tactic| first
  | ((with_reducible show atI _ 0 = _); exact rfl) | ((with_reducible show atI _ 1 = _); exact rfl) | ((with_reducible show atI _ 2 = _); exact rfl)
  | ((with_reducible show atI _ 3 = _); exact rfl) | ((with_reducible show atI _ 4 = _); exact rfl) | ((with_reducible show atI _ (-1) = _); exact rfl))
local macro_rules | `(tactic| walk_at "litN") => `(tactic| first
  | ((with_reducible show ixN _ 0 = _); exact rfl) | ((with_reducible show ixN _ 1 = _); exact rfl) | ((with_reducible show ixN _ 2 = _); exact rfl))
local macro_rules | `(tactic| walk_at "sqL") => `(tactic| first
  | ((with_reducible show SqL _ _ _ _); assumption)
  | exact SqL.of (by walk_at "hp"))
local macro_rules | `(tactic| walk_at "sqT") => `(tactic| first
  | ((with_reducible show SqT _ _ _ _); assumption)
  | exact SqT.of (by walk_at "hp"))
local macro_rules | `(tactic| walk_at "ty") => `(tactic| with_reducible first
  | exact Rd.tyInt | exact Rd.tyStr | exact Rd.tyBl | exact Rd.tyNon
  | exact Rd.tyLst (by walk_at "hp") | exact Rd.tyTup (by walk_at "hp"))
local macro_rules | `(tactic| walk_at "kit") => `(tactic| with_reducible first | exact Rd.kit1 | exact Rd.kit2 | exact Rd.kit3 | exact Rd.kit4 | exact Rd.kit5 | exact Rd.kit6 | exact Rd.kit7 | exact Rd.kit8 | exact Rd.kit9 | exact Rd.kit10 | exact Rd.kit11 | exact Rd.kit12 | exact Rd.kit13 | exact Rd.kit14 | exact Rd.kit15 | exact Rd.kit16 | exact Rd.kit17 | exact Rd.kit18 | exact Rd.kit19 | exact Rd.kit20 | exact Rd.kit21 | exact Rd.kit22 | exact Rd.kit23 | exact Rd.kit24 | exact Rd.kit25 | exact Rd.kit26 | exact Rd.kit27 | exact Rd.kit28 | exact Rd.kit29 | exact Rd.kit30)
local macro_rules | `(tactic| walk_at "rd1") => `(tactic| first
  | with_reducible refine Rd.seq ?_
  | with_reducible refine Rd.asg ?_
  | ((with_reducible show tVar _ _ _ _); refine Rd.var (by exact rfl) ?_)
  | with_reducible refine Rd.cst ?_
  | with_reducible refine Rd.gname ?_
  | with_reducible refine Rd.ret ?_
  | with_reducible refine Rd.next ?_
  | with_reducible refine Rd.op ?_
  | with_reducible refine Rd.un ?_
  | with_reducible refine Rd.cons_ ?_
  | with_reducible refine Rd.nil_ ?_
  | with_reducible refine Rd.cb ?_
  | with_reducible refine Rd.int_ ?_
  | with_reducible refine Rd.intB ?_
  | with_reducible refine Rd.rI0_ ?_
  | ((with_reducible show rI CMul _ _ _ _ _); refine Rd.rI_ (by first | exact Or.inl ⟨by decide, by decide⟩ | exact Or.inr ⟨by decide, by decide⟩ | assumption) ?_)
  | ((with_reducible show rI CDiv _ _ _ _ _); refine Rd.rI_ ⟨by omega, by omega⟩ ?_)
  | ((with_reducible show rI CPow _ _ _ _ _); refine Rd.rI_ ⟨by decide, by decide, by decide⟩ ?_)
  | ((with_reducible show rI (fun _ j => 0 < j) _ _ _ _ _); refine Rd.rI_ (by show (0 : Int) < _; omega) ?_)
  | with_reducible refine Rd.rU_ ?_
  | ((with_reducible show rEq _ _ _ _); refine Rd.eq_ (by exact rfl) ?_)
  | ((with_reducible show rNe _ _ _ _); refine Rd.ne_ (by exact rfl) ?_)
  | with_reducible refine Rd.test ?_
  | with_reducible refine Rd.testB ?_
  | with_reducible refine Rd.exbl ?_
  | with_reducible refine Rd.ifs ?_
  | with_reducible refine Rd.ifE ?_
  | with_reducible refine Rd.and_ ?_
  | with_reducible refine Rd.or_ ?_
  | with_reducible refine Rd.not_ ?_
  | with_reducible refine Rd.andV ?_
  | with_reducible refine Rd.orV ?_
  | with_reducible refine Rd.notV ?_
  | with_reducible refine Rd.drop ?_
  | with_reducible refine Rd.cont ?_
  | with_reducible refine Rd.brk ?_
  | with_reducible refine Rd.lst_ ?_
  | with_reducible refine Rd.tup_ ?_
  | ((with_reducible show List.length _ ≤ sizeLine ∧ _); refine Rd.new_ (Rd.sz (by exact Nat.le_of_ble_eq_true rfl)) ?_)
  | with_reducible refine Rd.call_ ?_
  | with_reducible refine Rd.gsub ?_
  | ((with_reducible show rSetL _ _ _ _ _); refine Rd.setL (by walk_at "hp") (by walk_at "litN") ?_)
  | ((with_reducible show rIxL _ _ _ _ _); refine Rd.ixL (by walk_at "sqL") (by walk_at "lit") ?_)
  | ((with_reducible show rIxT _ _ _ _ _); refine Rd.ixT (by walk_at "sqT") (by walk_at "lit") ?_)
  | ((with_reducible show Rd.rLen _ _ _ _); refine Rd.lenL (by walk_at "sqL") ?_)
  | ((with_reducible show Rd.rLen _ _ _ _); refine Rd.lenT (by walk_at "sqT") ?_)
  | ((with_reducible show Rd.rTupOf _ _ _ _); refine Rd.tupL (by walk_at "sqL") ?_)
  | ((with_reducible show Rd.rTupOf _ _ _ _); refine Rd.tupT (by walk_at "sqT") ?_)
  | ((with_reducible show Rd.rLstOf _ _ _ _); refine Rd.lstL (by walk_at "sqL") ?_)
  | ((with_reducible show Rd.rLstOf _ _ _ _); refine Rd.lstT (by walk_at "sqT") ?_)
  | with_reducible refine Rd.rng1 ?_
  | with_reducible refine Rd.yes ?_
  | ((with_reducible show rCat _ _ _ _); refine Rd.catL (by walk_at "hp") (by walk_at "hp") (Rd.sz (by exact Nat.le_of_ble_eq_true rfl)) ?_)
  | ((with_reducible show rIsi _ _ _ _); refine Rd.isi (by walk_at "ty") (by walk_at "kit") ?_)
  | ((with_reducible show rIsiT _ _ _ _); refine Rd.isiT2 (by walk_at "hp") (by walk_at "ty") (by walk_at "kit") (by walk_at "kit") ?_)
  | with_reducible refine Rd.bm0 ?_
  | with_reducible refine Rd.bm ?_
  | ((with_reducible show tyV _ "list" (V.ref _) _ ∧ _); refine Rd.tyL (by walk_at "sqL") ?_)
  | ((with_reducible show gTup _ _ _ _ _ _ _); refine Rd.gtup (by walk_at "sqT") (by exact rfl) ?_)
  | ((with_reducible show gUnl _ _ _ _ _ _ _); refine Rd.gunl (by walk_at "sqL") (by exact rfl) ?_)
  | with_reducible refine Rd.gcons ?_
  | with_reducible refine Rd.gnil ?_
  | ((with_reducible show rNeNil _ _ _ _); refine Rd.neNil (by walk_at "hp") (by walk_at "hp") ?_)
  | with_reducible refine iteT ?_
  | with_reducible refine iteF ?_
  | with_reducible refine Rd.ifNe ?_
  | with_reducible refine Rd.ifEq ?_
  | ((with_reducible show ite (_ = true) _ _); first | refine Rd.ifT (by decide) ?_ | refine Rd.ifF (by decide) ?_)
  | with_reducible refine Rd.lzip ?_)
local macro_rules | `(tactic| walk_at "rd") => `(tactic| repeat walk_at "rd1")
/-! the classes -/
structure Cl (P : Program) (w : World) (K : PySem.W.Frag) (mg : Str → Option Value) (C : Addr) (x : Str) (ns : List Str) : Prop where
  g : mg x = some (.ref C)
  k : PySem.W.keepIn K (.ref C) = true
  e : ExcC K C
  ty : PySem.W.typeIn K (.ref C) = some (.type "type")
  mp : ∀ us : List Value, us.length = ns.length → Xn.Mks P w K mg C us [] (ns.zip us).reverse
  mkw : ∀ us : List Value, us.length = ns.length → Xn.Mks P w K mg C [] (ns.reverse.zip us) (ns.zip us.reverse).reverse
  no : ∀ n ∈ ns, PySem.W.findIn K (.ref C) n = some none
structure ClZ (P : Program) (w : World) (K : PySem.W.Frag) (mg : Str → Option Value) (C : Addr) (x : Str) : Prop where
  g : mg x = some (.ref C)
  k : PySem.W.keepIn K (.ref C) = true
  e : ExcC K C
  ty : PySem.W.typeIn K (.ref C) = some (.type "type")
  z : Xn.ExZ K C
def names : Nat → List Str
  | 0 => ["word", "at"]
  | 1 => ["word", "at"]
  | 2 => ["word", "row"]
  | 3 => ["line"]
  | 4 => ["at"]
  | 5 => ["book"]
  | 6 => ["word"]
  | 7 => ["at"]
  | 8 => []
  | 9 => []
  | 10 => ["name"]
  | _ => []
structure XT (P : Program) (w : World) (K : PySem.W.Frag) (mg : Str → Option Value) (c : Nat → Addr) (ask : Addr) : Prop where
  c0 : Cl P w K mg (c 0) "InvalidPiece" ["word", "at"]
  c1 : Cl P w K mg (c 1) "InvalidBook" ["word", "at"]
  c2 : Cl P w K mg (c 2) "InvalidCode" ["word", "row"]
  c3 : Cl P w K mg (c 3) "InvalidText" ["line"]
  c4 : Cl P w K mg (c 4) "InvalidPromise" ["at"]
  c5 : Cl P w K mg (c 5) "Unlike" ["book"]
  c6 : Cl P w K mg (c 6) "Misfit" ["word"]
  c7 : Cl P w K mg (c 7) "NoPlace" ["at"]
  c8 : ClZ P w K mg (c 8) "InvalidCommand"
  c9 : ClZ P w K mg (c 9) "OtherShape"
  c10 : Cl P w K mg (c 10) "UnknownName" ["name"]
  sup : mg "super" = none
  gA : mg "AskError" = some (.ref ask)
  isi : ∀ i j, i < 11 → j < 11 → PySem.W.kitOne K (.ref (c j)) (.ref (c i)) = some (decide (i = j))
  isA : ∀ j, j < 11 → PySem.W.kitOne K (.ref (c j)) (.ref ask) = some (decide (j ≠ 10))
  isK : ∀ j, j < 11 → PySem.W.kitOne K (.ref (c j)) (.type "KeyError") = some (decide (j = 10))
  isV : ∀ j, j < 11 → PySem.W.kitOne K (.ref (c j)) (.type "ValueError") = some (decide (j ≠ 10))
  exK : ∀ j, j < 11 → PySem.W.exmOne K (.ref (c j)) (.type "KeyError") = some (decide (j = 10))
  exA : ∀ j, j < 11 → PySem.W.exmOne K (.ref (c j)) (.ref ask) = some (decide (j ≠ 10))
/-- at e an exception of the j-th class, its fields vs -/
def ExIs (c : Nat → Addr) (H : Hp) (j : Nat) (e : Addr) (vs : List V) : Prop :=
  (names j = [] ∧ vs = [] ∧ H e = some (exo e (c j) none)) ∨ (names j ≠ [] ∧ vs.length = (names j).length ∧ ∃ d, H e = some (exo e (c j) (some d)) ∧ H d = some (exd d ((names j).zip vs).reverse))
def Row (c : Nat → Addr) (H : Hp) (j : Nat) (t : Addr) (vs : List V) : Prop := ∃ e l, H t = some (.tup [.ref e, .ref l]) ∧ H l = some (.lst vs) ∧ ExIs c H j e vs
theorem ExIs.mono {c : Nat → Addr} {H H' : Hp} {j : Nat} {e : Addr} {vs : List V} (s : Same H H') (h : ExIs c H j e vs) : ExIs c H' j e vs := by
  rcases h with ⟨a, b, x⟩ | ⟨a, b, d, x, y⟩
  · exact .inl ⟨a, b, s _ _ x⟩
  · exact .inr ⟨a, b, d, s _ _ x, s _ _ y⟩
theorem Row.mono {c : Nat → Addr} {H H' : Hp} {j : Nat} {t : Addr} {vs : List V} (s : Same H H') (h : Row c H j t vs) : Row c H' j t vs := by
  obtain ⟨e, l, a, b, x⟩ := h
  exact ⟨e, l, s _ _ a, s _ _ b, x.mono s⟩
section
variable {σ : L2.St} {H : Hp} {Q : VK} {c : Nat → Addr} {j : Nat} {ta tb : TA} {vs : List V} {ns : List Str} {C : Addr}
theorem row_mk {e d : Addr} (hj : ns = names j) (hn : names j ≠ []) (hl : vs.length = ns.length) (he : H e = none) (hd : H d = none) (hde : d ≠ e)
    (q : ∀ t H', Same H H' → Row c H' j t vs → Q (.ref t) H') (hz : vs.length ≤ sizeLine) :
    ∀ l, (upd (upd H d (exd d (ns.zip vs).reverse)) e (exo e (c j) (some d))) l = none → ∀ t, (upd (upd (upd H d (exd d (ns.zip vs).reverse)) e (exo e (c j) (some d))) l (.lst vs)) t = none →
      Q (.ref t) (upd (upd (upd (upd H d (exd d (ns.zip vs).reverse)) e (exo e (c j) (some d))) l (.lst vs)) t (.tup [.ref e, .ref l])) := fun l hl' t ht => by
  have s0 : Same H (upd H d (exd d (ns.zip vs).reverse)) := same_new hd _
  have he' : (upd H d (exd d (ns.zip vs).reverse)) e = none := by rw [upd_ne (Ne.symm hde)]; exact he
  have s1 := s0.trans (same_new he' (exo e (c j) (some d)))
  have s2 : Same _ (upd (upd (upd H d (exd d (ns.zip vs).reverse)) e (exo e (c j) (some d))) l (.lst vs)) := same_new hl' (.lst vs)
  have s3 : Same _ (upd (upd (upd (upd H d (exd d (ns.zip vs).reverse)) e (exo e (c j) (some d))) l (.lst vs)) t (.tup [.ref e, .ref l])) := same_new ht (.tup [.ref e, .ref l])
  refine q t _ (s1.trans (s2.trans s3)) ⟨e, l, upd_same, s3 _ _ upd_same, .inr ⟨hn, by rw [hl, hj], d, s3 _ _ (s2 _ _ upd_same), ?_⟩⟩
  rw [← hj]
  exact s3 _ _ (s2 _ _ (by rw [upd_ne hde]; exact upd_same))
def It (c : Nat → Addr) (σ : L2.St) (te : TE) (j : Nat) (vs : List V) : Prop := ∀ (H : Hp) (Q : VK), (∀ t H', Same H H' → Row c H' j t vs → Q (.ref t) H') → te σ H Q
theorem it_V (ha : ∀ (H : Hp) (Q : List V → Hp → Prop), Q vs H → ta σ H Q) (hb : ∀ (H : Hp) (Q : List V → Hp → Prop), Q vs H → tb σ H Q) (hl : vs.length = (names j).length) (hn : names j ≠ []) :
    It c σ (tTup (tCons (tExV (c j) (names j) ta) (tCons (tLst tb) tNil))) j vs := by
  intro H Q q
  have h3 : vs.length ≤ sizeLine := by
    rw [hl]
    refine Rd.sz ?_
    unfold names
    split <;> decide
  refine ha _ _ ⟨hl, fun e d he hd hde => ?_⟩
  refine hb _ _ ⟨h3, fun l hl' => ⟨Rd.sz (by exact Nat.le_of_ble_eq_true rfl), fun t ht => ?_⟩⟩
  exact row_mk rfl hn hl he hd hde q h3 l hl' t ht
theorem it_K (ha : ∀ (H : Hp) (Q : List V → Hp → Prop), Q vs.reverse H → ta σ H Q) (hb : ∀ (H : Hp) (Q : List V → Hp → Prop), Q vs H → tb σ H Q) (hl : vs.length = (names j).length) (hn : names j ≠ []) :
    It c σ (tTup (tCons (tExK (c j) (names j) ta) (tCons (tLst tb) tNil))) j vs := by
  intro H Q q
  have h3 : vs.length ≤ sizeLine := by
    rw [hl]
    refine Rd.sz ?_
    unfold names
    split <;> decide
  refine ha _ _ ⟨by rw [List.length_reverse]; exact hl, fun e d he hd hde => ?_⟩
  rw [List.reverse_reverse]
  refine hb _ _ ⟨h3, fun l hl' => ⟨Rd.sz (by exact Nat.le_of_ble_eq_true rfl), fun t ht => ?_⟩⟩
  exact row_mk rfl hn hl he hd hde q h3 l hl' t ht
theorem it_Z (hn : names j = []) : It c σ (tTup (tCons (tExZ (c j)) (tCons (tLst tNil) tNil))) j [] := by
  intro H Q q e he
  refine ⟨Nat.zero_le _, fun l hl' => ⟨Rd.sz (by exact Nat.le_of_ble_eq_true rfl), fun t ht => ?_⟩⟩
  have s1 : Same H (upd H e (exo e (c j) none)) := same_new he _
  have s2 : Same _ (upd (upd H e (exo e (c j) none)) l (.lst [])) := same_new hl' (.lst [])
  have s3 : Same _ (upd (upd (upd H e (exo e (c j) none)) l (.lst [])) t (.tup [.ref e, .ref l])) := same_new ht (.tup [.ref e, .ref l])
  exact q t _ (s1.trans (s2.trans s3)) ⟨e, l, upd_same, s3 _ _ upd_same, .inl ⟨hn, rfl, s3 _ _ (s2 _ _ upd_same)⟩⟩
/-- rows of a list -/
def Rws (c : Nat → Addr) (H : Hp) : List (Nat × List V) → List Addr → Prop
  | [], [] => True
  | (j, vs) :: js, t :: ts => Row c H j t vs ∧ Rws c H js ts
  | _, _ => False
theorem Rws.mono {H H' : Hp} (s : Same H H') : ∀ {js : List (Nat × List V)} {ts : List Addr}, Rws c H js ts → Rws c H' js ts
  | [], [], _ => trivial
  | (_, _) :: _, _ :: _, h => ⟨h.1.mono s, Rws.mono s h.2⟩
  | [], _ :: _, h => h.elim
  | _ :: _, [], h => h.elim
theorem Rws.app {H : Hp} : ∀ {js js' : List (Nat × List V)} {ts ts' : List Addr}, Rws c H js ts → Rws c H js' ts' → Rws c H (js ++ js') (ts ++ ts')
  | [], _, [], _, _, h => h
  | (_, _) :: _, _, _ :: _, _, h, h' => ⟨h.1, Rws.app h.2 h'⟩
  | [], _, _ :: _, _, h, _ => h.elim
  | _ :: _, _, [], _, h, _ => h.elim
theorem Rws.len {H : Hp} : ∀ {js : List (Nat × List V)} {ts : List Addr}, Rws c H js ts → ts.length = js.length
  | [], [], _ => rfl
  | (_, _) :: _, _ :: _, h => congrArg (· + 1) (Rws.len h.2)
  | [], _ :: _, h => h.elim
  | _ :: _, [], h => h.elim
theorem Rws.get {H : Hp} : ∀ {js : List (Nat × List V)} {ts : List Addr} {i : Nat} {t : Addr}, Rws c H js ts → ts[i]? = some t → ∃ e, js[i]? = some e ∧ Row c H e.1 t e.2
  | [], [], _, _, _, e => nomatch e
  | (j, vs) :: _, _ :: _, 0, _, h, e => by
    cases e
    exact ⟨(j, vs), rfl, h.1⟩
  | (_, _) :: _, _ :: _, i + 1, _, h, e => Rws.get (i := i) h.2 e
  | [], _ :: _, _, _, h, _ => h.elim
  | _ :: _, [], _, _, h, _ => h.elim
def AllIt (c : Nat → Addr) (σ : L2.St) (ta : TA) (js : List (Nat × List V)) : Prop := ∀ (H : Hp) (Q : List V → Hp → Prop), (∀ ts H', Same H H' → Rws c H' js ts → Q (ts.map V.ref) H') → ta σ H Q
theorem ai_nil : AllIt c σ tNil [] := fun H Q q => q [] H (fun _ _ h => h) trivial
theorem ai_cons {te : TE} {js : List (Nat × List V)} (h : It c σ te j vs) (h' : AllIt c σ ta js) : AllIt c σ (tCons te ta) ((j, vs) :: js) :=
  fun H Q q => h H _ fun t H1 s1 r1 => h' H1 _ fun ts H2 s2 r2 => q (t :: ts) H2 (s1.trans s2) ⟨r1.mono s2, r2⟩
theorem seg_one {js : List (Nat × List V)} (h : AllIt c σ ta js) (hl : js.length ≤ 22) (q : ∀ l ts H', Same H H' → H' l = some (.lst (ts.map V.ref)) → Rws c H' js ts → Q (.ref l) H') : tLst ta σ H Q := by
  refine h H _ fun ts H1 s1 r1 => ⟨?_, fun l hl' => ?_⟩
  · rw [List.length_map, r1.len]
    exact Rd.sz (Nat.le_trans hl (by decide))
  · have s2 := same_new hl' (.lst (ts.map V.ref))
    exact q l ts _ (s1.trans s2) upd_same (r1.mono s2)
theorem seg_cat {js js' : List (Nat × List V)} {ts : List Addr} {l n : Nat} (hv : σ[n]? = some (some (.ref l))) (h0 : H l = some (.lst (ts.map V.ref))) (r0 : Rws c H js ts) (h : AllIt c σ ta js') (hl : (js ++ js').length ≤ 22)
    (q : ∀ l ts H', Same H H' → H' l = some (.lst (ts.map V.ref)) → Rws c H' (js ++ js') ts → Q (.ref l) H') : tOp rCat (tVar n) (tLst ta) σ H Q := by
  refine ⟨_, hv, ?_⟩
  refine seg_one h (Nat.le_trans (by rw [List.length_append]; omega) hl) fun l1 ts1 H1 s1 h1 r1 => ?_
  refine Rd.catL (s1 _ _ h0) h1 ?_ fun a ha => ?_
  · rw [List.length_map, List.length_map, r0.len, r1.len, ← List.length_append]
    exact Rd.sz (Nat.le_trans hl (by decide))
  · have s2 := same_new ha (.lst (ts.map V.ref ++ ts1.map V.ref))
    refine q a (ts ++ ts1) _ (s1.trans s2) ?_ ((r0.mono (s1.trans s2)).app (r1.mono s2))
    rw [List.map_append]
    exact upd_same
end
abbrev sMade : Stmt := top 18
abbrev nMade : List Str := ["_law_box_here", "_law_a", "_law_b", "_law_c", "_law_d", "_law_found", "_law_turn"]
theorem scMade : FnScope nMade ["_law_box_here"] (defScope sMade) :=
  ⟨rfl, rfl, rfl, by decide +kernel, rfl, by decide +kernel, by decide +kernel⟩
/-- the pairs of an error and what it must keep -/
def JJ (va vb vc vd : V) : List (Nat × List V) := [(0, [va, vb]), (0, [va, vb]), (1, [va, vb]), (1, [va, vb]), (2, [vc, vd]), (2, [vc, vd]), (3, [va]), (3, [vb]), (4, [va]), (4, [vb]), (5, [vc]), (5, [vd]), (6, [vc]), (6, [vd]), (7, [va]), (7, [vb]), (8, []), (8, []), (9, []), (9, []), (10, [vd]), (10, [va])]
def Rows (c : Nat → Addr) (H : Hp) (ts : List Addr) : Prop := ∃ va vb vc vd, (∀ x ∈ [va, vb, vc, vd], DatA 5 H x) ∧ Rws c H (JJ va vb vc vd) ts
def spMade (c : Nat → Addr) : Sp := fun vs H Q _ => ∃ p : Addr, vs = [.ref p] ∧ Box H p ∧ ∀ r ts H', Ext p H H' → Box H' p → H' r = some (.lst (ts.map V.ref)) → Rows c H' ts → Q (.ref r) H'
section
variable {P : Program} {w : World} {K : PySem.W.Frag} {mg : Str → Option Value} {base : Heap} {f fS : Addr} {fd fdS : FuncData} {c : Nat → Addr} {ask : Addr}
theorem ok_made (F : Fun K "_law_made" "_law_made" sMade f fd) (T : TB mg) (XC : XT P w K mg c ask)
    (GS : FnOk P w K mg base CX0 6 fS fdS ["_law_box_here", "_law_deep"] (spSome 5)) (bS : Binds K fdS ["_law_box_here", "_law_deep"] []) (kS : PySem.W.keepIn K (.ref fS) = true) (mS : mg "_law_some" = some (.ref fS)) :
    FnOk P w K mg base CX0 7 f fd ["_law_box_here"] (spMade c) := by
  refine F.ok scMade (fun vs H Q E h => ?_) (fun cdv A outer s H vs Q E hr h => ?_)
  · obtain ⟨p, rfl, _⟩ := h
    rfl
  obtain ⟨p, rfl, hB, q⟩ := h
  refine ⟨_, (pss_cons (ps_asg (pe_lc (own := [("_law_turn", 6)]) (g := gName 6) (tt := tYes) rfl scMade.nd (pi_range1 rfl T.n_range (pa_cons pe_int pa_nil)) (blkOk_by (N := nMade) (sc := defScope sMade) (by decide +kernel)) (fun _ _ _ _ _ => (pg_name (i := 6) scMade.nd rfl (Or.inl rfl))) (fun _ _ _ _ _ => pts_nil) (fun _ _ _ _ _ => (pe_call GS (hr.mono (by omega)) rfl mS kS bS .nil pass0 (pa_cons (pv 0) (pa_cons pe_int pa_nil))))) (pg_unl rfl (pgs_cons (pg_name (i := 1) scMade.nd rfl (Or.inl rfl)) (pgs_cons (pg_name (i := 2) scMade.nd rfl (Or.inl rfl)) (pgs_cons (pg_name (i := 3) scMade.nd rfl (Or.inl rfl)) (pgs_cons (pg_name (i := 4) scMade.nd rfl (Or.inl rfl)) pgs_nil))))))
  (pss_cons (ps_set (i := 5) scMade.nd rfl (Or.inl rfl) (pe_lst (pa_cons (pe_tup (pa_cons (pe_exV (ns := ["word", "at"]) (hr.mono (Nat.zero_le _)) rfl XC.c0.g XC.sup XC.c0.k XC.c0.mp (pa_cons (pv 1) (pa_cons (pv 2) pa_nil))) (pa_cons (pe_lst (pa_cons (pv 1) (pa_cons (pv 2) pa_nil))) pa_nil))) (pa_cons (pe_tup (pa_cons (pe_exK (ns := ["word", "at"]) (hr.mono (Nat.zero_le _)) rfl XC.c0.g XC.sup XC.c0.k XC.c0.mkw (pk_cons (pv 2) (pk_cons (pv 1) pk_nil))) (pa_cons (pe_lst (pa_cons (pv 1) (pa_cons (pv 2) pa_nil))) pa_nil))) (pa_cons (pe_tup (pa_cons (pe_exV (ns := ["word", "at"]) (hr.mono (Nat.zero_le _)) rfl XC.c1.g XC.sup XC.c1.k XC.c1.mp (pa_cons (pv 1) (pa_cons (pv 2) pa_nil))) (pa_cons (pe_lst (pa_cons (pv 1) (pa_cons (pv 2) pa_nil))) pa_nil))) pa_nil)))))
  (pss_cons (ps_set (i := 5) scMade.nd rfl (Or.inl rfl) (pe_op op_cat (pv 5) (pe_lst (pa_cons (pe_tup (pa_cons (pe_exK (ns := ["word", "at"]) (hr.mono (Nat.zero_le _)) rfl XC.c1.g XC.sup XC.c1.k XC.c1.mkw (pk_cons (pv 2) (pk_cons (pv 1) pk_nil))) (pa_cons (pe_lst (pa_cons (pv 1) (pa_cons (pv 2) pa_nil))) pa_nil))) (pa_cons (pe_tup (pa_cons (pe_exV (ns := ["word", "row"]) (hr.mono (Nat.zero_le _)) rfl XC.c2.g XC.sup XC.c2.k XC.c2.mp (pa_cons (pv 3) (pa_cons (pv 4) pa_nil))) (pa_cons (pe_lst (pa_cons (pv 3) (pa_cons (pv 4) pa_nil))) pa_nil))) pa_nil)))))
  (pss_cons (ps_set (i := 5) scMade.nd rfl (Or.inl rfl) (pe_op op_cat (pv 5) (pe_lst (pa_cons (pe_tup (pa_cons (pe_exK (ns := ["word", "row"]) (hr.mono (Nat.zero_le _)) rfl XC.c2.g XC.sup XC.c2.k XC.c2.mkw (pk_cons (pv 4) (pk_cons (pv 3) pk_nil))) (pa_cons (pe_lst (pa_cons (pv 3) (pa_cons (pv 4) pa_nil))) pa_nil))) (pa_cons (pe_tup (pa_cons (pe_exV (ns := ["line"]) (hr.mono (Nat.zero_le _)) rfl XC.c3.g XC.sup XC.c3.k XC.c3.mp (pa_cons (pv 1) pa_nil)) (pa_cons (pe_lst (pa_cons (pv 1) pa_nil)) pa_nil))) (pa_cons (pe_tup (pa_cons (pe_exK (ns := ["line"]) (hr.mono (Nat.zero_le _)) rfl XC.c3.g XC.sup XC.c3.k XC.c3.mkw (pk_cons (pv 2) pk_nil)) (pa_cons (pe_lst (pa_cons (pv 2) pa_nil)) pa_nil))) pa_nil))))))
  (pss_cons (ps_set (i := 5) scMade.nd rfl (Or.inl rfl) (pe_op op_cat (pv 5) (pe_lst (pa_cons (pe_tup (pa_cons (pe_exV (ns := ["at"]) (hr.mono (Nat.zero_le _)) rfl XC.c4.g XC.sup XC.c4.k XC.c4.mp (pa_cons (pv 1) pa_nil)) (pa_cons (pe_lst (pa_cons (pv 1) pa_nil)) pa_nil))) (pa_cons (pe_tup (pa_cons (pe_exK (ns := ["at"]) (hr.mono (Nat.zero_le _)) rfl XC.c4.g XC.sup XC.c4.k XC.c4.mkw (pk_cons (pv 2) pk_nil)) (pa_cons (pe_lst (pa_cons (pv 2) pa_nil)) pa_nil))) (pa_cons (pe_tup (pa_cons (pe_exV (ns := ["book"]) (hr.mono (Nat.zero_le _)) rfl XC.c5.g XC.sup XC.c5.k XC.c5.mp (pa_cons (pv 3) pa_nil)) (pa_cons (pe_lst (pa_cons (pv 3) pa_nil)) pa_nil))) (pa_cons (pe_tup (pa_cons (pe_exK (ns := ["book"]) (hr.mono (Nat.zero_le _)) rfl XC.c5.g XC.sup XC.c5.k XC.c5.mkw (pk_cons (pv 4) pk_nil)) (pa_cons (pe_lst (pa_cons (pv 4) pa_nil)) pa_nil))) pa_nil)))))))
  (pss_cons (ps_set (i := 5) scMade.nd rfl (Or.inl rfl) (pe_op op_cat (pv 5) (pe_lst (pa_cons (pe_tup (pa_cons (pe_exV (ns := ["word"]) (hr.mono (Nat.zero_le _)) rfl XC.c6.g XC.sup XC.c6.k XC.c6.mp (pa_cons (pv 3) pa_nil)) (pa_cons (pe_lst (pa_cons (pv 3) pa_nil)) pa_nil))) (pa_cons (pe_tup (pa_cons (pe_exK (ns := ["word"]) (hr.mono (Nat.zero_le _)) rfl XC.c6.g XC.sup XC.c6.k XC.c6.mkw (pk_cons (pv 4) pk_nil)) (pa_cons (pe_lst (pa_cons (pv 4) pa_nil)) pa_nil))) (pa_cons (pe_tup (pa_cons (pe_exV (ns := ["at"]) (hr.mono (Nat.zero_le _)) rfl XC.c7.g XC.sup XC.c7.k XC.c7.mp (pa_cons (pv 1) pa_nil)) (pa_cons (pe_lst (pa_cons (pv 1) pa_nil)) pa_nil))) (pa_cons (pe_tup (pa_cons (pe_exK (ns := ["at"]) (hr.mono (Nat.zero_le _)) rfl XC.c7.g XC.sup XC.c7.k XC.c7.mkw (pk_cons (pv 2) pk_nil)) (pa_cons (pe_lst (pa_cons (pv 2) pa_nil)) pa_nil))) pa_nil)))))))
  (pss_cons (ps_set (i := 5) scMade.nd rfl (Or.inl rfl) (pe_op op_cat (pv 5) (pe_lst (pa_cons (pe_tup (pa_cons (pe_exZ rfl XC.c8.g XC.c8.k XC.c8.z) (pa_cons (pe_lst pa_nil) pa_nil))) (pa_cons (pe_tup (pa_cons (pe_exZ rfl XC.c8.g XC.c8.k XC.c8.z) (pa_cons (pe_lst pa_nil) pa_nil))) (pa_cons (pe_tup (pa_cons (pe_exZ rfl XC.c9.g XC.c9.k XC.c9.z) (pa_cons (pe_lst pa_nil) pa_nil))) (pa_cons (pe_tup (pa_cons (pe_exZ rfl XC.c9.g XC.c9.k XC.c9.z) (pa_cons (pe_lst pa_nil) pa_nil))) pa_nil)))))))
  (pss_one (ps_ret (pe_op op_cat (pv 5) (pe_lst (pa_cons (pe_tup (pa_cons (pe_exV (ns := ["name"]) (hr.mono (Nat.zero_le _)) rfl XC.c10.g XC.sup XC.c10.k XC.c10.mp (pa_cons (pv 4) pa_nil)) (pa_cons (pe_lst (pa_cons (pv 4) pa_nil)) pa_nil))) (pa_cons (pe_tup (pa_cons (pe_exK (ns := ["name"]) (hr.mono (Nat.zero_le _)) rfl XC.c10.g XC.sup XC.c10.k XC.c10.mkw (pk_cons (pv 1) pk_nil)) (pa_cons (pe_lst (pa_cons (pv 1) pa_nil)) pa_nil))) pa_nil))))))))))))), ?_⟩
  walk_at "rd"
  refine (show iRng1 _ _ _ _ from ?_)
  walk_at "rd"
  refine Rd.rng1_ (by decide) (by decide) fun D hD => ?_
  refine lc_range (lo := 0) (n := 4) (fun i H' => Ext p H H' ∧ Box H' p ∧ ∃ acc, H' D = some (.lst acc) ∧ acc.length = i ∧ ∀ x ∈ acc, Dat (fun a => H a = none ∧ a ≠ D) 5 H' x) ?_ ?_ ?_
  · have nD : D ≠ p := hB.ne hD
    refine ⟨Ext.new hD _, ?_, [], upd_same, rfl, fun x hx => nomatch hx⟩
    obtain ⟨x, s, c, e⟩ := hB
    exact ⟨x, s, c, by rw [upd_ne (Ne.symm nD)]; exact e⟩
  · rintro i H3 hi ⟨e3, b3, acc, ha, hl, hx⟩
    have nD : D ≠ p := hB.ne hD
    walk_at "rd"
    refine ⟨rfl, ?_⟩
    walk_at "rd"
    refine ⟨p, 4, rfl, b3, by decide, by decide, fun v H4 e4 b4 hv => ?_⟩
    have hD4 : H4 D = some (.lst acc) := e4 D _ nD ha
    refine ⟨acc, hD4, lt_line (by omega), fun b o hb e => ?_, ?_, acc ++ [v], upd_same, by rw [List.length_append, hl]; rfl, fun x hxm => ?_⟩
    · rw [upd_ne (ne_of_none e hD)]
      exact e4 b o hb (e3 b o hb e)
    · obtain ⟨x, s, c, e⟩ := b4
      exact ⟨x, s, c, by rw [upd_ne (Ne.symm nD)]; exact e⟩
    · rcases List.mem_append.mp hxm with hm | hm
      · exact Dat.mono (fun a h => h) (fun a o h e => by rw [upd_ne h.2]; exact e4 a o (hB.ne h.1) e) (hx x hm)
      · rw [List.mem_singleton.mp hm]
        refine Dat.mono (fun a h => ⟨?_, fun z => by rw [z, ha] at h; cases h⟩) (fun a o h e => by rw [upd_ne (fun z => by rw [z, ha] at h; cases h)]; exact e) hv
        cases q2 : H a with
        | none => rfl
        | some o =>
          rw [e3 a o (b3.ne h) q2] at h
          cases h
  · rintro H1 ⟨e1, b1, acc, ha, hl, hx⟩
    obtain ⟨va, vb, vc, vd, rfl⟩ : ∃ va vb vc vd, acc = [va, vb, vc, vd] := by
      match acc, hl with
      | [a, b, c, d], _ => exact ⟨a, b, c, d, rfl⟩
    refine Rd.gunl (SqL.of ha) rfl ?_
    repeat (first | with_reducible refine Rd.seq ?_ | with_reducible refine Rd.asg ?_ | with_reducible refine Rd.gname ?_ | with_reducible refine Rd.ret ?_ | with_reducible refine Rd.gcons ?_ | with_reducible refine Rd.gnil ?_ | with_reducible refine Rd.next ?_)
    refine seg_one (ai_cons (it_V (c := c) (j := 0) (vs := [va, vb]) (by exact fun _ _ q => ⟨_, rfl, _, rfl, q⟩) (by exact fun _ _ q => ⟨_, rfl, _, rfl, q⟩) rfl (by decide)) (ai_cons (it_K (c := c) (j := 0) (vs := [va, vb]) (by exact fun _ _ q => ⟨_, rfl, _, rfl, q⟩) (by exact fun _ _ q => ⟨_, rfl, _, rfl, q⟩) rfl (by decide)) (ai_cons (it_V (c := c) (j := 1) (vs := [va, vb]) (by exact fun _ _ q => ⟨_, rfl, _, rfl, q⟩) (by exact fun _ _ q => ⟨_, rfl, _, rfl, q⟩) rfl (by decide)) ai_nil))) (by exact Nat.le_of_ble_eq_true rfl) fun l0 ts0 H0 s0 h0 r0 => ?_
    repeat (first | with_reducible refine Rd.seq ?_ | with_reducible refine Rd.asg ?_ | with_reducible refine Rd.gname ?_ | with_reducible refine Rd.ret ?_ | with_reducible refine Rd.gcons ?_ | with_reducible refine Rd.gnil ?_ | with_reducible refine Rd.next ?_)
    refine seg_cat rfl h0 r0 (ai_cons (it_K (c := c) (j := 1) (vs := [va, vb]) (by exact fun _ _ q => ⟨_, rfl, _, rfl, q⟩) (by exact fun _ _ q => ⟨_, rfl, _, rfl, q⟩) rfl (by decide)) (ai_cons (it_V (c := c) (j := 2) (vs := [vc, vd]) (by exact fun _ _ q => ⟨_, rfl, _, rfl, q⟩) (by exact fun _ _ q => ⟨_, rfl, _, rfl, q⟩) rfl (by decide)) ai_nil)) (by exact Nat.le_of_ble_eq_true rfl) fun l1 ts1 H1 s1 h1 r1 => ?_
    repeat (first | with_reducible refine Rd.seq ?_ | with_reducible refine Rd.asg ?_ | with_reducible refine Rd.gname ?_ | with_reducible refine Rd.ret ?_ | with_reducible refine Rd.gcons ?_ | with_reducible refine Rd.gnil ?_ | with_reducible refine Rd.next ?_)
    refine seg_cat rfl h1 r1 (ai_cons (it_K (c := c) (j := 2) (vs := [vc, vd]) (by exact fun _ _ q => ⟨_, rfl, _, rfl, q⟩) (by exact fun _ _ q => ⟨_, rfl, _, rfl, q⟩) rfl (by decide)) (ai_cons (it_V (c := c) (j := 3) (vs := [va]) (by exact fun _ _ q => ⟨_, rfl, q⟩) (by exact fun _ _ q => ⟨_, rfl, q⟩) rfl (by decide)) (ai_cons (it_K (c := c) (j := 3) (vs := [vb]) (by exact fun _ _ q => ⟨_, rfl, q⟩) (by exact fun _ _ q => ⟨_, rfl, q⟩) rfl (by decide)) ai_nil))) (by exact Nat.le_of_ble_eq_true rfl) fun l2 ts2 H2 s2 h2 r2 => ?_
    repeat (first | with_reducible refine Rd.seq ?_ | with_reducible refine Rd.asg ?_ | with_reducible refine Rd.gname ?_ | with_reducible refine Rd.ret ?_ | with_reducible refine Rd.gcons ?_ | with_reducible refine Rd.gnil ?_ | with_reducible refine Rd.next ?_)
    refine seg_cat rfl h2 r2 (ai_cons (it_V (c := c) (j := 4) (vs := [va]) (by exact fun _ _ q => ⟨_, rfl, q⟩) (by exact fun _ _ q => ⟨_, rfl, q⟩) rfl (by decide)) (ai_cons (it_K (c := c) (j := 4) (vs := [vb]) (by exact fun _ _ q => ⟨_, rfl, q⟩) (by exact fun _ _ q => ⟨_, rfl, q⟩) rfl (by decide)) (ai_cons (it_V (c := c) (j := 5) (vs := [vc]) (by exact fun _ _ q => ⟨_, rfl, q⟩) (by exact fun _ _ q => ⟨_, rfl, q⟩) rfl (by decide)) (ai_cons (it_K (c := c) (j := 5) (vs := [vd]) (by exact fun _ _ q => ⟨_, rfl, q⟩) (by exact fun _ _ q => ⟨_, rfl, q⟩) rfl (by decide)) ai_nil)))) (by exact Nat.le_of_ble_eq_true rfl) fun l3 ts3 H3 s3 h3 r3 => ?_
    repeat (first | with_reducible refine Rd.seq ?_ | with_reducible refine Rd.asg ?_ | with_reducible refine Rd.gname ?_ | with_reducible refine Rd.ret ?_ | with_reducible refine Rd.gcons ?_ | with_reducible refine Rd.gnil ?_ | with_reducible refine Rd.next ?_)
    refine seg_cat rfl h3 r3 (ai_cons (it_V (c := c) (j := 6) (vs := [vc]) (by exact fun _ _ q => ⟨_, rfl, q⟩) (by exact fun _ _ q => ⟨_, rfl, q⟩) rfl (by decide)) (ai_cons (it_K (c := c) (j := 6) (vs := [vd]) (by exact fun _ _ q => ⟨_, rfl, q⟩) (by exact fun _ _ q => ⟨_, rfl, q⟩) rfl (by decide)) (ai_cons (it_V (c := c) (j := 7) (vs := [va]) (by exact fun _ _ q => ⟨_, rfl, q⟩) (by exact fun _ _ q => ⟨_, rfl, q⟩) rfl (by decide)) (ai_cons (it_K (c := c) (j := 7) (vs := [vb]) (by exact fun _ _ q => ⟨_, rfl, q⟩) (by exact fun _ _ q => ⟨_, rfl, q⟩) rfl (by decide)) ai_nil)))) (by exact Nat.le_of_ble_eq_true rfl) fun l4 ts4 H4 s4 h4 r4 => ?_
    repeat (first | with_reducible refine Rd.seq ?_ | with_reducible refine Rd.asg ?_ | with_reducible refine Rd.gname ?_ | with_reducible refine Rd.ret ?_ | with_reducible refine Rd.gcons ?_ | with_reducible refine Rd.gnil ?_ | with_reducible refine Rd.next ?_)
    refine seg_cat rfl h4 r4 (ai_cons (it_Z (c := c) (j := 8) rfl) (ai_cons (it_Z (c := c) (j := 8) rfl) (ai_cons (it_Z (c := c) (j := 9) rfl) (ai_cons (it_Z (c := c) (j := 9) rfl) ai_nil)))) (by exact Nat.le_of_ble_eq_true rfl) fun l5 ts5 H5 s5 h5 r5 => ?_
    repeat (first | with_reducible refine Rd.seq ?_ | with_reducible refine Rd.asg ?_ | with_reducible refine Rd.gname ?_ | with_reducible refine Rd.ret ?_ | with_reducible refine Rd.gcons ?_ | with_reducible refine Rd.gnil ?_ | with_reducible refine Rd.next ?_)
    refine seg_cat rfl h5 r5 (ai_cons (it_V (c := c) (j := 10) (vs := [vd]) (by exact fun _ _ q => ⟨_, rfl, q⟩) (by exact fun _ _ q => ⟨_, rfl, q⟩) rfl (by decide)) (ai_cons (it_K (c := c) (j := 10) (vs := [va]) (by exact fun _ _ q => ⟨_, rfl, q⟩) (by exact fun _ _ q => ⟨_, rfl, q⟩) rfl (by decide)) ai_nil)) (by exact Nat.le_of_ble_eq_true rfl) fun l6 ts6 H6 s6 h6 r6 => ?_
  
    have sA := s0.trans (s1.trans (s2.trans (s3.trans (s4.trans (s5.trans s6)))))
    refine q l6 ts6 H6 (e1.trans fun b o _ e => sA b o e) ?_ h6 ⟨va, vb, vc, vd, fun x hm => Dat.mono (fun _ _ => trivial) (fun a o _ e => sA a o e) (hx x hm), r6⟩
    obtain ⟨x, s, c, e⟩ := b1
    exact ⟨x, s, c, sA _ _ e⟩
end
end K01
namespace K01
open PySem L2
local macro_rules | `(tactic| walk_at "ne") => `(tactic| first
  | assumption
  | exact Ne.symm (by assumption)
  | exact ne_of_none (by assumption) (by assumption)
  | exact Ne.symm (ne_of_none (by assumption) (by assumption)))
local macro_rules | `(tactic| walk_at "hp") => `(tactic| first
  | assumption
  | with_reducible exact upd_same
  | exact Eq.trans (upd_ne (by walk_at "ne")) (by walk_at "hp"))
local macro_rules | `(tactic| walk_at "lit") => `(tactic| first
  | ((with_reducible show atI _ 0 = _); exact rfl) | ((with_reducible show atI _ 1 = _); exact rfl) | ((with_reducible show atI _ 2 = _); exact rfl)
  | ((with_reducible show atI _ 3 = _); exact rfl) | ((with_reducible show atI _ 4 = _); exact rfl) | ((with_reducible show atI _ (-1) = _); exact rfl))
local macro_rules | `(tactic| walk_at "litN") => `(tactic| first
  | ((with_reducible show ixN _ 0 = _); exact rfl) | ((with_reducible show ixN _ 1 = _); exact rfl) | ((with_reducible show ixN _ 2 = _); exact rfl))
local macro_rules | `(tactic| walk_at "sqL") => `(tactic| first
  | ((with_reducible show SqL _ _ _ _); assumption)
  | exact SqL.of (by walk_at "hp"))
local macro_rules | `(tactic| walk_at "sqT") => `(tactic| first
  | ((with_reducible show SqT _ _ _ _); assumption)
  | exact SqT.of (by walk_at "hp"))
local macro_rules | `(tactic| walk_at "ty") => `(tactic| with_reducible first
  | exact Rd.tyInt | exact Rd.tyStr | exact Rd.tyBl | exact Rd.tyNon
  | exact Rd.tyLst (by walk_at "hp") | exact Rd.tyTup (by walk_at "hp"))
local macro_rules | `(tactic| walk_at "kit") => `(tactic| with_reducible first | exact Rd.kit1 | exact Rd.kit2 | exact Rd.kit3 | exact Rd.kit4 | exact Rd.kit5 | exact Rd.kit6 | exact Rd.kit7 | exact Rd.kit8 | exact Rd.kit9 | exact Rd.kit10 | exact Rd.kit11 | exact Rd.kit12 | exact Rd.kit13 | exact Rd.kit14 | exact Rd.kit15 | exact Rd.kit16 | exact Rd.kit17 | exact Rd.kit18 | exact Rd.kit19 | exact Rd.kit20 | exact Rd.kit21 | exact Rd.kit22 | exact Rd.kit23 | exact Rd.kit24 | exact Rd.kit25 | exact Rd.kit26 | exact Rd.kit27 | exact Rd.kit28 | exact Rd.kit29 | exact Rd.kit30)
local macro_rules | `(tactic| walk_at "rd1") => `(tactic| first
  | with_reducible refine Rd.seq ?_
  | with_reducible refine Rd.asg ?_
  | ((with_reducible show tVar _ _ _ _); refine Rd.var (by exact rfl) ?_)
  | with_reducible refine Rd.cst ?_
  | with_reducible refine Rd.gname ?_
  | with_reducible refine Rd.ret ?_
  | with_reducible refine Rd.next ?_
  | with_reducible refine Rd.op ?_
  | with_reducible refine Rd.un ?_
  | with_reducible refine Rd.cons_ ?_
  | with_reducible refine Rd.nil_ ?_
  | with_reducible refine Rd.cb ?_
  | with_reducible refine Rd.int_ ?_
  | with_reducible refine Rd.intB ?_
  | with_reducible refine Rd.rI0_ ?_
  | ((with_reducible show rI CMul _ _ _ _ _); refine Rd.rI_ (by first | exact Or.inl ⟨by decide, by decide⟩ | exact Or.inr ⟨by decide, by decide⟩ | assumption) ?_)
  | ((with_reducible show rI CDiv _ _ _ _ _); refine Rd.rI_ ⟨by omega, by omega⟩ ?_)
  | ((with_reducible show rI CPow _ _ _ _ _); refine Rd.rI_ ⟨by decide, by decide, by decide⟩ ?_)
  | ((with_reducible show rI (fun _ j => 0 < j) _ _ _ _ _); refine Rd.rI_ (by show (0 : Int) < _; omega) ?_)
  | with_reducible refine Rd.rU_ ?_
  | ((with_reducible show rEq _ _ _ _); refine Rd.eq_ (by exact rfl) ?_)
  | ((with_reducible show rNe _ _ _ _); refine Rd.ne_ (by exact rfl) ?_)
  | with_reducible refine Rd.test ?_
  | with_reducible refine Rd.testB ?_
  | with_reducible refine Rd.exbl ?_
  | with_reducible refine Rd.ifs ?_
  | with_reducible refine Rd.ifE ?_
  | with_reducible refine Rd.and_ ?_
  | with_reducible refine Rd.or_ ?_
  | with_reducible refine Rd.not_ ?_
  | with_reducible refine Rd.andV ?_
  | with_reducible refine Rd.orV ?_
  | with_reducible refine Rd.notV ?_
  | with_reducible refine Rd.drop ?_
  | with_reducible refine Rd.cont ?_
  | with_reducible refine Rd.brk ?_
  | with_reducible refine Rd.lst_ ?_
  | with_reducible refine Rd.tup_ ?_
  | ((with_reducible show List.length _ ≤ sizeLine ∧ _); refine Rd.new_ (Rd.sz (by exact Nat.le_of_ble_eq_true rfl)) ?_)
  | with_reducible refine Rd.call_ ?_
  | with_reducible refine Rd.gsub ?_
  | ((with_reducible show rSetL _ _ _ _ _); refine Rd.setL (by walk_at "hp") (by walk_at "litN") ?_)
  | ((with_reducible show rIxL _ _ _ _ _); refine Rd.ixL (by walk_at "sqL") (by walk_at "lit") ?_)
  | ((with_reducible show rIxT _ _ _ _ _); refine Rd.ixT (by walk_at "sqT") (by walk_at "lit") ?_)
  | ((with_reducible show Rd.rLen _ _ _ _); refine Rd.lenL (by walk_at "sqL") ?_)
  | ((with_reducible show Rd.rLen _ _ _ _); refine Rd.lenT (by walk_at "sqT") ?_)
  | ((with_reducible show Rd.rTupOf _ _ _ _); refine Rd.tupL (by walk_at "sqL") ?_)
  | ((with_reducible show Rd.rTupOf _ _ _ _); refine Rd.tupT (by walk_at "sqT") ?_)
  | ((with_reducible show Rd.rLstOf _ _ _ _); refine Rd.lstL (by walk_at "sqL") ?_)
  | ((with_reducible show Rd.rLstOf _ _ _ _); refine Rd.lstT (by walk_at "sqT") ?_)
  | with_reducible refine Rd.rng1 ?_
  | with_reducible refine Rd.yes ?_
  | ((with_reducible show rCat _ _ _ _); refine Rd.catL (by walk_at "hp") (by walk_at "hp") (Rd.sz (by exact Nat.le_of_ble_eq_true rfl)) ?_)
  | ((with_reducible show rIsi _ _ _ _); refine Rd.isi (by walk_at "ty") (by walk_at "kit") ?_)
  | ((with_reducible show rIsiT _ _ _ _); refine Rd.isiT2 (by walk_at "hp") (by walk_at "ty") (by walk_at "kit") (by walk_at "kit") ?_)
  | with_reducible refine Rd.bm0 ?_
  | with_reducible refine Rd.bm ?_
  | ((with_reducible show tyV _ "list" (V.ref _) _ ∧ _); refine Rd.tyL (by walk_at "sqL") ?_)
  | ((with_reducible show gTup _ _ _ _ _ _ _); refine Rd.gtup (by walk_at "sqT") (by exact rfl) ?_)
  | ((with_reducible show gUnl _ _ _ _ _ _ _); refine Rd.gunl (by walk_at "sqL") (by exact rfl) ?_)
  | with_reducible refine Rd.gcons ?_
  | with_reducible refine Rd.gnil ?_
  | ((with_reducible show rNeNil _ _ _ _); refine Rd.neNil (by walk_at "hp") (by walk_at "hp") ?_)
  | with_reducible refine iteT ?_
  | with_reducible refine iteF ?_
  | with_reducible refine Rd.ifNe ?_
  | with_reducible refine Rd.ifEq ?_
  | ((with_reducible show ite (_ = true) _ _); first | refine Rd.ifT (by decide) ?_ | refine Rd.ifF (by decide) ?_)
  | with_reducible refine Rd.lzip ?_)
local macro_rules | `(tactic| walk_at "rd") => `(tactic| repeat walk_at "rd1")
section
variable {P : Program} {w : World} {K : PySem.W.Frag} {mg : Str → Option Value} {c : Nat → Addr} {ask : Addr} {H : Hp} {Q : VK} {σ : L2.St} {i j k n : Nat} {e tp : Addr} {vs : List V} {f : Str} {v : V}
theorem ExIs.len (h : ExIs c H j e vs) : vs.length = (names j).length := by
  rcases h with ⟨a, b, _⟩ | ⟨_, b, _⟩
  · rw [a, b]
    rfl
  · exact b
theorem ExIs.isEx (h : ExIs c H j e vs) : IsEx H e (c j) := by
  rcases h with ⟨_, _, x⟩ | ⟨_, _, d, x, y⟩
  · exact .inl x
  · exact .inr ⟨d, _, x, y⟩
theorem XT.exc (XC : XT P w K mg c ask) : ∀ j, j < 11 → ExcC K (c j)
  | 0, _ => XC.c0.e
  | 1, _ => XC.c1.e
  | 2, _ => XC.c2.e
  | 3, _ => XC.c3.e
  | 4, _ => XC.c4.e
  | 5, _ => XC.c5.e
  | 6, _ => XC.c6.e
  | 7, _ => XC.c7.e
  | 8, _ => XC.c8.e
  | 9, _ => XC.c9.e
  | 10, _ => XC.c10.e
  | j + 11, h => absurd h (by omega)
theorem XT.noF (XC : XT P w K mg c ask) : ∀ j f, f ∈ names j → PySem.W.findIn K (.ref (c j)) f = some none
  | 0, f, h => XC.c0.no f h
  | 1, f, h => XC.c1.no f h
  | 2, f, h => XC.c2.no f h
  | 3, f, h => XC.c3.no f h
  | 4, f, h => XC.c4.no f h
  | 5, f, h => XC.c5.no f h
  | 6, f, h => XC.c6.no f h
  | 7, f, h => XC.c7.no f h
  | 8, _, h => nomatch h
  | 9, _, h => nomatch h
  | 10, f, h => XC.c10.no f h
  | j + 11, f, h => nomatch h
theorem two_of {α : Type} {l : List α} (h : l.length = 2) : ∃ a b, l = [a, b] := by
  match l, h with
  | [a, b], _ => exact ⟨a, b, rfl⟩
theorem isX (XC : XT P w K mg c ask) (h : ExIs c H j e vs) (hj : j < 11) (hi : i < 11) (q : Q (.bl (decide (i = j))) H) : rIsX K [.ref e, .ref (c i)] H Q :=
  ⟨e, c j, _, _, _, rfl, ClsV.own _, h.isEx, XC.exc j hj, XC.isi i j hi hj, q⟩
theorem isXT (XC : XT P w K mg c ask) (hT : H tp = some (.tup [.ref (c i), .ref (c k)])) (h : ExIs c H j e vs) (hj : j < 11) (hi : i < 11) (hk : k < 11) (q : Q (.bl (decide (i = j) || decide (k = j))) H) : rIsXT K [.ref e, .ref tp] H Q := by
  refine ⟨e, c j, tp, _, [.ref (c i), .ref (c k)], _, rfl, hT, .cons (ClsV.own _) (.cons (ClsV.own _) .nil), h.isEx, XC.exc j hj, ?_, q⟩
  refine kitAny_cons (XC.isi i j hi hj) (fun z => ?_) (fun z => by rw [z]; rfl)
  rw [z]
  exact kitAny_cons (XC.isi k j hk hj) (fun y => by rw [y]; exact kitAny_nil) fun y => by rw [y]; rfl
theorem exF (XC : XT P w K mg c ask) (hv : σ[n]? = some (some (.ref e))) (h : ExIs c H j e vs) (hj : j < 11) (hf : f ∈ names j) (hl : ((names j).zip vs).reverse.lookup f = some v) (q : Q v H) : tExF K f (tVar n) σ H Q := by
  rcases h with ⟨a, _⟩ | ⟨_, b, d, x, y⟩
  · rw [a] at hf
    cases hf
  · exact ⟨_, hv, e, c j, d, _, v, rfl, ⟨XC.exc j hj, XC.noF j f hf⟩, x, y, hl, q⟩
end
local macro_rules | `(tactic| walk_at "hp") => `(tactic| first
  | assumption
  | with_reducible exact upd_same
  | exact same_new (by assumption) _ _ _ (by walk_at "hp")
  | exact Eq.trans (upd_ne (by walk_at "ne")) (by walk_at "hp"))
local macro_rules | `(tactic| walk_at "exis") => `(tactic| first
  | assumption
  | exact ExIs.mono (same_new (by assumption) _) (by walk_at "exis"))
local macro_rules | `(tactic| walk_at "jlt") => `(tactic| first | assumption | decide)
local macro_rules | `(tactic| walk_at "rd1") => `(tactic| first
  | ((with_reducible show rIsX _ _ _ _); refine isX (by assumption) (by walk_at "exis") (by walk_at "jlt") (by decide) ?_)
  | ((with_reducible show rIsXT _ _ _ _); refine isXT (by assumption) (by walk_at "hp") (by walk_at "exis") (by walk_at "jlt") (by decide) (by decide) ?_)
  | ((with_reducible show tExF _ _ _ _ _ _); refine exF (by assumption) (by exact rfl) (by walk_at "exis") (by walk_at "jlt") (by decide) (by exact rfl) ?_))
local macro_rules | `(tactic| walk_at "rdi") => `(tactic| repeat (first | walk_at "rd1" | intro _ _))
local macro_rules | `(tactic| walk_at "same") => `(tactic| first
  | assumption
  | exact fun _ _ h => h
  | exact Same.trans (by walk_at "same") (same_new (by assumption) _))
abbrev sKept : Stmt := top 19
theorem scKept : FnScope ["_law_e"] ["_law_e"] (defScope sKept) :=
  ⟨rfl, rfl, rfl, by decide +kernel, rfl, by decide +kernel, by decide +kernel⟩
def spKept (c : Nat → Addr) : Sp := fun vs H Q _ => ∃ (e : Addr) (j : Nat) (us : List V), vs = [.ref e] ∧ j < 11 ∧ ExIs c H j e us ∧ ∀ r H', Same H H' → H' r = some (.lst us) → Q (.ref r) H'
abbrev sSorts : Stmt := top 20
theorem scSorts : FnScope ["_law_one", "_law_found"] ["_law_one"] (defScope sSorts) :=
  ⟨rfl, rfl, rfl, by decide +kernel, rfl, by decide +kernel, by decide +kernel⟩
def spSorts (c : Nat → Addr) : Sp := fun vs H Q _ => ∃ (e : Addr) (j : Nat) (us : List V), vs = [.ref e] ∧ j < 11 ∧ ExIs c H j e us ∧ ∀ r H', Same H H' → H' r = some (.lst ((List.range 11).map fun i => .bl (decide (i = j)))) → Q (.ref r) H'
section
variable {P : Program} {w : World} {K : PySem.W.Frag} {mg : Str → Option Value} {base : Heap} {f : Addr} {fd : FuncData} {c : Nat → Addr} {ask : Addr}
theorem ok_kept (F : Fun K "_law_kept" "_law_kept" sKept f fd) (T : TB mg) (XC : XT P w K mg c ask) : FnOk P w K mg base CX0 1 f fd ["_law_e"] (spKept c) := by
  refine F.ok scKept (fun vs H Q E h => ?_) (fun cdv A outer s H vs Q E hr h => ?_)
  · obtain ⟨e, j, us, rfl, _⟩ := h
    rfl
  obtain ⟨e, j, vs, rfl, hj, x, q⟩ := h
  refine ⟨_, (pss_cons (ps_if (pt_val (pe_callB call_isXT rfl T.n_isinstance (by decide +kernel) (pa_cons (pv 0) (pa_cons (pe_tup (pa_cons (pe_glob (v := .ref (c 0)) rfl XC.c0.g rfl) (pa_cons (pe_glob (v := .ref (c 1)) rfl XC.c1.g rfl) pa_nil))) pa_nil)))) (pss_one (ps_ret (pe_lst (pa_cons (pe_exF (pv 0)) (pa_cons (pe_exF (pv 0)) pa_nil))))) pss_nil)
  (pss_cons (ps_if (pt_val (pe_callB call_isX rfl T.n_isinstance (by decide +kernel) (pa_cons (pv 0) (pa_cons (pe_glob (v := .ref (c 2)) rfl XC.c2.g rfl) pa_nil)))) (pss_one (ps_ret (pe_lst (pa_cons (pe_exF (pv 0)) (pa_cons (pe_exF (pv 0)) pa_nil))))) pss_nil)
  (pss_cons (ps_if (pt_val (pe_callB call_isX rfl T.n_isinstance (by decide +kernel) (pa_cons (pv 0) (pa_cons (pe_glob (v := .ref (c 3)) rfl XC.c3.g rfl) pa_nil)))) (pss_one (ps_ret (pe_lst (pa_cons (pe_exF (pv 0)) pa_nil)))) pss_nil)
  (pss_cons (ps_if (pt_val (pe_callB call_isXT rfl T.n_isinstance (by decide +kernel) (pa_cons (pv 0) (pa_cons (pe_tup (pa_cons (pe_glob (v := .ref (c 4)) rfl XC.c4.g rfl) (pa_cons (pe_glob (v := .ref (c 7)) rfl XC.c7.g rfl) pa_nil))) pa_nil)))) (pss_one (ps_ret (pe_lst (pa_cons (pe_exF (pv 0)) pa_nil)))) pss_nil)
  (pss_cons (ps_if (pt_val (pe_callB call_isX rfl T.n_isinstance (by decide +kernel) (pa_cons (pv 0) (pa_cons (pe_glob (v := .ref (c 5)) rfl XC.c5.g rfl) pa_nil)))) (pss_one (ps_ret (pe_lst (pa_cons (pe_exF (pv 0)) pa_nil)))) pss_nil)
  (pss_cons (ps_if (pt_val (pe_callB call_isX rfl T.n_isinstance (by decide +kernel) (pa_cons (pv 0) (pa_cons (pe_glob (v := .ref (c 6)) rfl XC.c6.g rfl) pa_nil)))) (pss_one (ps_ret (pe_lst (pa_cons (pe_exF (pv 0)) pa_nil)))) pss_nil)
  (pss_one (ps_ret (pe_ifExp (pt_val (pe_callB call_isX rfl T.n_isinstance (by decide +kernel) (pa_cons (pv 0) (pa_cons (pe_glob (v := .ref (c 10)) rfl XC.c10.g rfl) pa_nil)))) (pe_lst (pa_cons (pe_exF (pv 0)) pa_nil)) (pe_lst pa_nil)))))))))), ?_⟩
  match j, hj with
  | 0, _ =>
    obtain ⟨a, b, rfl⟩ := two_of (show vs.length = 2 by rw [x.len]; rfl)
    walk_at "rdi"
    exact q _ _ (by walk_at "same") upd_same
  | 1, _ =>
    obtain ⟨a, b, rfl⟩ := two_of (show vs.length = 2 by rw [x.len]; rfl)
    walk_at "rdi"
    exact q _ _ (by walk_at "same") upd_same
  | 2, _ =>
    obtain ⟨a, b, rfl⟩ := two_of (show vs.length = 2 by rw [x.len]; rfl)
    walk_at "rdi"
    exact q _ _ (by walk_at "same") upd_same
  | 3, _ =>
    obtain ⟨a, rfl⟩ := List.length_eq_one_iff.mp (show vs.length = 1 by rw [x.len]; rfl)
    walk_at "rdi"
    exact q _ _ (by walk_at "same") upd_same
  | 4, _ =>
    obtain ⟨a, rfl⟩ := List.length_eq_one_iff.mp (show vs.length = 1 by rw [x.len]; rfl)
    walk_at "rdi"
    exact q _ _ (by walk_at "same") upd_same
  | 5, _ =>
    obtain ⟨a, rfl⟩ := List.length_eq_one_iff.mp (show vs.length = 1 by rw [x.len]; rfl)
    walk_at "rdi"
    exact q _ _ (by walk_at "same") upd_same
  | 6, _ =>
    obtain ⟨a, rfl⟩ := List.length_eq_one_iff.mp (show vs.length = 1 by rw [x.len]; rfl)
    walk_at "rdi"
    exact q _ _ (by walk_at "same") upd_same
  | 7, _ =>
    obtain ⟨a, rfl⟩ := List.length_eq_one_iff.mp (show vs.length = 1 by rw [x.len]; rfl)
    walk_at "rdi"
    exact q _ _ (by walk_at "same") upd_same
  | 8, _ =>
    obtain rfl : vs = [] := List.length_eq_zero_iff.mp (by rw [x.len]; rfl)
    walk_at "rdi"
    exact q _ _ (by walk_at "same") upd_same
  | 9, _ =>
    obtain rfl : vs = [] := List.length_eq_zero_iff.mp (by rw [x.len]; rfl)
    walk_at "rdi"
    exact q _ _ (by walk_at "same") upd_same
  | 10, _ =>
    obtain ⟨a, rfl⟩ := List.length_eq_one_iff.mp (show vs.length = 1 by rw [x.len]; rfl)
    walk_at "rdi"
    exact q _ _ (by walk_at "same") upd_same
  | j + 11, h => exact absurd h (by omega)
theorem ok_sorts (F : Fun K "_law_sorts" "_law_sorts" sSorts f fd) (T : TB mg) (XC : XT P w K mg c ask) : FnOk P w K mg base CX0 1 f fd ["_law_one"] (spSorts c) := by
  refine F.ok scSorts (fun vs H Q E h => ?_) (fun cdv A outer s H vs Q E hr h => ?_)
  · obtain ⟨e, j, us, rfl, _⟩ := h
    rfl
  obtain ⟨e, j, vs, rfl, hj, x, q⟩ := h
  refine ⟨_, (pss_cons (ps_set (i := 1) scSorts.nd rfl (Or.inl rfl) (pe_lst (pa_cons (pe_callB call_isX rfl T.n_isinstance (by decide +kernel) (pa_cons (pv 0) (pa_cons (pe_glob (v := .ref (c 0)) rfl XC.c0.g rfl) pa_nil))) (pa_cons (pe_callB call_isX rfl T.n_isinstance (by decide +kernel) (pa_cons (pv 0) (pa_cons (pe_glob (v := .ref (c 1)) rfl XC.c1.g rfl) pa_nil))) (pa_cons (pe_callB call_isX rfl T.n_isinstance (by decide +kernel) (pa_cons (pv 0) (pa_cons (pe_glob (v := .ref (c 2)) rfl XC.c2.g rfl) pa_nil))) pa_nil)))))
  (pss_cons (ps_set (i := 1) scSorts.nd rfl (Or.inl rfl) (pe_op op_cat (pv 1) (pe_lst (pa_cons (pe_callB call_isX rfl T.n_isinstance (by decide +kernel) (pa_cons (pv 0) (pa_cons (pe_glob (v := .ref (c 3)) rfl XC.c3.g rfl) pa_nil))) (pa_cons (pe_callB call_isX rfl T.n_isinstance (by decide +kernel) (pa_cons (pv 0) (pa_cons (pe_glob (v := .ref (c 4)) rfl XC.c4.g rfl) pa_nil))) (pa_cons (pe_callB call_isX rfl T.n_isinstance (by decide +kernel) (pa_cons (pv 0) (pa_cons (pe_glob (v := .ref (c 5)) rfl XC.c5.g rfl) pa_nil))) pa_nil))))))
  (pss_cons (ps_set (i := 1) scSorts.nd rfl (Or.inl rfl) (pe_op op_cat (pv 1) (pe_lst (pa_cons (pe_callB call_isX rfl T.n_isinstance (by decide +kernel) (pa_cons (pv 0) (pa_cons (pe_glob (v := .ref (c 6)) rfl XC.c6.g rfl) pa_nil))) (pa_cons (pe_callB call_isX rfl T.n_isinstance (by decide +kernel) (pa_cons (pv 0) (pa_cons (pe_glob (v := .ref (c 7)) rfl XC.c7.g rfl) pa_nil))) (pa_cons (pe_callB call_isX rfl T.n_isinstance (by decide +kernel) (pa_cons (pv 0) (pa_cons (pe_glob (v := .ref (c 8)) rfl XC.c8.g rfl) pa_nil))) pa_nil))))))
  (pss_one (ps_ret (pe_op op_cat (pv 1) (pe_lst (pa_cons (pe_callB call_isX rfl T.n_isinstance (by decide +kernel) (pa_cons (pv 0) (pa_cons (pe_glob (v := .ref (c 9)) rfl XC.c9.g rfl) pa_nil))) (pa_cons (pe_callB call_isX rfl T.n_isinstance (by decide +kernel) (pa_cons (pv 0) (pa_cons (pe_glob (v := .ref (c 10)) rfl XC.c10.g rfl) pa_nil))) pa_nil))))))))), ?_⟩
  walk_at "rdi"
  exact q _ _ (by walk_at "same") upd_same
end
end K01
namespace L2
open PySem PySem.Spec PyProof.Rows
def tRs (t : St → Hp → XK → Prop) (W : WX) : TS := fun _ σ H => t σ H fun cls d H' => W cls d σ H'
def tMkZ (C : Addr) : St → Hp → XK → Prop := fun _ H Q => Q (.ref C) none H
def tTM (K : PySem.W.Frag) (Wout : WX) (l : List (Value × (Addr → Value → Option Addr → TS))) (tb : WX → TS) : TS := fun D σ H => tb (wMany K Wout D l) D σ H
section
variable {X : Cx} {C : Addr}
theorem ps_rs {W : WX} {e : Expr} {t : St → Hp → XK → Prop} {pos : Pos} (hc : X.calm = true) (tk : Takes X W) (he : PMk X e t) : PS X (.Raise (some e) none pos) (tRs t W) := ps_raise hc tk he
theorem pmk_Z {x : Str} {p pos : Pos} (hg : Gl X x) (hm : X.mg x = some (.ref C)) (hk : PySem.W.keepIn X.K (.ref C) = true) (hR : Raises X (.ref C)) (Z : Xn.ExZ X.K C) (hdb : (x == ("__debug__" : Str)) = false := by decide) :
    PMk X (.Call (.Name x p) [] [] pos) (tMkZ C) := pmk_exZ hg hm hk hR Z hdb
theorem ps_tm {body : List Stmt} {h₀ : ExceptHandler} {hds : List ExceptHandler} {l : List (Value × (Addr → Value → Option Addr → TS))} {pos : Pos} {tb : WX → TS} {Wout : WX} (hs : X.stack = X.env :: X.outer) (hf : X.env.frame = some X.env.locals) (tk : Takes X Wout)
    (hb : ∀ (W : WX) (pn : List (Addr × Obj)) (xe : Value → Shared → Prop), Takes (X.tr pn xe) W → PassesOwn (model X.prog X.w) X.A X.env xe → PSs (X.tr pn xe) body (tb W))
    (hh : HdsOk X (h₀ :: hds) l) : PS X (.Try body (h₀ :: hds) [] [] pos) (tTM X.K Wout l tb) := ps_try_many hs hf tk hb hh
end
end L2
namespace Rd
open PySem L2
section
variable {σ : L2.St} {H : Hp} {Q : XK} {QV : VK} {C : Addr} {ns : List Str} {ta : TA} {t : St → Hp → XK → Prop} {W : WX} {D : Ends} {K : PySem.W.Frag} {Wout : WX} {l : List (Value × (Addr → Value → Option Addr → TS))} {tb : WX → TS} {sp : Sp} {E : St → XK}
theorem rs (h : t σ H fun cls d H' => W cls d σ H') : tRs t W D σ H := h
theorem mkZ (h : Q (.ref C) none H) : tMkZ C σ H Q := h
theorem mkV (h : ta σ H fun vs H1 => vs.length = ns.length ∧ ∀ d, H1 d = none → Q (.ref C) (some d) (upd H1 d (.xd (ns.zip vs).reverse))) : tMkV C ns ta σ H Q := h
theorem tm (h : tb (wMany K Wout D l) D σ H) : tTM K Wout l tb D σ H := h
theorem callS (h : ta σ H fun vs H1 => sp vs H1 QV (E σ)) : tCallS sp E ta σ H QV := h
end
end Rd
namespace K01
open PySem L2
local macro_rules | `(tactic| walk_at "ne") => `(tactic| first
  | assumption
  | exact Ne.symm (by assumption)
  | exact ne_of_none (by assumption) (by assumption)
  | exact Ne.symm (ne_of_none (by assumption) (by assumption)))
local macro_rules | `(tactic| walk_at "hp") => `(tactic| first
  | assumption
  | with_reducible exact upd_same
  | exact Eq.trans (upd_ne (by walk_at "ne")) (by walk_at "hp"))
local macro_rules | `(tactic| walk_at "lit") => `(tactic| first
  | ((with_reducible show atI _ 0 = _); exact rfl) | ((with_reducible show atI _ 1 = _); exact rfl) | ((with_reducible show atI _ 2 = _); exact rfl)
  | ((with_reducible show atI _ 3 = _); exact rfl) | ((with_reducible show atI _ 4 = _); exact rfl) | ((with_reducible show atI _ (-1) = _); exact rfl))
local macro_rules | `(tactic| walk_at "litN") => `(tactic| first
  | ((with_reducible show ixN _ 0 = _); exact rfl) | ((with_reducible show ixN _ 1 = _); exact rfl) | ((with_reducible show ixN _ 2 = _); exact rfl))
local macro_rules | `(tactic| walk_at "sqL") => `(tactic| first
  | ((with_reducible show SqL _ _ _ _); assumption)
  | exact SqL.of (by walk_at "hp"))
local macro_rules | `(tactic| walk_at "sqT") => `(tactic| first
  | ((with_reducible show SqT _ _ _ _); assumption)
  | exact SqT.of (by walk_at "hp"))
local macro_rules | `(tactic| walk_at "ty") => `(tactic| with_reducible first
  | exact Rd.tyInt | exact Rd.tyStr | exact Rd.tyBl | exact Rd.tyNon
  | exact Rd.tyLst (by walk_at "hp") | exact Rd.tyTup (by walk_at "hp"))
local macro_rules | `(tactic| walk_at "kit") => `(tactic| with_reducible first | exact Rd.kit1 | exact Rd.kit2 | exact Rd.kit3 | exact Rd.kit4 | exact Rd.kit5 | exact Rd.kit6 | exact Rd.kit7 | exact Rd.kit8 | exact Rd.kit9 | exact Rd.kit10 | exact Rd.kit11 | exact Rd.kit12 | exact Rd.kit13 | exact Rd.kit14 | exact Rd.kit15 | exact Rd.kit16 | exact Rd.kit17 | exact Rd.kit18 | exact Rd.kit19 | exact Rd.kit20 | exact Rd.kit21 | exact Rd.kit22 | exact Rd.kit23 | exact Rd.kit24 | exact Rd.kit25 | exact Rd.kit26 | exact Rd.kit27 | exact Rd.kit28 | exact Rd.kit29 | exact Rd.kit30)
local macro_rules | `(tactic| walk_at "rd1") => `(tactic| first
  | with_reducible refine Rd.seq ?_
  | with_reducible refine Rd.asg ?_
  | ((with_reducible show tVar _ _ _ _); refine Rd.var (by exact rfl) ?_)
  | with_reducible refine Rd.cst ?_
  | with_reducible refine Rd.gname ?_
  | with_reducible refine Rd.ret ?_
  | with_reducible refine Rd.next ?_
  | with_reducible refine Rd.op ?_
  | with_reducible refine Rd.un ?_
  | with_reducible refine Rd.cons_ ?_
  | with_reducible refine Rd.nil_ ?_
  | with_reducible refine Rd.cb ?_
  | with_reducible refine Rd.int_ ?_
  | with_reducible refine Rd.intB ?_
  | with_reducible refine Rd.rI0_ ?_
  | ((with_reducible show rI CMul _ _ _ _ _); refine Rd.rI_ (by first | exact Or.inl ⟨by decide, by decide⟩ | exact Or.inr ⟨by decide, by decide⟩ | assumption) ?_)
  | ((with_reducible show rI CDiv _ _ _ _ _); refine Rd.rI_ ⟨by omega, by omega⟩ ?_)
  | ((with_reducible show rI CPow _ _ _ _ _); refine Rd.rI_ ⟨by decide, by decide, by decide⟩ ?_)
  | ((with_reducible show rI (fun _ j => 0 < j) _ _ _ _ _); refine Rd.rI_ (by show (0 : Int) < _; omega) ?_)
  | with_reducible refine Rd.rU_ ?_
  | ((with_reducible show rEq _ _ _ _); refine Rd.eq_ (by exact rfl) ?_)
  | ((with_reducible show rNe _ _ _ _); refine Rd.ne_ (by exact rfl) ?_)
  | with_reducible refine Rd.test ?_
  | with_reducible refine Rd.testB ?_
  | with_reducible refine Rd.exbl ?_
  | with_reducible refine Rd.ifs ?_
  | with_reducible refine Rd.ifE ?_
  | with_reducible refine Rd.and_ ?_
  | with_reducible refine Rd.or_ ?_
  | with_reducible refine Rd.not_ ?_
  | with_reducible refine Rd.andV ?_
  | with_reducible refine Rd.orV ?_
  | with_reducible refine Rd.notV ?_
  | with_reducible refine Rd.drop ?_
  | with_reducible refine Rd.cont ?_
  | with_reducible refine Rd.brk ?_
  | with_reducible refine Rd.lst_ ?_
  | with_reducible refine Rd.tup_ ?_
  | ((with_reducible show List.length _ ≤ sizeLine ∧ _); refine Rd.new_ (Rd.sz (by exact Nat.le_of_ble_eq_true rfl)) ?_)
  | with_reducible refine Rd.call_ ?_
  | with_reducible refine Rd.gsub ?_
  | ((with_reducible show rSetL _ _ _ _ _); refine Rd.setL (by walk_at "hp") (by walk_at "litN") ?_)
  | ((with_reducible show rIxL _ _ _ _ _); refine Rd.ixL (by walk_at "sqL") (by walk_at "lit") ?_)
  | ((with_reducible show rIxT _ _ _ _ _); refine Rd.ixT (by walk_at "sqT") (by walk_at "lit") ?_)
  | ((with_reducible show Rd.rLen _ _ _ _); refine Rd.lenL (by walk_at "sqL") ?_)
  | ((with_reducible show Rd.rLen _ _ _ _); refine Rd.lenT (by walk_at "sqT") ?_)
  | ((with_reducible show Rd.rTupOf _ _ _ _); refine Rd.tupL (by walk_at "sqL") ?_)
  | ((with_reducible show Rd.rTupOf _ _ _ _); refine Rd.tupT (by walk_at "sqT") ?_)
  | ((with_reducible show Rd.rLstOf _ _ _ _); refine Rd.lstL (by walk_at "sqL") ?_)
  | ((with_reducible show Rd.rLstOf _ _ _ _); refine Rd.lstT (by walk_at "sqT") ?_)
  | with_reducible refine Rd.rng1 ?_
  | with_reducible refine Rd.yes ?_
  | ((with_reducible show rCat _ _ _ _); refine Rd.catL (by walk_at "hp") (by walk_at "hp") (Rd.sz (by exact Nat.le_of_ble_eq_true rfl)) ?_)
  | ((with_reducible show rIsi _ _ _ _); refine Rd.isi (by walk_at "ty") (by walk_at "kit") ?_)
  | ((with_reducible show rIsiT _ _ _ _); refine Rd.isiT2 (by walk_at "hp") (by walk_at "ty") (by walk_at "kit") (by walk_at "kit") ?_)
  | with_reducible refine Rd.bm0 ?_
  | with_reducible refine Rd.bm ?_
  | ((with_reducible show tyV _ "list" (V.ref _) _ ∧ _); refine Rd.tyL (by walk_at "sqL") ?_)
  | ((with_reducible show gTup _ _ _ _ _ _ _); refine Rd.gtup (by walk_at "sqT") (by exact rfl) ?_)
  | ((with_reducible show gUnl _ _ _ _ _ _ _); refine Rd.gunl (by walk_at "sqL") (by exact rfl) ?_)
  | with_reducible refine Rd.gcons ?_
  | with_reducible refine Rd.gnil ?_
  | ((with_reducible show rNeNil _ _ _ _); refine Rd.neNil (by walk_at "hp") (by walk_at "hp") ?_)
  | with_reducible refine iteT ?_
  | with_reducible refine iteF ?_
  | with_reducible refine Rd.ifNe ?_
  | with_reducible refine Rd.ifEq ?_
  | ((with_reducible show ite (_ = true) _ _); first | refine Rd.ifT (by decide) ?_ | refine Rd.ifF (by decide) ?_)
  | with_reducible refine Rd.lzip ?_)
local macro_rules | `(tactic| walk_at "rd") => `(tactic| repeat walk_at "rd1")
local macro_rules | `(tactic| walk_at "hp") => `(tactic| first
  | assumption
  | with_reducible exact upd_same
  | exact same_new (by assumption) _ _ _ (by walk_at "hp")
  | exact Eq.trans (upd_ne (by walk_at "ne")) (by walk_at "hp"))
local macro_rules | `(tactic| walk_at "exis") => `(tactic| first
  | assumption
  | exact ExIs.mono (same_new (by assumption) _) (by walk_at "exis"))
local macro_rules | `(tactic| walk_at "jlt") => `(tactic| first | assumption | decide)
local macro_rules | `(tactic| walk_at "rd1") => `(tactic| first
  | ((with_reducible show rIsX _ _ _ _); refine isX (by assumption) (by walk_at "exis") (by walk_at "jlt") (by decide) ?_)
  | ((with_reducible show rIsXT _ _ _ _); refine isXT (by assumption) (by walk_at "hp") (by walk_at "exis") (by walk_at "jlt") (by decide) (by decide) ?_)
  | ((with_reducible show tExF _ _ _ _ _ _); refine exF (by assumption) (by exact rfl) (by walk_at "exis") (by walk_at "jlt") (by decide) (by exact rfl) ?_))
local macro_rules | `(tactic| walk_at "rdi") => `(tactic| repeat (first | walk_at "rd1" | intro _ _))
local macro_rules | `(tactic| walk_at "same") => `(tactic| first
  | assumption
  | exact fun _ _ h => h
  | exact Same.trans (by walk_at "same") (same_new (by assumption) _))
local macro_rules | `(tactic| walk_at "rd1") => `(tactic| first
  | with_reducible refine Rd.rs ?_
  | with_reducible refine Rd.mkZ ?_
  | with_reducible refine Rd.mkV ?_
  | with_reducible refine Rd.tm ?_
  | with_reducible refine Rd.callS ?_)
abbrev sThrown : Stmt := top 21
theorem scThrown : FnScope ["_law_form", "_law_a"] ["_law_form", "_law_a"] (defScope sThrown) :=
  ⟨rfl, rfl, rfl, by decide +kernel, rfl, by decide +kernel, by decide +kernel⟩
def spThrown (c : Nat → Addr) : Sp := fun vs H _ E => ∃ (j : Nat) (v : V), vs = [.int j, v] ∧ j < 11 ∧ ∀ d H', Same H H' → E (.ref (c j)) d H'
abbrev sCaught : Stmt := top 22
theorem scCaught : FnScope ["_law_form", "_law_a", "_law_found"] ["_law_form", "_law_a"] (defScope sCaught) :=
  ⟨rfl, rfl, rfl, by decide +kernel, rfl, by decide +kernel, by decide +kernel⟩
def spCaught : Sp := fun vs H Q _ => ∃ (j : Nat) (v : V), vs = [.int j, v] ∧ j < 11 ∧ ∀ H', Same H H' → Q (.str (if j = 10 then "key" else "ask")) H'
section
variable {P : Program} {w : World} {K : PySem.W.Frag} {mg : Str → Option Value} {base : Heap} {f fT : Addr} {fd fdT : FuncData} {c : Nat → Addr} {ask : Addr}
theorem ok_thrown (F : Fun K "_law_thrown" "_law_thrown" sThrown f fd) (T : TB mg) (XC : XT P w K mg c ask) : FnOk P w K mg base (L2.CX P w) 4 f fd ["_law_form", "_law_a"] (spThrown c) := by
  refine F.okX scThrown (fun vs H Q E h => ?_) (fun cdv A outer s H vs Q E hr h => ?_)
  · obtain ⟨j, v, rfl, _⟩ := h
    rfl
  obtain ⟨j, v, rfl, hj, q⟩ := h
  refine ⟨_, (pss_cons (ps_if (pt_cmpR op_eq (pv 0) pe_int (nomark _)) (pss_one (ps_rs rfl (takes_of rfl rfl rfl rfl) (pmk_exV (ns := ["word", "at"]) (hr.mono (Nat.zero_le _)) rfl XC.c0.g XC.sup XC.c0.k (raises_own XC.c0.e.hs XC.c0.ty) XC.c0.mp (pa_cons (pv 1) (pa_cons (pv 1) pa_nil))))) pss_nil)
  (pss_cons (ps_if (pt_cmpR op_eq (pv 0) pe_int (nomark _)) (pss_one (ps_rs rfl (takes_of rfl rfl rfl rfl) (pmk_exV (ns := ["word", "at"]) (hr.mono (Nat.zero_le _)) rfl XC.c1.g XC.sup XC.c1.k (raises_own XC.c1.e.hs XC.c1.ty) XC.c1.mp (pa_cons (pv 1) (pa_cons (pv 1) pa_nil))))) pss_nil)
  (pss_cons (ps_if (pt_cmpR op_eq (pv 0) pe_int (nomark _)) (pss_one (ps_rs rfl (takes_of rfl rfl rfl rfl) (pmk_exV (ns := ["word", "row"]) (hr.mono (Nat.zero_le _)) rfl XC.c2.g XC.sup XC.c2.k (raises_own XC.c2.e.hs XC.c2.ty) XC.c2.mp (pa_cons (pv 1) (pa_cons (pv 1) pa_nil))))) pss_nil)
  (pss_cons (ps_if (pt_cmpR op_eq (pv 0) pe_int (nomark _)) (pss_one (ps_rs rfl (takes_of rfl rfl rfl rfl) (pmk_exV (ns := ["line"]) (hr.mono (Nat.zero_le _)) rfl XC.c3.g XC.sup XC.c3.k (raises_own XC.c3.e.hs XC.c3.ty) XC.c3.mp (pa_cons (pv 1) pa_nil)))) pss_nil)
  (pss_cons (ps_if (pt_cmpR op_eq (pv 0) pe_int (nomark _)) (pss_one (ps_rs rfl (takes_of rfl rfl rfl rfl) (pmk_exV (ns := ["at"]) (hr.mono (Nat.zero_le _)) rfl XC.c4.g XC.sup XC.c4.k (raises_own XC.c4.e.hs XC.c4.ty) XC.c4.mp (pa_cons (pv 1) pa_nil)))) pss_nil)
  (pss_cons (ps_if (pt_cmpR op_eq (pv 0) pe_int (nomark _)) (pss_one (ps_rs rfl (takes_of rfl rfl rfl rfl) (pmk_exV (ns := ["book"]) (hr.mono (Nat.zero_le _)) rfl XC.c5.g XC.sup XC.c5.k (raises_own XC.c5.e.hs XC.c5.ty) XC.c5.mp (pa_cons (pv 1) pa_nil)))) pss_nil)
  (pss_cons (ps_if (pt_cmpR op_eq (pv 0) pe_int (nomark _)) (pss_one (ps_rs rfl (takes_of rfl rfl rfl rfl) (pmk_exV (ns := ["word"]) (hr.mono (Nat.zero_le _)) rfl XC.c6.g XC.sup XC.c6.k (raises_own XC.c6.e.hs XC.c6.ty) XC.c6.mp (pa_cons (pv 1) pa_nil)))) pss_nil)
  (pss_cons (ps_if (pt_cmpR op_eq (pv 0) pe_int (nomark _)) (pss_one (ps_rs rfl (takes_of rfl rfl rfl rfl) (pmk_exV (ns := ["at"]) (hr.mono (Nat.zero_le _)) rfl XC.c7.g XC.sup XC.c7.k (raises_own XC.c7.e.hs XC.c7.ty) XC.c7.mp (pa_cons (pv 1) pa_nil)))) pss_nil)
  (pss_cons (ps_if (pt_cmpR op_eq (pv 0) pe_int (nomark _)) (pss_one (ps_rs rfl (takes_of rfl rfl rfl rfl) (pmk_Z rfl XC.c8.g XC.c8.k (raises_own XC.c8.e.hs XC.c8.ty) XC.c8.z))) pss_nil)
  (pss_cons (ps_if (pt_cmpR op_eq (pv 0) pe_int (nomark _)) (pss_one (ps_rs rfl (takes_of rfl rfl rfl rfl) (pmk_Z rfl XC.c9.g XC.c9.k (raises_own XC.c9.e.hs XC.c9.ty) XC.c9.z))) pss_nil)
  (pss_one (ps_rs rfl (takes_of rfl rfl rfl rfl) (pmk_exV (ns := ["name"]) (hr.mono (Nat.zero_le _)) rfl XC.c10.g XC.sup XC.c10.k (raises_own XC.c10.e.hs XC.c10.ty) XC.c10.mp (pa_cons (pv 1) pa_nil)))))))))))))), ?_⟩
  match j, hj with
  | 0, _ =>
    walk_at "rd"
    refine ⟨rfl, fun d hd => q _ _ (same_new hd _)⟩
  | 1, _ =>
    walk_at "rd"
    refine ⟨rfl, fun d hd => q _ _ (same_new hd _)⟩
  | 2, _ =>
    walk_at "rd"
    refine ⟨rfl, fun d hd => q _ _ (same_new hd _)⟩
  | 3, _ =>
    walk_at "rd"
    refine ⟨rfl, fun d hd => q _ _ (same_new hd _)⟩
  | 4, _ =>
    walk_at "rd"
    refine ⟨rfl, fun d hd => q _ _ (same_new hd _)⟩
  | 5, _ =>
    walk_at "rd"
    refine ⟨rfl, fun d hd => q _ _ (same_new hd _)⟩
  | 6, _ =>
    walk_at "rd"
    refine ⟨rfl, fun d hd => q _ _ (same_new hd _)⟩
  | 7, _ =>
    walk_at "rd"
    refine ⟨rfl, fun d hd => q _ _ (same_new hd _)⟩
  | 8, _ =>
    walk_at "rd"
    exact q _ _ (fun _ _ h => h)
  | 9, _ =>
    walk_at "rd"
    exact q _ _ (fun _ _ h => h)
  | 10, _ =>
    walk_at "rd"
    refine ⟨rfl, fun d hd => q _ _ (same_new hd _)⟩
  | j + 11, h => exact absurd h (by omega)
theorem ok_caught (F : Fun K "_law_caught" "_law_caught" sCaught f fd) (T : TB mg) (XC : XT P w K mg c ask)
    (GT : FnOk P w K mg base (L2.CX P w) 4 fT fdT ["_law_form", "_law_a"] (spThrown c)) (bT : Binds K fdT ["_law_form", "_law_a"] []) (kT : PySem.W.keepIn K (.ref fT) = true) (mT : mg "_law_thrown" = some (.ref fT)) :
    FnOk P w K mg base CX0 5 f fd ["_law_form", "_law_a"] spCaught := by
  refine F.ok scCaught (fun vs H Q E h => ?_) (fun cdv A outer s H vs Q E hr h => ?_)
  · obtain ⟨j, v, rfl, _⟩ := h
    rfl
  obtain ⟨j, v, rfl, hj, q⟩ := h
  refine ⟨_, (pss_cons (ps_set (i := 2) scCaught.nd rfl (Or.inl rfl) pe_str)
  (pss_cons (ps_tm (tb := fun W => tDrop (tCallS (spThrown c) (WE W) (tCons (tVar 0) (tCons (tVar 1) tNil)))) (l := [(.type "KeyError", fun _ _ _ => tAsg (tC (.str "key")) (gName 2)), (.ref ask, fun _ _ _ => tAsg (tC (.str "ask")) (gName 2))]) rfl rfl takes0
    (fun W pn xe tk _ => pss_one (ps_expr (by exact (pe_callS GT (hr.mono (by omega)) rfl mT kT bT (fun σ => passAt tk σ) (by exact (pa_cons (pv 0) (pa_cons (pv 1) pa_nil)))))))
    (.cons (hc := ⟨rfl, by decide, Or.inr ⟨T.n_KeyError, by decide +kernel, by decide⟩⟩) (hsu := fun a oe cls d pn hz hf => pss_one (ps_set (i := 2) scCaught.nd rfl (Or.inl rfl) (by exact pe_str)))
    (.cons (hc := ⟨rfl, by decide, Or.inl XC.gA⟩) (hsu := fun a oe cls d pn hz hf => pss_one (ps_set (i := 2) scCaught.nd rfl (Or.inl rfl) (by exact pe_str))) .nil)))
  (pss_one (ps_ret (pv 2))))), ?_⟩
  walk_at "rd"
  refine ⟨j, v, rfl, hj, fun d H' s1 => ?_⟩
  refine ⟨_, XC.exK j hj, fun z a ha => ?_, fun z => ?_⟩
  · have e : j = 10 := of_decide_eq_true z
    walk_at "rd"
    have := q H' s1
    rw [if_pos e] at this
    exact this
  · have e : j ≠ 10 := of_decide_eq_false z
    refine ⟨_, XC.exA j hj, fun z2 a ha => ?_, fun z2 => absurd e (of_decide_eq_false z2)⟩
    walk_at "rd"
    have := q H' s1
    rw [if_neg e] at this
    exact this
end
end K01
namespace L2
open PySem PySem.Spec PyProof.Rows
def rMaxI : List V → Hp → VK → Prop := fun xs H Q => ∃ i j, xs = [.int i, .int j] ∧ Q (.int (if j > i then j else i)) H
def rMinI : List V → Hp → VK → Prop := fun xs H Q => ∃ i j, xs = [.int i, .int j] ∧ Q (.int (if j < i then j else i)) H
section
variable {X : Cx}
theorem call_maxI (hc : X.calm = true) : CallR X (.builtin "max") rMaxI := call_max2 hc
theorem call_minI (hc : X.calm = true) : CallR X (.builtin "min") rMinI := call_min2 hc
end
end L2
namespace Rd
open PySem L2
section
variable {σ : L2.St} {H : Hp} {Q : VK} {i j : Int} {wi : TI} {g : TG} {tb : TS} {D : Ends} {tt : TT} {te : TE} {vs : List Nat} {ta : TA} {K : PySem.W.Frag} {R : It → Hp → Prop}
theorem u64 {k : Nat} {A : Around} (r : Room k A) : A.units + 64 < cLine := by
  have := r.un
  omega
theorem maxI (h : Q (.int (if j > i then j else i)) H) : rMaxI [.int i, .int j] H Q := ⟨i, j, rfl, h⟩
theorem minI (h : Q (.int (if j < i then j else i)) H) : rMinI [.int i, .int j] H Q := ⟨i, j, rfl, h⟩
theorem for_ (h : wi σ H fun J H1 => ∃ W : Nat → Nat → L2.St → Hp → Prop, (∃ m, W 0 m σ H1) ∧ ∀ i m σ H, W i m σ H →
  (J.stop i H ∧ D.nx σ H) ∨ (J.go i H ∧ ∃ N : L2.St → Hp → Prop, (∀ σ' H', N σ' H' → ∃ m', m' < m ∧ W (i + 1) m' σ' H') ∧ ∀ x H', J.yld i H x H' → g x σ H' fun σ2 H2 => tb { D with nx := N, ct := N, bk := D.nx } σ2 H2)) : tFor wi g tb D σ H := h
theorem lc_ (h : wi σ H fun J H1 => ∀ D, H1 D = none → ∃ W : Nat → Nat → Hp → Prop, (∃ m, W 0 m (upd H1 D (.lst []))) ∧ ∀ i m H, W i m H →
      (J.stop i H ∧ Q (.ref D) H) ∨ (J.go i H ∧ ∃ Nx : Hp → Prop, (∀ H', Nx H' → ∃ m', m' < m ∧ W (i + 1) m' H') ∧ ∀ x H', J.yld i H x H' → g x (wipe σ vs) H' fun σ2 H2 => wipe σ2 vs = wipe σ vs ∧ tt σ2 H2 fun b H3 =>
        if b = true then te σ2 H3 fun y H4 => ∃ acc, H4 D = some (.lst acc) ∧ acc.length < sizeLine ∧ Nx (upd H4 D (.lst (acc ++ [y]))) else Nx H3)) : tLc wi g tt te vs σ H Q := h
theorem enum (h : ta σ H fun us H1 => ∃ a xs, us = [.ref a] ∧ SqL K H1 a xs ∧ R (Ite K a) H1) : iEnum K ta σ H R := h
end
end Rd
namespace K01
open PySem L2
local macro_rules | `(tactic| walk_at "ne") => `(tactic| first
  | assumption
  | exact Ne.symm (by assumption)
  | exact ne_of_none (by assumption) (by assumption)
  | exact Ne.symm (ne_of_none (by assumption) (by assumption)))
local macro_rules | `(tactic| walk_at "hp") => `(tactic| first
  | assumption
  | with_reducible exact upd_same
  | exact Eq.trans (upd_ne (by walk_at "ne")) (by walk_at "hp"))
local macro_rules | `(tactic| walk_at "lit") => `(tactic| first
  | ((with_reducible show atI _ 0 = _); exact rfl) | ((with_reducible show atI _ 1 = _); exact rfl) | ((with_reducible show atI _ 2 = _); exact rfl)
  | ((with_reducible show atI _ 3 = _); exact rfl) | ((with_reducible show atI _ 4 = _); exact rfl) | ((with_reducible show atI _ (-1) = _); exact rfl))
local macro_rules | `(tactic| walk_at "litN") => `(tactic| first
  | ((with_reducible show ixN _ 0 = _); exact rfl) | ((with_reducible show ixN _ 1 = _); exact rfl) | ((with_reducible show ixN _ 2 = _); exact rfl))
local macro_rules | `(tactic| walk_at "sqL") => `(tactic| first
  | ((with_reducible show SqL _ _ _ _); assumption)
  | exact SqL.of (by walk_at "hp"))
local macro_rules | `(tactic| walk_at "sqT") => `(tactic| first
  | ((with_reducible show SqT _ _ _ _); assumption)
  | exact SqT.of (by walk_at "hp"))
local macro_rules | `(tactic| walk_at "ty") => `(tactic| with_reducible first
  | exact Rd.tyInt | exact Rd.tyStr | exact Rd.tyBl | exact Rd.tyNon
  | exact Rd.tyLst (by walk_at "hp") | exact Rd.tyTup (by walk_at "hp"))
local macro_rules | `(tactic| walk_at "kit") => `(tactic| with_reducible first | exact Rd.kit1 | exact Rd.kit2 | exact Rd.kit3 | exact Rd.kit4 | exact Rd.kit5 | exact Rd.kit6 | exact Rd.kit7 | exact Rd.kit8 | exact Rd.kit9 | exact Rd.kit10 | exact Rd.kit11 | exact Rd.kit12 | exact Rd.kit13 | exact Rd.kit14 | exact Rd.kit15 | exact Rd.kit16 | exact Rd.kit17 | exact Rd.kit18 | exact Rd.kit19 | exact Rd.kit20 | exact Rd.kit21 | exact Rd.kit22 | exact Rd.kit23 | exact Rd.kit24 | exact Rd.kit25 | exact Rd.kit26 | exact Rd.kit27 | exact Rd.kit28 | exact Rd.kit29 | exact Rd.kit30)
local macro_rules | `(tactic| walk_at "rd1") => `(tactic| first
  | with_reducible refine Rd.seq ?_
  | with_reducible refine Rd.asg ?_
  | ((with_reducible show tVar _ _ _ _); refine Rd.var (by exact rfl) ?_)
  | with_reducible refine Rd.cst ?_
  | with_reducible refine Rd.gname ?_
  | with_reducible refine Rd.ret ?_
  | with_reducible refine Rd.next ?_
  | with_reducible refine Rd.op ?_
  | with_reducible refine Rd.un ?_
  | with_reducible refine Rd.cons_ ?_
  | with_reducible refine Rd.nil_ ?_
  | with_reducible refine Rd.cb ?_
  | with_reducible refine Rd.int_ ?_
  | with_reducible refine Rd.intB ?_
  | with_reducible refine Rd.rI0_ ?_
  | ((with_reducible show rI CMul _ _ _ _ _); refine Rd.rI_ (by first | exact Or.inl ⟨by decide, by decide⟩ | exact Or.inr ⟨by decide, by decide⟩ | assumption) ?_)
  | ((with_reducible show rI CDiv _ _ _ _ _); refine Rd.rI_ ⟨by omega, by omega⟩ ?_)
  | ((with_reducible show rI CPow _ _ _ _ _); refine Rd.rI_ ⟨by decide, by decide, by decide⟩ ?_)
  | ((with_reducible show rI (fun _ j => 0 < j) _ _ _ _ _); refine Rd.rI_ (by show (0 : Int) < _; omega) ?_)
  | with_reducible refine Rd.rU_ ?_
  | ((with_reducible show rEq _ _ _ _); refine Rd.eq_ (by exact rfl) ?_)
  | ((with_reducible show rNe _ _ _ _); refine Rd.ne_ (by exact rfl) ?_)
  | with_reducible refine Rd.test ?_
  | with_reducible refine Rd.testB ?_
  | with_reducible refine Rd.exbl ?_
  | with_reducible refine Rd.ifs ?_
  | with_reducible refine Rd.ifE ?_
  | with_reducible refine Rd.and_ ?_
  | with_reducible refine Rd.or_ ?_
  | with_reducible refine Rd.not_ ?_
  | with_reducible refine Rd.andV ?_
  | with_reducible refine Rd.orV ?_
  | with_reducible refine Rd.notV ?_
  | with_reducible refine Rd.drop ?_
  | with_reducible refine Rd.cont ?_
  | with_reducible refine Rd.brk ?_
  | with_reducible refine Rd.lst_ ?_
  | with_reducible refine Rd.tup_ ?_
  | ((with_reducible show List.length _ ≤ sizeLine ∧ _); refine Rd.new_ (Rd.sz (by exact Nat.le_of_ble_eq_true rfl)) ?_)
  | with_reducible refine Rd.call_ ?_
  | with_reducible refine Rd.gsub ?_
  | ((with_reducible show rSetL _ _ _ _ _); refine Rd.setL (by walk_at "hp") (by walk_at "litN") ?_)
  | ((with_reducible show rIxL _ _ _ _ _); refine Rd.ixL (by walk_at "sqL") (by walk_at "lit") ?_)
  | ((with_reducible show rIxT _ _ _ _ _); refine Rd.ixT (by walk_at "sqT") (by walk_at "lit") ?_)
  | ((with_reducible show Rd.rLen _ _ _ _); refine Rd.lenL (by walk_at "sqL") ?_)
  | ((with_reducible show Rd.rLen _ _ _ _); refine Rd.lenT (by walk_at "sqT") ?_)
  | ((with_reducible show Rd.rTupOf _ _ _ _); refine Rd.tupL (by walk_at "sqL") ?_)
  | ((with_reducible show Rd.rTupOf _ _ _ _); refine Rd.tupT (by walk_at "sqT") ?_)
  | ((with_reducible show Rd.rLstOf _ _ _ _); refine Rd.lstL (by walk_at "sqL") ?_)
  | ((with_reducible show Rd.rLstOf _ _ _ _); refine Rd.lstT (by walk_at "sqT") ?_)
  | with_reducible refine Rd.rng1 ?_
  | with_reducible refine Rd.yes ?_
  | ((with_reducible show rCat _ _ _ _); refine Rd.catL (by walk_at "hp") (by walk_at "hp") (Rd.sz (by exact Nat.le_of_ble_eq_true rfl)) ?_)
  | ((with_reducible show rIsi _ _ _ _); refine Rd.isi (by walk_at "ty") (by walk_at "kit") ?_)
  | ((with_reducible show rIsiT _ _ _ _); refine Rd.isiT2 (by walk_at "hp") (by walk_at "ty") (by walk_at "kit") (by walk_at "kit") ?_)
  | with_reducible refine Rd.bm0 ?_
  | with_reducible refine Rd.bm ?_
  | ((with_reducible show tyV _ "list" (V.ref _) _ ∧ _); refine Rd.tyL (by walk_at "sqL") ?_)
  | ((with_reducible show gTup _ _ _ _ _ _ _); refine Rd.gtup (by walk_at "sqT") (by exact rfl) ?_)
  | ((with_reducible show gUnl _ _ _ _ _ _ _); refine Rd.gunl (by walk_at "sqL") (by exact rfl) ?_)
  | with_reducible refine Rd.gcons ?_
  | with_reducible refine Rd.gnil ?_
  | ((with_reducible show rNeNil _ _ _ _); refine Rd.neNil (by walk_at "hp") (by walk_at "hp") ?_)
  | with_reducible refine iteT ?_
  | with_reducible refine iteF ?_
  | with_reducible refine Rd.ifNe ?_
  | with_reducible refine Rd.ifEq ?_
  | ((with_reducible show ite (_ = true) _ _); first | refine Rd.ifT (by decide) ?_ | refine Rd.ifF (by decide) ?_)
  | with_reducible refine Rd.lzip ?_)
local macro_rules | `(tactic| walk_at "rd") => `(tactic| repeat walk_at "rd1")
local macro_rules | `(tactic| walk_at "hp") => `(tactic| first
  | assumption
  | with_reducible exact upd_same
  | exact same_new (by assumption) _ _ _ (by walk_at "hp")
  | exact Eq.trans (upd_ne (by walk_at "ne")) (by walk_at "hp"))
local macro_rules | `(tactic| walk_at "exis") => `(tactic| first
  | assumption
  | exact ExIs.mono (same_new (by assumption) _) (by walk_at "exis"))
local macro_rules | `(tactic| walk_at "jlt") => `(tactic| first | assumption | decide)
local macro_rules | `(tactic| walk_at "rd1") => `(tactic| first
  | ((with_reducible show rIsX _ _ _ _); refine isX (by assumption) (by walk_at "exis") (by walk_at "jlt") (by decide) ?_)
  | ((with_reducible show rIsXT _ _ _ _); refine isXT (by assumption) (by walk_at "hp") (by walk_at "exis") (by walk_at "jlt") (by decide) (by decide) ?_)
  | ((with_reducible show tExF _ _ _ _ _ _); refine exF (by assumption) (by exact rfl) (by walk_at "exis") (by walk_at "jlt") (by decide) (by exact rfl) ?_))
local macro_rules | `(tactic| walk_at "rdi") => `(tactic| repeat (first | walk_at "rd1" | intro _ _))
local macro_rules | `(tactic| walk_at "same") => `(tactic| first
  | assumption
  | exact fun _ _ h => h
  | exact Same.trans (by walk_at "same") (same_new (by assumption) _))
local macro_rules | `(tactic| walk_at "rd1") => `(tactic| first
  | with_reducible refine Rd.maxI ?_
  | with_reducible refine Rd.minI ?_
  | with_reducible refine Rd.for_ ?_
  | with_reducible refine Rd.lc_ ?_
  | with_reducible refine Rd.enum ?_
  | with_reducible refine Rd.exbl ?_)
abbrev sLaw : Stmt := top 23
abbrev nLaw : List Str := ["_law_script", "_law_k", "_law_box_here", "_law_spot", "_law_pair", "_law_one", "_law_due", "_law_value", "_law_form"]
theorem scLaw : FnScope nLaw ["_law_script"] (defScope sLaw) :=
  ⟨rfl, rfl, rfl, by decide +kernel, rfl, by decide +kernel, by decide +kernel⟩
def spLaw (K : PySem.W.Frag) : Sp := fun vs H Q _ => ∃ (a : Addr) (ns : List Int), vs = [.ref a] ∧ SqL K H a (ns.map V.int) ∧ ns.length < 1000000 ∧ ∀ H', Q (.bl true) H'
theorem isAsk {P : Program} {w : World} {K : PySem.W.Frag} {mg : Str → Option Value} {c : Nat → Addr} {ask : Addr} {H : Hp} {Q : VK} {j : Nat} {e : Addr} {vs : List V} (XC : XT P w K mg c ask) (h : ExIs c H j e vs) (hj : j < 11) (q : Q (.bl (decide (j ≠ 10))) H) : rIsX K [.ref e, .ref ask] H Q :=
  ⟨e, c j, _, _, _, rfl, ClsV.own _, h.isEx, XC.exc j hj, XC.isA j hj, q⟩
theorem isKey {P : Program} {w : World} {K : PySem.W.Frag} {mg : Str → Option Value} {c : Nat → Addr} {ask : Addr} {H : Hp} {Q : VK} {j : Nat} {e : Addr} {vs : List V} (XC : XT P w K mg c ask) (h : ExIs c H j e vs) (hj : j < 11) (q : Q (.bl (decide (j = 10))) H) : rIsX K [.ref e, .ty "KeyError"] H Q :=
  ⟨e, c j, _, _, _, rfl, ClsV.ty _, h.isEx, XC.exc j hj, XC.isK j hj, q⟩
theorem isVal {P : Program} {w : World} {K : PySem.W.Frag} {mg : Str → Option Value} {c : Nat → Addr} {ask : Addr} {H : Hp} {Q : VK} {j : Nat} {e : Addr} {vs : List V} (XC : XT P w K mg c ask) (h : ExIs c H j e vs) (hj : j < 11) (q : Q (.bl (decide (j ≠ 10))) H) : rIsX K [.ref e, .ty "ValueError"] H Q :=
  ⟨e, c j, _, _, _, rfl, ClsV.ty _, h.isEx, XC.exc j hj, XC.isV j hj, q⟩
theorem row_at {va vb vc vd : V} {i : Nat} {e : Nat × List V} (h : (JJ va vb vc vd)[i]? = some e) : e.1 = i / 2 ∧ i < 22 ∧ e.2.length ≤ 2 ∧ ∀ x ∈ e.2, x ∈ [va, vb, vc, vd] := by
  match i, h with
  | 0, h =>
    cases h
    refine ⟨rfl, by decide, by exact Nat.le_of_ble_eq_true rfl, ?_⟩
    intro x hx
    simp at hx ⊢
    try (rcases hx with hx | hx <;> simp [hx])
    try simp [hx]
  | 1, h =>
    cases h
    refine ⟨rfl, by decide, by exact Nat.le_of_ble_eq_true rfl, ?_⟩
    intro x hx
    simp at hx ⊢
    try (rcases hx with hx | hx <;> simp [hx])
    try simp [hx]
  | 2, h =>
    cases h
    refine ⟨rfl, by decide, by exact Nat.le_of_ble_eq_true rfl, ?_⟩
    intro x hx
    simp at hx ⊢
    try (rcases hx with hx | hx <;> simp [hx])
    try simp [hx]
  | 3, h =>
    cases h
    refine ⟨rfl, by decide, by exact Nat.le_of_ble_eq_true rfl, ?_⟩
    intro x hx
    simp at hx ⊢
    try (rcases hx with hx | hx <;> simp [hx])
    try simp [hx]
  | 4, h =>
    cases h
    refine ⟨rfl, by decide, by exact Nat.le_of_ble_eq_true rfl, ?_⟩
    intro x hx
    simp at hx ⊢
    try (rcases hx with hx | hx <;> simp [hx])
    try simp [hx]
  | 5, h =>
    cases h
    refine ⟨rfl, by decide, by exact Nat.le_of_ble_eq_true rfl, ?_⟩
    intro x hx
    simp at hx ⊢
    try (rcases hx with hx | hx <;> simp [hx])
    try simp [hx]
  | 6, h =>
    cases h
    refine ⟨rfl, by decide, by exact Nat.le_of_ble_eq_true rfl, ?_⟩
    intro x hx
    simp at hx ⊢
    try (rcases hx with hx | hx <;> simp [hx])
    try simp [hx]
  | 7, h =>
    cases h
    refine ⟨rfl, by decide, by exact Nat.le_of_ble_eq_true rfl, ?_⟩
    intro x hx
    simp at hx ⊢
    try (rcases hx with hx | hx <;> simp [hx])
    try simp [hx]
  | 8, h =>
    cases h
    refine ⟨rfl, by decide, by exact Nat.le_of_ble_eq_true rfl, ?_⟩
    intro x hx
    simp at hx ⊢
    try (rcases hx with hx | hx <;> simp [hx])
    try simp [hx]
  | 9, h =>
    cases h
    refine ⟨rfl, by decide, by exact Nat.le_of_ble_eq_true rfl, ?_⟩
    intro x hx
    simp at hx ⊢
    try (rcases hx with hx | hx <;> simp [hx])
    try simp [hx]
  | 10, h =>
    cases h
    refine ⟨rfl, by decide, by exact Nat.le_of_ble_eq_true rfl, ?_⟩
    intro x hx
    simp at hx ⊢
    try (rcases hx with hx | hx <;> simp [hx])
    try simp [hx]
  | 11, h =>
    cases h
    refine ⟨rfl, by decide, by exact Nat.le_of_ble_eq_true rfl, ?_⟩
    intro x hx
    simp at hx ⊢
    try (rcases hx with hx | hx <;> simp [hx])
    try simp [hx]
  | 12, h =>
    cases h
    refine ⟨rfl, by decide, by exact Nat.le_of_ble_eq_true rfl, ?_⟩
    intro x hx
    simp at hx ⊢
    try (rcases hx with hx | hx <;> simp [hx])
    try simp [hx]
  | 13, h =>
    cases h
    refine ⟨rfl, by decide, by exact Nat.le_of_ble_eq_true rfl, ?_⟩
    intro x hx
    simp at hx ⊢
    try (rcases hx with hx | hx <;> simp [hx])
    try simp [hx]
  | 14, h =>
    cases h
    refine ⟨rfl, by decide, by exact Nat.le_of_ble_eq_true rfl, ?_⟩
    intro x hx
    simp at hx ⊢
    try (rcases hx with hx | hx <;> simp [hx])
    try simp [hx]
  | 15, h =>
    cases h
    refine ⟨rfl, by decide, by exact Nat.le_of_ble_eq_true rfl, ?_⟩
    intro x hx
    simp at hx ⊢
    try (rcases hx with hx | hx <;> simp [hx])
    try simp [hx]
  | 16, h =>
    cases h
    refine ⟨rfl, by decide, by exact Nat.le_of_ble_eq_true rfl, ?_⟩
    intro x hx
    simp at hx ⊢
    try (rcases hx with hx | hx <;> simp [hx])
    try simp [hx]
  | 17, h =>
    cases h
    refine ⟨rfl, by decide, by exact Nat.le_of_ble_eq_true rfl, ?_⟩
    intro x hx
    simp at hx ⊢
    try (rcases hx with hx | hx <;> simp [hx])
    try simp [hx]
  | 18, h =>
    cases h
    refine ⟨rfl, by decide, by exact Nat.le_of_ble_eq_true rfl, ?_⟩
    intro x hx
    simp at hx ⊢
    try (rcases hx with hx | hx <;> simp [hx])
    try simp [hx]
  | 19, h =>
    cases h
    refine ⟨rfl, by decide, by exact Nat.le_of_ble_eq_true rfl, ?_⟩
    intro x hx
    simp at hx ⊢
    try (rcases hx with hx | hx <;> simp [hx])
    try simp [hx]
  | 20, h =>
    cases h
    refine ⟨rfl, by decide, by exact Nat.le_of_ble_eq_true rfl, ?_⟩
    intro x hx
    simp at hx ⊢
    try (rcases hx with hx | hx <;> simp [hx])
    try simp [hx]
  | 21, h =>
    cases h
    refine ⟨rfl, by decide, by exact Nat.le_of_ble_eq_true rfl, ?_⟩
    intro x hx
    simp at hx ⊢
    try (rcases hx with hx | hx <;> simp [hx])
    try simp [hx]
  | i + 22, h => cases h
theorem eqv_self {bs : List Bool} : PyData.eqv (.list (bs.map PyData.bool)) (.list (bs.map PyData.bool)) = true := by
  refine PySem.SeqAt.eqv_refl _ ?_
  show PyData.canLayAll0 _ = true
  induction bs with
  | nil => rfl
  | cons b bs ih =>
    show (PyData.canLay0 (.bool b) && PyData.canLayAll0 (bs.map PyData.bool)) = true
    rw [ih]
    rfl
theorem dp_bools {K : PySem.W.Frag} {H : Hp} {bs : List Bool} : DpAll K H (bs.map V.bl) (bs.map PyData.bool) := by
  induction bs with
  | nil => exact .nil
  | cons b bs ih => exact .cons (.bl b) ih
section
variable {P : Program} {w : World} {K : PySem.W.Frag} {mg : Str → Option Value} {base : Heap} {f fB fM fA fT fO fS fC : Addr} {fd fdB fdM fdA fdT fdO fdS fdC : FuncData} {c : Nat → Addr} {ask : Addr}
theorem ok_law (F : Fun K "law" "law" sLaw f fd) (T : TB mg) (XC : XT P w K mg c ask)
    (GB : FnOk P w K mg base CX0 1 fB fdB ["_law_script", "_law_k"] (spBox K)) (bB : Binds K fdB ["_law_script", "_law_k"] []) (kB : PySem.W.keepIn K (.ref fB) = true) (mB : mg "_law_box" = some (.ref fB))
    (GM : FnOk P w K mg base CX0 7 fM fdM ["_law_box_here"] (spMade c)) (bM : Binds K fdM ["_law_box_here"] []) (kM : PySem.W.keepIn K (.ref fM) = true) (mM : mg "_law_made" = some (.ref fM))
    (GA : FnOk P w K mg base CX0 1 fA fdA ["_law_found", "_law_due"] spAlike) (bA : Binds K fdA ["_law_found", "_law_due"] []) (kA : PySem.W.keepIn K (.ref fA) = true) (mA : mg "_law_alike" = some (.ref fA))
    (GT : FnOk P w K mg base CX0 1 fT fdT ["_law_e"] (spKept c)) (bT : Binds K fdT ["_law_e"] []) (kT : PySem.W.keepIn K (.ref fT) = true) (mT : mg "_law_kept" = some (.ref fT))
    (GO : FnOk P w K mg base CX0 1 fO fdO ["_law_one"] (spSorts c)) (bO : Binds K fdO ["_law_one"] []) (kO : PySem.W.keepIn K (.ref fO) = true) (mO : mg "_law_sorts" = some (.ref fO))
    (GS : FnOk P w K mg base CX0 6 fS fdS ["_law_box_here", "_law_deep"] (spSome 5)) (bS : Binds K fdS ["_law_box_here", "_law_deep"] []) (kS : PySem.W.keepIn K (.ref fS) = true) (mS : mg "_law_some" = some (.ref fS))
    (GC : FnOk P w K mg base CX0 5 fC fdC ["_law_form", "_law_a"] spCaught) (bC : Binds K fdC ["_law_form", "_law_a"] []) (kC : PySem.W.keepIn K (.ref fC) = true) (mC : mg "_law_caught" = some (.ref fC)) :
    FnOk P w K mg base CX0 8 f fd ["_law_script"] (spLaw K) := by
  refine F.ok scLaw (fun vs H Q E h => ?_) (fun cdv A outer s H vs Q E hr h => ?_)
  · obtain ⟨a, ns, rfl, _⟩ := h
    rfl
  obtain ⟨a, ns, rfl, hs, hlen, q⟩ := h
  refine ⟨_, (pss_cons (ps_for PassesOwn.never rfl (pi_range1 rfl T.n_range (pa_cons (pe_callB (call_maxI rfl) rfl T.n_max (by decide +kernel) (pa_cons pe_int (pa_cons (pe_callB (call_minI rfl) rfl T.n_min (by decide +kernel) (pa_cons pe_int (pa_cons (pe_callB Rd.c_len rfl T.n_len (by decide +kernel) (pa_cons (pv 0) pa_nil)) pa_nil))) pa_nil))) pa_nil)) (pg_name (i := 1) scLaw.nd rfl (Or.inl rfl)) (pss_cons (ps_set (i := 2) scLaw.nd rfl (Or.inl rfl) (pe_call GB (hr.mono (by omega)) rfl mB kB bB .nil pass0 (pa_cons (pv 0) (pa_cons (pv 1) pa_nil))))
  (pss_cons (ps_for PassesOwn.never rfl (pi_enum rfl T.n_enumerate (pa_cons (pe_call GM (hr.mono (by omega)) rfl mM kM bM .nil pass0 (pa_cons (pv 2) pa_nil)) pa_nil)) (pg_tup rfl (pgs_cons (pg_name (i := 3) scLaw.nd rfl (Or.inr rfl)) (pgs_cons (pg_name (i := 4) scLaw.nd rfl (Or.inl rfl)) pgs_nil))) (pss_cons (ps_asg (pv 4) (pg_tup rfl (pgs_cons (pg_name (i := 5) scLaw.nd rfl (Or.inl rfl)) (pgs_cons (pg_name (i := 6) scLaw.nd rfl (Or.inl rfl)) pgs_nil))))
  (pss_cons (ps_if (PW.pt (pw_or (pt_not (pt_val (pe_call GA (hr.mono (by omega)) rfl mA kA bA .nil pass0 (pa_cons (pe_call GT (hr.mono (by omega)) rfl mT kT bT .nil pass0 (pa_cons (pv 5) pa_nil)) (pa_cons (pv 6) pa_nil))))) (pw_or1 (pt_cmpR (op_neD (Rd.u64 hr)) (pe_call GO (hr.mono (by omega)) rfl mO kO bO .nil pass0 (pa_cons (pv 5) pa_nil)) (pe_lc (own := [("_law_form", 8)]) (g := gName 8) (tt := tYes) rfl scLaw.nd (pi_range1 rfl T.n_range (pa_cons pe_int pa_nil)) (blkOk_by (N := nLaw) (sc := defScope sLaw) (by decide +kernel)) (fun _ _ _ _ _ => (pg_name (i := 8) scLaw.nd rfl (Or.inl rfl))) (fun _ _ _ _ _ => pts_nil) (fun _ _ _ _ _ => (pe_cmpR op_eq (pv 8) (pe_op op_fdiv (pv 3) pe_int) (nomark _)))) (nomark _))))) (pss_one (ps_ret pe_bl)) pss_nil)
  (pss_cons (ps_if (pt_cmpR op_ne (pe_callB call_isX rfl T.n_isinstance (by decide +kernel) (pa_cons (pv 5) (pa_cons (pe_glob (v := .ref ask) rfl XC.gA rfl) pa_nil))) (pe_not (pe_callB call_isX rfl T.n_isinstance (by decide +kernel) (pa_cons (pv 5) (pa_cons (pe_glob (v := .ref (c 10)) rfl XC.c10.g rfl) pa_nil)))) (nomark _)) (pss_one (ps_ret pe_bl)) pss_nil)
  (pss_one (ps_if (pt_cmpR op_eq (pe_callB call_isX rfl T.n_isinstance (by decide +kernel) (pa_cons (pv 5) (pa_cons (pe_bltn (v := .ty "KeyError") rfl T.n_KeyError (by decide +kernel) rfl) pa_nil))) (pe_callB call_isX rfl T.n_isinstance (by decide +kernel) (pa_cons (pv 5) (pa_cons (pe_bltn (v := .ty "ValueError") rfl T.n_ValueError (by decide +kernel) rfl) pa_nil))) (nomark _)) (pss_one (ps_ret pe_bl)) pss_nil))))))
  (pss_cons (ps_set (i := 7) scLaw.nd rfl (Or.inl rfl) (pe_call GS (hr.mono (by omega)) rfl mS kS bS .nil pass0 (pa_cons (pv 2) (pa_cons pe_int pa_nil))))
  (pss_one (ps_for PassesOwn.never rfl (pi_range1 rfl T.n_range (pa_cons pe_int pa_nil)) (pg_name (i := 8) scLaw.nd rfl (Or.inl rfl)) (pss_one (ps_if (pt_cmpR op_ne (pe_call GC (hr.mono (by omega)) rfl mC kC bC .nil pass0 (pa_cons (pv 8) (pa_cons (pv 7) pa_nil))) (pe_ix ix_list (pe_lst (pa_cons pe_str (pa_cons pe_str pa_nil))) (pe_callTy Rd.c_int rfl T.n_int (by decide +kernel) (pa_cons (pe_cmpR op_eq (pv 8) pe_int (nomark _)) pa_nil)) (fun _ _ => rfl)) (nomark _)) (pss_one (ps_ret pe_bl)) pss_nil))))))))
  (pss_one (ps_ret pe_bl))), ?_⟩
  walk_at "rd"
  refine Rd.rng1_ (by split <;> (try split) <;> omega) (by split <;> (try split) <;> omega) ?_
  refine for_range (lo := 0) (fun _ σ' H' => ∃ o1 o2 o3 o4 o5 o6 o7 o8, σ' = [some (.ref a), o1, o2, o3, o4, o5, o6, o7, o8] ∧ Same H H') ⟨none, none, none, none, none, none, none, none, rfl, fun _ _ h => h⟩ ?_ ?_
  · rintro i σ' H1 hi ⟨o1, o2, o3, o4, o5, o6, o7, o8, rfl, s1⟩
    walk_at "rd"
    refine ⟨a, ns, 0 + (i : Int), rfl, s1.seq hs, by omega, fun p H2 s2 hp hB => ?_⟩
    walk_at "rd"
    refine ⟨p, rfl, hB, fun r ts H3 e3 hB3 hr3 hR => ?_⟩
    walk_at "rd"
    refine ⟨r, _, rfl, SqL.of hr3, ?_⟩
    have s3 : Same H H3 := fun b o h => e3 b o (ne_of_none (s1 b o h) hp) (s2 b o (s1 b o h))
    obtain ⟨va, vb, vc, vd, hd, hW⟩ := hR
    refine for_it walk_enum (fun _ σ' H' => ∃ o3 o4 o5 o6, σ' = [some (.ref a), some (.int (0 + (i : Int))), some (.ref p), o3, o4, o5, o6, o7, o8] ∧ Same H3 H') ⟨_, _, _, _, rfl, fun _ _ h => h⟩ (fun _ _ _ _ ⟨_, _, _, _, _, z⟩ => z.seq (SqL.of hr3)) ?_ ?_
    · rintro m x σ'' H4 H5 hm ⟨o3, o4, o5, o6, rfl, s4⟩ ⟨T', x1, x2, rfl, hT', rfl, e1, e2⟩
      obtain rfl : V.int (m : Int) = x1 := Option.some.inj e1
      obtain ⟨t, hti, rfl⟩ : ∃ t, ts[m]? = some t ∧ x2 = .ref t := by
        have e2 : (ts.map V.ref)[m]? = some x2 := e2
        rw [List.getElem?_map] at e2
        cases z : ts[m]? with
        | none =>
          rw [z] at e2
          cases e2
        | some t =>
          rw [z] at e2
          exact ⟨t, rfl, (Option.some.inj e2).symm⟩
      obtain ⟨⟨j, us⟩, he, e, l, ht, hl, hx⟩ := hW.get hti
      obtain ⟨hj, h22, hu2, hum⟩ := row_at he
      have hj' : j = m / 2 := hj
      have hu2 : us.length ≤ 2 := hu2
      have hj11 : j < 11 := by omega
      have s5 : Same H3 (upd H4 T' (.tup [.int (m : Int), .ref t])) := s4.trans (same_new hT' _)
      have ht5 := s5 _ _ ht
      have hl5 := s5 _ _ hl
      have hx5 := hx.mono s5
      walk_at "rd"
      refine ⟨e, j, us, rfl, hj11, hx5, fun r1 H6 s6 hr1 => ?_⟩
      walk_at "rd"
      refine ⟨6, _, _, rfl, by decide, .inr ⟨5, r1, l, us, rfl, rfl, rfl, .inl ⟨hr1, s6 _ _ hl5⟩, by omega, fun x hm => Dat.mono (fun _ h => h) (fun a o _ h => s6 _ _ (s5 a o h)) (hd x (hum x hm))⟩, fun H7 s7 => ?_⟩
      walk_at "rd"
      refine ⟨e, j, us, rfl, hj11, hx5.mono (s6.trans s7), fun r2 H8 s8 hr2 => ?_⟩
      walk_at "rd"
      refine Rd.rng1_ (by decide) (by decide) fun D hD => ?_
      refine lc_range (lo := 0) (n := 11) (fun n H' => Same H8 H' ∧ H' D = some (.lst ((List.range n).map fun (k : Nat) => V.bl (decide (V.int (0 + (k : Int)) = V.int ((m : Int) / 2)))))) ⟨same_new hD _, upd_same⟩ ?_ ?_
      · rintro n H9 hn ⟨s9, hD9⟩
        walk_at "rd"
        refine ⟨rfl, ?_⟩
        walk_at "rd"
        refine ⟨_, hD9, lt_line (by rw [List.length_map, List.length_range]; omega), fun b o h => by rw [upd_ne (ne_of_none h hD)]; exact s9 b o h, ?_⟩
        rw [List.range_succ, List.map_append]
        exact upd_same
      · rintro H9 ⟨s9, hD9⟩
        have hx9 : ExIs c H9 j e us := hx5.mono (s6.trans (s7.trans (s8.trans s9)))
        have hb : ((List.range 11).map fun (k : Nat) => V.bl (decide (V.int (0 + (k : Int)) = V.int ((m : Int) / 2)))) = ((List.range 11).map fun i => decide (i = j)).map V.bl := by
          rw [List.map_map]
          refine List.map_congr_left fun k _ => congrArg V.bl (decide_eq_decide.mpr ⟨fun h => ?_, fun h => ?_⟩)
          · have := V.int.inj h
            omega
          · show V.int _ = V.int _
            congr 1
            have : k = j := h
            omega
        rw [hb] at hD9
        have hr9 : H9 r2 = some (.lst (((List.range 11).map fun i => decide (i = j)).map V.bl)) := by
          rw [List.map_map]
          exact s9 _ _ hr2
        refine ⟨_, _, .lst (SqL.of hr9) dp_bools, .lst (SqL.of hD9) dp_bools, rfl, rfl, ?_⟩
        rw [eqv_self]
        walk_at "rd"
        refine isAsk XC hx9 hj11 ?_
        walk_at "rd"
        refine Rd.ifF ?_ ?_
        · by_cases h : j = 10 <;> simp [h, eq_comm]
        walk_at "rd"
        refine isKey XC hx9 hj11 ?_
        walk_at "rd"
        refine isVal XC hx9 hj11 ?_
        walk_at "rd"
        refine Rd.ifF ?_ ?_
        · by_cases h : j = 10 <;> simp [h]
        walk_at "rd"
        exact ⟨_, _, _, _, rfl, s5.trans (s6.trans (s7.trans (s8.trans s9)))⟩
    · rintro σ'' H4 ⟨o3, o4, o5, o6, rfl, s4⟩
      walk_at "rd"
      refine ⟨p, 2, rfl, ?_, by decide, by decide, fun v H5 e5 b5 hv => ?_⟩
      · obtain ⟨x, y, z, h⟩ := hB3
        exact ⟨x, y, z, s4 _ _ h⟩
      walk_at "rd"
      refine Rd.rng1_ (by decide) (by decide) ?_
      refine for_range (lo := 0) (n := 11) (fun _ σ' H' => ∃ o8, σ' = [some (.ref a), some (.int (0 + (i : Int))), some (.ref p), o3, o4, o5, o6, some v, o8] ∧ Same H5 H') ⟨_, rfl, fun _ _ h => h⟩ ?_ ?_
      · rintro n σ3 H6 hn ⟨o8, rfl, s6⟩
        walk_at "rd"
        refine ⟨n, v, by rw [Int.zero_add]; rfl, hn, fun H7 s7 => ?_⟩
        walk_at "rd"
        intro l hl
        walk_at "rd"
        by_cases h10 : n = 10
        · subst h10
          refine Rd.ixL (SqL.of upd_same) (v := .str "key") (by exact rfl) ?_
          walk_at "rd"
          exact ⟨_, rfl, s6.trans (s7.trans (same_new hl _))⟩
        · have hd : decide (V.int (0 + (n : Int)) = V.int 10) = false := decide_eq_false fun h => h10 (by have := V.int.inj h; omega)
          rw [hd, if_neg h10]
          refine Rd.ixL (SqL.of upd_same) (v := .str "ask") (by exact rfl) ?_
          walk_at "rd"
          exact ⟨_, rfl, s6.trans (s7.trans (same_new hl _))⟩
      · rintro σ3 H6 ⟨o8, rfl, s6⟩
        walk_at "rd"
        exact ⟨_, _, _, _, _, _, _, _, rfl, fun b o h => s6 b o (e5 b o (ne_of_none (s1 b o h) hp) (s4 b o (s3 b o h)))⟩
  · rintro σ' H1 ⟨o1, o2, o3, o4, o5, o6, o7, o8, rfl, s1⟩
    walk_at "rd"
    exact q _
end
end K01
namespace Xn
open PySem PySem.W PySem.Calls PyProof.Rows
def scIb (sc : Scope) (ns : List Str) : Bool := (match sc.kind with | .function => true | _ => false) && !sc.isCoroutine && !sc.isGenerator && decide (sc.names.lookup ("super" : Str) = some .globalImplicit) && decide (sc.names.lookup ("__class__" : Str) = some .free) &&
  ((("self" : Str) :: ns).all fun n => decide (sc.names.lookup n = some .local)) && sc.names.all fun y => decide (y.2 ≠ .cell)
theorem scI_of {sc : Scope} {ns : List Str} (h : scIb sc ns = true) : ScI sc ns := by
  unfold scIb at h
  simp only [Bool.and_eq_true, List.all_eq_true, decide_eq_true_eq, Bool.not_eq_true'] at h
  obtain ⟨⟨⟨⟨⟨⟨h1, h2⟩, h3⟩, h4⟩, h5⟩, h6⟩, h7⟩ := h
  refine ⟨?_, h2, h3, h4, h5, h6, h7⟩
  split at h1
  · assumption
  · cases h1
def okZ (K : Frag) (C : Addr) : Bool := okCls K C bmV "ValueError.__new__" && (findIn K (.ref C) "__init__" == some (some (.builtin "ValueError.__init__")))
theorem okZ_of {K : Frag} {C : Addr} (q : okZ K C = true) : ExZ K C := by
  unfold okZ at q
  simp only [Bool.and_eq_true, beq_iff_eq] at q
  obtain ⟨nm, qn, N, bs, bm, sn, sub, ab, col, dd, k0, k1, k2, k3, k5, h1, h2⟩ := okCls_of q.1
  exact ⟨⟨nm, qn, N, bs, bm, true, sn, sub, ab, col, dd, k0, k1, k2, k3, k5, h1, h2⟩, q.2⟩
end Xn
namespace K01
open PySem L2 Xn PySem.Calls
def pick (l : List Addr) (i : Nat) : Addr := l.getD i 0
def okIs (K : PySem.W.Frag) (l : List Addr) (ask : Addr) : Bool := (List.range 11).all fun j => ((List.range 11).all fun i => PySem.W.kitOne K (.ref (pick l j)) (.ref (pick l i)) == some (decide (i = j))) &&
  (PySem.W.kitOne K (.ref (pick l j)) (.ref ask) == some (decide (j ≠ 10))) && (PySem.W.kitOne K (.ref (pick l j)) (.type "KeyError") == some (decide (j = 10))) && (PySem.W.kitOne K (.ref (pick l j)) (.type "ValueError") == some (decide (j ≠ 10))) &&
  (PySem.W.exmOne K (.ref (pick l j)) (.type "KeyError") == some (decide (j = 10))) && (PySem.W.exmOne K (.ref (pick l j)) (.ref ask) == some (decide (j ≠ 10)))
theorem okIs_of {K : PySem.W.Frag} {l : List Addr} {ask : Addr} (h : okIs K l ask = true) :
    (∀ i j, i < 11 → j < 11 → PySem.W.kitOne K (.ref (pick l j)) (.ref (pick l i)) = some (decide (i = j))) ∧ (∀ j, j < 11 → PySem.W.kitOne K (.ref (pick l j)) (.ref ask) = some (decide (j ≠ 10))) ∧
    (∀ j, j < 11 → PySem.W.kitOne K (.ref (pick l j)) (.type "KeyError") = some (decide (j = 10))) ∧ (∀ j, j < 11 → PySem.W.kitOne K (.ref (pick l j)) (.type "ValueError") = some (decide (j ≠ 10))) ∧
    (∀ j, j < 11 → PySem.W.exmOne K (.ref (pick l j)) (.type "KeyError") = some (decide (j = 10))) ∧ (∀ j, j < 11 → PySem.W.exmOne K (.ref (pick l j)) (.ref ask) = some (decide (j ≠ 10))) := by
  unfold okIs at h
  have z : ∀ j, j < 11 → _ := fun j hj => List.all_eq_true.mp h j (List.mem_range.mpr hj)
  simp only [Bool.and_eq_true, beq_iff_eq] at z
  exact ⟨fun i j hi hj => beq_iff_eq.mp (List.all_eq_true.mp (z j hj).1.1.1.1.1 i (List.mem_range.mpr hi)), fun j hj => (z j hj).1.1.1.1.2, fun j hj => (z j hj).1.1.1.2, fun j hj => (z j hj).1.1.2, fun j hj => (z j hj).1.2, fun j hj => (z j hj).2⟩
section
variable {P : Program} {w : World} {K : PySem.W.Frag} {mg : Str → Option Value} {C fI cc cda : Addr} {B i B0 newId : String} {bmB : List Value} {qual x n k : Str} {fd : FuncData} {p0 p1 p2 p3 p4 q1 q2 r0 r1 r2 r3 y0 y1 y2 y3 : Pos}
theorem clz (g : mg x = some (.ref C)) (e : okE K C = true) (z : okZ K C = true) : ClZ P w K mg C x := by
  obtain ⟨h1, h2, h3⟩ := okE_of e
  exact ⟨g, h3, h1, h2, okZ_of z⟩
theorem sz1 : ([] : List Value).length ≤ sizeLine ∧ ∀ v u : Value, [v].length ≤ sizeLine ∧ [v, u].length ≤ sizeLine := ⟨Nat.zero_le _, fun _ _ => ⟨Rd.sz (by exact Nat.le_of_ble_eq_true rfl), Rd.sz (by exact Nat.le_of_ble_eq_true rfl)⟩⟩
theorem cl1 (NF : NewF B0 newId bmB) (FI : IniF B i) (KF : PySem.W.KxsFacts B i) (SF : StoreFacts B bmB "object.__setattr__" "object") (g : mg x = some (.ref C)) (e : okE K C = true) (t : okT K C B i newId bmB = true) (hi : PySem.W.findIn K (.ref C) "__init__" = some (some (.ref fI)))
    (hf : ∃ oc od osl, K.lookup fI = some ⟨oc, od, .func fd, osl⟩) (sh : fd.globals = mainGlobals ∧ fd.builtins = builtinsNs ∧ fd.closure = [((("__class__" : Str)), cc)] ∧ fd.code = .ref cda ∧ fd.qualname = qual) (o : okI P K C fI cc cda qual [n] = true)
    (par : ∃ ar, (fd.params.posonlyargs ++ fd.params.args).head? = some ar ∧ ar.arg = "self") (S : ScI fd.scope [n]) (hbody : fd.body = .stmts [supX [.Name n q1] p0 p1 p2 p3 p4, keepX n r0 r1 r2 r3]) (hev : EvOk fd fI [.Name n q1] p0 p1 p2 p3)
    (hne : n ≠ "self") (hd : (n == ("__debug__" : Str)) = false) (b1 : ∀ (s : Shared) (x v : Value), BindsTo s fd ⟨[x, v], []⟩ [("self", x), (n, v)]) (b2 : ∀ (s : Shared) (x v : Value), BindsTo s fd ⟨[x], [(n, v)]⟩ [("self", x), (n, v)]) : Cl P w K mg C x [n] := by
  obtain ⟨h1, h2, h3⟩ := okE_of e
  obtain ⟨I, j1, j2, j3⟩ := okI_of o hf sh
  have X : ExC P K C fI cc cda B i B0 newId bmB qual fd := ⟨NF, FI, KF, SF, okT_of t, I, par, j1, j2⟩
  have hn := j3 n (by simp)
  refine ⟨g, h3, h1, h2, fun us hl => ?_, fun us hl => ?_, j3⟩
  · match us, hl with
    | [v], _ => exact mks1 X S hbody hev hne hd hn (sz1.2 v v).1 (fun s x => b1 s x v)
  · match us, hl with
    | [v], _ => exact mks1 X S hbody hev hne hd hn sz1.1 (fun s x => b2 s x v)
theorem cl2 (NF : NewF B0 newId bmB) (FI : IniF B i) (KF : PySem.W.KxsFacts B i) (SF : StoreFacts B bmB "object.__setattr__" "object") (g : mg x = some (.ref C)) (e : okE K C = true) (t : okT K C B i newId bmB = true) (hi : PySem.W.findIn K (.ref C) "__init__" = some (some (.ref fI)))
    (hf : ∃ oc od osl, K.lookup fI = some ⟨oc, od, .func fd, osl⟩) (sh : fd.globals = mainGlobals ∧ fd.builtins = builtinsNs ∧ fd.closure = [((("__class__" : Str)), cc)] ∧ fd.code = .ref cda ∧ fd.qualname = qual) (o : okI P K C fI cc cda qual [n, k] = true)
    (par : ∃ ar, (fd.params.posonlyargs ++ fd.params.args).head? = some ar ∧ ar.arg = "self") (S : ScI fd.scope [n, k]) (hbody : fd.body = .stmts [supX [.Name n q1, .Name k q2] p0 p1 p2 p3 p4, keepX n r0 r1 r2 r3, keepX k y0 y1 y2 y3]) (hev : EvOk fd fI [.Name n q1, .Name k q2] p0 p1 p2 p3)
    (hne : n ≠ "self") (hke : k ≠ "self") (hnk : n ≠ k) (hd : (n == ("__debug__" : Str)) = false) (hd2 : (k == ("__debug__" : Str)) = false)
    (b1 : ∀ (s : Shared) (x v u : Value), BindsTo s fd ⟨[x, v, u], []⟩ [("self", x), (n, v), (k, u)]) (b2 : ∀ (s : Shared) (x v u : Value), BindsTo s fd ⟨[x], [(k, u), (n, v)]⟩ [("self", x), (n, v), (k, u)]) : Cl P w K mg C x [n, k] := by
  obtain ⟨h1, h2, h3⟩ := okE_of e
  obtain ⟨I, j1, j2, j3⟩ := okI_of o hf sh
  have X : ExC P K C fI cc cda B i B0 newId bmB qual fd := ⟨NF, FI, KF, SF, okT_of t, I, par, j1, j2⟩
  have hn := j3 n (by simp)
  have hk := j3 k (by simp)
  refine ⟨g, h3, h1, h2, fun us hl => ?_, fun us hl => ?_, j3⟩
  · match us, hl with
    | [v, u], _ => exact mks2 X S hbody hev hne hke hnk hd hd2 hn hk (sz1.2 v u).2 (fun s x => b1 s x v u)
  · match us, hl with
    | [u, v], _ => exact mks2 X S hbody hev hne hke hnk hd hd2 hn hk sz1.1 (fun s x => b2 s x v u)
end
set_option maxHeartbeats 4000000 in
theorem all_mk {P : Program} {w : World} {K : PySem.W.Frag} {h : Heap} {mg : Str → Option Value} {fa C0 F0 cc0 cd0 C1 F1 cc1 cd1 C2 F2 cc2 cd2 C3 F3 cc3 cd3 C4 F4 cc4 cd4 C5 F5 cc5 cd5 C6 F6 cc6 cd6 C7 F7 cc7 cd7 C8 C9 C10 F10 cc10 cd10 ask p0 p1 p2 p3 p4 p5 p6 p7 p8 p9 : Addr} (X : K.In h) (G : h.Ns mainGlobals mg) (hfa : mg "law" = some (.ref fa))
    {od0 an0 od1 an1 od2 an2 od3 an3 od4 an4 od5 an5 od6 an6 od7 an7 od10 an10 pod0 pan0 pod1 pan1 pod2 pan2 pod3 pan3 pod4 pan4 pod5 pan5 pod6 pan6 pod7 pan7 pod8 pan8 pod9 pan9 : Option Addr} {sl0 sl1 sl2 sl3 sl4 sl5 sl6 sl7 sl10 psl0 psl1 psl2 psl3 psl4 psl5 psl6 psl7 psl8 psl9 : Array (Option Value)} {oc0 kV0 dc0 pm0 ct0 oc1 kV1 dc1 pm1 ct1 oc2 kV2 dc2 pm2 ct2 oc3 kV3 dc3 pm3 ct3 oc4 kV4 dc4 pm4 ct4 oc5 kV5 dc5 pm5 ct5 oc6 kV6 dc6 pm6 ct6 oc7 kV7 dc7 pm7 ct7 oc10 kV10 dc10 pm10 ct10 poc0 pkV0 pdc0 ppm0 pcd0 pct0 poc1 pkV1 pdc1 ppm1 pcd1 pct1 poc2 pkV2 pdc2 ppm2 pcd2 pct2 poc3 pkV3 pdc3 ppm3 pcd3 pct3 poc4 pkV4 pdc4 ppm4 pcd4 pct4 poc5 pkV5 pdc5 ppm5 pcd5 pct5 poc6 pkV6 pdc6 ppm6 pcd6 pct6 poc7 pkV7 pdc7 ppm7 pcd7 pct7 poc8 pkV8 pdc8 ppm8 pcd8 pct8 poc9 pkV9 pdc9 ppm9 pcd9 pct9 : Value}
    (g0 : PySem.W.nsIn K mainGlobals "InvalidPiece" = some (some (.ref C0)))
    (e0 : Xn.okE K C0 = true)
    (t0 : Xn.okT K C0 "ValueError" "ValueError.__init__" "ValueError.__new__" Xn.bmV = true)
    (i0 : PySem.W.findIn K (.ref C0) "__init__" = some (some (.ref F0)))
    (l0 : K.lookup F0 = some ⟨oc0, od0, .func (PySem.W.ksFn "__init__" "InvalidPiece.__init__" (defArgs (inClass (top 2) 0)) (defBody (inClass (top 2) 0)) (defScope (inClass (top 2) 0)) .none kV0 dc0 pm0 an0 (.ref cd0) ct0 cc0), sl0⟩)
    (n0 : Xn.okI P K C0 F0 cc0 cd0 "InvalidPiece.__init__" ["word", "at"] = true)
    (g1 : PySem.W.nsIn K mainGlobals "InvalidBook" = some (some (.ref C1)))
    (e1 : Xn.okE K C1 = true)
    (t1 : Xn.okT K C1 "ValueError" "ValueError.__init__" "ValueError.__new__" Xn.bmV = true)
    (i1 : PySem.W.findIn K (.ref C1) "__init__" = some (some (.ref F1)))
    (l1 : K.lookup F1 = some ⟨oc1, od1, .func (PySem.W.ksFn "__init__" "InvalidBook.__init__" (defArgs (inClass (top 4) 0)) (defBody (inClass (top 4) 0)) (defScope (inClass (top 4) 0)) .none kV1 dc1 pm1 an1 (.ref cd1) ct1 cc1), sl1⟩)
    (n1 : Xn.okI P K C1 F1 cc1 cd1 "InvalidBook.__init__" ["word", "at"] = true)
    (g2 : PySem.W.nsIn K mainGlobals "InvalidCode" = some (some (.ref C2)))
    (e2 : Xn.okE K C2 = true)
    (t2 : Xn.okT K C2 "ValueError" "ValueError.__init__" "ValueError.__new__" Xn.bmV = true)
    (i2 : PySem.W.findIn K (.ref C2) "__init__" = some (some (.ref F2)))
    (l2 : K.lookup F2 = some ⟨oc2, od2, .func (PySem.W.ksFn "__init__" "InvalidCode.__init__" (defArgs (inClass (top 5) 0)) (defBody (inClass (top 5) 0)) (defScope (inClass (top 5) 0)) .none kV2 dc2 pm2 an2 (.ref cd2) ct2 cc2), sl2⟩)
    (n2 : Xn.okI P K C2 F2 cc2 cd2 "InvalidCode.__init__" ["word", "row"] = true)
    (g3 : PySem.W.nsIn K mainGlobals "InvalidText" = some (some (.ref C3)))
    (e3 : Xn.okE K C3 = true)
    (t3 : Xn.okT K C3 "ValueError" "ValueError.__init__" "ValueError.__new__" Xn.bmV = true)
    (i3 : PySem.W.findIn K (.ref C3) "__init__" = some (some (.ref F3)))
    (l3 : K.lookup F3 = some ⟨oc3, od3, .func (PySem.W.ksFn "__init__" "InvalidText.__init__" (defArgs (inClass (top 3) 0)) (defBody (inClass (top 3) 0)) (defScope (inClass (top 3) 0)) .none kV3 dc3 pm3 an3 (.ref cd3) ct3 cc3), sl3⟩)
    (n3 : Xn.okI P K C3 F3 cc3 cd3 "InvalidText.__init__" ["line"] = true)
    (g4 : PySem.W.nsIn K mainGlobals "InvalidPromise" = some (some (.ref C4)))
    (e4 : Xn.okE K C4 = true)
    (t4 : Xn.okT K C4 "ValueError" "ValueError.__init__" "ValueError.__new__" Xn.bmV = true)
    (i4 : PySem.W.findIn K (.ref C4) "__init__" = some (some (.ref F4)))
    (l4 : K.lookup F4 = some ⟨oc4, od4, .func (PySem.W.ksFn "__init__" "InvalidPromise.__init__" (defArgs (inClass (top 6) 0)) (defBody (inClass (top 6) 0)) (defScope (inClass (top 6) 0)) .none kV4 dc4 pm4 an4 (.ref cd4) ct4 cc4), sl4⟩)
    (n4 : Xn.okI P K C4 F4 cc4 cd4 "InvalidPromise.__init__" ["at"] = true)
    (g5 : PySem.W.nsIn K mainGlobals "Unlike" = some (some (.ref C5)))
    (e5 : Xn.okE K C5 = true)
    (t5 : Xn.okT K C5 "ValueError" "ValueError.__init__" "ValueError.__new__" Xn.bmV = true)
    (i5 : PySem.W.findIn K (.ref C5) "__init__" = some (some (.ref F5)))
    (l5 : K.lookup F5 = some ⟨oc5, od5, .func (PySem.W.ksFn "__init__" "Unlike.__init__" (defArgs (inClass (top 7) 0)) (defBody (inClass (top 7) 0)) (defScope (inClass (top 7) 0)) .none kV5 dc5 pm5 an5 (.ref cd5) ct5 cc5), sl5⟩)
    (n5 : Xn.okI P K C5 F5 cc5 cd5 "Unlike.__init__" ["book"] = true)
    (g6 : PySem.W.nsIn K mainGlobals "Misfit" = some (some (.ref C6)))
    (e6 : Xn.okE K C6 = true)
    (t6 : Xn.okT K C6 "ValueError" "ValueError.__init__" "ValueError.__new__" Xn.bmV = true)
    (i6 : PySem.W.findIn K (.ref C6) "__init__" = some (some (.ref F6)))
    (l6 : K.lookup F6 = some ⟨oc6, od6, .func (PySem.W.ksFn "__init__" "Misfit.__init__" (defArgs (inClass (top 8) 0)) (defBody (inClass (top 8) 0)) (defScope (inClass (top 8) 0)) .none kV6 dc6 pm6 an6 (.ref cd6) ct6 cc6), sl6⟩)
    (n6 : Xn.okI P K C6 F6 cc6 cd6 "Misfit.__init__" ["word"] = true)
    (g7 : PySem.W.nsIn K mainGlobals "NoPlace" = some (some (.ref C7)))
    (e7 : Xn.okE K C7 = true)
    (t7 : Xn.okT K C7 "ValueError" "ValueError.__init__" "ValueError.__new__" Xn.bmV = true)
    (i7 : PySem.W.findIn K (.ref C7) "__init__" = some (some (.ref F7)))
    (l7 : K.lookup F7 = some ⟨oc7, od7, .func (PySem.W.ksFn "__init__" "NoPlace.__init__" (defArgs (inClass (top 10) 0)) (defBody (inClass (top 10) 0)) (defScope (inClass (top 10) 0)) .none kV7 dc7 pm7 an7 (.ref cd7) ct7 cc7), sl7⟩)
    (n7 : Xn.okI P K C7 F7 cc7 cd7 "NoPlace.__init__" ["at"] = true)
    (g8 : PySem.W.nsIn K mainGlobals "InvalidCommand" = some (some (.ref C8)))
    (e8 : Xn.okE K C8 = true)
    (z8 : Xn.okZ K C8 = true)
    (g9 : PySem.W.nsIn K mainGlobals "OtherShape" = some (some (.ref C9)))
    (e9 : Xn.okE K C9 = true)
    (z9 : Xn.okZ K C9 = true)
    (g10 : PySem.W.nsIn K mainGlobals "UnknownName" = some (some (.ref C10)))
    (e10 : Xn.okE K C10 = true)
    (t10 : Xn.okT K C10 "KeyError" "KeyError.__init__" "LookupError.__new__" Xn.bmK = true)
    (i10 : PySem.W.findIn K (.ref C10) "__init__" = some (some (.ref F10)))
    (l10 : K.lookup F10 = some ⟨oc10, od10, .func (PySem.W.ksFn "__init__" "UnknownName.__init__" (defArgs (inClass (top 12) 0)) (defBody (inClass (top 12) 0)) (defScope (inClass (top 12) 0)) .none kV10 dc10 pm10 an10 (.ref cd10) ct10 cc10), sl10⟩)
    (n10 : Xn.okI P K C10 F10 cc10 cd10 "UnknownName.__init__" ["name"] = true)
    (gA : PySem.W.nsIn K mainGlobals "AskError" = some (some (.ref ask)))
    (isq : okIs K [C0, C1, C2, C3, C4, C5, C6, C7, C8, C9, C10] ask = true)
    (pa0 : PySem.W.nsIn K mainGlobals "_law_box" = some (some (.ref p0)))
    (pl0 : K.lookup p0 = some ⟨poc0, pod0, .func (PySem.W.fnOf "_law_box" "_law_box" (defArgs sBox) (defBody sBox) (defScope sBox) .none pkV0 pdc0 ppm0 pan0 pcd0 pct0), psl0⟩)
    (pc0 : PySem.W.codeIn K pcd0 "_law_box" = true)
    (pk0 : PySem.W.keepIn K (.ref p0) = true)
    (pa1 : PySem.W.nsIn K mainGlobals "_law_take" = some (some (.ref p1)))
    (pl1 : K.lookup p1 = some ⟨poc1, pod1, .func (PySem.W.fnOf "_law_take" "_law_take" (defArgs sTake) (defBody sTake) (defScope sTake) .none pkV1 pdc1 ppm1 pan1 pcd1 pct1), psl1⟩)
    (pc1 : PySem.W.codeIn K pcd1 "_law_take" = true)
    (pk1 : PySem.W.keepIn K (.ref p1) = true)
    (pa2 : PySem.W.nsIn K mainGlobals "_law_alike" = some (some (.ref p2)))
    (pl2 : K.lookup p2 = some ⟨poc2, pod2, .func (PySem.W.fnOf "_law_alike" "_law_alike" (defArgs sAlike) (defBody sAlike) (defScope sAlike) .none pkV2 pdc2 ppm2 pan2 pcd2 pct2), psl2⟩)
    (pc2 : PySem.W.codeIn K pcd2 "_law_alike" = true)
    (pk2 : PySem.W.keepIn K (.ref p2) = true)
    (pa3 : PySem.W.nsIn K mainGlobals "_law_some" = some (some (.ref p3)))
    (pl3 : K.lookup p3 = some ⟨poc3, pod3, .func (PySem.W.fnOf "_law_some" "_law_some" (defArgs sSome) (defBody sSome) (defScope sSome) .none pkV3 pdc3 ppm3 pan3 pcd3 pct3), psl3⟩)
    (pc3 : PySem.W.codeIn K pcd3 "_law_some" = true)
    (pk3 : PySem.W.keepIn K (.ref p3) = true)
    (pa4 : PySem.W.nsIn K mainGlobals "_law_made" = some (some (.ref p4)))
    (pl4 : K.lookup p4 = some ⟨poc4, pod4, .func (PySem.W.fnOf "_law_made" "_law_made" (defArgs sMade) (defBody sMade) (defScope sMade) .none pkV4 pdc4 ppm4 pan4 pcd4 pct4), psl4⟩)
    (pc4 : PySem.W.codeIn K pcd4 "_law_made" = true)
    (pk4 : PySem.W.keepIn K (.ref p4) = true)
    (pa5 : PySem.W.nsIn K mainGlobals "_law_kept" = some (some (.ref p5)))
    (pl5 : K.lookup p5 = some ⟨poc5, pod5, .func (PySem.W.fnOf "_law_kept" "_law_kept" (defArgs sKept) (defBody sKept) (defScope sKept) .none pkV5 pdc5 ppm5 pan5 pcd5 pct5), psl5⟩)
    (pc5 : PySem.W.codeIn K pcd5 "_law_kept" = true)
    (pk5 : PySem.W.keepIn K (.ref p5) = true)
    (pa6 : PySem.W.nsIn K mainGlobals "_law_sorts" = some (some (.ref p6)))
    (pl6 : K.lookup p6 = some ⟨poc6, pod6, .func (PySem.W.fnOf "_law_sorts" "_law_sorts" (defArgs sSorts) (defBody sSorts) (defScope sSorts) .none pkV6 pdc6 ppm6 pan6 pcd6 pct6), psl6⟩)
    (pc6 : PySem.W.codeIn K pcd6 "_law_sorts" = true)
    (pk6 : PySem.W.keepIn K (.ref p6) = true)
    (pa7 : PySem.W.nsIn K mainGlobals "_law_thrown" = some (some (.ref p7)))
    (pl7 : K.lookup p7 = some ⟨poc7, pod7, .func (PySem.W.fnOf "_law_thrown" "_law_thrown" (defArgs sThrown) (defBody sThrown) (defScope sThrown) .none pkV7 pdc7 ppm7 pan7 pcd7 pct7), psl7⟩)
    (pc7 : PySem.W.codeIn K pcd7 "_law_thrown" = true)
    (pk7 : PySem.W.keepIn K (.ref p7) = true)
    (pa8 : PySem.W.nsIn K mainGlobals "_law_caught" = some (some (.ref p8)))
    (pl8 : K.lookup p8 = some ⟨poc8, pod8, .func (PySem.W.fnOf "_law_caught" "_law_caught" (defArgs sCaught) (defBody sCaught) (defScope sCaught) .none pkV8 pdc8 ppm8 pan8 pcd8 pct8), psl8⟩)
    (pc8 : PySem.W.codeIn K pcd8 "_law_caught" = true)
    (pk8 : PySem.W.keepIn K (.ref p8) = true)
    (pa9 : PySem.W.nsIn K mainGlobals "law" = some (some (.ref p9)))
    (pl9 : K.lookup p9 = some ⟨poc9, pod9, .func (PySem.W.fnOf "law" "law" (defArgs sLaw) (defBody sLaw) (defScope sLaw) .none pkV9 pdc9 ppm9 pan9 pcd9 pct9), psl9⟩)
    (pc9 : PySem.W.codeIn K pcd9 "law" = true)
    (pk9 : PySem.W.keepIn K (.ref p9) = true)
    (b_int : PySem.W.nsIn K mainGlobals "int" = some none)
    (b_len : PySem.W.nsIn K mainGlobals "len" = some none)
    (b_range : PySem.W.nsIn K mainGlobals "range" = some none)
    (b_max : PySem.W.nsIn K mainGlobals "max" = some none)
    (b_min : PySem.W.nsIn K mainGlobals "min" = some none)
    (b_isinstance : PySem.W.nsIn K mainGlobals "isinstance" = some none)
    (b_enumerate : PySem.W.nsIn K mainGlobals "enumerate" = some none)
    (b_zip : PySem.W.nsIn K mainGlobals "zip" = some none)
    (b_list : PySem.W.nsIn K mainGlobals "list" = some none)
    (b_tuple : PySem.W.nsIn K mainGlobals "tuple" = some none)
    (b_bool : PySem.W.nsIn K mainGlobals "bool" = some none)
    (b_KeyError : PySem.W.nsIn K mainGlobals "KeyError" = some none)
    (b_ValueError : PySem.W.nsIn K mainGlobals "ValueError" = some none)
    (b_super : PySem.W.nsIn K mainGlobals "super" = some none) :
    ∃ fd : FuncData, (∀ (s : Shared) (v : Value), BindsTo s fd ⟨[v], []⟩ [("_law_script", v)]) ∧ ∀ base : Heap, K.In base → base.Ns mainGlobals mg → FnOk P w K mg base CX0 8 fa fd ["_law_script"] (spLaw K) := by
  have d0 : Cl P w K mg C0 "InvalidPiece" ["word", "at"] := cl2 Xn.new_V Xn.ini_ValueError PySem.W.kxs_ValueError F.store_ValueError (PySem.W.mg_of X G g0) e0 t0 i0 ⟨_, _, _, l0⟩ ⟨rfl, rfl, rfl, rfl, rfl⟩ n0 ⟨_, rfl, rfl⟩ (scI_of (by exact (by decide +kernel : scIb (defScope (inClass (top 2) 0)) ["word", "at"] = true))) rfl (fun _ => ⟨_, rfl⟩) (by decide) (by decide) (by decide) (by decide) (by decide) (fun _ _ _ _ => .of_eq rfl) (fun _ _ _ _ => .of_eq rfl)
  have d1 : Cl P w K mg C1 "InvalidBook" ["word", "at"] := cl2 Xn.new_V Xn.ini_ValueError PySem.W.kxs_ValueError F.store_ValueError (PySem.W.mg_of X G g1) e1 t1 i1 ⟨_, _, _, l1⟩ ⟨rfl, rfl, rfl, rfl, rfl⟩ n1 ⟨_, rfl, rfl⟩ (scI_of (by exact (by decide +kernel : scIb (defScope (inClass (top 4) 0)) ["word", "at"] = true))) rfl (fun _ => ⟨_, rfl⟩) (by decide) (by decide) (by decide) (by decide) (by decide) (fun _ _ _ _ => .of_eq rfl) (fun _ _ _ _ => .of_eq rfl)
  have d2 : Cl P w K mg C2 "InvalidCode" ["word", "row"] := cl2 Xn.new_V Xn.ini_ValueError PySem.W.kxs_ValueError F.store_ValueError (PySem.W.mg_of X G g2) e2 t2 i2 ⟨_, _, _, l2⟩ ⟨rfl, rfl, rfl, rfl, rfl⟩ n2 ⟨_, rfl, rfl⟩ (scI_of (by exact (by decide +kernel : scIb (defScope (inClass (top 5) 0)) ["word", "row"] = true))) rfl (fun _ => ⟨_, rfl⟩) (by decide) (by decide) (by decide) (by decide) (by decide) (fun _ _ _ _ => .of_eq rfl) (fun _ _ _ _ => .of_eq rfl)
  have d3 : Cl P w K mg C3 "InvalidText" ["line"] := cl1 Xn.new_V Xn.ini_ValueError PySem.W.kxs_ValueError F.store_ValueError (PySem.W.mg_of X G g3) e3 t3 i3 ⟨_, _, _, l3⟩ ⟨rfl, rfl, rfl, rfl, rfl⟩ n3 ⟨_, rfl, rfl⟩ (scI_of (by exact (by decide +kernel : scIb (defScope (inClass (top 3) 0)) ["line"] = true))) rfl (fun _ => ⟨_, rfl⟩) (by decide) (by decide) (fun _ _ _ => .of_eq rfl) (fun _ _ _ => .of_eq rfl)
  have d4 : Cl P w K mg C4 "InvalidPromise" ["at"] := cl1 Xn.new_V Xn.ini_ValueError PySem.W.kxs_ValueError F.store_ValueError (PySem.W.mg_of X G g4) e4 t4 i4 ⟨_, _, _, l4⟩ ⟨rfl, rfl, rfl, rfl, rfl⟩ n4 ⟨_, rfl, rfl⟩ (scI_of (by exact (by decide +kernel : scIb (defScope (inClass (top 6) 0)) ["at"] = true))) rfl (fun _ => ⟨_, rfl⟩) (by decide) (by decide) (fun _ _ _ => .of_eq rfl) (fun _ _ _ => .of_eq rfl)
  have d5 : Cl P w K mg C5 "Unlike" ["book"] := cl1 Xn.new_V Xn.ini_ValueError PySem.W.kxs_ValueError F.store_ValueError (PySem.W.mg_of X G g5) e5 t5 i5 ⟨_, _, _, l5⟩ ⟨rfl, rfl, rfl, rfl, rfl⟩ n5 ⟨_, rfl, rfl⟩ (scI_of (by exact (by decide +kernel : scIb (defScope (inClass (top 7) 0)) ["book"] = true))) rfl (fun _ => ⟨_, rfl⟩) (by decide) (by decide) (fun _ _ _ => .of_eq rfl) (fun _ _ _ => .of_eq rfl)
  have d6 : Cl P w K mg C6 "Misfit" ["word"] := cl1 Xn.new_V Xn.ini_ValueError PySem.W.kxs_ValueError F.store_ValueError (PySem.W.mg_of X G g6) e6 t6 i6 ⟨_, _, _, l6⟩ ⟨rfl, rfl, rfl, rfl, rfl⟩ n6 ⟨_, rfl, rfl⟩ (scI_of (by exact (by decide +kernel : scIb (defScope (inClass (top 8) 0)) ["word"] = true))) rfl (fun _ => ⟨_, rfl⟩) (by decide) (by decide) (fun _ _ _ => .of_eq rfl) (fun _ _ _ => .of_eq rfl)
  have d7 : Cl P w K mg C7 "NoPlace" ["at"] := cl1 Xn.new_V Xn.ini_ValueError PySem.W.kxs_ValueError F.store_ValueError (PySem.W.mg_of X G g7) e7 t7 i7 ⟨_, _, _, l7⟩ ⟨rfl, rfl, rfl, rfl, rfl⟩ n7 ⟨_, rfl, rfl⟩ (scI_of (by exact (by decide +kernel : scIb (defScope (inClass (top 10) 0)) ["at"] = true))) rfl (fun _ => ⟨_, rfl⟩) (by decide) (by decide) (fun _ _ _ => .of_eq rfl) (fun _ _ _ => .of_eq rfl)
  have d8 : ClZ P w K mg C8 "InvalidCommand" := clz (PySem.W.mg_of X G g8) e8 z8
  have d9 : ClZ P w K mg C9 "OtherShape" := clz (PySem.W.mg_of X G g9) e9 z9
  have d10 : Cl P w K mg C10 "UnknownName" ["name"] := cl1 Xn.new_K Xn.ini_KeyError Xn.sup_KeyError Xn.store_KeyError (PySem.W.mg_of X G g10) e10 t10 i10 ⟨_, _, _, l10⟩ ⟨rfl, rfl, rfl, rfl, rfl⟩ n10 ⟨_, rfl, rfl⟩ (scI_of (by exact (by decide +kernel : scIb (defScope (inClass (top 12) 0)) ["name"] = true))) rfl (fun _ => ⟨_, rfl⟩) (by decide) (by decide) (fun _ _ _ => .of_eq rfl) (fun _ _ _ => .of_eq rfl)
  obtain ⟨q1, q2, q3, q4, q5, q6⟩ := okIs_of isq
  have XC : XT P w K mg (pick [C0, C1, C2, C3, C4, C5, C6, C7, C8, C9, C10]) ask := ⟨d0, d1, d2, d3, d4, d5, d6, d7, d8, d9, d10, PySem.W.mg_none_of X G b_super, PySem.W.mg_of X G gA, q1, q2, q3, q4, q5, q6⟩
  have T : TB mg := ⟨PySem.W.mg_none_of X G b_int, PySem.W.mg_none_of X G b_len, PySem.W.mg_none_of X G b_range, PySem.W.mg_none_of X G b_max, PySem.W.mg_none_of X G b_min, PySem.W.mg_none_of X G b_isinstance, PySem.W.mg_none_of X G b_enumerate, PySem.W.mg_none_of X G b_zip, PySem.W.mg_none_of X G b_list, PySem.W.mg_none_of X G b_tuple, PySem.W.mg_none_of X G b_bool, PySem.W.mg_none_of X G b_KeyError, PySem.W.mg_none_of X G b_ValueError⟩
  have P0 := fun_mk (st := sBox) pl0 pc0 pk0
  have B0 := P0.binds (ps := ["_law_script", "_law_k"]) fun _ _ _ _ _ _ us hl => match us, hl with | [_, _], _ => rfl
  have M0 := PySem.W.mg_of X G pa0
  have P1 := fun_mk (st := sTake) pl1 pc1 pk1
  have B1 := P1.binds (ps := ["_law_box_here", "_law_many"]) fun _ _ _ _ _ _ us hl => match us, hl with | [_, _], _ => rfl
  have M1 := PySem.W.mg_of X G pa1
  have P2 := fun_mk (st := sAlike) pl2 pc2 pk2
  have B2 := P2.binds (ps := ["_law_found", "_law_due"]) fun _ _ _ _ _ _ us hl => match us, hl with | [_, _], _ => rfl
  have M2 := PySem.W.mg_of X G pa2
  have P3 := fun_mk (st := sSome) pl3 pc3 pk3
  have B3 := P3.binds (ps := ["_law_box_here", "_law_deep"]) fun _ _ _ _ _ _ us hl => match us, hl with | [_, _], _ => rfl
  have M3 := PySem.W.mg_of X G pa3
  have P4 := fun_mk (st := sMade) pl4 pc4 pk4
  have B4 := P4.binds (ps := ["_law_box_here"]) fun _ _ _ _ _ _ us hl => match us, hl with | [_], _ => rfl
  have M4 := PySem.W.mg_of X G pa4
  have P5 := fun_mk (st := sKept) pl5 pc5 pk5
  have B5 := P5.binds (ps := ["_law_e"]) fun _ _ _ _ _ _ us hl => match us, hl with | [_], _ => rfl
  have M5 := PySem.W.mg_of X G pa5
  have P6 := fun_mk (st := sSorts) pl6 pc6 pk6
  have B6 := P6.binds (ps := ["_law_one"]) fun _ _ _ _ _ _ us hl => match us, hl with | [_], _ => rfl
  have M6 := PySem.W.mg_of X G pa6
  have P7 := fun_mk (st := sThrown) pl7 pc7 pk7
  have B7 := P7.binds (ps := ["_law_form", "_law_a"]) fun _ _ _ _ _ _ us hl => match us, hl with | [_, _], _ => rfl
  have M7 := PySem.W.mg_of X G pa7
  have P8 := fun_mk (st := sCaught) pl8 pc8 pk8
  have B8 := P8.binds (ps := ["_law_form", "_law_a"]) fun _ _ _ _ _ _ us hl => match us, hl with | [_, _], _ => rfl
  have M8 := PySem.W.mg_of X G pa8
  have P9 := fun_mk (st := sLaw) pl9 pc9 pk9
  have e := hfa.symm.trans (PySem.W.mg_of X G pa9)
  cases e
  refine ⟨PySem.W.fnOf "law" "law" (defArgs sLaw) (defBody sLaw) (defScope sLaw) .none pkV9 pdc9 ppm9 pan9 pcd9 pct9, fun s v => .of_eq rfl, fun base _ _ => ?_⟩
  have GT := ok_take (P := P) (w := w) (base := base) P1 T
  have GB := ok_box (P := P) (w := w) (base := base) P0 T
  have GA := ok_alike (P := P) (w := w) (base := base) P2 T
  have GS := ok_some (P := P) (w := w) (base := base) P3 T GT B1 pk1 M1 B3 pk3 M3 5
  have GM := ok_made (base := base) P4 T XC GS B3 pk3 M3
  have GK := ok_kept (base := base) P5 T XC
  have GO := ok_sorts (base := base) P6 T XC
  have GH := ok_thrown (base := base) P7 T XC
  have GC := ok_caught (base := base) P8 T XC GH B7 pk7 M7
  exact ok_law P9 T XC GB B0 pk0 M0 GM B4 pk4 M4 GA B2 pk2 M2 GK B5 pk5 M5 GO B6 pk6 M6 GS B3 pk3 M3 GC B8 pk8 M8
theorem walk {l : PySem.W.OpenLaw} {q : Program} {loose : List Str} {XP : (Str → Option Value) → Heap → Prop} {YP : World → Heap → Prop} {d : DefRec} {K : Params → PySem.W.Frag} (hn : l.most = some 63) (hdf : d.params.defaults = [])
    (hY : ∀ (w : World) (h : Heap), YP w h → (K w.params).In h)
    (F : ∀ (w : World) (mg : Str → Option Value) (fa : Addr) (h : Heap), (K w.params).In h → h.Ns mainGlobals mg → mg d.name = some (.ref fa) →
      ∃ fd : FuncData, (∀ (s : Shared) (u : Value), BindsTo s fd ⟨[u], []⟩ [("_law_script", u)]) ∧ ∀ base : Heap, (K w.params).In base → base.Ns mainGlobals mg → FnOk l.prog w (K w.params) mg base CX0 8 fa fd ["_law_script"] (spLaw (K w.params))) :
    PySem.W.WalkO q loose XP YP l.row.toRowW d [] (fun f vs => PySem.call f vs) :=
  L2.walk_of (n := 63) (k := 8) (x := "_law_script") (CX := fun _ => CX0) (sp := fun w => spLaw (K w.params)) hn (by decide) hdf ⟨rfl, by decide, by decide⟩ hY F (fun _ _ a ns hl _ hS => ⟨a, ns, rfl, hS, by omega, fun _ => rfl⟩) fun _ _ _ _ _ z => z
end K01
open PySem PySem.W PyProof.Rows
open_top hd for PySem.Challenge.rw_pieceasks_k01_errors
theorem PySem.Challenge.cw_pieceasks_k01_errors_holds : PySem.Challenge.rw_pieceasks_k01_errors.Holds := by
  refine hd ?_
  refine K01.walk (l := PySem.Challenge.rw_pieceasks_k01_errors) rfl rfl (fun w h Y => PySem.W.kIn_of Y) ?F
  case F =>
    intro w mg fa h KX G hmg
    refine' K01.all_mk KX G hmg ?g0 ?e0 ?t0 ?i0 ?l0 ?n0 ?g1 ?e1 ?t1 ?i1 ?l1 ?n1 ?g2 ?e2 ?t2 ?i2 ?l2 ?n2 ?g3 ?e3 ?t3 ?i3 ?l3 ?n3 ?g4 ?e4 ?t4 ?i4 ?l4 ?n4 ?g5 ?e5 ?t5 ?i5 ?l5 ?n5 ?g6 ?e6 ?t6 ?i6 ?l6 ?n6 ?g7 ?e7 ?t7 ?i7 ?l7 ?n7 ?g8 ?e8 ?z8 ?g9 ?e9 ?z9 ?g10 ?e10 ?t10 ?i10 ?l10 ?n10 ?gA ?isq ?pa0 ?pl0 ?pc0 ?pk0 ?pa1 ?pl1 ?pc1 ?pk1 ?pa2 ?pl2 ?pc2 ?pk2 ?pa3 ?pl3 ?pc3 ?pk3 ?pa4 ?pl4 ?pc4 ?pk4 ?pa5 ?pl5 ?pc5 ?pk5 ?pa6 ?pl6 ?pc6 ?pk6 ?pa7 ?pl7 ?pc7 ?pk7 ?pa8 ?pl8 ?pc8 ?pk8 ?pa9 ?pl9 ?pc9 ?pk9 ?b_int ?b_len ?b_range ?b_max ?b_min ?b_isinstance ?b_enumerate ?b_zip ?b_list ?b_tuple ?b_bool ?b_KeyError ?b_ValueError ?b_super
    (case g0 => k_is)
    (case e0 => kernel_rfl)
    (case t0 => kernel_rfl)
    (case i0 => k_is)
    (case l0 => k_is)
    (case n0 => kernel_rfl)
    (case g1 => k_is)
    (case e1 => kernel_rfl)
    (case t1 => kernel_rfl)
    (case i1 => k_is)
    (case l1 => k_is)
    (case n1 => kernel_rfl)
    (case g2 => k_is)
    (case e2 => kernel_rfl)
    (case t2 => kernel_rfl)
    (case i2 => k_is)
    (case l2 => k_is)
    (case n2 => kernel_rfl)
    (case g3 => k_is)
    (case e3 => kernel_rfl)
    (case t3 => kernel_rfl)
    (case i3 => k_is)
    (case l3 => k_is)
    (case n3 => kernel_rfl)
    (case g4 => k_is)
    (case e4 => kernel_rfl)
    (case t4 => kernel_rfl)
    (case i4 => k_is)
    (case l4 => k_is)
    (case n4 => kernel_rfl)
    (case g5 => k_is)
    (case e5 => kernel_rfl)
    (case t5 => kernel_rfl)
    (case i5 => k_is)
    (case l5 => k_is)
    (case n5 => kernel_rfl)
    (case g6 => k_is)
    (case e6 => kernel_rfl)
    (case t6 => kernel_rfl)
    (case i6 => k_is)
    (case l6 => k_is)
    (case n6 => kernel_rfl)
    (case g7 => k_is)
    (case e7 => kernel_rfl)
    (case t7 => kernel_rfl)
    (case i7 => k_is)
    (case l7 => k_is)
    (case n7 => kernel_rfl)
    (case g8 => k_is)
    (case e8 => kernel_rfl)
    (case z8 => kernel_rfl)
    (case g9 => k_is)
    (case e9 => kernel_rfl)
    (case z9 => kernel_rfl)
    (case g10 => k_is)
    (case e10 => kernel_rfl)
    (case t10 => kernel_rfl)
    (case i10 => k_is)
    (case l10 => k_is)
    (case n10 => kernel_rfl)
    (case gA => k_is)
    (case isq => kernel_rfl)
    (case pa0 => k_is)
    (case pl0 => k_is)
    (case pc0 => k_is)
    (case pk0 => k_is)
    (case pa1 => k_is)
    (case pl1 => k_is)
    (case pc1 => k_is)
    (case pk1 => k_is)
    (case pa2 => k_is)
    (case pl2 => k_is)
    (case pc2 => k_is)
    (case pk2 => k_is)
    (case pa3 => k_is)
    (case pl3 => k_is)
    (case pc3 => k_is)
    (case pk3 => k_is)
    (case pa4 => k_is)
    (case pl4 => k_is)
    (case pc4 => k_is)
    (case pk4 => k_is)
    (case pa5 => k_is)
    (case pl5 => k_is)
    (case pc5 => k_is)
    (case pk5 => k_is)
    (case pa6 => k_is)
    (case pl6 => k_is)
    (case pc6 => k_is)
    (case pk6 => k_is)
    (case pa7 => k_is)
    (case pl7 => k_is)
    (case pc7 => k_is)
    (case pk7 => k_is)
    (case pa8 => k_is)
    (case pl8 => k_is)
    (case pc8 => k_is)
    (case pk8 => k_is)
    (case pa9 => k_is)
    (case pl9 => k_is)
    (case pc9 => k_is)
    (case pk9 => k_is)
    (case b_int => k_is)
    (case b_len => k_is)
    (case b_range => k_is)
    (case b_max => k_is)
    (case b_min => k_is)
    (case b_isinstance => k_is)
    (case b_enumerate => k_is)
    (case b_zip => k_is)
    (case b_list => k_is)
    (case b_tuple => k_is)
    (case b_bool => k_is)
    (case b_KeyError => k_is)
    (case b_ValueError => k_is)
    (case b_super => k_is)
#print axioms PySem.Challenge.cw_pieceasks_k01_errors_holds
