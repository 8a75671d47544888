import PyProof.Rows.All
import Wide.All
import OpenK.AllK
import Wide.FinOn
import HandS.ForExc
import HandS.Comp
import HandS.Iter
import HandS.Zip
import HandS.IsInst
import HandS.NoneIn
import HandS.Codes
import PyProof.NeKinds
import KE.KDictZip
import KE.KItemsList
import HandS.SortKw
import KE.DataAny
import KE.DataMinMax
import KE.DataCmp
import HandS.FStr
import PyProof.FString3
import PyProof.Rows.StrIntSpec
import HandS.More
import HandS.Dict
import KE.KMinKey
import PyProof.MinMaxWalk
import PyProof.Conv_int
import HandS.SlotsOwn
import PyProof.InstEq
import KE.KCallOwn
import HandS.Walk
import KE.KExcSuper
import KE.KExcInit
import HandS.ExcInit
import HandS.TryMany
import HandS.ExcIs
import KE.KExcIs
import KE.GoesEnum
import KE.GoesEnumKw
import KE.GoesMore
import HandS.CallSlots
import HandS.Property
import HandS.WordsExc
import HandS.TupAny
import HandS.Deep
import HandS.Wide
import PyProof.StrBlock2
import KE.DataEq
import HandS.Text
import HandS.Star
import HandS.DictComp
import HandS.WordsDict
import HandS.RaiseMore
import HandS.Style
import HandS.Defaults
import HandS.ClsMeth
import HandS.ExcField
import HandS.List
import HandS.Exc
import HandS.MakeKw
import HandS.HotCalls
import HandS.Ends
import PySem.Challenge.RW_pieceasks_k49_promises_looked_at
set_option Elab.async false
set_option linter.all false
set_option maxRecDepth 100000
set_option maxHeartbeats 0
/-! Rd: one lemma a construct for the readings, so that a reading is walked by one word. -/
namespace Rd
open PySem L2
section
variable {σ : L2.St} {H H1 : Hp} {Q : VK} {QB : Bool → Hp → Prop} {QA : List V → Hp → Prop} {v x y : V} {i j : Int} {n : Nat} {te ta tb : TE} {t u c : TT} {tA : TA} {g : TG} {s s' : TS} {nx : L2.St → Hp → Prop} {rt : VK} {bk ct : L2.St → Hp → Prop} {D : Ends} {K : PySem.W.Frag} {p : Addr} {xs ys : List V}
theorem var (h : σ[n]? = some (some v)) (q : Q v H) : tVar n σ H Q := ⟨v, h, q⟩
theorem cst (q : Q v H) : tC v σ H Q := q
theorem seq (h : s ⟨s' ⟨nx, rt, bk, ct⟩, rt, bk, ct⟩ σ H) : tSeq s s' ⟨nx, rt, bk, ct⟩ σ H := h
theorem asg (h : te σ H fun x H1 => g x σ H1 nx) : tAsg te g ⟨nx, rt, bk, ct⟩ σ H := h
theorem gname {QS : L2.St → Hp → Prop} (h : QS (σ.set n (some v)) H) : gName n v σ H QS := h
theorem ret (h : te σ H rt) : tRet te ⟨nx, rt, bk, ct⟩ σ H := h
theorem next (h : nx σ H) : tNext ⟨nx, rt, bk, ct⟩ σ H := h
theorem brk (h : bk σ H) : tBreak ⟨nx, rt, bk, ct⟩ σ H := h
theorem cont (h : ct σ H) : tCont ⟨nx, rt, bk, ct⟩ σ H := h
theorem drop (h : te σ H fun _ H1 => nx σ H1) : tDrop te ⟨nx, rt, bk, ct⟩ σ H := h
theorem ifs (h : c σ H fun b H1 => if b = true then s D σ H1 else s' D σ H1) : tIfS c s s' D σ H := h
theorem test (h : te σ H fun x H' => ∃ k, x = .bl k ∧ QB k H') : tTest te σ H QB := h
theorem testB (h : te σ H fun x H' => ∃ k, x = .bl k ∧ QB k H') : tB te σ H QB := h
theorem exbl {b : Bool} {P : Bool → Prop} (h : P b) : ∃ k, V.bl b = .bl k ∧ P k := ⟨b, rfl, h⟩
theorem and_ (h : t σ H fun c H1 => if c = true then u σ H1 QB else QB false H1) : tAnd t u σ H QB := h
theorem or_ (h : t σ H fun c H1 => if c = true then QB true H1 else u σ H1 QB) : tOr t u σ H QB := h
theorem not_ (h : t σ H fun c H1 => QB (!c) H1) : tNot t σ H QB := h
theorem andV (h : ta σ H fun x H1 => ∃ c, x = .bl c ∧ if c = true then tb σ H1 Q else Q (.bl false) H1) : tAndV ta tb σ H Q := h
theorem orV (h : ta σ H fun x H1 => ∃ c, x = .bl c ∧ if c = true then Q (.bl true) H1 else tb σ H1 Q) : tOrV ta tb σ H Q := h
theorem notV (h : ta σ H fun x H1 => ∃ c, x = .bl c ∧ Q (.bl (!c)) H1) : tNotV ta σ H Q := h
theorem ifE (h : t σ H fun c H1 => if c = true then ta σ H1 Q else tb σ H1 Q) : tIf t ta tb σ H Q := h
theorem op {r : R2} (h : ta σ H fun x H1 => tb σ H1 fun y H2 => r x y H2 Q) : tOp r ta tb σ H Q := h
theorem un {r : V → Hp → VK → Prop} (h : ta σ H fun x H1 => r x H1 Q) : tUn r ta σ H Q := h
theorem rI0_ {g : Int → Int → V} (q : Q (g i j) H) : rI0 g (.int i) (.int j) H Q := ⟨i, j, rfl, rfl, q⟩
theorem rI_ {C : Int → Int → Prop} {g : Int → Int → V} (hc : C i j) (q : Q (g i j) H) : rI C g (.int i) (.int j) H Q := ⟨i, j, rfl, rfl, hc, q⟩
theorem rU_ {g : Int → V} (q : Q (g i) H) : rU g (.int i) H Q := ⟨i, rfl, q⟩
theorem eq_ (hs : scal x y = true) (q : Q (.bl (decide (x = y))) H) : rEq x y H Q := ⟨hs, q⟩
theorem ne_ (hs : scal x y = true) (q : Q (.bl (!decide (x = y))) H) : rNe x y H Q := ⟨hs, q⟩
theorem cb {r : List V → Hp → VK → Prop} (h : tA σ H fun vs H1 => r vs H1 Q) : tCB r tA σ H Q := h
theorem nil_ (h : QA [] H) : tNil σ H QA := h
theorem cons_ (h : te σ H fun x H1 => tA σ H1 fun xs H2 => QA (x :: xs) H2) : tCons te tA σ H QA := h
theorem lst_ (h : tA σ H fun xs H1 => xs.length ≤ sizeLine ∧ ∀ p, H1 p = none → Q (.ref p) (upd H1 p (.lst xs))) : tLst tA σ H Q := h
theorem tup_ (h : tA σ H fun xs H1 => xs.length ≤ sizeLine ∧ ∀ p, H1 p = none → Q (.ref p) (upd H1 p (.tup xs))) : tTup tA σ H Q := h
theorem new_ {B : Prop} (hl : n ≤ sizeLine) (h : B) : n ≤ sizeLine ∧ B := ⟨hl, h⟩
theorem call_ {sp : Sp} {dvs : List V} {E : XK} (h : tA σ H fun vs H1 => sp (vs ++ dvs) H1 Q E) : tCall sp dvs E tA σ H Q := h
theorem ixL (h : SqL K H p xs) (ha : atI xs i = some v) (q : Q v H) : rIxL K (.ref p) (.int i) H Q := ⟨p, xs, i, v, rfl, rfl, h, ha, q⟩
theorem ixT (h : SqT K H p xs) (ha : atI xs i = some v) (q : Q v H) : rIxT K (.ref p) (.int i) H Q := ⟨p, xs, i, v, rfl, rfl, h, ha, q⟩
theorem gsub {to ti : TE} {ts : TSet} {QS : L2.St → Hp → Prop} (h : to σ H fun o H1 => ti σ H1 fun i H2 => ts o i v H2 fun H3 => QS σ H3) : gSub to ti ts v σ H QS := h
theorem setL {k : Nat} {QH : Hp → Prop} (h : H p = some (.lst xs)) (hk : ixN xs.length i = some k) (q : QH (upd H p (.lst (xs.set k v)))) : rSetL (.ref p) (.int i) v H QH := ⟨p, xs, i, k, rfl, rfl, h, hk, q⟩
/-- int(n), int(b) -/
def rInt : List V → Hp → VK → Prop := fun xs H Q => (∃ i, xs = [.int i] ∧ Q (.int i) H) ∨ ∃ k, xs = [.bl k] ∧ Q (.int (if k then 1 else 0)) H
theorem c_int {X : Cx} : CallR X (.type "int") rInt := call_int1
theorem int_ (q : Q (.int i) H) : rInt [.int i] H Q := .inl ⟨i, rfl, q⟩
theorem intB {b : Bool} (q : Q (.int (if b then 1 else 0)) H) : rInt [.bl b] H Q := .inr ⟨b, rfl, q⟩
/-- len of a list or tuple -/
def rLen (K : PySem.W.Frag) : List V → Hp → VK → Prop := fun xs H Q => ∃ p ys, xs = [.ref p] ∧ (SqL K H p ys ∨ SqT K H p ys) ∧ Q (.int ys.length) H
theorem c_len {X : Cx} : CallR X (.builtin "len") (rLen X.K) := call_len_seq
theorem lenL (h : SqL K H p xs) (q : Q (.int xs.length) H) : rLen K [.ref p] H Q := ⟨p, xs, rfl, .inl h, q⟩
theorem lenT (h : SqT K H p xs) (q : Q (.int xs.length) H) : rLen K [.ref p] H Q := ⟨p, xs, rfl, .inr h, q⟩
theorem catL {p' : Addr} (h : H p = some (.lst xs)) (h' : H p' = some (.lst ys)) (hl : xs.length + ys.length ≤ sizeLine) (q : ∀ a, H a = none → Q (.ref a) (upd H a (.lst (xs ++ ys)))) : rCat (.ref p) (.ref p') H Q := ⟨p, p', xs, ys, rfl, rfl, h, h', hl, q⟩
/-- list(x), tuple(x) of a list or a tuple -/
def rTupOf (K : PySem.W.Frag) : List V → Hp → VK → Prop := fun xs H Q => ∃ p ys, xs = [.ref p] ∧ ((SqL K H p ys ∧ ∀ l, H l = none → Q (.ref l) (upd H l (.tup ys))) ∨ (SqT K H p ys ∧ Q (.ref p) H))
theorem c_tuple {X : Cx} : CallR X (.type "tuple") (rTupOf X.K) := call_tuple_of
theorem tupL (h : SqL K H p xs) (q : ∀ l, H l = none → Q (.ref l) (upd H l (.tup xs))) : rTupOf K [.ref p] H Q := ⟨p, xs, rfl, .inl ⟨h, q⟩⟩
theorem tupT (h : SqT K H p xs) (q : Q (.ref p) H) : rTupOf K [.ref p] H Q := ⟨p, xs, rfl, .inr ⟨h, q⟩⟩
def rLstOf (K : PySem.W.Frag) : List V → Hp → VK → Prop := fun xs H Q => ∃ p ys, xs = [.ref p] ∧ (SqL K H p ys ∨ SqT K H p ys) ∧ ∀ l, H l = none → Q (.ref l) (upd H l (.lst ys))
theorem c_list {X : Cx} : CallR X (.type "list") (rLstOf X.K) := call_list_of
theorem lstL (h : SqL K H p xs) (q : ∀ l, H l = none → Q (.ref l) (upd H l (.lst xs))) : rLstOf K [.ref p] H Q := ⟨p, xs, rfl, .inl h, q⟩
theorem lstT (h : SqT K H p xs) (q : ∀ l, H l = none → Q (.ref l) (upd H l (.lst xs))) : rLstOf K [.ref p] H Q := ⟨p, xs, rfl, .inr h, q⟩
theorem yes (h : QB true H) : tYes σ H QB := h
theorem rng1 {R : It → Hp → Prop} (h : tA σ H fun vs H1 => ∃ j : Int, vs = [.int j] ∧ -(2 ^ 62) ≤ j ∧ j < 2 ^ 62 ∧ R (Itr 0 j.toNat) H1) : iRng1 tA σ H R := h
theorem rng1_ {P : Int → Prop} (h1 : -(2 ^ 62) ≤ i) (h2 : i < 2 ^ 62) (h : P i) : ∃ j : Int, [V.int i] = [V.int j] ∧ -(2 ^ 62) ≤ j ∧ j < 2 ^ 62 ∧ P j := ⟨i, rfl, h1, h2, h⟩
theorem br {b : Bool} {A B : Prop} (h1 : b = true → A) (h2 : b = false → B) : if b = true then A else B := by
  cases b with
  | true => exact iteT (h1 rfl)
  | false => exact iteF (h2 rfl)
theorem cut (Mid : L2.St → Hp → Prop) (h1 : s ⟨Mid, rt, bk, ct⟩ σ H) (h2 : ∀ σ' H', Mid σ' H' → s' ⟨nx, rt, bk, ct⟩ σ' H') : C8.tCut s s' ⟨nx, rt, bk, ct⟩ σ H := ⟨Mid, h1, h2⟩
theorem sz {n : Nat} (h : n ≤ 100000) : n ≤ sizeLine := Nat.le_trans h (by decide)
end
end Rd
/-! Ne: xs != [] -/
namespace L2
open PySem PySem.Spec PyProof.Rows
theorem ne_lens {prog : Program} {w : World} {A : Around} {E : Value → Shared → Prop} {s : Shared} {l b : Addr} {xs ys : Array Value} {Q : Value → Shared → Prop} (hl : s.heap.IsList l xs) (hb : s.heap.IsList b ys) (hz : (xs.size != ys.size) = true) (hu : A.units < cLine) (h : Q (.bool true) s) :
    wpAny (model prog w) A (compareOp .NotEq (.ref l) (.ref b)) Q E s := by
  obtain ⟨⟨c, dd, da, sl⟩, ho, hc, n, hd⟩ := hl
  obtain ⟨⟨c2, dd2, da2, sl2⟩, ho2, hc2, n2, hd2⟩ := hb
  simp only at hc hd hc2 hd2
  subst hc hd hc2 hd2
  exact richCompare_meets_room (op := .NotEq) ⟨_, ho, rfl⟩ ⟨_, ho2, rfl⟩ F.slot_list_ne F.entry_list_ne (F.args_list_ne_2 _ _) (SeqAt.list_ne_lengthsAt l b xs ys n n2 dd dd2 sl sl2 hz) ⟨ho, ho2, (fun x => nomatch x), h⟩ hu
theorem ne_nils {prog : Program} {w : World} {A : Around} {E : Value → Shared → Prop} {s : Shared} {l b : Addr} {Q : Value → Shared → Prop} (hl : s.heap.IsList l #[]) (hb : s.heap.IsList b #[]) (hu : A.units < cLine) (h : Q (.bool false) s) :
    wpAny (model prog w) A (compareOp .NotEq (.ref l) (.ref b)) Q E s := by
  obtain ⟨⟨c, dd, da, sl⟩, ho, hc, n, hd⟩ := hl
  obtain ⟨⟨c2, dd2, da2, sl2⟩, ho2, hc2, n2, hd2⟩ := hb
  simp only at hc hd hc2 hd2
  subst hc hd hc2 hd2
  exact richCompare_meets_room (op := .NotEq) ⟨_, ho, rfl⟩ ⟨_, ho2, rfl⟩ F.slot_list_ne F.entry_list_ne (F.args_list_ne_2 _ _) (SeqAt.list_neAt l b #[] #[] n n2 dd dd2 sl sl2 rfl (fun _ => true)) ⟨ho, ho2, (fun j h1 _ => absurd h1 (Nat.not_lt_zero _)), (fun x => nomatch x), h⟩ hu
/-- xs != [] -/
def rNeNil : R2 := fun x y H Q => ∃ a b xs, x = .ref a ∧ y = .ref b ∧ H a = some (.lst xs) ∧ H b = some (.lst []) ∧ Q (.bl (!xs.isEmpty)) H
theorem op_neNil {X : Cx} (hu : X.A.units < cLine) : OpR X (compareOp .NotEq) rNeNil := by
  intro pins s σ H x y v u Q I rx ry h
  obtain ⟨a, b, xs, rfl, rfl, ha, hb, q⟩ := h
  cases (show v = Value.ref a from rx)
  cases (show u = Value.ref b from ry)
  obtain ⟨its, r1, p1, _⟩ := I.list (SqL.of ha)
  obtain ⟨its2, r2, p2, _⟩ := I.list (SqL.of hb)
  have l1 := r1.length
  have e2 : its2 = [] := by
    cases r2
    rfl
  subst e2
  cases xs with
  | nil =>
    have e1 : its = [] := by
      cases r1
      rfl
    subst e1
    exact ne_nils p1.isList p2.isList hu ⟨.bl false, H, I, rfl, q⟩
  | cons z zs =>
    refine ne_lens p1.isList p2.isList ?_ hu ⟨.bl true, H, I, rfl, q⟩
    rw [List.size_toArray, List.size_toArray, ← l1]
    rfl
end L2
/-! Zl: list(zip(a, b)), a and b two lists or two tuples. -/
namespace Zl
open PySem PySem.W PySem.Calls PyProof.Rows RZ
/-- an iterator over a list (false) or a tuple (true), at place k -/
def It (b : Bool) (h : Heap) (it l : Addr) (k : Nat) : Prop := if b = true then h.IsTupleIter it l k else h.IsListIter it l k
def Sq (b : Bool) (h : Heap) (l : Addr) (xs : Array Value) : Prop := if b = true then h.IsTuple l xs else h.IsList l xs
theorem It.off {b : Bool} {h h' : Heap} {it l y : Addr} {k : Nat} (x : It b h it l k) (e : ∀ c o, c ≠ y → h.get? c = some o → h'.get? c = some o) (hy : it ≠ y) : It b h' it l k := by
  cases b with
  | true => exact Heap.IsTupleIter.at (show h.IsTupleIter it l k from x) fun o z => e _ o hy z
  | false => exact Heap.IsListIter.at (show h.IsListIter it l k from x) fun o z => e _ o hy z
theorem Sq.off {b : Bool} {h h' : Heap} {l y : Addr} {xs : Array Value} (x : Sq b h l xs) (e : ∀ c o, c ≠ y → h.get? c = some o → h'.get? c = some o) (hy : l ≠ y) : Sq b h' l xs := by
  cases b with
  | true =>
    obtain ⟨o, ho, r⟩ := (show h.IsTuple l xs from x)
    exact ⟨o, e _ o hy ho, r⟩
  | false =>
    obtain ⟨o, ho, r⟩ := (show h.IsList l xs from x)
    exact ⟨o, e _ o hy ho, r⟩
theorem It.lt {b : Bool} {h : Heap} {it l : Addr} {k : Nat} (x : It b h it l k) : it < h.objs.size := by
  cases b with
  | true =>
    obtain ⟨o, ho, _⟩ := (show h.IsTupleIter it l k from x)
    exact Heap.lt_size ho
  | false =>
    obtain ⟨o, ho, _⟩ := (show h.IsListIter it l k from x)
    exact Heap.lt_size ho
theorem Sq.lt {b : Bool} {h : Heap} {l : Addr} {xs : Array Value} (x : Sq b h l xs) : l < h.objs.size := by
  cases b with
  | true =>
    obtain ⟨o, ho, _⟩ := (show h.IsTuple l xs from x)
    exact Heap.lt_size ho
  | false =>
    obtain ⟨o, ho, _⟩ := (show h.IsList l xs from x)
    exact Heap.lt_size ho
section
variable {prog : Program} {w : World} {A : Around} {E : Value → Shared → Prop} {s : Shared} {b : Bool}
theorem nx_item {it l : Addr} {k : Nat} {xs : Array Value} {x : Value} {Q : Value → Shared → Prop} (hi : It b s.heap it l k) (hl : Sq b s.heap l xs) (hx : xs[k]? = some x)
    (hq : ∀ h', It b h' it l (k + 1) → Heap.SameBut it s.heap h' → Q x { s with heap := h' }) : wpAny (model prog w) A (Builtin.SmallTypes.nextOf (.ref it)) Q E s := by
  cases b with
  | true => exact nextOf_tuple_item hi hl hx hq
  | false => exact wpAny_nextOf_list_item hi hl hx hq
theorem nx_end {it l : Addr} {k : Nat} {xs : Array Value} {Q : Value → Shared → Prop} (hh : A.handled = none) (hi : It b s.heap it l k) (hl : Sq b s.heap l xs) (hx : xs[k]? = none)
    (hE : ∀ h' e, Heap.ExtBut it s.heap h' → (∃ o, h'.get? e = some o ∧ o.cls = .type "StopIteration") → E (.ref e) { s with heap := h' }) : wpAny (model prog w) A (Builtin.SmallTypes.nextOf (.ref it)) Q E s := by
  cases b with
  | true => exact nextOf_tuple_end hh hi hl hx hE
  | false => exact wpAny_nextOf_list_end hh hi hl hx hE
/-- the next pair while the last one is held by somebody -/
theorem held_item {z TI TO T i1 i2 l1 l2 : Addr} {f : Bool} {oT : Obj} {k : Nat} {xs ys : Array Value} {x y : Value} {Q : Option Value → Shared → Prop} (D : ZipApart z TI TO i1 i2 l1 l2) (hz : IsZipHeld s.heap z TI TO T f) (hT : s.heap.get? T = some oT) (hTI : IsPair s.heap TI (.ref i1) (.ref i2))
    (h1 : It b s.heap i1 l1 k) (h2 : It b s.heap i2 l2 k) (hl1 : Sq b s.heap l1 xs) (hl2 : Sq b s.heap l2 ys) (hx : xs[k]? = some x) (hy : ys[k]? = some y)
    (hQ : ∀ h', IsZipHeld h' z TI TO T true → It b h' i1 l1 (k + 1) → It b h' i2 l2 (k + 1) → IsPair h' s.heap.objs.size x y → h'.objs.size = s.heap.objs.size + 1 →
      (∀ c o, c ≠ z → c ≠ i1 → c ≠ i2 → s.heap.get? c = some o → h'.get? c = some o) → Q (some (.ref s.heap.objs.size)) { s with heap := h' }) :
    wpAny (model prog w) A (pyNext (.ref z)) Q E s := by
  have hTy : s.TypeIs (.ref z) "zip" := ⟨_, hz, rfl⟩
  unfold pyNext
  refine wpAny_bind (wpAny_attempt (wpAny_callSpecial?_slot (name := Str.ofString "__next__") hTy F.slot_zip_next
    (wpAny_call_entry F.slot_zip_next hTy F.entry_zip_next ?_ (F.args_zip_next_1 _))))
  show wpAny _ _ (field (.ref z) 2 >>= _) _ _ _
  refine wpAny_bind (wpAny_field hz rfl (x := .bool false) rfl ?_)
  show wpAny _ _ (field (.ref z) 3 >>= _) _ _ _
  refine wpAny_bind (wpAny_field hz rfl (x := .ref TI) rfl ?_)
  refine wpAny_bind (wpAny_seqItems hTI rfl ?_)
  show wpAny _ _ (Builtin.SmallTypes.ownedTupleIsFree (.ref z) >>= _) _ _ _
  refine wpAny_bind (wpAny_tupleHeld_zip hz hT fun ha za sa => ?_)
  simp only [Bool.false_eq_true, if_false]
  refine wpAny_bind ?_
  rw [← Array.forIn_toList]
  simp only [List.forIn_cons, List.forIn_nil]
  refine wpAny_bind (wpAny_bind (wpAny_holding ?_))
  show wpAny _ _ (Builtin.SmallTypes.nextOf (.ref i1) >>= _) _ _ _
  refine wpAny_bind (nx_item (s := { s with heap := ha }) (h1.off sa.extBut D.i1z) (hl1.off sa.extBut D.l1z) hx fun hb h1b sb => wpAny_pure ?_)
  refine wpAny_pure ?_
  refine wpAny_bind (wpAny_bind (wpAny_holding ?_))
  show wpAny _ _ (Builtin.SmallTypes.nextOf (.ref i2) >>= _) _ _ _
  refine wpAny_bind (nx_item (s := { s with heap := hb }) ((h2.off sa.extBut D.i2z).off sb.extBut D.i12.symm) ((hl2.off sa.extBut D.l2z).off sb.extBut D.l2i1) hy fun hc h2c sc => wpAny_pure ?_)
  refine wpAny_pure (wpAny_pure ?_)
  show wpAny _ _ (newTuple [x, y] >>= _) _ _ _
  refine wpAny_bind (wpAny_newTuple ?_)
  have hsz : hc.objs.size = s.heap.objs.size := by rw [sc.1, sb.1, sa.1]
  have zc : IsZipHeld hc z TI TO T true := sc.extBut _ _ D.i2z.symm (sb.extBut _ _ D.i1z.symm za)
  have kc : ∀ c o, c ≠ z → c ≠ i1 → c ≠ i2 → s.heap.get? c = some o → hc.get? c = some o := fun c o c1 c2 c3 e => sc.extBut _ _ c3 (sb.extBut _ _ c2 (sa.extBut _ _ c1 e))
  refine wpAny_pure ⟨_, rfl, wpAny_pure ?_⟩
  show Q (some (.ref hc.objs.size)) _
  have pr : IsPair (hc.push { cls := .type "tuple", data := .seq #[x, y] }) hc.objs.size x y := Heap.get?_push_size _ rfl
  have zs : (hc.push { cls := .type "tuple", data := .seq #[x, y] }).objs.size = hc.objs.size + 1 := Heap.size_push ..
  have pu : ∀ c o, c ≠ hc.objs.size + 1 → hc.get? c = some o → (hc.push { cls := .type "tuple", data := .seq #[x, y] }).get? c = some o := fun c o _ e => Heap.get?_push_of_some _ e
  have n1 : i1 ≠ hc.objs.size + 1 := Nat.ne_of_lt (Nat.lt_succ_of_lt (h1b.off sc.extBut D.i12).lt)
  have n2 : i2 ≠ hc.objs.size + 1 := Nat.ne_of_lt (Nat.lt_succ_of_lt h2c.lt)
  have q1 := (h1b.off sc.extBut D.i12).off pu n1
  have q2 := h2c.off pu n2
  rw [hsz] at pr zs ⊢
  exact hQ _ (Heap.get?_push_of_some _ zc) q1 q2 pr zs fun c o c1 c2 c3 e => Heap.get?_push_of_some _ (kc c o c1 c2 c3 e)
theorem held_end {z TI TO T i1 i2 l1 l2 : Addr} {f : Bool} {oT : Obj} {k : Nat} {xs : Array Value} {Q : Option Value → Shared → Prop} (hh : A.handled = none) (D : ZipApart z TI TO i1 i2 l1 l2) (hz : IsZipHeld s.heap z TI TO T f) (hT : s.heap.get? T = some oT) (hTI : IsPair s.heap TI (.ref i1) (.ref i2))
    (h1 : It b s.heap i1 l1 k) (hl1 : Sq b s.heap l1 xs) (hx : xs[k]? = none)
    (hQ : ∀ h', (∀ c o, c ≠ z → c ≠ i1 → c ≠ i2 → s.heap.get? c = some o → h'.get? c = some o) → Q none { s with heap := h' }) : wpAny (model prog w) A (pyNext (.ref z)) Q E s := by
  have hTy : s.TypeIs (.ref z) "zip" := ⟨_, hz, rfl⟩
  unfold pyNext
  refine wpAny_bind (wpAny_attempt (wpAny_callSpecial?_slot (name := Str.ofString "__next__") hTy F.slot_zip_next
    (wpAny_call_entry F.slot_zip_next hTy F.entry_zip_next ?_ (F.args_zip_next_1 _))))
  show wpAny _ _ (field (.ref z) 2 >>= _) _ _ _
  refine wpAny_bind (wpAny_field hz rfl (x := .bool false) rfl ?_)
  show wpAny _ _ (field (.ref z) 3 >>= _) _ _ _
  refine wpAny_bind (wpAny_field hz rfl (x := .ref TI) rfl ?_)
  refine wpAny_bind (wpAny_seqItems hTI rfl ?_)
  show wpAny _ _ (Builtin.SmallTypes.ownedTupleIsFree (.ref z) >>= _) _ _ _
  refine wpAny_bind (wpAny_tupleHeld_zip hz hT fun ha za sa => ?_)
  simp only [Bool.false_eq_true, if_false]
  refine wpAny_bind ?_
  rw [← Array.forIn_toList]
  simp only [List.forIn_cons, List.forIn_nil]
  refine wpAny_bind (wpAny_bind (wpAny_holding ?_))
  show wpAny _ _ (Builtin.SmallTypes.nextOf (.ref i1) >>= _) _ _ _
  refine wpAny_bind (nx_end (s := { s with heap := ha }) hh (h1.off sa.extBut D.i1z) (hl1.off sa.extBut D.l1z) hx fun hb e sb he => ?_)
  obtain ⟨oe, hoe, hce⟩ := he
  refine wpAny_bind (wpAny_isInstance (T := "StopIteration") (b := true) ⟨_, hoe, hce⟩ isSubtype_stop ?_)
  exact wpAny_pure (hQ hb fun c o c1 c2 _ x => sb _ _ c2 (sa.extBut _ _ c1 x))
/-- a zip on its way: k pairs are out and kept -/
def St (b : Bool) (S z TI TO i1 i2 l1 l2 : Addr) (xs ys : Array Value) (k : Nat) (h : Heap) : Prop :=
  ((k = 0 ∧ IsZip h z TI TO .none ∧ ∃ p q, IsPair h TO p q) ∨ ∃ T f oT, IsZipHeld h z TI TO T f ∧ h.get? T = some oT ∧ T ≠ z ∧ T ≠ i1 ∧ T ≠ i2 ∧ T ≠ S) ∧
  IsPair h TI (.ref i1) (.ref i2) ∧ It b h i1 l1 k ∧ It b h i2 l2 k ∧ Sq b h l1 xs ∧ Sq b h l2 ys
/-- the addresses stand apart, the new list S among them -/
structure Ap (S z TI TO i1 i2 l1 l2 : Addr) : Prop where
  D : ZipApart z TI TO i1 i2 l1 l2
  Sz : S ≠ z
  STI : S ≠ TI
  STO : S ≠ TO
  Si1 : S ≠ i1
  Si2 : S ≠ i2
  Sl1 : S ≠ l1
  Sl2 : S ≠ l2
theorem st_item {S z TI TO i1 i2 l1 l2 : Addr} {k : Nat} {xs ys : Array Value} {x y : Value} {Q : Option Value → Shared → Prop} (P : Ap S z TI TO i1 i2 l1 l2) (hS : S < s.heap.objs.size) (st : St b S z TI TO i1 i2 l1 l2 xs ys k s.heap) (hx : xs[k]? = some x) (hy : ys[k]? = some y)
    (hQ : ∀ h', St b S z TI TO i1 i2 l1 l2 xs ys (k + 1) h' → IsPair h' s.heap.objs.size x y → h'.objs.size = s.heap.objs.size + 1 →
      (∀ c o, c ≠ z → c ≠ TO → c ≠ i1 → c ≠ i2 → s.heap.get? c = some o → h'.get? c = some o) → Q (some (.ref s.heap.objs.size)) { s with heap := h' }) :
    wpAny (model prog w) A (pyNext (.ref z)) Q E s := by
  obtain ⟨st, hTI, h1, h2, hl1, hl2⟩ := st
  have D := P.D
  have fin : ∀ h' T f oT, IsZipHeld h' z TI TO T f → h'.get? T = some oT → T ≠ z → T ≠ i1 → T ≠ i2 → T ≠ S → It b h' i1 l1 (k + 1) → It b h' i2 l2 (k + 1) → IsPair h' s.heap.objs.size x y → h'.objs.size = s.heap.objs.size + 1 →
      (∀ c o, c ≠ z → c ≠ TO → c ≠ i1 → c ≠ i2 → s.heap.get? c = some o → h'.get? c = some o) → Q (some (.ref s.heap.objs.size)) { s with heap := h' } := fun h' T f oT e1 e2 n1 n2 n3 n4 j1 j2 pr sz kk => by
    refine hQ h' ⟨.inr ⟨T, f, oT, e1, e2, n1, n2, n3, n4⟩, kk _ _ D.TIz D.TITO D.TIi1 D.TIi2 hTI, j1, j2, ?_, ?_⟩ pr sz kk
    · have e : ∀ c o, c ≠ z → (c ≠ TO ∧ c ≠ i1 ∧ c ≠ i2) → s.heap.get? c = some o → h'.get? c = some o := fun c o c1 c2 q => kk c o c1 c2.1 c2.2.1 c2.2.2 q
      cases b with
      | true =>
        obtain ⟨o, ho, r⟩ := (show s.heap.IsTuple l1 xs from hl1)
        exact ⟨o, e _ o D.l1z ⟨D.l1TO, D.l1i1, D.l1i2⟩ ho, r⟩
      | false =>
        obtain ⟨o, ho, r⟩ := (show s.heap.IsList l1 xs from hl1)
        exact ⟨o, e _ o D.l1z ⟨D.l1TO, D.l1i1, D.l1i2⟩ ho, r⟩
    · have e : ∀ c o, c ≠ z → (c ≠ TO ∧ c ≠ i1 ∧ c ≠ i2) → s.heap.get? c = some o → h'.get? c = some o := fun c o c1 c2 q => kk c o c1 c2.1 c2.2.1 c2.2.2 q
      cases b with
      | true =>
        obtain ⟨o, ho, r⟩ := (show s.heap.IsTuple l2 ys from hl2)
        exact ⟨o, e _ o D.l2z ⟨D.l2TO, D.l2i1, D.l2i2⟩ ho, r⟩
      | false =>
        obtain ⟨o, ho, r⟩ := (show s.heap.IsList l2 ys from hl2)
        exact ⟨o, e _ o D.l2z ⟨D.l2TO, D.l2i1, D.l2i2⟩ ho, r⟩
  rcases st with ⟨rfl, hz, p, q, hTO⟩ | ⟨T, f, oT, hz, hT, n1, n2, n3, n4⟩
  · have m1 : s.heap.objs.size ≠ z := Nat.ne_of_gt (Heap.lt_size hz)
    have m2 : s.heap.objs.size ≠ i1 := Nat.ne_of_gt h1.lt
    have m3 : s.heap.objs.size ≠ i2 := Nat.ne_of_gt h2.lt
    have m4 : s.heap.objs.size ≠ S := Nat.ne_of_gt hS
    cases b with
    | true => exact pyNext_zipT_item D hz hTI hTO h1 h2 hl1 hl2 hx hy fun h' a1 a2 a3 a4 a5 a6 a7 => fin h' _ false _ a1 a5 m1 m2 m3 m4 a3 a4 a5 a6 a7
    | false => exact wpAny_pyNext_zip_item D hz hTI hTO h1 h2 hl1 hl2 hx hy fun h' a1 a2 a3 a4 a5 a6 a7 => fin h' _ false _ a1 a5 m1 m2 m3 m4 a3 a4 a5 a6 a7
  · exact held_item D hz hT hTI h1 h2 hl1 hl2 hx hy fun h' a1 a2 a3 a4 a5 a6 => fin h' T true oT a1 (a6 T oT n1 n2 n3 hT) n1 n2 n3 n4 a2 a3 a4 a5 fun c o c1 _ c3 c4 e => a6 c o c1 c3 c4 e
theorem st_end {S z TI TO i1 i2 l1 l2 : Addr} {k : Nat} {xs ys : Array Value} {Q : Option Value → Shared → Prop} (hh : A.handled = none) (P : Ap S z TI TO i1 i2 l1 l2) (st : St b S z TI TO i1 i2 l1 l2 xs ys k s.heap) (hx : xs[k]? = none)
    (hQ : ∀ h', (∀ c o, c ≠ z → c ≠ TO → c ≠ i1 → c ≠ i2 → s.heap.get? c = some o → h'.get? c = some o) → Q none { s with heap := h' }) : wpAny (model prog w) A (pyNext (.ref z)) Q E s := by
  obtain ⟨st, hTI, h1, h2, hl1, hl2⟩ := st
  have D := P.D
  rcases st with ⟨rfl, hz, p, q, hTO⟩ | ⟨T, f, oT, hz, hT, _⟩
  · cases b with
    | true => exact pyNext_zipT_end hh D hz hTI hTO h1 h2 hl1 hl2 (.inl hx) hQ
    | false => exact wpAny_pyNext_zip_end hh D hz hTI hTO h1 h2 hl1 hl2 (.inl hx) hQ
  · exact held_end hh D hz hT hTI h1 hl1 hx fun h' kk => hQ h' fun c o c1 _ c3 c4 e => kk c o c1 c3 c4 e
theorem St.keep {S z TI TO i1 i2 l1 l2 : Addr} {k : Nat} {xs ys : Array Value} {h h' : Heap} (P : Ap S z TI TO i1 i2 l1 l2) (st : St b S z TI TO i1 i2 l1 l2 xs ys k h) (kk : ∀ c o, c ≠ S → h.get? c = some o → h'.get? c = some o) : St b S z TI TO i1 i2 l1 l2 xs ys k h' := by
  obtain ⟨st, hTI, h1, h2, hl1, hl2⟩ := st
  refine ⟨?_, kk _ _ P.STI.symm hTI, h1.off kk P.Si1.symm, h2.off kk P.Si2.symm, hl1.off kk P.Sl1.symm, hl2.off kk P.Sl2.symm⟩
  rcases st with ⟨e, hz, p, q, hTO⟩ | ⟨T, f, oT, hz, hT, n1, n2, n3, n4⟩
  · exact .inl ⟨e, kk _ _ P.Sz.symm hz, p, q, kk _ _ P.STO.symm hTO⟩
  · exact .inr ⟨T, f, oT, kk _ _ P.Sz.symm hz, kk _ _ n4 hT, n1, n2, n3, n4⟩
/-- the pairs that are out -/
structure Gs (xs ys : Array Value) (lo : Addr) (h : Heap) (as : List Addr) : Prop where
  rise : as.Pairwise (· < ·)
  above : ∀ a ∈ as, lo ≤ a
  pairs : ∀ (j : Nat) (a : Addr), as[j]? = some a → ∃ x y, xs[j]? = some x ∧ ys[j]? = some y ∧ IsPair h a x y
end
section
variable {prog : Program} {w : World} {A : Around} {s : Shared} {R : Result → Shared → Prop} {b : Bool} {xs ys : Array Value}
theorem loop {S z TI TO i1 i2 l1 l2 lo : Addr} (hh : A.handled = none) (P : Ap S z TI TO i1 i2 l1 l2) (hS : S < lo) (hz : z < lo) (hTO : TO < lo) (hi1 : i1 < lo) (hi2 : i2 < lo) (hn : xs.size ≤ sizeLine) (hxy : ys.size = xs.size) (res : Value) {h₁ : Heap}
    (hR : ∀ h' tk acc c as, (∀ b o, b ≠ S → b ≠ z → b ≠ TO → b ≠ i1 → b ≠ i2 → h₁.get? b = some o → h'.get? b = some o) → h'.get? S = some { cls := .type "list", dict := none, data := .seq acc c, slots := #[] } → as.length = xs.size → Gs xs ys lo h' as →
      acc.toList = as.map Value.ref → R (.ok (.ret res)) { s with heap := h', toks := tk }) :
    ∀ (k i : Nat) (h : Heap) (tk c : Nat) (acc : Array Value) (as : List Addr), xs.size - i = k → i ≤ xs.size → St b S z TI TO i1 i2 l1 l2 xs ys i h → (∀ b o, b ≠ S → b ≠ z → b ≠ TO → b ≠ i1 → b ≠ i2 → h₁.get? b = some o → h.get? b = some o) →
      h.get? S = some { cls := .type "list", dict := none, data := .seq acc c, slots := #[] } → acc.toList = as.map Value.ref → as.length = i → Gs xs ys lo h as → lo ≤ h.objs.size →
      codeAny (model prog w) A (.builtin "list.extend.loop" ⟨[.ref S, .ref z, res], []⟩) R { s with heap := h, toks := tk } := by
  have big : ∀ {a : Addr}, lo ≤ a → a ≠ S ∧ a ≠ z ∧ a ≠ TO ∧ a ≠ i1 ∧ a ≠ i2 := fun {a} ha => ⟨Nat.ne_of_gt (Nat.lt_of_lt_of_le hS ha), Nat.ne_of_gt (Nat.lt_of_lt_of_le hz ha), Nat.ne_of_gt (Nat.lt_of_lt_of_le hTO ha), Nat.ne_of_gt (Nat.lt_of_lt_of_le hi1 ha), Nat.ne_of_gt (Nat.lt_of_lt_of_le hi2 ha)⟩
  intro k
  induction k with
  | zero =>
    intro i h tk c acc as hk hi st kp hSl hacc hal hG hlo
    have hin : i = xs.size := by omega
    refine codeAny_builtin PySem.F.entry_extend_loop ?_
    rw [Around.under_plainId PySem.F.plain_extend_loop _]
    show wpAny _ A.in1 (pyNext (.ref z) >>= _) _ _ _
    refine wpAny_bind (st_end (s := { s with heap := h, toks := tk }) (A := A.in1) hh P st (Array.getElem?_eq_none (by omega)) fun h' he => ?_)
    refine wpAny_pure (hR h' tk acc c as (fun b o n1 n2 n3 n4 n5 e => he b o n2 n3 n4 n5 (kp b o n1 n2 n3 n4 n5 e)) (he S _ P.Sz P.STO P.Si1 P.Si2 hSl) (by omega) ⟨hG.rise, hG.above, fun j a hj => ?_⟩ hacc)
    obtain ⟨x, y, e1, e2, e3⟩ := hG.pairs j a hj
    obtain ⟨n1, n2, n3, n4, n5⟩ := big (hG.above a (List.mem_of_getElem? hj))
    exact ⟨x, y, e1, e2, he a _ n2 n3 n4 n5 e3⟩
  | succ k ih =>
    intro i h tk c acc as hk hi st kp hSl hacc hal hG hlo
    have hlt : i < xs.size := by omega
    have hx : xs[i]? = some xs[i] := Array.getElem?_eq_getElem hlt
    have hy : ys[i]? = some (ys[i]'(by omega)) := Array.getElem?_eq_getElem (by omega)
    have hsz : acc.size = i := by rw [← Array.length_toList, hacc, List.length_map, hal]
    refine codeAny_builtin PySem.F.entry_extend_loop ?_
    rw [Around.under_plainId PySem.F.plain_extend_loop _]
    show wpAny _ A.in1 (pyNext (.ref z) >>= _) _ _ _
    refine wpAny_bind (st_item (s := { s with heap := h, toks := tk }) P (Heap.lt_size hSl) st hx hy fun h' st' pr hz' hkp => ?_)
    dsimp only at pr hz' hkp ⊢
    have hS' := hkp S _ P.Sz P.STO P.Si1 P.Si2 hSl
    have up : ∀ b o, b ≠ S → h'.get? b = some o → (h'.update S (Obj.mapSeq (·.push (Value.ref h.objs.size)))).get? b = some o := fun b o hb e => (Heap.get?_update_other _ _ (Ne.symm hb)).trans e
    obtain ⟨m1, m2, m3, m4, m5⟩ := big hlo
    show wpAny _ A.in1 (updateSeq S (·.push (Value.ref h.objs.size)) >>= _) _ _ _
    refine wpAny_bind ?_
    refine wpAny_updateSeq hS' rfl (wpAny_pure ⟨plainId_quiet PySem.F.plain_extend_loop _, ih (i + 1) _ tk _ (acc.push (Value.ref h.objs.size)) (as ++ [h.objs.size]) (by omega) hlt (st'.keep P up)
      (fun b o n1 n2 n3 n4 n5 e => up b o n1 (hkp b o n2 n3 n4 n5 (kp b o n1 n2 n3 n4 n5 e))) (Heap.get?_update_self _ hS' rfl) (by rw [Array.toList_push, hacc, List.map_append]; rfl) (by rw [List.length_append, hal]; rfl) ⟨?_, ?_, ?_⟩ ?_⟩) (by rw [hsz]; omega) (by show (acc.push (Value.ref h.objs.size)).size ≤ sizeLine + 1; rw [Array.size_push, hsz]; omega)
    · refine List.pairwise_append.mpr ⟨hG.rise, List.pairwise_singleton _ _, fun a ha b' hb => ?_⟩
      rw [List.mem_singleton.mp hb]
      obtain ⟨j, hj⟩ := List.mem_iff_getElem?.mp ha
      obtain ⟨_, _, _, _, e⟩ := hG.pairs j a hj
      exact Heap.lt_size e
    · intro a ha
      rcases List.mem_append.mp ha with ha | ha
      · exact hG.above a ha
      · rw [List.mem_singleton.mp ha]
        exact hlo
    · intro j a hj
      rcases Nat.lt_trichotomy j as.length with q | q | q
      · rw [List.getElem?_append_left q] at hj
        obtain ⟨x, y, e1, e2, e3⟩ := hG.pairs j a hj
        obtain ⟨n1, n2, n3, n4, n5⟩ := big (hG.above a (List.mem_of_getElem? hj))
        exact ⟨x, y, e1, e2, up a _ n1 (hkp a _ n2 n3 n4 n5 e3)⟩
      · subst q
        have e : h.objs.size = a := by simpa using hj
        subst e
        exact ⟨_, _, by rw [hal]; exact hx, by rw [hal]; exact hy, up _ _ m1 pr⟩
      · have no : (as ++ [h.objs.size])[j]? = none := List.getElem?_eq_none (by rw [List.length_append, List.length_singleton]; omega)
        rw [no] at hj
        cases hj
    · have e : (h'.update S (Obj.mapSeq (·.push (Value.ref h.objs.size)))).get? h.objs.size = _ := up _ _ m1 pr
      exact Nat.le_trans hlo (Nat.le_of_lt (Heap.lt_size e))
theorem zip_nolen : typeLookup (.type "zip") "__len__" = pure none := am_miss_of_fast (by decide +kernel)
theorem zip_nohint : typeLookup (.type "zip") "__length_hint__" = pure none := am_miss_of_fast (by decide +kernel)
theorem hint {E : Value → Shared → Prop} {r : Addr} (hT : s.TypeIs (.ref r) "zip") {Q : Bool → Shared → Prop} (h : Q true s) : wpAny (model prog w) A (Builtin.List.listLengthHint (.ref r)) Q E s := by
  unfold Builtin.List.listLengthHint
  refine wpAny_bind (wpAny_specialOf hT zip_nolen ?_)
  refine wpAny_bind (wpAny_specialOf hT zip_nohint ?_)
  exact wpAny_pure h
theorem extend {S z TI TO i1 i2 l1 l2 : Addr} (hh : A.handled = none) (P : Ap S z TI TO i1 i2 l1 l2) (st : St b S z TI TO i1 i2 l1 l2 xs ys 0 s.heap) (h0 : IsZip s.heap z TI TO .none) (hTO : TO < s.heap.objs.size) (hn : xs.size ≤ sizeLine) (hxy : ys.size = xs.size) (res : Value) {c₀ : Nat} (hS : s.heap.get? S = some { cls := .type "list", data := .seq #[] c₀ })
    (hR : ∀ h' tk acc c as, (∀ b o, b ≠ S → b ≠ z → b ≠ TO → b ≠ i1 → b ≠ i2 → s.heap.get? b = some o → h'.get? b = some o) → h'.get? S = some { cls := .type "list", dict := none, data := .seq acc c, slots := #[] } → as.length = xs.size → Gs xs ys s.heap.objs.size h' as →
      acc.toList = as.map Value.ref → R (.ok (.ret res)) { s with heap := h', toks := tk }) :
    wpAny (model prog w) A.in1 (Builtin.List.listExtendWith (.ref S) (.ref z) res)
      (fun fin s' => match fin with | .done f => R (.ok f) s' | .again c' => c'.quiet = true ∧ codeAny (model prog w) A c' R s') (fun e s' => R (.error e) s') s := by
  have hSl : S < s.heap.objs.size := Heap.lt_size hS
  have hzl : z < s.heap.objs.size := Heap.lt_size h0
  have hTy : s.TypeIs (.ref z) "zip" := ⟨_, h0, rfl⟩
  have key : ∀ (h : Heap) (c₁ tk : Nat), (∀ b o, b ≠ S → s.heap.get? b = some o → h.get? b = some o) → s.heap.objs.size ≤ h.objs.size →
      h.get? S = some { cls := .type "list", data := .seq #[] c₁ } → codeAny (model prog w) A (.builtin "list.extend.loop" ⟨[.ref S, .ref z, res], []⟩) R { s with heap := h, toks := tk } := by
    intro h c₁ tk hk hsz hS₁
    exact loop (lo := s.heap.objs.size) (h₁ := s.heap) hh P hSl hzl hTO st.2.2.1.lt st.2.2.2.1.lt hn hxy res hR xs.size 0 h tk c₁ #[] [] (Nat.sub_zero _) (Nat.zero_le _) (st.keep P hk) (fun b o n1 _ _ _ _ e => hk b o n1 e) hS₁ rfl rfl
      ⟨List.Pairwise.nil, (fun _ ha => nomatch ha), (fun j a hj => by simp at hj)⟩ hsz
  unfold Builtin.List.listExtendWith
  refine wpAny_bind (wpAny_typeOf (T := "zip") hTy ?_)
  have e1 : Builtin.List.listSameRef (.ref S) (.ref z) = false := by simp [Builtin.List.listSameRef, P.Sz]
  have e2 : (Value.type "zip" == Value.type "list") = false := by decide
  have e3 : (Value.type "zip" == Value.type "tuple") = false := by decide
  simp only [e1, e2, e3, Bool.or_false, Bool.false_eq_true, if_false]
  refine wpAny_bind (wpAny_pyIter_zip h0 ?_)
  refine wpAny_bind (wpAny_holding (hint hTy ?_))
  refine wpAny_ite_split (fun _ => ?_) (fun _ => wpAny_pure ⟨plainId_quiet PySem.F.plain_extend_loop _, key _ c₀ _ (fun b o _ e => e) (Nat.le_refl _) hS⟩)
  refine wpAny_bind (wpAny_rule ?_)
  refine wpAny_bind ?_
  show wpAny _ _ (updateSeq S (·.push .none) >>= fun _ => updateSeq S (·.pop)) _ _ _
  refine wpAny_bind (wpAny_updateSeq hS rfl ?_)
  have hS₂ := Heap.get?_update_self (Obj.mapSeq (·.push Value.none)) hS rfl
  refine wpAny_updateSeq (hz := by seq_fits) hS₂ rfl ?_
  have hS₃ := Heap.get?_update_self (Obj.mapSeq (·.pop)) hS₂ rfl
  refine wpAny_pure ⟨plainId_quiet PySem.F.plain_extend_loop _, key _ _ _ (fun b o hb e => ?_) ?_ hS₃⟩
  · exact (Heap.get?_update_other _ _ (Ne.symm hb)).trans ((Heap.get?_update_other _ _ (Ne.symm hb)).trans e)
  · exact Nat.le_of_eq (((Heap.SameBut.update ..).1).trans ((Heap.SameBut.update ..).1)).symm
theorem init {S z TI TO i1 i2 l1 l2 : Addr} (hh : A.handled = none) (P : Ap S z TI TO i1 i2 l1 l2) (st : St b S z TI TO i1 i2 l1 l2 xs ys 0 s.heap) (h0 : IsZip s.heap z TI TO .none) (hTO : TO < s.heap.objs.size) (hn : xs.size ≤ sizeLine) (hxy : ys.size = xs.size) (hS : s.heap.get? S = some { cls := .type "list", data := .seq #[] })
    (hR : ∀ h' tk acc c as, (∀ b o, b ≠ S → b ≠ z → b ≠ TO → b ≠ i1 → b ≠ i2 → s.heap.get? b = some o → h'.get? b = some o) → h'.get? S = some { cls := .type "list", dict := none, data := .seq acc c, slots := #[] } → as.length = xs.size → Gs xs ys s.heap.objs.size h' as →
      acc.toList = as.map Value.ref → R (.ok (.ret .none)) { s with heap := h', toks := tk }) :
    wpAny (model prog w) A.in1 (Builtin.«list.__init__» ⟨[.ref S, .ref z], []⟩)
      (fun fin s' => match fin with | .done f => R (.ok f) s' | .again c' => c'.quiet = true ∧ codeAny (model prog w) A c' R s') (fun e s' => R (.error e) s') s := by
  show wpAny _ _ (do let old ← Builtin.List.listItems (.ref S); Builtin.List.listUpdate (.ref S) (fun _ => #[]); letGo old.toList.reverse; Builtin.List.listExtendWith (.ref S) (.ref z) .none) _ _ s
  refine wpAny_bind ?_
  unfold Builtin.List.listItems
  refine wpAny_bind (wpAny_seqItems hS rfl (wpAny_pure ?_))
  show wpAny _ _ (updateSeq S (fun _ => #[]) >>= fun _ => letGo (#[] : Array Value).toList.reverse >>= fun _ => Builtin.List.listExtendWith (.ref S) (.ref z) .none) _ _ s
  refine wpAny_bind (wpAny_updateSeq hS rfl ?_)
  have hS₂ := Heap.get?_update_self (Obj.mapSeq (fun _ => (#[] : Array Value))) hS rfl
  have oth : ∀ b o, b ≠ S → s.heap.get? b = some o → (s.heap.update S (Obj.mapSeq (fun _ => (#[] : Array Value)))).get? b = some o := fun b o hb e => (Heap.get?_update_other _ _ (Ne.symm hb)).trans e
  have sz : (s.heap.update S (Obj.mapSeq (fun _ => (#[] : Array Value)))).objs.size = s.heap.objs.size := (Heap.SameBut.update ..).1
  refine wpAny_bind (wpAny_letGo ?_)
  refine extend (s := { s with heap := s.heap.update S (Obj.mapSeq (fun _ => (#[] : Array Value))) }) hh P (st.keep P oth) (oth _ _ P.Sz.symm h0) (by show TO < (s.heap.update S _).objs.size; rw [sz]; exact hTO) hn hxy .none hS₂ fun h' tk acc c as hk hS' hl hG hacc => ?_
  have hG' : Gs xs ys (s.heap.update S (Obj.mapSeq (fun _ => (#[] : Array Value)))).objs.size h' as := hG
  rw [sz] at hG'
  exact hR h' tk acc c as (fun b o n1 n2 n3 n4 n5 e => hk b o n1 n2 n3 n4 n5 (oth b o n1 e)) hS' hl hG' hacc
theorem Gs.low {lo lo' : Addr} {h : Heap} {as : List Addr} (g : Gs xs ys lo h as) (hl : lo' ≤ lo) : Gs xs ys lo' h as := ⟨g.rise, fun a ha => Nat.le_trans hl (g.above a ha), g.pairs⟩
/-- list(z), z a fresh zip -/
theorem call {E : Value → Shared → Prop} {z TI TO i1 i2 l1 l2 : Addr} {Q : Value → Shared → Prop} (hh : A.handled = none) (D : ZipApart z TI TO i1 i2 l1 l2) (h0 : IsZip s.heap z TI TO .none) (hTI : IsPair s.heap TI (.ref i1) (.ref i2)) (hTO : ∃ p q, IsPair s.heap TO p q)
    (h1 : It b s.heap i1 l1 0) (h2 : It b s.heap i2 l2 0) (hl1 : Sq b s.heap l1 xs) (hl2 : Sq b s.heap l2 ys) (hn : xs.size ≤ sizeLine) (hxy : ys.size = xs.size)
    (hQ : ∀ h' tk acc c as, (∀ b o, b ≠ z → b ≠ TO → b ≠ i1 → b ≠ i2 → s.heap.get? b = some o → h'.get? b = some o) → h'.get? s.heap.objs.size = some { cls := .type "list", dict := none, data := .seq acc c, slots := #[] } → as.length = xs.size → Gs xs ys (s.heap.objs.size + 1) h' as →
      acc.toList = as.map Value.ref → Q (.ref s.heap.objs.size) { s with heap := h', toks := tk }) :
    wpAny (model prog w) A (PySem.call (.type "list") [.ref z]) Q E s := by
  refine callType_codes (Q₁ := fun obj s₁ => obj = .ref s.heap.objs.size ∧ s₁ = { s with heap := s.heap.push { cls := .type "list", data := .seq #[] } }) PySem.F.called_list (PySem.F.typeCall_list_1 _) PySem.F.entry_list_init
    (code_list_new _ ⟨rfl, rfl⟩) fun obj s₁ e₁ => ?_
  obtain ⟨rfl, rfl⟩ := e₁
  have hS : (s.heap.push { cls := .type "list", data := .seq #[] }).get? s.heap.objs.size = some { cls := .type "list", data := .seq #[] } := Heap.get?_push_size _ rfl
  have pu : ∀ b o, s.heap.get? b = some o → (s.heap.push { cls := .type "list", data := .seq #[] }).get? b = some o := fun b o e => Heap.get?_push_of_some _ e
  have sz : (s.heap.push { cls := .type "list", data := .seq #[] }).objs.size = s.heap.objs.size + 1 := Heap.size_push ..
  obtain ⟨p, q, hTO⟩ := hTO
  have P : Ap s.heap.objs.size z TI TO i1 i2 l1 l2 := ⟨D, Nat.ne_of_gt (Heap.lt_size h0), Nat.ne_of_gt (Heap.lt_size hTI), Nat.ne_of_gt (Heap.lt_size hTO), Nat.ne_of_gt h1.lt, Nat.ne_of_gt h2.lt, Nat.ne_of_gt hl1.lt, Nat.ne_of_gt hl2.lt⟩
  have st : St b s.heap.objs.size z TI TO i1 i2 l1 l2 xs ys 0 (s.heap.push { cls := .type "list", data := .seq #[] }) :=
    ⟨.inl ⟨rfl, pu _ _ h0, p, q, pu _ _ hTO⟩, pu _ _ hTI, h1.off (y := s.heap.objs.size) (fun c o _ e => pu c o e) P.Si1.symm, h2.off (y := s.heap.objs.size) (fun c o _ e => pu c o e) P.Si2.symm, hl1.off (y := s.heap.objs.size) (fun c o _ e => pu c o e) P.Sl1.symm, hl2.off (y := s.heap.objs.size) (fun c o _ e => pu c o e) P.Sl2.symm⟩
  refine ⟨⟨_, hS, rfl⟩, PySem.F.args_list_init_2 _ _, init (s := { s with heap := s.heap.push { cls := .type "list", data := .seq #[] } }) (A := A.in1) hh P st (pu _ _ h0) (Heap.lt_size (pu _ _ hTO)) hn hxy hS fun h' tk acc c as hk hS' hl hG hacc => ?_⟩
  have hG' : Gs xs ys (s.heap.push { cls := .type "list", data := .seq #[] }).objs.size h' as := hG
  rw [sz] at hG'
  exact ⟨rfl, hQ h' tk acc c as (fun b o n2 n3 n4 n5 e => hk b o (Nat.ne_of_lt (Heap.lt_size e)) n2 n3 n4 n5 (pu b o e)) hS' hl hG' hacc⟩
end
end Zl
namespace Zl
open PySem PySem.Spec PyProof.Rows L2 RZ
/-- the pairs tracked at their addresses -/
def putU : Hp → List Addr → List (V × V) → Hp
  | H, a :: as, p :: ps => putU (upd H a (.tup [p.1, p.2])) as ps
  | H, _, _ => H
theorem putU_off {b : Addr} : ∀ (as : List Addr) (ps : List (V × V)) (H : Hp), b ∉ as → putU H as ps b = H b
  | [], _, _, _ => rfl
  | _ :: _, [], _, _ => rfl
  | a :: as, p :: ps, H, h => by
    show putU (upd H a (.tup [p.1, p.2])) as ps b = H b
    rw [putU_off as ps _ (fun z => h (List.mem_cons_of_mem _ z)), upd_ne (fun z => h (by rw [z]; exact List.mem_cons_self))]
theorem putU_at : ∀ (as : List Addr) (ps : List (V × V)) (H : Hp), as.length = ps.length → as.Nodup → ∀ (j : Nat) (a : Addr) (p : V × V), as[j]? = some a → ps[j]? = some p → putU H as ps a = some (.tup [p.1, p.2])
  | [], _, _, _, _, j, a, p, ha, _ => by simp at ha
  | _ :: _, [], _, h, _, _, _, _, _, _ => by cases h
  | a :: as, p :: ps, H, h, hn, 0, a', p', ha, hp => by
    have e1 : a = a' := by simpa using ha
    have e2 : p = p' := by simpa using hp
    subst e1 e2
    show putU (upd H a (.tup [p.1, p.2])) as ps a = _
    rw [putU_off as ps _ (List.nodup_cons.mp hn).1, upd_same]
  | a :: as, p :: ps, H, h, hn, j + 1, a', p', ha, hp =>
    putU_at as ps (upd H a (.tup [p.1, p.2])) (Nat.succ.inj h) (List.nodup_cons.mp hn).2 j a' p' (by simpa using ha) (by simpa using hp)
section
variable {X : Cx} {e e2 : Expr} {ta : TA} {p p2 q pos : Pos}
/-- a new list of new pairs -/
theorem laid {pins : List (Addr × Obj)} {σ : L2.St} {H : Hp} {s : Shared} {h' : Heap} {tk : Nat} {xs ys : List V} {us ws : List Value} {acc : Array Value} {c : Nat} {as : List Addr} {L : Addr} (I : Inv X pins σ H s) (hz : xs.length ≤ sizeLine) (hxy : ys.length = xs.length) (rx : Vals xs us) (ry : Vals ys ws)
    (hk : ∀ b o, s.heap.get? b = some o → h'.get? b = some o) (hL : s.heap.objs.size ≤ L) (hS : h'.get? L = some { cls := .type "list", dict := none, data := .seq acc c, slots := #[] }) (hl : as.length = us.toArray.size) (hG : Gs us.toArray ws.toArray (L + 1) h' as) (hacc : acc.toList = as.map Value.ref) :
    ∃ H' : Hp, (∀ b o, H b = some o → H' b = some o) ∧ H L = none ∧ (∀ t ∈ as, H t = none) ∧ L ∉ as ∧ as.length = xs.length ∧ H' L = some (.lst (as.map V.ref)) ∧ (∀ (j : Nat) (t : Addr) (x y : V), as[j]? = some t → xs[j]? = some x → ys[j]? = some y → H' t = some (.tup [x, y])) ∧ Inv X pins σ H' { s with heap := h', toks := tk } := by
  have lx : xs.length = us.length := rx.length
  have ly : ys.length = ws.length := ry.length
  have hl' : as.length = xs.length := by rw [hl, lx]; simp
  have lz : as.length = (xs.zip ys).length := by rw [List.length_zip, hxy, Nat.min_self, hl']
  have above : ∀ a ∈ as, s.heap.objs.size ≤ a := fun a ha => Nat.le_trans hL (Nat.le_trans (Nat.le_succ _) (hG.above a ha))
  have hLn : L ∉ as := fun z => Nat.lt_irrefl _ (hG.above _ z)
  have nd : as.Nodup := List.Pairwise.imp (fun {a b} (h : a < b) => Nat.ne_of_lt h) hG.rise
  have new : ∀ t ∈ as, H t = none := fun t ht => I.hok.fresh (above t ht)
  have newL : H L = none := I.hok.fresh hL
  have off : ∀ b, b ∉ as → b ≠ L → putU (upd H L (.lst (as.map V.ref))) as (xs.zip ys) b = H b := fun b n1 n2 => by rw [putU_off as _ _ n1, upd_ne n2]
  have low : ∀ b o, s.heap.get? b = some o → b ∉ as ∧ b ≠ L := fun b o e => ⟨fun z => absurd (Heap.lt_size e) (Nat.not_lt.mpr (above b z)), Nat.ne_of_lt (Nat.lt_of_lt_of_le (Heap.lt_size e) hL)⟩
  have kp : ∀ b u, H b = some u → putU (upd H L (.lst (as.map V.ref))) as (xs.zip ys) b = some u := fun b u e => by
    rw [off b (fun z => by rw [new b z] at e; cases e) (fun z => by rw [z, newL] at e; cases e)]
    exact e
  have eL : putU (upd H L (.lst (as.map V.ref))) as (xs.zip ys) L = some (.lst (as.map V.ref)) := by rw [putU_off as _ _ hLn, upd_same]
  have atP : ∀ (j : Nat) (t : Addr) (x y : V), as[j]? = some t → xs[j]? = some x → ys[j]? = some y → putU (upd H L (.lst (as.map V.ref))) as (xs.zip ys) t = some (.tup [x, y]) := fun j t x y h1 h2 h3 =>
    putU_at as (xs.zip ys) _ lz nd j t (x, y) h1 (by rw [List.getElem?_zip_eq_some]; exact ⟨h2, h3⟩)
  refine ⟨putU (upd H L (.lst (as.map V.ref))) as (xs.zip ys), kp, newL, new, hLn, hl', eL, atP, ?_⟩
  refine I.call' (ch := []) rfl ⟨fun b o z _ _ _ => hk b o z, fun b o z _ _ _ => ⟨o.slots, hk b o z⟩, fun b o z n _ => ?_, fun b o z _ => ⟨o, hk b o z⟩, fun b xs z => kp b _ z, fun b o u z => kp b _ z, fun b ps z => ⟨#[], by rw [kp b _ z]; simp⟩⟩ (fun b u z => ?_) I.bare fun b z => by simp at z
  · obtain ⟨z1, z2⟩ := low b o z
    rw [off b z1 z2]
    exact n
  · by_cases hb : b ∈ as
    · obtain ⟨j, hj⟩ := List.mem_iff_getElem?.mp hb
      have hjl : j < as.length := (List.getElem?_eq_some_iff.mp hj).1
      have gx : xs[j]? = some (xs[j]'(by omega)) := List.getElem?_eq_getElem (by omega)
      have gy : ys[j]? = some (ys[j]'(by omega)) := List.getElem?_eq_getElem (by omega)
      rw [atP j b _ _ hj gx gy] at z
      cases z
      obtain ⟨v1, v2, f1, f2, f3⟩ := hG.pairs j b hj
      obtain ⟨u1, w1, r1⟩ := rx.get gx
      obtain ⟨u2, w2, r2⟩ := ry.get gy
      have e1 : v1 = u1 := by
        have z1 : us[j]? = some v1 := by simpa using f1
        rw [w1] at z1
        exact (Option.some.inj z1).symm
      have e2 : v2 = u2 := by
        have z1 : ws[j]? = some v2 := by simpa using f2
        rw [w2] at z1
        exact (Option.some.inj z1).symm
      rw [e1, e2] at f3
      exact ⟨by show 2 ≤ sizeLine; decide, [u1, u2], .cons r1 (.cons r2 .nil), ⟨_, f3, rfl, _, rfl⟩⟩
    · by_cases hb2 : b = L
      · rw [hb2] at z ⊢
        rw [eL] at z
        cases z
        refine ⟨by rw [List.length_map]; omega, acc.toList, c, by rw [hacc]; exact vals_of as, ?_⟩
        rw [Array.toArray_toList]
        exact hS
      · rw [off b hb hb2] at z
        exact (I.hok b u z).stay (fun d v _ y => hk d v y) (fun d y => kp d _ y) fun d xs y => kp d _ y
where
  vals_of : ∀ as : List Addr, Vals (as.map V.ref) (as.map Value.ref)
    | [] => .nil
    | _ :: as => .cons rfl (vals_of as)
def tLzip (K : PySem.W.Frag) (ta : TA) : TE := fun σ H Q => ta σ H fun vs H1 => ∃ (a b : Addr) (xs ys : List V), vs = [.ref a, .ref b] ∧ ((SqL K H1 a xs ∧ SqL K H1 b ys) ∨ (SqT K H1 a xs ∧ SqT K H1 b ys)) ∧ ys.length = xs.length ∧
  ∀ (H' : Hp) (l : Addr) (ts : List Addr), (∀ c o, H1 c = some o → H' c = some o) → H1 l = none → (∀ t ∈ ts, H1 t = none) → l ∉ ts → ts.length = xs.length → H' l = some (.lst (ts.map V.ref)) →
    (∀ (j : Nat) (t : Addr) (x y : V), ts[j]? = some t → xs[j]? = some x → ys[j]? = some y → H' t = some (.tup [x, y])) → Q (.ref l) H'
theorem pe_listZip (hc : X.calm = true) (hg : Gl X "list") (hm : X.mg "list" = none) (hg2 : Gl X "zip") (hm2 : X.mg "zip" = none) (ha : PA X [e, e2] ta)
    (hs : starEach [.Call (.Name "zip" p2) [e, e2] [] q] X.env = (false, eval (.Call (.Name "zip" p2) [e, e2] [] q) X.env) :: starEach [] X.env := by rfl)
    (hs2 : starEach [e, e2] X.env = (false, eval e X.env) :: starEach [e2] X.env := by rfl) (hpl : (backTo q (starEach [e2] X.env)).any (·.1) = false := by rfl) :
    PE X (.Call (.Name "list" p) [.Call (.Name "zip" p2) [e, e2] [] q] [] pos) (tLzip X.K ta) := by
  refine ⟨fun pins s σ H Q I h => ?_⟩
  refine wpAny_Call_Name_kw (ld_blt I hg hm (by decide +kernel : bootBuiltins "list" = some (.type "list")) ?_)
  refine PyProof.Rows.callWith_type1 ?_ hs rfl
  rw [hs]
  show wpAny _ _ (spliced ((false, eval (.Call (.Name "zip" p2) [e, e2] [] q) X.env) :: backTo pos (starEach [] X.env))) _ _ s
  refine Calls.spliced_cons ?_
  refine Call_ (ld_blt I hg2 hm2 PyProof.Rows.boot_zip (PyProof.Rows.callWith_type1 (thn (ha.run q pins s σ H _ I h) fun us s1 ⟨vs, H1, I1, r1, q1⟩ => ?_) hs2 hpl))
  obtain ⟨a, b, xs, ys, rfl, hq, hxy, q1⟩ := q1
  obtain ⟨u1, u2, rfl, ra, rb⟩ := vals2 r1
  cases (show u1 = Value.ref a from ra)
  cases (show u2 = Value.ref b from rb)
  have hh : X.A.handled = none := I1.ok.hd hc
  rcases hq with ⟨hqx, hqy⟩ | ⟨hqx, hqy⟩
  · obtain ⟨its, rv, p1, z1⟩ := I1.list hqx
    obtain ⟨its2, rv2, p2', z2⟩ := I1.list hqy
    refine call_zip_2 p1.isList p2'.isList fun h' hz hTI hTO h1 h2 hsz hk => Calls.spliced_nil ?_
    refine Zl.call (b := false) (s := { s1 with heap := h' }) (l1 := a) (l2 := b) (xs := its.toArray) (ys := its2.toArray) hh (PySem.W.ktu_apart s1.heap.objs.size a b p1.lt p2'.lt) hz hTI ⟨_, _, hTO⟩ h1 h2 ?_ ?_ ?_ ?_ fun h2' tk acc c as hk2 hS hl hG hacc => ?_
    · obtain ⟨o, ho, r⟩ := p1.isList
      exact ⟨o, hk _ _ ho, r⟩
    · obtain ⟨o, ho, r⟩ := p2'.isList
      exact ⟨o, hk _ _ ho, r⟩
    · rw [List.size_toArray, ← rv.length]; exact z1
    · rw [List.size_toArray, List.size_toArray, ← rv.length, ← rv2.length]; exact hxy
    · have hL : s1.heap.objs.size ≤ h'.objs.size := by rw [hsz]; exact Nat.le_add_right _ _
      have kk : ∀ c o, s1.heap.get? c = some o → h2'.get? c = some o := fun c o z => by
        have lt := Heap.lt_size z
        exact hk2 c o (Nat.ne_of_lt (Nat.lt_add_right 4 lt)) (Nat.ne_of_lt (Nat.lt_add_right 3 lt)) (Nat.ne_of_lt lt) (Nat.ne_of_lt (Nat.lt_add_right 1 lt)) (hk c o z)
      obtain ⟨H', k1, k2, k3, k4, k5, k6, k7, J⟩ := laid (tk := tk) I1 z1 hxy rv rv2 kk hL hS hl hG hacc
      exact ⟨.ref _, H', J, rfl, q1 H' _ as k1 k2 k3 k4 k5 k6 k7⟩
  · obtain ⟨its, rv, p1, z1⟩ := I1.tuple hqx
    obtain ⟨its2, rv2, p2', z2⟩ := I1.tuple hqy
    obtain ⟨o1, ho1, _⟩ := id p1
    obtain ⟨o2, ho2, _⟩ := id p2'
    refine call_zipT (show s1.heap.IsTuple a its.toArray from p1) (show s1.heap.IsTuple b its2.toArray from p2') fun h' hz hTI hTO h1 h2 hsz hk => Calls.spliced_nil ?_
    refine Zl.call (b := true) (s := { s1 with heap := h' }) (l1 := a) (l2 := b) (xs := its.toArray) (ys := its2.toArray) hh (PySem.W.ktu_apart s1.heap.objs.size a b (Heap.lt_size ho1) (Heap.lt_size ho2)) hz hTI ⟨_, _, hTO⟩ h1 h2 ?_ ?_ ?_ ?_ fun h2' tk acc c as hk2 hS hl hG hacc => ?_
    · obtain ⟨o, ho, r⟩ := (show s1.heap.IsTuple a its.toArray from p1)
      exact ⟨o, hk _ _ ho, r⟩
    · obtain ⟨o, ho, r⟩ := (show s1.heap.IsTuple b its2.toArray from p2')
      exact ⟨o, hk _ _ ho, r⟩
    · rw [List.size_toArray, ← rv.length]; exact z1
    · rw [List.size_toArray, List.size_toArray, ← rv.length, ← rv2.length]; exact hxy
    · have hL : s1.heap.objs.size ≤ h'.objs.size := by rw [hsz]; exact Nat.le_add_right _ _
      have kk : ∀ c o, s1.heap.get? c = some o → h2'.get? c = some o := fun c o z => by
        have lt := Heap.lt_size z
        exact hk2 c o (Nat.ne_of_lt (Nat.lt_add_right 4 lt)) (Nat.ne_of_lt (Nat.lt_add_right 3 lt)) (Nat.ne_of_lt lt) (Nat.ne_of_lt (Nat.lt_add_right 1 lt)) (hk c o z)
      obtain ⟨H', k1, k2, k3, k4, k5, k6, k7, J⟩ := laid (tk := tk) I1 z1 hxy rv rv2 kk hL hS hl hG hacc
      exact ⟨.ref _, H', J, rfl, q1 H' _ as k1 k2 k3 k4 k5 k6 k7⟩
end
end Zl
namespace Rd
open PySem L2
section
variable {σ : L2.St} {H H1 : Hp} {Q : VK} {QB : Bool → Hp → Prop} {QA : List V → Hp → Prop} {v x y : V} {i j : Int} {n : Nat} {te ta tb : TE} {tA : TA} {g : TG} {gs : TGs} {QS : L2.St → Hp → Prop} {K : PySem.W.Frag} {p : Addr} {xs ys : List V} {a m k : String} {b : Bool}
theorem ifT {c : Bool} {A B : Prop} (hc : c = true) (h : A) : if c = true then A else B := by rw [if_pos hc]; exact h
theorem ifF {c : Bool} {A B : Prop} (hc : c = false) (h : B) : if c = true then A else B := by rw [hc, if_neg Bool.false_ne_true]; exact h
theorem ifNe {x : V} {A B : Prop} (h : B) : if (!decide (x = x)) = true then A else B := ifF (by simp) h
theorem ifEq {x : V} {A B : Prop} (h : A) : if (decide (x = x)) = true then A else B := ifT (by simp) h
theorem lzip (h : tA σ H fun vs H1 => ∃ (a b : Addr) (xs ys : List V), vs = [.ref a, .ref b] ∧ ((SqL K H1 a xs ∧ SqL K H1 b ys) ∨ (SqT K H1 a xs ∧ SqT K H1 b ys)) ∧ ys.length = xs.length ∧
  ∀ (H' : Hp) (l : Addr) (ts : List Addr), (∀ c o, H1 c = some o → H' c = some o) → H1 l = none → (∀ t ∈ ts, H1 t = none) → l ∉ ts → ts.length = xs.length → H' l = some (.lst (ts.map V.ref)) →
    (∀ (j : Nat) (t : Addr) (x y : V), ts[j]? = some t → xs[j]? = some x → ys[j]? = some y → H' t = some (.tup [x, y])) → Q (.ref l) H') : Zl.tLzip K tA σ H Q := h
theorem isi (ty : TyX K H x (.type a)) (h : kitB a k = some b) (q : Q (.bl b) H) : rIsi K [x, .ty k] H Q := ⟨x, .ty k, .type a, .type k, b, rfl, ClsV.ty k, ty, kit_ty h, q⟩
theorem isiT2 {b1 b2 : Bool} (hT : H p = some (.tup [.ty m, .ty k])) (ty : TyX K H x (.type a)) (h1 : kitB a m = some b1) (h2 : kitB a k = some b2) (q : Q (.bl (b1 || b2)) H) : rIsiT K [x, .ref p] H Q := by
  refine ⟨x, p, _, .type a, [.type m, .type k], b1 || b2, rfl, hT, .cons (ClsV.ty m) (.cons (ClsV.ty k) .nil), ty, ?_, q⟩
  refine kitAny_cons (kit_ty h1) (fun e => ?_) (fun e => by rw [e]; rfl)
  rw [e]
  exact kitAny_cons (kit_ty h2) (fun e2 => by rw [e2]; exact kitAny_nil) fun e2 => by rw [e2]; rfl
theorem tyInt : TyX K H (.int i) (.type "int") := .base (.int i)
theorem tyStr {z : Str} : TyX K H (.str z) (.type "str") := .base (.str z)
theorem tyBl : TyX K H (.bl b) (.type "bool") := .base (.bl b)
theorem tyNon : TyX K H .non (.type "NoneType") := .base .non
theorem tyLst (h : H p = some (.lst xs)) : TyX K H (.ref p) (.type "list") := .base (.lst h)
theorem tyTup (h : H p = some (.tup xs)) : TyX K H (.ref p) (.type "tuple") := .base (.tup h)
theorem kit1 : kitB "int" "tuple" = some false := by decide +kernel
theorem kit2 : kitB "int" "list" = some false := by decide +kernel
theorem kit3 : kitB "int" "bool" = some false := by decide +kernel
theorem kit4 : kitB "int" "int" = some true := by decide +kernel
theorem kit5 : kitB "int" "str" = some false := by decide +kernel
theorem kit6 : kitB "str" "tuple" = some false := by decide +kernel
theorem kit7 : kitB "str" "list" = some false := by decide +kernel
theorem kit8 : kitB "str" "bool" = some false := by decide +kernel
theorem kit9 : kitB "str" "int" = some false := by decide +kernel
theorem kit10 : kitB "str" "str" = some true := by decide +kernel
theorem kit11 : kitB "bool" "tuple" = some false := by decide +kernel
theorem kit12 : kitB "bool" "list" = some false := by decide +kernel
theorem kit13 : kitB "bool" "bool" = some true := by decide +kernel
theorem kit14 : kitB "bool" "int" = some true := by decide +kernel
theorem kit15 : kitB "bool" "str" = some false := by decide +kernel
theorem kit16 : kitB "NoneType" "tuple" = some false := by decide +kernel
theorem kit17 : kitB "NoneType" "list" = some false := by decide +kernel
theorem kit18 : kitB "NoneType" "bool" = some false := by decide +kernel
theorem kit19 : kitB "NoneType" "int" = some false := by decide +kernel
theorem kit20 : kitB "NoneType" "str" = some false := by decide +kernel
theorem kit21 : kitB "list" "tuple" = some false := by decide +kernel
theorem kit22 : kitB "list" "list" = some true := by decide +kernel
theorem kit23 : kitB "list" "bool" = some false := by decide +kernel
theorem kit24 : kitB "list" "int" = some false := by decide +kernel
theorem kit25 : kitB "list" "str" = some false := by decide +kernel
theorem kit26 : kitB "tuple" "tuple" = some true := by decide +kernel
theorem kit27 : kitB "tuple" "list" = some false := by decide +kernel
theorem kit28 : kitB "tuple" "bool" = some false := by decide +kernel
theorem kit29 : kitB "tuple" "int" = some false := by decide +kernel
theorem kit30 : kitB "tuple" "str" = some false := by decide +kernel
theorem bm0 {r : V → List V → Hp → VK → Prop} {T : String} (h : te σ H fun x H1 => tyV K T x H1 ∧ r x [] H1 Q) : tBM0 K T r te σ H Q := h
theorem bm {r : V → List V → Hp → VK → Prop} {T : String} (h : te σ H fun x H1 => tyV K T x H1 ∧ tA σ H1 fun xs H2 => r x xs H2 Q) : tBM K T r te tA σ H Q := h
theorem tyL {B : Prop} (h : SqL K H p xs) (q : B) : tyV K "list" (.ref p) H ∧ B := ⟨.inl ⟨rfl, _, h⟩, q⟩
theorem pop_ (h : H p = some (.lst (xs ++ [v]))) (q : Q v (upd H p (.lst xs))) : rPop (.ref p) [] H Q := by
  refine ⟨p, _, v, rfl, rfl, h, ?_, ?_⟩
  · rw [List.length_append, List.length_singleton, Nat.add_sub_cancel, List.getElem?_append_right (Nat.le_refl _), Nat.sub_self]
    rfl
  · rw [List.dropLast_concat]
    exact q
theorem ext_ {p' : Addr} (h : H p = some (.lst xs)) (h' : H p' = some (.lst ys)) (hl : xs.length + ys.length ≤ sizeLine) (q : Q .non (upd H p (.lst (xs ++ ys)))) : rExtend (.ref p) [.ref p'] H Q := ⟨p, p', xs, ys, rfl, rfl, h, h', hl, q⟩
theorem app_ (h : H p = some (.lst xs)) (hl : xs.length < sizeLine) (q : Q .non (upd H p (.lst (xs ++ [v])))) : rAppend (.ref p) [v] H Q := ⟨p, xs, v, rfl, rfl, h, hl, q⟩
theorem gtup (h : SqT K H p xs) (hl : xs.length = n) (q : gs xs σ H QS) : gTup K n gs (.ref p) σ H QS := ⟨p, xs, rfl, h, hl, q⟩
theorem gunl (h : SqL K H p xs) (hl : xs.length = n) (q : gs xs σ H QS) : gUnl K n gs (.ref p) σ H QS := ⟨p, xs, rfl, h, hl, q⟩
theorem gcons (q : g v σ H fun σ' H' => gs ys σ' H' QS) : gCons g gs (v :: ys) σ H QS := ⟨v, ys, rfl, q⟩
theorem gnil (q : QS σ H) : gNil [] σ H QS := ⟨rfl, q⟩
theorem neNil {p' : Addr} (h : H p = some (.lst xs)) (h' : H p' = some (.lst [])) (q : Q (.bl (!xs.isEmpty)) H) : rNeNil (.ref p) (.ref p') H Q := ⟨p, p', xs, rfl, rfl, h, h', q⟩
end
end Rd
/-! Bk: any, all of a list of truths; max(.., default=..); < of data. -/
namespace L2
open PySem PySem.Spec PyProof.Rows
section
variable {X : Cx}
theorem dpBools {K : PySem.W.Frag} {H : Hp} : ∀ bs : List Bool, DpAll K H (bs.map V.bl) (bs.map PyData.bool)
  | [] => .nil
  | b :: bs => .cons (.bl b) (dpBools bs)
theorem dpInts {K : PySem.W.Frag} {H : Hp} : ∀ ns : List Int, DpAll K H (ns.map V.int) (ns.map PyData.int)
  | [] => .nil
  | n :: ns => .cons (.int n) (dpInts ns)
theorem plainBools : ∀ bs : List Bool, PyData.plainAll (bs.map PyData.bool) = true
  | [] => rfl
  | b :: bs => by
    show (PyData.plain (.bool b) && PyData.plainAll (bs.map PyData.bool)) = true
    rw [plainBools bs]
    rfl
theorem truthBools (f : (PyData → Bool) → List PyData → Bool) : True := trivial
theorem anyBools (bs : List Bool) : (bs.map PyData.bool).any PyData.truthy = bs.any id := by
  rw [List.any_map]
  rfl
theorem allBools (bs : List Bool) : (bs.map PyData.bool).all PyData.truthy = bs.all id := by
  rw [List.all_map]
  rfl
def rAnyL (K : PySem.W.Frag) : List V → Hp → VK → Prop := fun xs H Q => ∃ (a : Addr) (bs : List Bool), xs = [.ref a] ∧ SqL K H a (bs.map V.bl) ∧ Q (.bl (bs.any id)) H
def rAllL (K : PySem.W.Frag) : List V → Hp → VK → Prop := fun xs H Q => ∃ (a : Addr) (bs : List Bool), xs = [.ref a] ∧ SqL K H a (bs.map V.bl) ∧ Q (.bl (bs.all id)) H
theorem call_anyL (hc : X.calm = true) : CallR X (.builtin "any") (rAnyL X.K) := by
  intro pins s σ H xs us Q I r h
  obtain ⟨a, bs, rfl, hq, q⟩ := h
  obtain ⟨u, rfl, rx⟩ := vals1 r
  cases rx
  obtain ⟨its, r', pl, hz⟩ := I.list hq
  obtain ⟨as, hr⟩ := Dp.readsAll I _ _ _ (dpBools bs) r'
  refine PySem.W.any_list_data (I.ok.hd hc) pl.isList hr (plainBools bs) (fun x hx => ?_) fun h' tk k => ⟨.bl _, H, I.kept k, rfl, ?_⟩
  · obtain ⟨b, _, rfl⟩ := List.mem_map.mp hx
    trivial
  · rw [anyBools]
    exact q
theorem call_allL (hc : X.calm = true) : CallR X (.builtin "all") (rAllL X.K) := by
  intro pins s σ H xs us Q I r h
  obtain ⟨a, bs, rfl, hq, q⟩ := h
  obtain ⟨u, rfl, rx⟩ := vals1 r
  cases rx
  obtain ⟨its, r', pl, hz⟩ := I.list hq
  obtain ⟨as, hr⟩ := Dp.readsAll I _ _ _ (dpBools bs) r'
  refine PySem.W.all_list_data (I.ok.hd hc) pl.isList hr (plainBools bs) (fun x hx => ?_) fun h' tk k => ⟨.bl _, H, I.kept k, rfl, ?_⟩
  · obtain ⟨b, _, rfl⟩ := List.mem_map.mp hx
    trivial
  · rw [allBools]
    exact q
/-- max(list of ints, default = d) -/
def maxOr (ns : List Int) (d : Int) : Int := match ns with
  | [] => d
  | n :: ns => ns.foldl max n
def rMaxD (K : PySem.W.Frag) : List V → List V → Hp → VK → Prop := fun xs zs H Q => ∃ (a : Addr) (ns : List Int) (d : Int), xs = [.ref a] ∧ zs = [.int d] ∧ SqL K H a (ns.map V.int) ∧ Q (.int (maxOr ns d)) H
theorem alikeInts (ns : List Int) : PySem.W.AlikeAll (ns.map PyData.int) := by
  refine ⟨fun x hx y hy => ?_, fun x hx => ?_⟩
  · obtain ⟨i, _, rfl⟩ := List.mem_map.mp hx
    obtain ⟨j, _, rfl⟩ := List.mem_map.mp hy
    rfl
  · obtain ⟨i, _, rfl⟩ := List.mem_map.mp hx
    exact fun z => nomatch z
theorem depthInts : ∀ ns : List Int, PyData.depthAll (ns.map PyData.int) ≤ 1
  | [] => by decide
  | n :: ns => by
    have := depthInts ns
    show max (PyData.depth (.int n)) (PyData.depthAll (ns.map PyData.int)) ≤ 1
    have e : PyData.depth (.int n) ≤ 1 := by exact Nat.le_of_ble_eq_true rfl
    omega
theorem call_maxD (hc : X.calm = true) (hu : X.A.units + 64 < cLine) : CallRK X (.builtin "max") ["default"] (rMaxD X.K) := by
  intro pins s σ H xs zs us ws Q I r r2 h
  obtain ⟨a, ns, d, rfl, rfl, hq, q⟩ := h
  obtain ⟨u, rfl, rx⟩ := vals1 r
  obtain ⟨u2, rfl, t2, rfl⟩ := vals1 r2
  cases rx
  obtain ⟨its, r', pl, hz⟩ := I.list hq
  obtain ⟨as, hr⟩ := Dp.readsAll I _ _ _ (dpInts ns) r'
  refine PySem.W.max_list_default (I.ok.hd hc) pl.isList hr (alikeInts ns) (by have := depthInts ns; omega) (fun h0 h' tk k => ?_) fun y ys i v h' tk bs e hv rd k => ?_
  · obtain rfl : ns = [] := List.map_eq_nil_iff.mp h0
    exact ⟨.int d, H, I.kept k, ⟨_, rfl⟩, q⟩
  · match ns, e with
    | n :: ns, e =>
      obtain ⟨rfl, rfl⟩ := List.cons.inj e
      rw [PySem.W.maxD_ints] at rd
      cases rd
      exact ⟨.int _, H, I.kept k, ⟨_, rfl⟩, q⟩
/-! < and its kin of data that are alike -/
def rLtD (K : PySem.W.Frag) : R2 := fun x y H Q => ∃ d e, Dp K H x d ∧ Dp K H y e ∧ PySem.W.alike d e = true ∧ d ≠ .none ∧ min d.depth e.depth ≤ 60 ∧ Q (.bl (PySem.W.dataLt d e)) H
def rGtD (K : PySem.W.Frag) : R2 := fun x y H Q => ∃ d e, Dp K H x d ∧ Dp K H y e ∧ PySem.W.alike d e = true ∧ d ≠ .none ∧ min d.depth e.depth ≤ 60 ∧ Q (.bl (PySem.W.dataLt e d)) H
def rLeD (K : PySem.W.Frag) : R2 := fun x y H Q => ∃ d e, Dp K H x d ∧ Dp K H y e ∧ PySem.W.alike d e = true ∧ d ≠ .none ∧ min d.depth e.depth ≤ 60 ∧ Q (.bl (!PySem.W.dataLt e d)) H
def rGeD (K : PySem.W.Frag) : R2 := fun x y H Q => ∃ d e, Dp K H x d ∧ Dp K H y e ∧ PySem.W.alike d e = true ∧ d ≠ .none ∧ min d.depth e.depth ≤ 60 ∧ Q (.bl (!PySem.W.dataLt d e)) H
theorem op_ltD (hu : X.A.units + 64 < cLine) : OpR X (compareOp .Lt) (rLtD X.K) := by
  intro pins s σ H x y v u Q I rx ry h
  obtain ⟨d, e, hd, he, al, nn, dp, q⟩ := h
  obtain ⟨as, r1⟩ := Dp.reads I d x v hd rx
  obtain ⟨bs, r2⟩ := Dp.reads I e y u he ry
  exact PySem.W.lt_data r1 r2 al nn (by omega) ⟨.bl _, H, I, rfl, q⟩
theorem op_gtD (hu : X.A.units + 64 < cLine) : OpR X (compareOp .Gt) (rGtD X.K) := by
  intro pins s σ H x y v u Q I rx ry h
  obtain ⟨d, e, hd, he, al, nn, dp, q⟩ := h
  obtain ⟨as, r1⟩ := Dp.reads I d x v hd rx
  obtain ⟨bs, r2⟩ := Dp.reads I e y u he ry
  exact PySem.W.gt_data r1 r2 al nn (by omega) ⟨.bl _, H, I, rfl, q⟩
theorem op_leD (hu : X.A.units + 64 < cLine) : OpR X (compareOp .LtE) (rLeD X.K) := by
  intro pins s σ H x y v u Q I rx ry h
  obtain ⟨d, e, hd, he, al, nn, dp, q⟩ := h
  obtain ⟨as, r1⟩ := Dp.reads I d x v hd rx
  obtain ⟨bs, r2⟩ := Dp.reads I e y u he ry
  exact PySem.W.le_data r1 r2 al nn (by omega) ⟨.bl _, H, I, rfl, q⟩
theorem op_geD (hu : X.A.units + 64 < cLine) : OpR X (compareOp .GtE) (rGeD X.K) := by
  intro pins s σ H x y v u Q I rx ry h
  obtain ⟨d, e, hd, he, al, nn, dp, q⟩ := h
  obtain ⟨as, r1⟩ := Dp.reads I d x v hd rx
  obtain ⟨bs, r2⟩ := Dp.reads I e y u he ry
  exact PySem.W.ge_data r1 r2 al nn (by omega) ⟨.bl _, H, I, rfl, q⟩
end
end L2
/-! Bf: {i:spec} of an int. -/
namespace L2
open PySem PySem.Spec PyProof.Rows
section
variable {X : Cx}
theorem ns_gone {K : PySem.W.Frag} {h : Heap} {a : Addr} {m : Str → Option Value} {x : Str} (Y : K.In h) (G : h.Ns a m) (e : PySem.W.nsIn K a x = some none) : m x = none := by
  obtain ⟨ob, es, ep, ho, hd, _, hf⟩ := G
  revert e
  unfold PySem.W.nsIn
  split
  · next q =>
    have z := Y _ _ q
    rw [ho] at z
    cases z
    cases hd
    split
    · intro e
      cases e
    · next he =>
      intro _
      rw [← hf]
      unfold nsFind findBy
      rw [← Array.find?_toList, he]
      rfl
  · intro e
    cases e
theorem noDig {pins : List (Addr × Obj)} {σ : St} {H : Hp} {s : Shared} (I : Inv X pins σ H s) (z : PySem.W.nsIn X.K cStatics "sys.int_max_str_digits" = some none) : s.heap.NoDigits := by
  obtain ⟨mc, h1, _⟩ := I.nolimit
  exact ⟨mc, h1, ns_gone I.kIn h1 z⟩
def tFmtI (sp : Str) (te : TE) : TE := fun σ H Q => te σ H fun x H1 => ∃ i : Int, x = .int i ∧ i.natAbs < 1000000000000000000 ∧ Q (.str (intSpecTextOf sp i)) H1
theorem pe_fmtI {e spec : Expr} {te : TE} {sp : Str} {pos : Pos} (z : PySem.W.nsIn X.K cStatics "sys.int_max_str_digits" = some none) (he : PE X e te) (hs : PE X spec (tC (.str sp))) (hok : intSpecOk sp = true) (hz : sp.length ≤ sizeLine) :
    PE X (.FormattedValue e (-1) (some spec) pos) (tFmtI sp te) := by
  refine ⟨fun pins s σ H Q I h => ?_⟩
  refine wpAny_FormattedValue_spec (thn (he.run pins s σ H _ I h) fun v s1 ⟨x, H1, I1, r1, i, ex, hi, q⟩ => ?_)
  subst ex
  obtain ⟨t, rfl⟩ := r1
  refine thn (hs.run pins s1 σ H1 (fun y H2 => y = .str sp ∧ Q (.str (intSpecTextOf sp i)) H2) I1 ⟨rfl, q⟩) fun r s2 ⟨y, H2, I2, r2, ey, q2⟩ => ?_
  subst ey
  obtain ⟨t2, rfl⟩ := r2
  exact ⟨sp, t2, rfl, formatField_int_specOf (noDig I2 z) (lt_digitLimit_of_lt hi) hok (fun W _ _ => ⟨.str _, H2, I2.tok _, ⟨_, rfl⟩, q2⟩) hz⟩
/-- >9 -/
theorem spec9_ok : intSpecOk ">9" = true := by decide +kernel
theorem spec9 {i : Int} (h0 : 0 ≤ i) : intSpecTextOf ">9" i = ⟨(List.replicate (9 - (Nat.toDigits 10 i.natAbs).length) 32).toArray⟩ ++ Str.ofString (toString i) := by
  obtain ⟨m, rfl⟩ := Int.eq_ofNat_of_zero_le h0
  have hp : Builtin.Float.parseFormatSpec (Str.ofString ">9").cps.toList "int" 62 = .ok { fill := 32, align := 62, width := some 9 } := by kernel_rfl
  have hd : ((Nat.toDigits 10 ((m : Int)).natAbs).map fun c => (if (100 : Nat) == 88 then c.toUpper else c).toNat).isEmpty = false := by
    have z := tDigits_len_ge 10 ((m : Int)).natAbs
    cases h : Nat.toDigits 10 ((m : Int)).natAbs with
    | nil =>
      rw [h] at z
      simp at z
    | cons _ _ => rfl
  have ht := text_ofNat m
  have hneg : decide ((m : Int) < 0) = false := decide_eq_false (by omega)
  unfold intSpecTextOf
  rw [hp]
  show intSpecText _ _ = _
  unfold intSpecText intField'
  rw [hneg]
  simp only [hd, Bool.false_eq_true, if_false, show ((32 : Nat) == 48) = false by decide, show ((62 : Nat) == 60) = false by decide, show ((62 : Nat) == 94) = false by decide, show ((62 : Nat) == 61) = false by decide, Bool.false_and,
    List.length_nil, List.append_nil, List.nil_append, List.replicate_zero, List.length_map, List.length_append, List.length_replicate]
  refine Str.ext' ?_
  rw [Str.cps_append, show (toString ((m : Nat) : Int)) = toString (Int.ofNat m) from rfl, ht]
  simp
end
end L2
/-! Bg: d.get(k, x) of a written dict; max(i, j, key=int). -/
namespace L2
open PySem PySem.Spec PyProof.Rows
section
variable {X : Cx} {o e f : Expr} {apos cpos : Pos} {td ty tx : TE}
def tKGet2 (K : PySem.W.Frag) (w : World) (td ty tx : TE) : TE := fun σ H Q => td σ H fun x H1 => ∃ d es n, x = .ref d ∧ KDict K w d es n ∧ ty σ H1 fun y H2 => tx σ H2 fun z H3 =>
  ∃ (k : Str) (r : Option Value), y = .str k ∧ PySem.W.nsIn K d k = some r ∧ ((r = none ∧ Q z H3) ∨ ∃ u v, r = some u ∧ RelV v u ∧ Q v H3)
theorem pe_kget2 (ho : PE X o td) (he : PE X e ty) (hf : PE X f tx) (m : M2 X o "get" apos e f cpos) : PE X (.Call (.Attribute o "get" apos) [e, f] [] cpos) (tKGet2 X.K X.w td ty tx) := by
  refine ⟨fun pins s σ H Q I h => ?_⟩
  refine wpAny_Call_method m.base m.few m.line PySem.F.plainAttrs_dict PySem.F.slot_dict_get PySem.F.type_dict_get (thn (ho.run pins s σ H _ I h) fun u s1 ⟨x, H1, I1, rx, d, es, n, ex, D, q1⟩ => ?_)
  subst ex
  cases (show u = Value.ref d from rx)
  refine ⟨kd_type D I1, fun b z => ?_, ?_⟩
  · cases z
    exact ⟨_, I1.kIn _ _ D.at_, rfl⟩
  · rw [m.trees]
    refine Calls.callWith_builtin rfl (Calls.evalArgs_plain (Calls.spliced_cons (thn (he.run pins s1 σ H1 _ I1 q1) fun iv s2 ⟨y, H2, I2, ry, q2⟩ =>
      Calls.spliced_cons (thn (hf.run pins s2 σ H2 _ I2 q2) fun fv s3 ⟨z, H3, I3, rz, k, r, ey, er, q3⟩ => Calls.spliced_nil ?_))))
    subst ey
    obtain ⟨t, rfl⟩ := ry
    refine call_meetsIn PySem.F.slot_dict_get (kd_type D I3) PySem.F.entry_dict_get (PySem.F.args_dict_get_3 _ _ _) (meets_dict_get_default (strKind X.prog X.w) d (PySem.strKind_is X.prog X.w k t) D.low fv) ⟨_, PySem.W.mapOf_K (prog := X.prog) I3.kIn D.at_ D.lit, ?_⟩
    rw [PySem.W.find_K D.at_ er]
    rcases q3 with ⟨rfl, q⟩ | ⟨u, v, rfl, rv, q⟩
    · exact ⟨z, H3, I3.tok _, rz, q⟩
    · exact ⟨v, H3, I3.tok _, rv, q⟩
end
end L2
/-! Bm: max(i, j, key=int). -/
namespace Bm
open PySem PyProof.Rows
section
variable {prog : Program} {w : World} {A : Around} {R : Result → Shared → Prop} {I S : Addr} {fp wr : List Addr} {n : Nat} {P : Nat → Value → Prop} {St : Nat → Heap → Prop} {bt : Nat → Nat → Bool}
theorem nm : (toString "max" ++ toString ".loop" : String) = "max.loop" := by decide
abbrev lst (vs : Array Value) (c : Nat) : Obj := { cls := .type "list", dict := none, data := .seq vs c, slots := #[] }
abbrev lp (I S : Addr) : Code := .builtin "max.loop" ⟨[.ref I, .type "int", .ref S], []⟩
theorem go (W : Walks prog w A.in1 I fp wr n P St) (hi : ∀ i v, P i v → ∃ z t, v = .int z t) (C : CmpOf prog w A.in1 .Gt P bt) (nS : S ∉ fp) :
    ∀ (k p : Nat) (s : Shared) (x : Value) (c : Nat), n - (p + 1) = k → p + 1 ≤ n → St (p + 1) s.heap → P (argBest bt p) x → s.heap.get? S = some (lst #[x, x] c) →
      (∀ v h' tk, P (argBest bt (n - 1)) v → (∀ b o, b ∉ wr → b ≠ S → s.heap.get? b = some o → h'.get? b = some o) → R (.ok (.ret v)) { s with heap := h', toks := tk }) → codeAny (model prog w) A (lp I S) R s
  | 0, p, s, x, c, hk, hp, st, px, gS, q => by
    have e : p + 1 = n := by omega
    have nW : S ∉ wr := fun z => nS (W.sub _ z)
    refine codeAny_builtin F.entry_max_loop ?_
    rw [Around.under_plainId F.plain_max_loop _]
    show wpAny _ _ (seqItems? (.ref S) >>= _) _ _ _
    refine wpAny_bind (wpAny_seqItems gS rfl ?_)
    show wpAny _ _ (tryCatch (pyNext (.ref I)) _ >>= _) _ _ _
    refine wpAny_bind (wpAny_tryCatch (W.done s _ _ (e ▸ st) fun h1 k1 u1 => ?_))
    have g1 := u1 S _ nW gS
    show wpAny _ _ (updateSeq S (fun _ => #[]) >>= _) _ _ _
    refine wpAny_bind (wpAny_updateSeq g1 rfl (wpAny_bind (wpAny_letGo (wpAny_pure ?_))))
    exact q x _ k1 (by rw [← e]; exact px) fun b o hw hb g => (Heap.get?_update_other _ _ (Ne.symm hb)).trans (u1 b o hw g)
  | k + 1, p, s, x, c, hk, hp, st, px, gS, q => by
    have lt : p + 1 < n := by omega
    have nW : S ∉ wr := fun z => nS (W.sub _ z)
    refine codeAny_builtin F.entry_max_loop ?_
    rw [Around.under_plainId F.plain_max_loop _]
    show wpAny _ _ (seqItems? (.ref S) >>= _) _ _ _
    refine wpAny_bind (wpAny_seqItems gS rfl ?_)
    show wpAny _ _ (tryCatch (pyNext (.ref I)) _ >>= _) _ _ _
    refine wpAny_bind (wpAny_tryCatch (W.item (p + 1) s _ _ lt st fun y h1 k1 py st1 u1 => ?_))
    have g1 := u1 S _ nW gS
    obtain ⟨z, t, rfl⟩ := hi _ _ py
    show wpAny _ _ (tryCatch (holding [.int z t] (call (.type "int") [.int z t])) _ >>= _) _ _ _
    refine wpAny_bind (wpAny_tryCatch (wpAny_holding (call_int_int ?_)))
    show wpAny _ _ (tryCatch (holding [.int z t, .int z t] (richCompare .Gt (.int z t) x >>= _)) _ >>= _) _ _ _
    refine wpAny_bind (wpAny_tryCatch (wpAny_holding (wpAny_bind (C (p + 1) (argBest bt p) _ x _ _ _ py px ?_))))
    refine wpAny_bind (wpAny_holding (wpAny_truthy_bool ?_))
    refine wpAny_bind (wpAny_letGo (wpAny_pure ?_))
    cases hb : bt (p + 1) (argBest bt p) with
    | true =>
      simp only [if_true]
      refine wpAny_bind (wpAny_updateSeq g1 rfl (wpAny_bind (wpAny_letGo ?_)))
      rw [nm]
      refine wpAny_pure ⟨plainId_quiet F.plain_max_loop _, go W hi C nS k (p + 1) _ _ _ (by omega) lt (W.frame _ _ _ st1 fun b hf o g => ?_) (by simp only [argBest, hb, if_true]; exact py) (Heap.get?_update_self _ g1 rfl) fun v h2 k2 pv u2 => ?_⟩
      · exact (Heap.get?_update_other _ _ (fun z : S = b => nS (by rw [z]; exact hf))).trans g
      · exact q v h2 k2 pv fun b o hw hn g => u2 b o hw hn ((Heap.get?_update_other _ _ (Ne.symm hn)).trans (u1 b o hw g))
    | false =>
      simp only [Bool.false_eq_true, if_false]
      refine wpAny_bind (wpAny_letGo ?_)
      rw [nm]
      exact wpAny_pure ⟨plainId_quiet F.plain_max_loop _, go W hi C nS k (p + 1) _ _ _ (by omega) lt st1 (by simp only [argBest, hb, Bool.false_eq_true, if_false]; exact px) g1 fun v h2 k2 pv u2 => q v h2 k2 pv fun b o hw hn g => u2 b o hw hn (u1 b o hw g)⟩
theorem go0 (W : Walks prog w A.in1 I fp wr n P St) (hi : ∀ i v, P i v → ∃ z t, v = .int z t) (C : CmpOf prog w A.in1 .Gt P bt) (nS : S ∉ fp) (hn : 0 < n) {s : Shared} {c : Nat} (st : St 0 s.heap) (gS : s.heap.get? S = some (lst #[] c))
    (q : ∀ v h' tk, P (argBest bt (n - 1)) v → (∀ b o, b ∉ wr → b ≠ S → s.heap.get? b = some o → h'.get? b = some o) → R (.ok (.ret v)) { s with heap := h', toks := tk }) : codeAny (model prog w) A (lp I S) R s := by
  have nW : S ∉ wr := fun z => nS (W.sub _ z)
  refine codeAny_builtin F.entry_max_loop ?_
  rw [Around.under_plainId F.plain_max_loop _]
  show wpAny _ _ (seqItems? (.ref S) >>= _) _ _ _
  refine wpAny_bind (wpAny_seqItems gS rfl ?_)
  show wpAny _ _ (tryCatch (pyNext (.ref I)) _ >>= _) _ _ _
  refine wpAny_bind (wpAny_tryCatch (W.item 0 s _ _ hn st fun y h1 k1 py st1 u1 => ?_))
  have g1 := u1 S _ nW gS
  obtain ⟨z, t, rfl⟩ := hi _ _ py
  show wpAny _ _ (tryCatch (holding [.int z t] (call (.type "int") [.int z t])) _ >>= _) _ _ _
  refine wpAny_bind (wpAny_tryCatch (wpAny_holding (call_int_int ?_)))
  show wpAny _ _ (updateSeq S (fun _ => #[.int z t, .int z t]) >>= _) _ _ _
  refine wpAny_bind (wpAny_updateSeq g1 rfl ?_)
  rw [nm]
  refine wpAny_pure ⟨plainId_quiet F.plain_max_loop _, go W hi C nS _ 0 _ _ _ rfl hn (W.frame _ _ _ st1 fun b hf o g => ?_) py (Heap.get?_update_self _ g1 rfl) fun v h2 k2 pv u2 => ?_⟩
  · exact (Heap.get?_update_other _ _ (fun z : S = b => nS (by rw [z]; exact hf))).trans g
  · exact q v h2 k2 pv fun b o hw hn g => u2 b o hw hn ((Heap.get?_update_other _ _ (Ne.symm hn)).trans (u1 b o hw g))
end
section
variable {prog : Program} {w : World} {A : Around} {E : Value → Shared → Prop} {s : Shared}
theorem args2 (a b v : Value) : argsOk "max" ⟨[a, b], [(Str.ofString "key", v)]⟩ := by unfold argsOk; kernel_rfl
theorem max_key {a b : Int} {t u : Tok} {Q : Value → Shared → Prop} (hh : A.handled = none) (h : ∀ h' tk, (∀ c o, s.heap.get? c = some o → h'.get? c = some o) → Q (if b > a then .int b u else .int a t) { s with heap := h', toks := tk }) :
    wpAny (model prog w) A (call (.builtin "max") [.int a t, .int b u] [(Str.ofString "key", .type "int")]) Q E s := by
  refine kmk_tree F.kind_max F.plain_max F.entry_max (args2 _ _ _) ?_
  show wpAny _ _ (Builtin.Builtins.bindParams "max" ["key", "default"] 0 ⟨[], [(Str.ofString "key", .type "int")]⟩ >>= _) _ _ _
  refine wpAny_bind (wpAny_of_eq (show Builtin.Builtins.bindParams "max" ["key", "default"] 0 ⟨[], [(Str.ofString "key", .type "int")]⟩ = pure [some (.type "int"), none] from rfl) ?_)
  refine wpAny_bind (wpAny_newObj_type ?_)
  have hT : (s.heap.push { cls := .type "tuple", data := .seq #[.int a t, .int b u] }).IsTuple s.heap.objs.size (intItems #[(a, t), (b, u)]) := ⟨_, Heap.get?_push_size _ rfl, rfl, 0, by simp [intItems]⟩
  refine wpAny_bind (wpAny_pyIter_tuple hT ?_)
  have z1 : (s.heap.push { cls := .type "tuple", data := .seq #[.int a t, .int b u] }).objs.size = s.heap.objs.size + 1 := Heap.size_push ..
  have z2 : ((s.heap.push { cls := .type "tuple", data := .seq #[.int a t, .int b u] }).push { cls := .type "tuple_iterator", data := .fields #[.ref s.heap.objs.size, .int 0 0] }).objs.size = (s.heap.push { cls := .type "tuple", data := .seq #[.int a t, .int b u] }).objs.size + 1 := Heap.size_push ..
  refine wpAny_bind (wpAny_newObj_type ?_)
  rw [nm]
  have W := Walks.tuple (prog := prog) (w := w) (A := A.in1) hh (s.heap.push { cls := .type "tuple", data := .seq #[.int a t, .int b u] }).objs.size s.heap.objs.size (by rw [z1]; exact Nat.ne_of_lt (Nat.lt_succ_self _)) (intItems #[(a, t), (b, u)])
  refine wpAny_pure ⟨plainId_quiet F.plain_max_loop _, go0 W (fun i v hv => ⟨_, intItems_at hv⟩) (CmpOf.ints_gt (numAt #[(a, t), (b, u)]) (fun _ _ => intItems_at)) (fun hm => ?_) (by simp [intItems]) (W.frame _ _ _ ⟨⟨_, Heap.get?_push_size _ rfl, rfl, rfl⟩, hT.push _⟩ fun b _ o e => Heap.get?_push_of_some _ e) (Heap.get?_push_size _ rfl) fun v h' tk hP hk => ?_⟩
  · rcases List.mem_cons.mp hm with e | hm
    · have e' : ((s.heap.push { cls := .type "tuple", data := .seq #[.int a t, .int b u] }).push { cls := .type "tuple_iterator", data := .fields #[.ref s.heap.objs.size, .int 0 0] }).objs.size = (s.heap.push { cls := .type "tuple", data := .seq #[.int a t, .int b u] }).objs.size := e
      rw [z2] at e'
      exact absurd e' (Nat.succ_ne_self _)
    · rcases List.mem_cons.mp hm with e | hm
      · have e' : ((s.heap.push { cls := .type "tuple", data := .seq #[.int a t, .int b u] }).push { cls := .type "tuple_iterator", data := .fields #[.ref s.heap.objs.size, .int 0 0] }).objs.size = s.heap.objs.size := e
        rw [z2, z1] at e'
        exact absurd e' (Nat.ne_of_gt (Nat.lt_succ_of_lt (Nat.lt_succ_self _)))
      · cases hm
  · have old : ∀ c o, s.heap.get? c = some o → h'.get? c = some o := fun c o e => by
      have lt := Heap.lt_size e
      refine hk c o (fun hm => ?_) (fun z => ?_) (Heap.get?_push_of_some _ (Heap.get?_push_of_some _ (Heap.get?_push_of_some _ e)))
      · rcases List.mem_cons.mp hm with y | hm
        · rw [y, z1] at lt
          exact Nat.not_lt_of_le (Nat.le_succ _) lt
        · cases hm
      · have z' : c = ((s.heap.push { cls := .type "tuple", data := .seq #[.int a t, .int b u] }).push { cls := .type "tuple_iterator", data := .fields #[.ref s.heap.objs.size, .int 0 0] }).objs.size := z
        rw [z', z2, z1] at lt
        exact Nat.not_lt_of_le (Nat.le_trans (Nat.le_succ _) (Nat.le_succ _)) lt
    have hv : v = if b > a then Value.int b u else Value.int a t := by
      have n1 : (intItems #[(a, t), (b, u)]).size - 1 = 1 := by simp [intItems]
      have hP' : (intItems #[(a, t), (b, u)])[argBest (fun i j => decide (numAt #[(a, t), (b, u)] i > numAt #[(a, t), (b, u)] j)) 1]? = some v := n1 ▸ hP
      by_cases c : b > a
      · rw [show argBest (fun i j => decide (numAt #[(a, t), (b, u)] i > numAt #[(a, t), (b, u)] j)) 1 = 1 by simp [argBest, numAt, c]] at hP'
        simpa [intItems, c] using hP'.symm
      · rw [show argBest (fun i j => decide (numAt #[(a, t), (b, u)] i > numAt #[(a, t), (b, u)] j)) 1 = 0 by simp [argBest, numAt, c]] at hP'
        simpa [intItems, c] using hP'.symm
    show Q v _
    rw [hv]
    exact h h' tk old
end
end Bm
namespace L2
open PySem PySem.Spec PyProof.Rows
section
variable {X : Cx}
def rMaxK : List V → List V → Hp → VK → Prop := fun xs zs H Q => ∃ i j, xs = [.int i, .int j] ∧ zs = [.ty "int"] ∧ Q (.int (if j > i then j else i)) H
theorem call_maxK (hc : X.calm = true) : CallRK X (.builtin "max") ["key"] rMaxK := by
  intro pins s σ H xs zs us ws Q I r r2 h
  obtain ⟨i, j, rfl, rfl, q⟩ := h
  obtain ⟨u, w', rfl, ⟨t, rfl⟩, ⟨t', rfl⟩⟩ := vals2 r
  obtain ⟨u2, rfl, e2⟩ := vals1 r2
  cases e2
  refine Bm.max_key (I.ok.hd hc) fun h' tk k => ⟨_, H, I.kept k, ?_, q⟩
  by_cases hj : j > i
  · rw [if_pos hj, if_pos hj]
    exact ⟨_, rfl⟩
  · rw [if_neg hj, if_neg hj]
    exact ⟨_, rfl⟩
end
end L2
/-! Bo: comparisons by an own class's defs. -/
namespace L2
open PySem PySem.Spec PyProof.Rows
section
variable {X : Cx} {C g : Addr} {CX : CXT} {n : Nat} {sp : Sp} {E : XK}
theorem ty_looks {pins : List (Addr × Obj)} {σ : St} {H : Hp} {s : Shared} {x : V} {u t : Value} (I : Inv X pins σ H s) (rx : RelV x u) (ty : TyX X.K H x t) : PySem.W.Looks (model X.prog X.w) s.heap (typeOf u) t := by
  obtain ⟨P, k, p, _⟩ := kit_of I rx ty
  exact k.ty _ _ I.kIn p
/-- x op y, x an instance of the class at C whose def for op is at g; y of the type tb -/
def rOwnI (K : PySem.W.Frag) (C : Addr) (sp : Sp) (E : XK) : R2 := fun x y H Q => ∃ a dx fs tb, x = .ref a ∧ H a = some (.ins C dx fs) ∧ TyX K H y tb ∧ PySem.W.notFirst K C tb = true ∧ sp [x, y] H Q E
theorem op_ownI {op : CmpOp} (hop : ∀ a b, compareOp op a b = richCompare op a b) (hs : PySem.W.findIn X.K (.ref C) (cmpInfo op).2.1 = some (some (.ref g))) (hf : PySem.W.isFn X.K (.ref g) = true) (F : FnR X.prog X.w X.K X.mg X.base CX n g sp)
    (hr : Room n X.A) (hx : Passes CX X E) : OpR X (compareOp op) (rOwnI X.K C sp E) := by
  intro pins s σ H x y v u Q I rx ry h
  obtain ⟨a, dx, fs, tb, rfl, ha, ty, hn, q⟩ := h
  cases (show v = Value.ref a from rx)
  obtain ⟨mA, O, _⟩ := ins_get I.hok ha
  obtain ⟨od, J, _⟩ := O.look
  obtain ⟨m, hF⟩ := I.fr
  rw [hop]
  refine PySem.W.cmp_K (op := op) (tb := tb) hr.units0 hF I.ok.mod.kin J (ty_looks I ry ty) hn hs hf ?_
  refine wpAny_mono (wpAny_call (run_fnR (us := [.ref a, u]) (vs := [.ref a, y]) F hr hx I (.cons rfl (.cons ry .nil)) q)) (fun w s' z => ?_) fun _ _ x => x
  obtain ⟨z', H', I', rz, qz⟩ := z
  exact SlX.cmpback rz ⟨z', H', I', rz, qz⟩
/-- x != y by the class's __eq__ -/
def rOwnNe (K : PySem.W.Frag) (C : Addr) (sp : Sp) (E : XK) : R2 := fun x y H Q => ∃ a dx fs tb, x = .ref a ∧ H a = some (.ins C dx fs) ∧ TyX K H y tb ∧ PySem.W.notFirst K C tb = true ∧ sp [x, y] H (fun z H' => ∃ b, z = .bl b ∧ Q (.bl (!b)) H') E
theorem op_ownNe (hs : PySem.W.findIn X.K (.ref C) "__eq__" = some (some (.ref g))) (hn0 : PySem.W.findIn X.K (.ref C) "__ne__" = some (some (.builtin "object.__ne__"))) (ho : PySem.W.subIn X.K (.ref C) (.type "object") = some true) (hf : PySem.W.isFn X.K (.ref g) = true) (F : FnR X.prog X.w X.K X.mg X.base CX n g sp)
    (hr : Room (n + 1) X.A) (hx : Passes CX X E) : OpR X (compareOp .NotEq) (rOwnNe X.K C sp E) := by
  intro pins s σ H x y v u Q I rx ry h
  obtain ⟨a, dx, fs, tb, rfl, ha, ty, hn, q⟩ := h
  cases (show v = Value.ref a from rx)
  obtain ⟨mA, O, _⟩ := ins_get I.hok ha
  obtain ⟨od, J, _⟩ := O.look
  have Y := I.kIn
  have one : wpAny (model X.prog X.w) X.A (tryCompare (.ref a) "__ne__" u) (fun r s' => ∃ v, r = some v ∧ EP X pins σ Q v s') X.xe s := by
    unfold tryCompare
    refine wpAny_bind ?_
    simp only [callSpecialIfBound?, bindSpecialIfBound?]
    refine wpAny_holding (wpAny_bind (wpAny_bind (wpAny_bind (J.type.here ((PySem.W.looks_findIn Y hn0).here ?_)))))
    have fin : wpAny (model X.prog X.w) X.A (call (.builtin "object.__ne__") ([.ref a] ++ [u]) >>= fun v => pure (some v)) (fun r s' => wpAny (model X.prog X.w) X.A (match r with | some .notImplemented | none => pure none | some v => pure (some v)) (fun r s' => ∃ v, r = some v ∧ EP X pins σ Q v s') X.xe s') X.xe s := by
      refine wpAny_bind (wpAny_call (codeAny_call_builtin PySem.F.cmp_object.ne.plain PySem.F.cmpEntry_ne ?_))
      simp only [checkBuiltinCall, PySem.F.cmpKind_ne, PySem.F.cmpSplit_ne]
      have chk : wpAny (model X.prog X.w) X.A.in1 (match Manifest.signature? "object.__ne__" with | some sig => Bind.checkArgs "object.__ne__" sig ⟨[.ref a] ++ [u], []⟩ | _ => pure ()) (fun _ s' => s' = s) X.xe s := by
        have ok := PySem.F.cmpArgs_ne (.ref a) u
        cases hsig : Manifest.signature? "object.__ne__" with
        | none => exact wpAny_pure rfl
        | some sig =>
          simp only [argsOk, hsig] at ok
          exact wpAny_of_eq ok rfl
      refine wpAny_bind ?_
      unfold isInstance
      refine wpAny_bind (J.type.here ((PySem.W.looks_subIn Y ho).here ?_))
      refine wpAny_mono chk (fun _ s' e => ?_) fun _ _ e => e
      subst e
      unfold Builtin.«object.__ne__»
      refine wpAny_bind (wpAny_pure ?_)
      refine wpAny_bind (wpAny_cRoomFor hr.in1.units0 ?_)
      refine wpAny_bind (PySem.W.ifBound_K Y J hs hf ?_)
      refine wpAny_call (codeAny_mono (F X.A.in1 X.stack s' H [.ref a, u] [.ref a, y] _ E hr.in1 I.env0.in1 (.cons rfl (.cons ry .nil)) q) fun r s2 hq => ?_)
      cases r with
      | error e => exact hx pins σ H s' e s2 I hq
      | ok fl =>
        cases fl with
        | next => exact False.elim hq
        | brk => exact False.elim hq
        | cont => exact False.elim hq
        | ret v =>
          obtain ⟨z', H', I', rz, b, ez, qz⟩ := I.after hq
          subst ez
          cases (show v = Value.bool b from rz)
          refine wpAny_bind (wpAny_truthy_bool (wpAny_pure (wpAny_pure ?_)))
          exact wpAny_pure ⟨_, rfl, .bl (!b), H', I', rfl, qz⟩
    simp only [PySem.F.cmp_object.ne.bind]
    refine wpAny_bind (wpAny_askSetting (wpAny_ite ?_))
    split
    · exact wpAny_bind (wpAny_pure (wpAny_pure fin))
    · exact wpAny_tryCatch (wpAny_bind (wpAny_pure (wpAny_pure fin)))
  show wpAny _ _ (richCompare .NotEq (.ref a) u) _ _ _
  unfold richCompare
  simp only [oneThing_ref]
  refine wpAny_holding (wpAny_bind (wpAny_cRoomFor hr.units0 ?_))
  refine wpAny_bind (J.type.here (wpAny_bind ((ty_looks I ry ty).here ?_)))
  split
  · next z =>
    have e : PySem.W.subIn X.K tb (.ref C) = some false := by
      rcases Bool.or_eq_true_iff.mp hn with e | e
      · rw [beq_iff_eq.mp e] at z
        simp at z
      · exact beq_iff_eq.mp e
    refine wpAny_bind ((PySem.W.looks_subIn Y e).here ?_)
    simp only [Bool.false_eq_true, if_false]
    exact wpAny_bind (wpAny_mono one (fun r s' ⟨v, e, p⟩ => by subst e; exact wpAny_pure p) fun _ _ e => e)
  · refine wpAny_bind (wpAny_pure ?_)
    simp only [Bool.false_eq_true, if_false]
    exact wpAny_bind (wpAny_mono one (fun r s' ⟨v, e, p⟩ => by subst e; exact wpAny_pure p) fun _ _ e => e)
end
end L2
/-! Bs: str(x), len(x) by an own class's defs. -/
namespace L2
open PySem PySem.Spec PyProof.Rows
section
variable {X : Cx} {C g : Addr} {CX : CXT} {n : Nat} {sp : Sp} {E : XK}
def rStrOwn (C : Addr) (sp : Sp) (E : XK) : List V → Hp → VK → Prop := fun xs H Q => ∃ a dx fs, xs = [V.ref a] ∧ H a = some (.ins C dx fs) ∧ sp [.ref a] H (fun z H' => ∃ t, z = .str t ∧ Q z H') E
def rLenOwn (C : Addr) (sp : Sp) (E : XK) : List V → Hp → VK → Prop := fun xs H Q => ∃ a dx fs, xs = [V.ref a] ∧ H a = some (.ins C dx fs) ∧ sp [.ref a] H (fun z H' => ∃ i : Int, z = .int i ∧ 0 ≤ i ∧ i < 2 ^ 63 ∧ Q z H') E
theorem call_strOwn (hs : PySem.W.findIn X.K (.ref C) "__str__" = some (some (.ref g))) (hf : PySem.W.isFn X.K (.ref g) = true) (F : FnR X.prog X.w X.K X.mg X.base CX n g sp) (hr : Room (n + 2) X.A) (hx : Passes CX X E) : CallR X (.type "str") (rStrOwn C sp E) := by
  intro pins s σ H xs us Q I r h
  obtain ⟨a, dx, fs, rfl, ha, q⟩ := h
  obtain ⟨u, rfl, ru⟩ := vals1 r
  cases (show u = Value.ref a from ru)
  obtain ⟨mA, O, _⟩ := ins_get I.hok ha
  obtain ⟨od, J, _⟩ := O.look
  have r2 : Room n X.A.in1.in1 := (show Room (n + 1) X.A.in1 from Room.in1 hr).in1
  refine PySem.W.kso_call r2.units0 I.kIn J hs hf (wpAny_mono (wpAny_call (SlX.run_at (us := [.ref a]) (ws := [.ref a]) F r2 I.env0.in1.in1 hx I (.cons rfl .nil) q)) (fun w s' z => ?_) fun _ _ x => x)
  obtain ⟨z', H', I', rz, t, e, qz⟩ := z
  subst e
  obtain ⟨k, e⟩ := (show ∃ k, w = Value.str t k from rz)
  cases e
  exact ⟨.str t, H', I', ⟨k, rfl⟩, qz⟩
theorem call_lenOwn (hs : PySem.W.findIn X.K (.ref C) "__len__" = some (some (.ref g))) (hf : PySem.W.isFn X.K (.ref g) = true) (F : FnR X.prog X.w X.K X.mg X.base CX n g sp) (hr : Room (n + 1) X.A) (hx : Passes CX X E) : CallR X (.builtin "len") (rLenOwn C sp E) := by
  intro pins s σ H xs us Q I r h
  obtain ⟨a, dx, fs, rfl, ha, q⟩ := h
  obtain ⟨u, rfl, ru⟩ := vals1 r
  cases (show u = Value.ref a from ru)
  obtain ⟨mA, O, _⟩ := ins_get I.hok ha
  obtain ⟨od, J, _⟩ := O.look
  obtain ⟨m, hF⟩ := I.fr
  have r1 : Room n X.A.in1 := Room.in1 hr
  refine PySem.W.len_K hF I.ok.mod.kin J hs hf (wpAny_mono (wpAny_call (SlX.run_at (us := [.ref a]) (ws := [.ref a]) F r1 I.env0.in1 hx I (.cons rfl .nil) q)) (fun w s' z => ?_) fun _ _ x => x)
  obtain ⟨z', H', I', rz, i, e, h0, h1, qz⟩ := z
  subst e
  obtain ⟨k, e⟩ := (show ∃ k, w = Value.int i k from rz)
  cases e
  exact ⟨⟨h0, h1⟩, .int i, H', I'.tok _, ⟨_, rfl⟩, qz⟩
end
end L2
/-! Bd: values as data (Dp), kept where the heap grows. -/
namespace L2
open PySem PySem.Spec PyProof.Rows
section
variable {K : PySem.W.Frag} {H H' : Hp} {a p : Addr} {xs : List V} {v : V} {o : HO}
theorem new_same (h : H p = none) (o : HO) : Same H (upd H p o) := fun b u q => by rw [upd_ne (ne_of_none q h)]; exact q
theorem Same.tup (e : Same H H') (h : SqT K H a xs) : SqT K H' a xs := by
  rcases h with (h | ⟨o, h⟩) | h
  · exact .inl (.inl (e _ _ h))
  · exact .inl (.inr ⟨o, e _ _ h⟩)
  · exact .inr h
theorem sqT_new (h : H p = none) (q : SqT K H a xs) : SqT K (upd H p o) a xs := (new_same h o).tup q
theorem sqL_new (h : H p = none) (q : SqL K H a xs) : SqL K (upd H p o) a xs := (new_same h o).seq q
theorem dp_str {x : Str} (h : Dp K H v (.str x)) : v = .str x := by cases h; rfl
theorem dp_int {i : Int} (h : Dp K H v (.int i)) : v = .int i := by cases h; rfl
theorem dp_bl {b : Bool} (h : Dp K H v (.bool b)) : v = .bl b := by cases h; rfl
theorem dp_tup {ds : List PyData} (h : Dp K H v (.tuple ds)) : ∃ a xs, v = .ref a ∧ SqT K H a xs ∧ DpAll K H xs ds := by
  cases h with
  | tup q r => exact ⟨_, _, rfl, q, r⟩
theorem dp_lst {ds : List PyData} (h : Dp K H v (.list ds)) : ∃ a xs, v = .ref a ∧ SqL K H a xs ∧ DpAll K H xs ds := by
  cases h with
  | lst q r => exact ⟨_, _, rfl, q, r⟩
theorem dpa_nil (h : DpAll K H xs []) : xs = [] := by cases h; rfl
theorem dpa_cons {d : PyData} {ds : List PyData} (h : DpAll K H xs (d :: ds)) : ∃ x ys, xs = x :: ys ∧ Dp K H x d ∧ DpAll K H ys ds := by
  cases h with
  | cons q r => exact ⟨_, _, rfl, q, r⟩
theorem dpa_len : ∀ {xs : List V} {ds : List PyData}, DpAll K H xs ds → xs.length = ds.length
  | _, [], h => by rw [dpa_nil h]; rfl
  | _, d :: ds, h => by
    obtain ⟨x, ys, rfl, _, r⟩ := dpa_cons h
    exact congrArg (· + 1) (dpa_len r)
theorem dpa_get : ∀ {xs : List V} {ds : List PyData} {i : Nat} {x : V}, DpAll K H xs ds → xs[i]? = some x → ∃ d, ds[i]? = some d ∧ Dp K H x d
  | _, [], _, _, h, e => by
    rw [dpa_nil h] at e
    cases e
  | _, d :: ds, 0, _, h, e => by
    obtain ⟨x, ys, rfl, q, r⟩ := dpa_cons h
    cases e
    exact ⟨d, rfl, q⟩
  | _, d :: ds, i + 1, _, h, e => by
    obtain ⟨x, ys, rfl, q, r⟩ := dpa_cons h
    exact dpa_get (i := i) r e
theorem dpa_at : ∀ {xs : List V} {ds : List PyData} {i : Nat} {d : PyData}, DpAll K H xs ds → ds[i]? = some d → ∃ x, xs[i]? = some x ∧ Dp K H x d
  | _, [], _, _, _, e => nomatch e
  | _, d :: ds, 0, _, h, e => by
    obtain ⟨x, ys, rfl, q, r⟩ := dpa_cons h
    cases e
    exact ⟨x, rfl, q⟩
  | _, d :: ds, i + 1, _, h, e => by
    obtain ⟨x, ys, rfl, q, r⟩ := dpa_cons h
    exact dpa_at (i := i) r e
theorem dpa_app : ∀ {xs ys : List V} {ds es : List PyData}, DpAll K H xs ds → DpAll K H ys es → DpAll K H (xs ++ ys) (ds ++ es)
  | _, _, [], _, h, h' => by
    rw [dpa_nil h]
    exact h'
  | _, _, d :: ds, _, h, h' => by
    obtain ⟨x, zs, rfl, q, r⟩ := dpa_cons h
    exact .cons q (dpa_app r h')
mutual
theorem dp_mono (s : Same H H') : ∀ (d : PyData) (v : V), Dp K H v d → Dp K H' v d
  | .none, _, h => by cases h; exact .non
  | .bool b, _, h => by cases h; exact .bl b
  | .int i, _, h => by cases h; exact .int i
  | .str x, _, h => by cases h; exact .str x
  | .list ds, _, h => by
    obtain ⟨a, xs, rfl, q, r⟩ := dp_lst h
    exact .lst (s.seq q) (dpa_mono s ds xs r)
  | .tuple ds, _, h => by
    obtain ⟨a, xs, rfl, q, r⟩ := dp_tup h
    exact .tup (s.tup q) (dpa_mono s ds xs r)
  | .dict _, _, h => by cases h
theorem dpa_mono (s : Same H H') : ∀ (ds : List PyData) (xs : List V), DpAll K H xs ds → DpAll K H' xs ds
  | [], _, h => by rw [dpa_nil h]; exact .nil
  | d :: ds, _, h => by
    obtain ⟨x, ys, rfl, q, r⟩ := dpa_cons h
    exact .cons (dp_mono s d x q) (dpa_mono s ds ys r)
end
theorem Same.dp {d : PyData} (s : Same H H') (h : Dp K H v d) : Dp K H' v d := dp_mono s d v h
theorem Same.dpa {ds : List PyData} (s : Same H H') (h : DpAll K H xs ds) : DpAll K H' xs ds := dpa_mono s ds xs h
/-- texts of a written tuple -/
def okTupS (K : PySem.W.Frag) (a : Addr) (ss : List Str) : Bool := match K.lookup a with
  | some ⟨.type "tuple", _, .seq its _, _⟩ => decide (its.size ≤ 1000) && (its.toList.map absV == ss.map fun x => some (V.str x))
  | _ => false
theorem vals_abs : ∀ {its : List Value} {ss : List Str}, its.map absV = ss.map (fun x => some (V.str x)) → Vals (ss.map V.str) its
  | [], [], _ => .nil
  | [], _ :: _, h => nomatch h
  | _ :: _, [], h => nomatch h
  | u :: us, x :: xs, h => by
    obtain ⟨h1, h2⟩ := List.cons.inj h
    refine .cons ?_ (vals_abs h2)
    cases u <;> first | (cases h1; done) | skip
    all_goals (cases h1; exact ⟨_, rfl⟩)
theorem okTupS_of {ss : List Str} (q : okTupS K a ss = true) (H : Hp) : SqT K H a (ss.map V.str) := by
  unfold okTupS at q
  split at q
  · next ho =>
    simp only [Bool.and_eq_true, decide_eq_true_eq, beq_iff_eq] at q
    exact .inr ⟨_, _, _, ho, rfl, rfl, Nat.le_trans q.1 (by decide), vals_abs q.2⟩
  · cases q
end
end L2
/-! Rd3: readings of more constructs. -/
namespace L2
open PySem PySem.Spec PyProof.Rows
def rMaxI : List V → Hp → VK → Prop := fun xs H Q => ∃ i j, xs = [.int i, .int j] ∧ Q (.int (if j > i then j else i)) H
def rMinI : List V → Hp → VK → Prop := fun xs H Q => ∃ i j, xs = [.int i, .int j] ∧ Q (.int (if j < i then j else i)) H
section
variable {X : Cx}
theorem call_maxI (hc : X.calm = true) : CallR X (.builtin "max") rMaxI := call_max2 hc
theorem call_minI (hc : X.calm = true) : CallR X (.builtin "min") rMinI := call_min2 hc
end
end L2
namespace Rd
open PySem L2
section
variable {σ : L2.St} {H : Hp} {Q : VK} {i j : Int} {wi : TI} {g : TG} {tb : TS} {D : Ends} {tt : TT} {te ta tc td ty tx : TE} {vs : List Nat} {tA : TA} {K : PySem.W.Frag} {R : It → Hp → Prop} {p : Addr} {xs : List V} {x : V} {r r' : R2}
theorem u64 {k : Nat} {A : Around} (r : Room k A) : A.units + 64 < cLine := by
  have := r.un
  omega
theorem maxI (h : Q (.int (if j > i then j else i)) H) : rMaxI [.int i, .int j] H Q := ⟨i, j, rfl, h⟩
theorem minI (h : Q (.int (if j < i then j else i)) H) : rMinI [.int i, .int j] H Q := ⟨i, j, rfl, h⟩
theorem for_ (h : wi σ H fun J H1 => ∃ W : Nat → Nat → L2.St → Hp → Prop, (∃ m, W 0 m σ H1) ∧ ∀ i m σ H, W i m σ H →
  (J.stop i H ∧ D.nx σ H) ∨ (J.go i H ∧ ∃ N : L2.St → Hp → Prop, (∀ σ' H', N σ' H' → ∃ m', m' < m ∧ W (i + 1) m' σ' H') ∧ ∀ x H', J.yld i H x H' → g x σ H' fun σ2 H2 => tb { D with nx := N, ct := N, bk := D.nx } σ2 H2)) : tFor wi g tb D σ H := h
theorem lc_ (h : wi σ H fun J H1 => ∀ D, H1 D = none → ∃ W : Nat → Nat → Hp → Prop, (∃ m, W 0 m (upd H1 D (.lst []))) ∧ ∀ i m H, W i m H →
      (J.stop i H ∧ Q (.ref D) H) ∨ (J.go i H ∧ ∃ Nx : Hp → Prop, (∀ H', Nx H' → ∃ m', m' < m ∧ W (i + 1) m' H') ∧ ∀ x H', J.yld i H x H' → g x (wipe σ vs) H' fun σ2 H2 => wipe σ2 vs = wipe σ vs ∧ tt σ2 H2 fun b H3 =>
        if b = true then te σ2 H3 fun y H4 => ∃ acc, H4 D = some (.lst acc) ∧ acc.length < sizeLine ∧ Nx (upd H4 D (.lst (acc ++ [y]))) else Nx H3)) : tLc wi g tt te vs σ H Q := h
theorem enum (h : tA σ H fun us H1 => ∃ a xs, us = [.ref a] ∧ SqL K H1 a xs ∧ R (Ite K a) H1) : iEnum K tA σ H R := h
theorem flat_strs : ∀ ss : List Str, (ss.map V.str).all flatV = true
  | [] => rfl
  | x :: xs => by
    show (flatV (.str x) && (xs.map V.str).all flatV) = true
    rw [flat_strs xs]
    rfl
theorem inT (h : SqT K H p xs) (hx : flatV x = true) (hf : xs.all flatV = true) (q : Q (.bl (inV x xs)) H) : rIn K false x (.ref p) H Q := ⟨p, xs, rfl, .inr h, hx, hf, q⟩
theorem inTn (h : SqT K H p xs) (hx : flatV x = true) (hf : xs.all flatV = true) (q : Q (.bl (!inV x xs)) H) : rIn K true x (.ref p) H Q := ⟨p, xs, rfl, .inr h, hx, hf, q⟩
theorem inL (h : SqL K H p xs) (hx : flatV x = true) (hf : xs.all flatV = true) (q : Q (.bl (inV x xs)) H) : rIn K false x (.ref p) H Q := ⟨p, xs, rfl, .inl h, hx, hf, q⟩
theorem tyT (h : SqT K H p xs) : TyX K H (.ref p) (.type "tuple") := by
  rcases h with (h | ⟨o, h⟩) | ⟨o, its, n, h, hc, _⟩
  · exact .base (.tup h)
  · exact .fTuple h
  · exact .kTuple h hc
theorem chain {tb : TE} (h : ta σ H fun x H1 => tb σ H1 fun y H2 => r x y H2 fun z H3 => ∃ k, z = .bl k ∧ (if k = true then tc σ H3 fun w' H4 => r' y w' H4 Q else Q (.bl false) H3)) : tChain r r' ta tb tc σ H Q := h
theorem kget2 {w : World} (h : td σ H fun x H1 => ∃ d es n, x = .ref d ∧ KDict K w d es n ∧ ty σ H1 fun y H2 => tx σ H2 fun z H3 =>
  ∃ (k : Str) (r : Option Value), y = .str k ∧ PySem.W.nsIn K d k = some r ∧ ((r = none ∧ Q z H3) ∨ ∃ u v, r = some u ∧ RelV v u ∧ Q v H3)) : tKGet2 K w td ty tx σ H Q := h
end
end Rd
/-! Xn: own exception classes whose __init__ says super().__init__(..) and keeps its arguments: the heap's side. -/
namespace Xn
open PySem PySem.W PySem.Calls PyProof.Rows
theorem store_KeyError : StoreFacts "KeyError" [.type "KeyError", .type "LookupError", .type "Exception", .type "BaseException", .type "object"] "object.__setattr__" "object" where
  mro := by kernel_rfl
  slot := .of (n := "__setattr__") (owner := "object") (by rw [typeLookup_type, builtinLookup_eq_fast]; kernel_rfl) (by decide +kernel) (by decide +kernel) (by decide +kernel)
    (by first | exact .inr (by decide +kernel) | exact .inl (by decide +kernel)) (by rw [isSubtype_type]; kernel_rfl)
  entry := F.entry_object_sa
  kind := by decide +kernel
  split := by decide +kernel
  hasOwner := by decide +kernel
  args := fun x y z => by unfold argsOk; kernel_rfl
  passes := fun x => by kernel_rfl
theorem sup_KeyError : KxsFacts "KeyError" "KeyError.__init__" := ⟨by show builtinType _ = _; rw [builtinType_eq_fast]; kernel_rfl, by first | rfl | kernel_rfl⟩
/-- what the written part says of an own exception class: its tail bmB, the base B whose init is i, made by newId -/
structure ExT (K : Frag) (C : Addr) (B i newId : String) (bmB : List Value) : Prop where
  cls : ∃ nm q N bs bm sn sub ab col dd k0 k1 k2 k3 k5, K.lookup C = some (excClassObj nm q C N bs bm true sn sub ab col dd k0 k1 k2 k3 k5 newId) ∧ excTail bmB bm = true
  sup : ks_superIn K C C "__init__" = some (some (.builtin i))
  subB : subIn K (.ref C) (.type B) = some true
  subC : mroIn K C (.ref C) = some true
  sa : findIn K (.ref C) "__setattr__" = some (some (.builtin "object.__setattr__"))
  st : nsIn K cStatics "thirdparty.any" = some none
section
variable {prog : Program} {w : World} {A : Around} {E : Value → Shared → Prop} {K : Frag} {C x : Addr} {B i newId : String} {bmB : List Value} {h : Heap} {g : Array GenState} {d : Drawn} {t : Nat} {os : OsState}
theorem ExT.over (T : ExT K C B i newId bmB) : excOver K C bmB = true := by
  obtain ⟨nm, q, N, bs, bm, sn, sub, ab, col, dd, k0, k1, k2, k3, k5, hC, ht⟩ := T.cls
  unfold excOver clsIn
  rw [hC]
  show (C == C && excTail bmB bm) = true
  rw [ht]
  simp
theorem ExT.data (T : ExT K C B i newId bmB) : ∃ cd, clsIn K C = some cd ∧ cd.hasDict = true := by
  obtain ⟨nm, q, N, bs, bm, sn, sub, ab, col, dd, k0, k1, k2, k3, k5, hC, ht⟩ := T.cls
  unfold clsIn
  rw [hC]
  exact ⟨_, rfl, rfl⟩
theorem taker_none {name : Str} (ha : findIn K (.ref C) name = some none) : takerIn K C name = some none := by
  unfold takerIn
  rw [ha]
  rfl
/-- self.name = v, the first one -/
theorem set_new (SF : StoreFacts B bmB "object.__setattr__" "object") (T : ExT K C B i newId bmB) {fv : Array Value} {name : Str} {v : Value} {Q : Unit → Shared → Prop} (X : K.In h) (hx : h.get? x = some { cls := .ref C, data := .fields fv }) (ha : findIn K (.ref C) name = some none)
    (hq : ∀ h' tk' dx, (∀ b o, b ≠ x → h.get? b = some o → h'.get? b = some o) → h.objs.size ≤ dx → dx ≠ x → h'.get? x = some { cls := .ref C, dict := some dx, data := .fields fv } →
      h'.Ns1 dx (fun y => if y = name then some v else none) → Q () ⟨h', g, d, tk', os⟩) :
    wpAny (model prog w) A (setAttr (.ref x) name v) Q E ⟨h, g, d, t, os⟩ := by
  have J : InstAt h x { cls := .ref C, data := .fields fv } C none := ⟨hx, rfl, rfl, trivial⟩
  have hxs : x ≠ h.objs.size := Nat.ne_of_lt (Heap.lt_size hx)
  obtain ⟨cd, hcd, hh⟩ := T.data
  refine set_plain (s := ⟨h, g, d, t, os⟩) X J T.sa (osa_openX SF X J T.over (taker_none ha) fun b => ?_)
  have hcls : Looks (model prog w) h (classData C) cd := looks_clsIn X hcd
  obtain ⟨nm, bs, mro, ns, qn, hd, sn, sb, ab, col, del⟩ := cd
  dsimp only at hh
  subst hh
  show wpAny _ _ (Builtin.ObjectAttr.storeInOwnDict (.ref x) (.ref C) (.str name _) name v b) _ _ _
  unfold Builtin.ObjectAttr.storeInOwnDict Builtin.ObjectAttr.ownDictForStores
  repeat (first | with_reducible refine HandSPX.store_in_new ?_ ?_ | with_reducible refine hcls.at ?_ | with_reducible refine wpAny_loadPart_at hx ?_ | wp_step)
  · exact ⟨_, #[], _, (Heap.get?_update_ne _ _ _ _ hxs.symm).trans (Heap.get?_push_at rfl rfl), rfl, fun e he => absurd he (by simp), fun _ => rfl⟩
  · intro h' tk' hn' hs
    have hx₁ : (h.push { cls := .type "dict", data := .dict #[] }).get? x = some { cls := .ref C, data := .fields fv } := Heap.get?_push_of_some _ hx
    refine hq h' tk' h.objs.size (fun b o hb ho => ?_) (Nat.le_refl _) hxs.symm ?_ hn'
    · exact (hs.2 b (Nat.ne_of_lt (Heap.lt_size ho))).trans ((Heap.get?_update_ne _ _ _ _ hb).trans (Heap.get?_push_of_some _ ho))
    · exact (hs.2 x hxs).trans (Heap.get?_update_self _ hx₁ rfl)
/-- self.name = v, a further one -/
theorem set_old (SF : StoreFacts B bmB "object.__setattr__" "object") (T : ExT K C B i newId bmB) {fv : Array Value} {dx : Addr} {m0 : Str → Option Value} {nl : List Str} {name : Str} {v : Value} {Q : Unit → Shared → Prop} (X : K.In h) (hx : h.get? x = some { cls := .ref C, dict := some dx, data := .fields fv })
    (hns : h.Ns1 dx m0) (hw : Within m0 nl) (hz : nl.length ≤ 1000) (ha : findIn K (.ref C) name = some none)
    (hq : ∀ h' tk', (∀ b o, b ≠ dx → h.get? b = some o → h'.get? b = some o) → h'.Ns1 dx (fun y => if y = name then some v else m0 y) → Q () ⟨h', g, d, tk', os⟩) :
    wpAny (model prog w) A (setAttr (.ref x) name v) Q E ⟨h, g, d, t, os⟩ := by
  obtain ⟨oD, esD, epD, hoD, hdD, _⟩ := hns.count hw
  have J : InstAt h x { cls := .ref C, dict := some dx, data := .fields fv } C (some oD) := ⟨hx, rfl, rfl, hoD⟩
  obtain ⟨cd, hcd, hh⟩ := T.data
  refine set_plain (s := ⟨h, g, d, t, os⟩) X J T.sa (osa_openX SF X J T.over (taker_none ha) fun b => ?_)
  have hcls : Looks (model prog w) h (classData C) cd := looks_clsIn X hcd
  obtain ⟨nm, bs, mro, ns, qn, hd, sn, sb, ab, col, del⟩ := cd
  dsimp only at hh
  subst hh
  show wpAny _ _ (Builtin.ObjectAttr.storeInOwnDict (.ref x) (.ref C) (.str name _) name v b) _ _ _
  unfold Builtin.ObjectAttr.storeInOwnDict Builtin.ObjectAttr.ownDictForStores
  repeat (first | with_reducible refine OEX.store_in_old hns hw hz ?_ | with_reducible refine hcls.at ?_ | with_reducible refine wpAny_loadPart_at hx ?_ | wp_step)
  intro h' tk' hn' hs
  exact hq h' tk' (fun b o hb ho => (hs.2 b hb).trans ho) hn'
end
/-! ### super().__init__(..) -/
/-- what the built-in __init__ of the base is -/
structure IniF (B i : String) : Prop where
  noStar : (B != "*") = true
  kind : builtinKind i = some .slot
  row : Manifest.signature? i = some ⟨.positional, "*", B, .self, [⟨"args", .varPos, false⟩]⟩
  entry : entryFor table i = some Builtin.«BaseException.__init__»
  plain : plainId i = true
theorem ini_ValueError : IniF "ValueError" "ValueError.__init__" := ⟨F.excCall_ValueError.noStar, F.excCall_ValueError.initKind, F.excCall_ValueError.initRow, F.excCall_ValueError.initEntry, F.excCall_ValueError.init.plain⟩
theorem ini_KeyError : IniF "KeyError" "KeyError.__init__" := ⟨excClass_KeyError.notStar, excClass_KeyError.initKind, excClass_KeyError.initSig, excClass_KeyError.initEntry, excClass_KeyError.init.plain⟩
section
variable {prog : Program} {w : World} {M : Model} {A : Around} {E : Value → Shared → Prop} {K : Frag} {C : Addr} {B i newId : String} {bmB : List Value} {h : Heap} {g : Array GenState} {d : Drawn} {t : Nat} {os : OsState}
variable {nm q : Str} {N : Addr} {bs bm : List Value} {hdct : Bool} {sn : List Str} {sub : List Value} {ab : Bool} {col : Option Bool} {dd : Option Addr} {k0 k1 k2 k3 k5 : Option Value}
theorem check_ini (FI : IniF B i) {e : Addr} {oe : Obj} {us : List Value} {Q : Unit → Shared → Prop}
    (hC : h.get? C = some (excClassObj nm q C N bs bm hdct sn sub ab col dd k0 k1 k2 k3 k5 newId)) (hoe : h.get? e = some oe) (hcls : oe.cls = .ref C) (hq : Q () ⟨h, g, d, t, os⟩) :
    wpAny M A (checkBoundCall i ⟨.ref e :: us, []⟩) Q E ⟨h, g, d, t, os⟩ := by
  have hst := FI.noStar
  simp only [checkBoundCall, FI.kind, FI.row]
  repeat (first | with_reducible refine wpAny_loadPart_at hC ?_ | (with_reducible refine wpAny_loadPart_at hoe ?_; rw [hcls]) | wp_step)
  refine wpAny_onRaise ?_
  have cs : ∀ (a b : String) (n : Nat), Bind.check ⟨.positional, "*", B, .self, [⟨"args", .varPos, false⟩]⟩ a b n (List.map (fun y => y.fst) ({ pos := Value.ref e :: us } : Args).kw) = pure () := fun a b n => check_star_args _ _ _ _ _ _
  rw [cs]
  exact wpAny_pure hq
/-- the bound __init__ called: the args are laid anew -/
theorem call_mw (FI : IniF B i) {e t0 u : Addr} {us : List Value} {Q : Value → Shared → Prop}
    (hC : h.get? C = some (excClassObj nm q C N bs bm hdct sn sub ab col dd k0 k1 k2 k3 k5 newId)) (hoe : h.get? e = some (HandSPX.excO C t0)) (hu : h.get? u = some (kxs_mw i e)) (hus : us.length ≤ sizeLine)
    (hq : ∀ h' t1, (∀ b o, b ≠ e → h.get? b = some o → h'.get? b = some o) → h'.get? e = some (HandSPX.excO C t1) → Q .none ⟨h', g, d, t, os⟩) :
    wpAny (model prog w) A (call (.ref u) us) Q E ⟨h, g, d, t, os⟩ := by
  refine wpAny_call (codeAny_of_tree ?_)
  show wpAny _ A.in1 (callAny (.ref u) ⟨us, []⟩) _ _ _
  simp only [callAny]
  refine wpAny_bind (wpAny_load hu ?_)
  simp only [kxs_mw, show (Value.type "method-wrapper" == Value.type "method" || Value.type "method-wrapper" == Value.type "builtin_function_or_method" || Value.type "method-wrapper" == Value.type "method-wrapper") = true by decide, if_true]
  refine KFB.if_so (by decide) ?_
  refine wpAny_bind (check_ini FI hC hoe rfl ?_)
  refine wpAny_bind (wpAny_pure (wpAny_pure ?_))
  refine ⟨plainId_quiet FI.plain _, codeAny_builtin FI.entry ?_⟩
  exact exc_init_tree (cls := .ref C) (t0 := t0) (dv := none) (c2 := .none) (c3 := .none) (b4 := .bool false) hoe hus fun h' k e1 _ => hq h' _ k e1
end
/-- the def at fI, __init__ of the class at C, closes over its class's cell cc -/
structure InT (prog : Program) (K : Frag) (fI cc cda C : Addr) (qual : Str) (fd : FuncData) : Prop where
  fn : ∃ oc od osl, K.lookup fI = some ⟨oc, od, .func fd, osl⟩
  sh : fd.globals = mainGlobals ∧ fd.builtins = builtinsNs ∧ fd.closure = [((("__class__" : Str)), cc)] ∧ fd.code = .ref cda ∧ fd.qualname = qual
  cd : codeIn K (.ref cda) qual = true
  code : ∃ ccl cdd vs ccs file tf, K.lookup cda = some ⟨ccl, cdd, .fields vs, ccs⟩ ∧ vs[2]? = some (.str file tf) ∧ ((prog.main.file : Str) == file) = true
  cell : ∃ cl cld csl, K.lookup cc = some ⟨cl, cld, .cell (some (.ref C)), csl⟩
  top : (prog.main.scope.names.lookup ("super" : Str)).isSome = false
/-- the names of such a def -/
structure ScI (sc : Scope) (ns : List Str) : Prop where
  kind : sc.kind = .function
  co : sc.isCoroutine = false
  gen : sc.isGenerator = false
  sup : sc.names.lookup ("super" : Str) = some .globalImplicit
  cls : sc.names.lookup ("__class__" : Str) = some .free
  loc : ∀ n ∈ (("self" : Str) :: ns), sc.names.lookup n = some .local
  noc : ∀ y ∈ sc.names, y.2 ≠ .cell
/-- the module's names at a heap -/
structure Gb (mg : Str → Option Value) (h : Heap) : Prop where
  glob : h.Ns mainGlobals mg
  blt : ∃ mb, h.Ns builtinsNs mb ∧ mb "super" = some (.type "super")
  sup : mg "super" = none
theorem Gb.keeps {mg : Str → Option Value} {h h' : Heap} (G : Gb mg h) (k : ∀ b o, h.get? b = some o → h'.get? b = some o) : Gb mg h' := by
  obtain ⟨a, ⟨mb, b, c⟩, e⟩ := G
  exact ⟨a.keeps k, ⟨mb, b.keeps k, c⟩, e⟩
section
variable {prog : Program} {w : World} {A : Around} {E : Value → Shared → Prop} {K : Frag} {C x fI cc cda : Addr} {B i newId : String} {bmB : List Value} {h : Heap} {g : Array GenState} {d : Drawn} {t : Nat} {os : OsState} {qual : Str} {fd : FuncData} {mg : Str → Option Value} {L t0 : Addr} {ns : List Str}
theorem sup_stmt (FI : IniF B i) (KF : KxsFacts B i) (T : ExT K C B i newId bmB) (I : InT prog K fI cc cda C qual fd) (S : ScI fd.scope ns) (hpar : ∃ ar, (fd.params.posonlyargs ++ fd.params.args).head? = some ar ∧ ar.arg = "self")
    (X : K.In h) (G : Gb mg h) {m : Str → Option Value} (hn : h.Ns L m) (hself : m "self" = some (.ref x)) (hx : h.get? x = some (HandSPX.excO C t0)) {body : List Stmt} {e1 : Expr} {es : List Expr} {us : List Value} {p0 p1 p2 p3 p4 : Pos} {Q : Flow → Shared → Prop} (hus : us.length ≤ sizeLine)
    (hargs : ∀ (h' : Heap) (t' : Nat) (Q' : List Value → Shared → Prop), (∀ b o, h.get? b = some o → h'.get? b = some o) → Q' us ⟨h', g, d, t', os⟩ → wpAny (model prog w) A (spliced (backTo p3 (starEach (e1 :: es) (callEnv fd L fI)))) Q' E ⟨h', g, d, t', os⟩)
    (hq : ∀ h' t' t1, (∀ b o, b ≠ x → h.get? b = some o → h'.get? b = some o) → h'.get? x = some (HandSPX.excO C t1) → Q .next ⟨h', g, d, t', os⟩)
    (he : starEach (e1 :: es) (callEnv fd L fI) = (false, eval e1 (callEnv fd L fI)) :: starEach es (callEnv fd L fI)) (hpl : (backTo p3 (starEach es (callEnv fd L fI))).any (·.1) = false) {pl : Sem Bool}
    (hev : eval (.Call (.Attribute (.Call (.Name "super" p0) [] [] p1) "__init__" p2) (e1 :: es) [] p3) (callEnv fd L fI) = (do
      let ov ← attributeBase (.Call (.Name "super" p0) [] [] p1) "__init__" (callEnv fd L fI) (eval (.Call (.Name "super" p0) [] [] p1) (callEnv fd L fI))
      standAt p2.atName
      let (f, first) ← holding [ov] (getMethod ov "__init__" pl)
      callWith p3 f first (backTo p3 (starEach (e1 :: es) (callEnv fd L fI))) []))
    (hi : interactive (callEnv fd L fI) = false) (hs : swapsWith (.Call (.Attribute (.Call (.Name "super" p0) [] [] p1) "__init__" p2) (e1 :: es) [] p3) none p4.line (callEnv fd L fI) = pure false) :
    PySem.wpAt (model prog w) A (.func body (callEnv fd L fI)) (exec (.Expr (.Call (.Attribute (.Call (.Name "super" p0) [] [] p1) "__init__" p2) (e1 :: es) [] p3) p4) (callEnv fd L fI)) Q E ⟨h, g, d, t, os⟩ := by
  obtain ⟨g1, g2, g3, g4, g5⟩ := I.sh
  obtain ⟨oc, od, osl, hfn⟩ := I.fn
  obtain ⟨ccl, cdd, vs, ccs, file, tf, hcode, hvs, hfile⟩ := I.code
  obtain ⟨cl, cld, csl, hcell⟩ := I.cell
  obtain ⟨ar, hp, har⟩ := hpar
  obtain ⟨nm, q, N, bs, bm, sn, sub, ab, col, dd, k0, k1, k2, k3, k5, hC, ht⟩ := T.cls
  obtain ⟨mb, hb, hsup⟩ := G.blt
  refine ks_wpAt_Expr_any (ks_wpAt_MethodCall ?_ hev) hi hs
  refine ks_wpAt_super_base (env := callEnv fd L fI) S.sup S.cls (by decide) rfl (X _ _ hfn) rfl hp g4 (X _ _ hcode) rfl hvs hfile I.top ?_
  refine ks_loadName_global S.kind S.sup (loadGlobal_builtin (env := callEnv fd L fI) (s := ⟨h, g, d, t, os⟩) (by show h.Ns fd.globals mg; rw [g1]; exact G.glob) G.sup (by show h.Ns fd.builtins mb; rw [g2]; exact hb) hsup ⟨rfl, ?_⟩)
  refine wpAny_loadName_free (c := cc) S.kind S.cls (by show fd.closure.lookup _ = _; rw [g3]; rfl) ⟨_, X _ _ hcell, rfl⟩ ?_
  rw [har]
  refine wpAny_loadName_local S.kind (S.loc _ (List.mem_cons_self ..)) hn hself ?_
  refine ks_wpAny_isType_cls (X _ _ hC) rfl ⟨rfl, ?_⟩
  refine ks_wpAny_call_super (X _ _ hC) rfl hx rfl (fun c e => nomatch e) (looks_mroIn X T.subC) (fun h1 e1 kk1 => ?_)
  have X1 : K.In h1 := X.keeps kk1
  have hx1 := kk1 _ _ hx
  have J1 : InstAt h1 x (HandSPX.excO C t0) C none := ⟨hx1, rfl, rfl, trivial⟩
  have hcl : clsIn K C = some { name := nm, bases := bs, mro := .ref C :: bm, ns := N, qualname := q, hasDict := true, slotNames := sn, subclasses := sub, abstract := ab, collection := col, hasDel := false } := by unfold clsIn; rw [hC]
  have hf := T.sup
  unfold ks_superIn at hf
  rw [hcl] at hf
  refine kxs_getMethod KF e1 (looks_opaque X1 T.st) (l₀ := .ref C :: bm) ((looks_clsIn X1 hcl).andThen .now) rfl X1 hf (J1.type.andThen (looks_subIn X1 T.subB)) (ks_ne X1 J1 hcl) (by decide) ?_
  have k2' : ∀ b o, h1.get? b = some o → (h1.push (kxs_mw i x)).get? b = some o := fun b o e => Heap.get?_push_of_some _ e
  have hu : (h1.push (kxs_mw i x)).get? h1.objs.size = some (kxs_mw i x) := Heap.get?_push_size _ rfl
  refine kxs_callWith (i := i) (x := x) (by rw [he]; show (false || (backTo p3 (starEach es (callEnv fd L fI))).any (·.1)) = false; rw [hpl]; rfl) ?_
  rw [he]
  refine evalArgs_plain ?_
  have hA := hargs (h1.push (kxs_mw i x)) (t + 1)
  rw [he] at hA
  refine hA _ (fun b o e => k2' b o (kk1 b o e)) ⟨hu, ?_⟩
  show wpAny _ _ (call (.ref h1.objs.size) us) _ _ _
  refine call_mw FI (k2' _ _ (X1 _ _ hC)) (k2' _ _ hx1) hu hus fun h' t1 kk hx' => ?_
  exact hq h' _ t1 (fun b o hb e => kk b o hb (k2' b o (kk1 b o e))) hx'
theorem ldv {M : Model} {s : Shared} {m : Str → Option Value} {n : Str} {p : Pos} {v : Value} {Q : Value → Shared → Prop} (S : ScI fd.scope ns) (hm : n ∈ (("self" : Str) :: ns)) (hn : s.heap.Ns L m) (hv : m n = some v) (hd : (n == ("__debug__" : Str)) = false) (hq : Q v s) :
    wpAny M A (eval (.Name n p) (callEnv fd L fI)) Q E s := wpAny_Name (wpAny_loadName_local S.kind (S.loc n hm) hn hv hq) hd
theorem kin_but {h h' : Heap} (X : K.In h) (hx : K.lookup x = none) (k : ∀ b o, b ≠ x → h.get? b = some o → h'.get? b = some o) : K.In h' := fun a o e =>
  k a o (fun z => by rw [z, hx] at e; cases e) (X a o e)
theorem fresh_K {h : Heap} {a : Addr} (X : K.In h) (ha : h.objs.size ≤ a) : K.lookup a = none := by
  cases e : K.lookup a with
  | none => rfl
  | some o => exact absurd (Heap.lt_size (X _ _ e)) (Nat.not_lt.mpr ha)
/-- super().__init__(..) is one node: a method called -/
def EvOk (fd : FuncData) (fI : Addr) (es : List Expr) (p0 p1 p2 p3 : Pos) : Prop := ∀ L : Addr, ∃ pl : Sem Bool, eval (.Call (.Attribute (.Call (.Name "super" p0) [] [] p1) "__init__" p2) es [] p3) (callEnv fd L fI) = (do
      let ov ← attributeBase (.Call (.Name "super" p0) [] [] p1) "__init__" (callEnv fd L fI) (eval (.Call (.Name "super" p0) [] [] p1) (callEnv fd L fI))
      standAt p2.atName
      let (f, first) ← holding [ov] (getMethod ov "__init__" pl)
      callWith p3 f first (backTo p3 (starEach es (callEnv fd L fI))) [])
theorem inter (S : ScI fd.scope ns) : interactive (callEnv fd L fI) = false := by
  show (fd.scope.kind == _ && _) = false
  rw [S.kind]
  rfl
/-- what __init__ leaves of a fresh exception at x -/
structure Ended (C : Addr) (h h' : Heap) (x dx : Addr) (m : Str → Option Value) (nl : List Str) : Prop where
  keep : ∀ b o, b ≠ x → h.get? b = some o → h'.get? b = some o
  obj : ∃ t1, h'.get? x = some { cls := .ref C, dict := some dx, data := .fields #[.ref t1, .none, .none, .none, .bool false, .none] }
  dbig : h.objs.size ≤ dx
  dne : dx ≠ x
  ns : h'.Ns1 dx m
  win : Within m nl
abbrev supX (es : List Expr) (p0 p1 p2 p3 p4 : Pos) : Stmt := .Expr (.Call (.Attribute (.Call (.Name "super" p0) [] [] p1) "__init__" p2) es [] p3) p4
abbrev keepX (n : Str) (p0 p1 p2 p3 : Pos) : Stmt := .Assign [.Attribute (.Name "self" p0) n p1] (.Name n p2) p3
/-- the keeping of one more argument -/
theorem keep1 (SF : StoreFacts B bmB "object.__setattr__" "object") (T : ExT K C B i newId bmB) (S : ScI fd.scope ns) {n : Str} {v : Value} (hm : n ∈ ns) (ha : findIn K (.ref C) n = some none) (hd : (n == ("__debug__" : Str)) = false) (X : K.In h) {m : Str → Option Value} (hn : h.Ns L m) (hself : m "self" = some (.ref x)) (hv : m n = some v)
    {p0 p1 p2 p3 : Pos} {fv : Array Value} (hx : h.get? x = some { cls := .ref C, data := .fields fv }) {Q : Flow → Shared → Prop}
    (hq : ∀ h' tk' dx, (∀ b o, b ≠ x → h.get? b = some o → h'.get? b = some o) → h.objs.size ≤ dx → dx ≠ x → h'.get? x = some { cls := .ref C, dict := some dx, data := .fields fv } →
      h'.Ns1 dx (fun y => if y = n then some v else none) → Q .next ⟨h', g, d, tk', os⟩) (hs : swapsWith (.Name n p2) (some (.Attribute (.Name "self" p0) n p1)) p3.line (callEnv fd L fI) = pure false) :
    wpAny (model prog w) A (exec (keepX n p0 p1 p2 p3) (callEnv fd L fI)) Q E ⟨h, g, d, t, os⟩ := by
  refine plainObj_wpAny_Assign_Attribute ?_ hs
  refine ldv (s := ⟨h, g, d, t, os⟩) S (List.mem_cons_of_mem _ hm) hn hv hd (ldv (s := ⟨h, g, d, t, os⟩) S (List.mem_cons_self ..) hn hself (by decide) ?_)
  exact set_new SF T X hx ha hq
theorem keep2 (SF : StoreFacts B bmB "object.__setattr__" "object") (T : ExT K C B i newId bmB) (S : ScI fd.scope ns) {n : Str} {v : Value} (hm : n ∈ ns) (ha : findIn K (.ref C) n = some none) (hd : (n == ("__debug__" : Str)) = false) (X : K.In h) {m : Str → Option Value} (hn : h.Ns L m) (hself : m "self" = some (.ref x)) (hv : m n = some v)
    {p0 p1 p2 p3 : Pos} {fv : Array Value} {dx : Addr} {m0 : Str → Option Value} {nl : List Str} (hx : h.get? x = some { cls := .ref C, dict := some dx, data := .fields fv }) (hns : h.Ns1 dx m0) (hw : Within m0 nl) (hz : nl.length ≤ 1000) {Q : Flow → Shared → Prop}
    (hq : ∀ h' tk', (∀ b o, b ≠ dx → h.get? b = some o → h'.get? b = some o) → h'.Ns1 dx (fun y => if y = n then some v else m0 y) → Q .next ⟨h', g, d, tk', os⟩) (hs : swapsWith (.Name n p2) (some (.Attribute (.Name "self" p0) n p1)) p3.line (callEnv fd L fI) = pure false) :
    wpAny (model prog w) A (exec (keepX n p0 p1 p2 p3) (callEnv fd L fI)) Q E ⟨h, g, d, t, os⟩ := by
  refine plainObj_wpAny_Assign_Attribute ?_ hs
  refine ldv (s := ⟨h, g, d, t, os⟩) S (List.mem_cons_of_mem _ hm) hn hv hd (ldv (s := ⟨h, g, d, t, os⟩) S (List.mem_cons_self ..) hn hself (by decide) ?_)
  exact set_old SF T X hx hns hw hz ha hq
/-- __init__(self, n): super().__init__(n); self.n = n -/
theorem init1 (FI : IniF B i) (KF : KxsFacts B i) (SF : StoreFacts B bmB "object.__setattr__" "object") (T : ExT K C B i newId bmB) (I : InT prog K fI cc cda C qual fd) {n : Str} (S : ScI fd.scope [n]) (hpar : ∃ ar, (fd.params.posonlyargs ++ fd.params.args).head? = some ar ∧ ar.arg = "self")
    {p0 p1 p2 p3 p4 q1 r0 r1 r2 r3 : Pos} (hbody : fd.body = .stmts [supX [.Name n q1] p0 p1 p2 p3 p4, keepX n r0 r1 r2 r3]) (hev : EvOk fd fI [.Name n q1] p0 p1 p2 p3) (hne : n ≠ "self") (hd : (n == ("__debug__" : Str)) = false) (ha : findIn K (.ref C) n = some none)
    {v : Value} {args : Args} {R : Result → Shared → Prop} (X : K.In h) (hlim : h.NoLimit) (G : Gb mg h) (hx : h.get? x = some (HandSPX.excO C t0)) (hnx : K.lookup x = none) (hroom : A.depth < recursionLimit)
    (hbind : BindsTo ⟨h, g, d, t, os⟩ fd args [("self", .ref x), (n, v)])
    (hq : ∀ h' tk dx, Ended C h h' x dx (fun y => if y = n then some v else none) [n] → R (.ok (.ret .none)) ⟨h', g, d, tk, os⟩) :
    codeAny (model prog w) A (.call (.ref fI) args) R ⟨h, g, d, t, os⟩ := by
  obtain ⟨oc, od, osl, hfn⟩ := I.fn
  obtain ⟨g1, g2, g3, g4, g5⟩ := I.sh
  refine ks_codeAny_call_defAt (s := ⟨h, g, d, t, os⟩) hroom (X _ _ hfn) rfl hlim (by rw [g4, g5]; exact codeRec_of X I.cd) hbody hbind S.noc (fun y hy => ?_) (fun h1 hns kk1 => ?_) S.co S.gen S.kind
  · rcases List.mem_cons.mp hy with rfl | hy
    · exact S.loc _ (List.mem_cons_self ..)
    · rw [List.mem_singleton.mp hy]
      exact S.loc _ (List.mem_cons_of_mem _ (List.mem_cons_self ..))
  have X1 : K.In h1 := X.keeps kk1
  have hself : (fun y => ([((("self" : Str)), Value.ref x), (n, v)].reverse).lookup y) "self" = some (.ref x) := by
    show List.lookup _ [(n, v), ((("self" : Str)), Value.ref x)] = _
    have e : ((("self" : Str)) == n) = false := by simpa using Ne.symm hne
    simp [List.lookup, e]
  have hv : (fun y => ([((("self" : Str)), Value.ref x), (n, v)].reverse).lookup y) n = some v := by
    show List.lookup _ [(n, v), ((("self" : Str)), Value.ref x)] = _
    simp [List.lookup]
  refine ks_wpAt_execs_cons ?_
  obtain ⟨pl, hev'⟩ := hev h.objs.size
  refine sup_stmt FI KF T I S hpar X1 (G.keeps kk1) hns hself (kk1 _ _ hx) (us := [v]) (Rd.sz (by exact Nat.le_of_ble_eq_true rfl)) (fun h' t' Q' kk q => ?_) (fun h2 t2 t1 kk2 hx2 => ?_) rfl rfl hev' (inter S) rfl
  · refine Calls.spliced_cons (ldv (s := ⟨h', g, d, t', os⟩) S (List.mem_cons_of_mem _ (List.mem_cons_self ..)) (hns.keeps kk) hv hd ?_)
    exact Calls.spliced_nil q
  · have hLx : h.objs.size ≠ x := Nat.ne_of_gt (Heap.lt_size hx)
    have hns2 : h2.Ns h.objs.size (fun y => ([((("self" : Str)), Value.ref x), (n, v)].reverse).lookup y) := hns.at' fun o e => kk2 _ o hLx e
    refine wpAt_of_wpAny (wpAny_execs_cons ?_)
    refine keep1 SF T S (List.mem_cons_self ..) ha hd (kin_but X1 hnx kk2) hns2 hself hv hx2 (fun h3 tk3 dx kk3 db dn hx3 hn3 => ?_) rfl
    refine wpAny_execs_nil (hq h3 tk3 dx ⟨fun b o hb e => kk3 b o hb (kk2 b o hb (kk1 b o e)), ⟨t1, hx3⟩, ?_, dn, hn3, Within.cons n v Within.nil⟩)
    have z1 : h.objs.size < h2.objs.size := hns2.lt
    exact Nat.le_of_lt (Nat.lt_of_lt_of_le z1 db)
/-- __init__(self, n, k): super().__init__(n, k); self.n = n; self.k = k -/
theorem init2 (FI : IniF B i) (KF : KxsFacts B i) (SF : StoreFacts B bmB "object.__setattr__" "object") (T : ExT K C B i newId bmB) (I : InT prog K fI cc cda C qual fd) {n k : Str} (S : ScI fd.scope [n, k]) (hpar : ∃ ar, (fd.params.posonlyargs ++ fd.params.args).head? = some ar ∧ ar.arg = "self")
    {p0 p1 p2 p3 p4 q1 q2 r0 r1 r2 r3 y0 y1 y2 y3 : Pos} (hbody : fd.body = .stmts [supX [.Name n q1, .Name k q2] p0 p1 p2 p3 p4, keepX n r0 r1 r2 r3, keepX k y0 y1 y2 y3]) (hev : EvOk fd fI [.Name n q1, .Name k q2] p0 p1 p2 p3) (hne : n ≠ "self") (hke : k ≠ "self") (hnk : n ≠ k) (hd : (n == ("__debug__" : Str)) = false) (hd2 : (k == ("__debug__" : Str)) = false)
    (ha : findIn K (.ref C) n = some none) (ha2 : findIn K (.ref C) k = some none)
    {v u : Value} {args : Args} {R : Result → Shared → Prop} (X : K.In h) (hlim : h.NoLimit) (G : Gb mg h) (hx : h.get? x = some (HandSPX.excO C t0)) (hnx : K.lookup x = none) (hroom : A.depth < recursionLimit)
    (hbind : BindsTo ⟨h, g, d, t, os⟩ fd args [("self", .ref x), (n, v), (k, u)])
    (hq : ∀ h' tk dx, Ended C h h' x dx (fun y => if y = k then some u else if y = n then some v else none) [k, n] → R (.ok (.ret .none)) ⟨h', g, d, tk, os⟩) :
    codeAny (model prog w) A (.call (.ref fI) args) R ⟨h, g, d, t, os⟩ := by
  obtain ⟨oc, od, osl, hfn⟩ := I.fn
  obtain ⟨g1, g2, g3, g4, g5⟩ := I.sh
  have ms : (("self" : Str)) ∈ [(("self" : Str)), n, k] := List.mem_cons_self ..
  have mn : n ∈ [n, k] := List.mem_cons_self ..
  have mk' : k ∈ [n, k] := List.mem_cons_of_mem _ (List.mem_cons_self ..)
  refine ks_codeAny_call_defAt (s := ⟨h, g, d, t, os⟩) hroom (X _ _ hfn) rfl hlim (by rw [g4, g5]; exact codeRec_of X I.cd) hbody hbind S.noc (fun y hy => ?_) (fun h1 hns kk1 => ?_) S.co S.gen S.kind
  · rcases List.mem_cons.mp hy with rfl | hy
    · exact S.loc _ ms
    · rcases List.mem_cons.mp hy with rfl | hy
      · exact S.loc _ (List.mem_cons_of_mem _ mn)
      · rw [List.mem_singleton.mp hy]
        exact S.loc _ (List.mem_cons_of_mem _ mk')
  have X1 : K.In h1 := X.keeps kk1
  have e1 : ((("self" : Str)) == n) = false := by simpa using Ne.symm hne
  have e2 : ((("self" : Str)) == k) = false := by simpa using Ne.symm hke
  have e3 : (n == k) = false := by simpa using hnk
  have hself : (fun y => ([((("self" : Str)), Value.ref x), (n, v), (k, u)].reverse).lookup y) "self" = some (.ref x) := by
    show List.lookup _ [(k, u), (n, v), ((("self" : Str)), Value.ref x)] = _
    simp [List.lookup, e1, e2]
  have hv : (fun y => ([((("self" : Str)), Value.ref x), (n, v), (k, u)].reverse).lookup y) n = some v := by
    show List.lookup _ [(k, u), (n, v), ((("self" : Str)), Value.ref x)] = _
    simp [List.lookup, e3]
  have hu : (fun y => ([((("self" : Str)), Value.ref x), (n, v), (k, u)].reverse).lookup y) k = some u := by
    show List.lookup _ [(k, u), (n, v), ((("self" : Str)), Value.ref x)] = _
    simp [List.lookup]
  refine ks_wpAt_execs_cons ?_
  obtain ⟨pl, hev'⟩ := hev h.objs.size
  refine sup_stmt FI KF T I S hpar X1 (G.keeps kk1) hns hself (kk1 _ _ hx) (us := [v, u]) (Rd.sz (by exact Nat.le_of_ble_eq_true rfl)) (fun h' t' Q' kk q => ?_) (fun h2 t2 t1 kk2 hx2 => ?_) rfl rfl hev' (inter S) rfl
  · refine Calls.spliced_cons (ldv (s := ⟨h', g, d, t', os⟩) S (List.mem_cons_of_mem _ mn) (hns.keeps kk) hv hd ?_)
    refine Calls.spliced_cons (ldv (s := ⟨h', g, d, t', os⟩) S (List.mem_cons_of_mem _ mk') (hns.keeps kk) hu hd2 ?_)
    exact Calls.spliced_nil q
  · have hLx : h.objs.size ≠ x := Nat.ne_of_gt (Heap.lt_size hx)
    have hns2 : h2.Ns h.objs.size (fun y => ([((("self" : Str)), Value.ref x), (n, v), (k, u)].reverse).lookup y) := hns.at' fun o e => kk2 _ o hLx e
    have X2 := kin_but X1 hnx kk2
    refine wpAt_of_wpAny (wpAny_execs_cons ?_)
    refine keep1 SF T S mn ha hd X2 hns2 hself hv hx2 (fun h3 tk3 dx kk3 db dn hx3 hn3 => ?_) rfl
    have z1 : h.objs.size < h2.objs.size := hns2.lt
    have hns3 : h3.Ns h.objs.size (fun y => ([((("self" : Str)), Value.ref x), (n, v), (k, u)].reverse).lookup y) := hns2.at' fun o e => kk3 _ o hLx e
    have hLd : h.objs.size ≠ dx := Nat.ne_of_lt (Nat.lt_of_lt_of_le z1 db)
    show wpAny _ _ (execs _ _) _ _ _
    refine wpAny_execs_cons ?_
    refine keep2 SF T S mk' ha2 hd2 (kin_but X2 hnx kk3) hns3 hself hu hx3 hn3 (Within.cons n v Within.nil) (by show 1 ≤ 1000; decide) (fun h4 tk4 kk4 hn4 => ?_) rfl
    have low : ∀ b o, h.get? b = some o → b ≠ dx := fun b o e => Nat.ne_of_lt (Nat.lt_trans (Heap.lt_size e) (Nat.lt_of_lt_of_le z1 db))
    refine wpAny_execs_nil (hq h4 tk4 dx ⟨fun b o hb e => kk4 b o (low b o e) (kk3 b o hb (kk2 b o hb (kk1 b o e))), ⟨t1, kk4 _ _ (Ne.symm dn) hx3⟩, Nat.le_of_lt (Nat.lt_of_lt_of_le z1 db), dn, hn4, Within.cons k u (Within.cons n v Within.nil)⟩)
end
end Xn
namespace Xn
open PySem PySem.W PySem.Calls PyProof.Rows
/-- what the built-in __new__ is, and what the tail must bear -/
structure NewF (B0 newId : String) (bmB : List Value) : Prop where
  F : ∃ initId bm0, ExcBaseFacts B0 newId initId bm0
  hasB : bmB.contains (.type B0) = true
  noA : bmB.contains (.type "AttributeError") = false
  noN : bmB.contains (.type "NameError") = false
abbrev bmV : List Value := [.type "ValueError", .type "Exception", .type "BaseException", .type "object"]
abbrev bmK : List Value := [.type "KeyError", .type "LookupError", .type "Exception", .type "BaseException", .type "object"]
theorem new_V : NewF "ValueError" "ValueError.__new__" bmV := ⟨⟨_, _, F.excBase_ValueError⟩, by decide +kernel, by decide +kernel, by decide +kernel⟩
theorem new_K : NewF "LookupError" "LookupError.__new__" bmK := ⟨⟨_, _, F.excBase_LookupError⟩, by decide +kernel, by decide +kernel, by decide +kernel⟩
section
variable {M : Model} {A : Around} {E : Value → Shared → Prop} {h : Heap} {g : Array GenState} {d : Drawn} {t : Nat} {os : OsState}
variable {nm q : Str} {C N : Addr} {bs bm bmB : List Value} {hdct : Bool} {sn : List Str} {sub : List Value} {ab : Bool} {col : Option Bool} {dd : Option Addr} {k0 k1 k2 k3 k5 : Option Value} {B0 newId : String}
theorem check_new (NF : NewF B0 newId bmB) (ht : excTail bmB bm = true) {us : List Value} {kws : List (Str × Value)} {Q : Unit → Shared → Prop}
    (hC : h.get? C = some (excClassObj nm q C N bs bm hdct sn sub ab col dd k0 k1 k2 k3 k5 newId)) (hq : Q () ⟨h, g, d, t, os⟩) : wpAny M A (checkBuiltinCall newId ⟨.ref C :: us, kws⟩) Q E ⟨h, g, d, t, os⟩ := by
  obtain ⟨initId, bm0, F⟩ := NF.F
  have hin : (Value.ref C :: bm).contains (.type B0) = true := by rw [List.contains_cons, excTail_contains B0 _ ht, NF.hasB, Bool.or_true]
  have hst := F.noStar
  simp only [checkBuiltinCall, F.newKind, F.newSplit, F.newRow]
  repeat (first | with_reducible refine wpAny_loadPart_at hC ?_ | (with_reducible refine wpAny_isSubtype_exc hC ?_; rw [hin]) | with_reducible refine wpAny_staticBase_exc hC ?_ | with_reducible refine wpAny_madeBy_exc hC ?_ | simp only [bne_self_eq_false, Bool.false_eq_true, if_false] | wp_step)
  exact hq
end
section
variable {prog : Program} {w : World} {A : Around} {E : Value → Shared → Prop} {R : Result → Shared → Prop} {h : Heap} {g : Array GenState} {d : Drawn} {t : Nat} {os : OsState}
variable {nm q : Str} {C N : Addr} {bs bm bmB : List Value} {hdct : Bool} {sn : List Str} {sub : List Value} {ab : Bool} {col : Option Bool} {dd : Option Addr} {k0 k1 k2 k3 k5 : Option Value} {B0 newId : String}
theorem run_new (NF : NewF B0 newId bmB) (ht : excTail bmB bm = true) {us : List Value} {kws : List (Str × Value)}
    (hC : h.get? C = some (excClassObj nm q C N bs bm hdct sn sub ab col dd k0 k1 k2 k3 k5 newId))
    (hq : R (.ok (.ret (.ref (h.objs.size + 1)))) ⟨(h.push (kdv_tup us)).push (HandSPX.excO C h.objs.size), g, d, t, os⟩) (hus : us.length ≤ sizeLine) :
    codeAny (model prog w) A (.builtin newId ⟨.ref C :: us, kws⟩) R ⟨h, g, d, t, os⟩ := by
  obtain ⟨initId, bm0, F⟩ := NF.F
  have hends := F.ends
  have hin : (Value.ref C :: bm).contains (.type B0) = true := by rw [List.contains_cons, excTail_contains B0 _ ht, NF.hasB, Bool.or_true]
  have hnA : (Value.ref C :: bm).contains (.type "AttributeError") = false := by rw [List.contains_cons, excTail_contains _ _ ht, NF.noA]; rfl
  have hnN : (Value.ref C :: bm).contains (.type "NameError") = false := by rw [List.contains_cons, excTail_contains _ _ ht, NF.noN]; rfl
  refine codeAny_builtinAt F.entry ?_
  unfold Builtin.«BaseException.__new__»
  refine PySem.wpAt_bind ?_
  show PySem.wpAt _ _ _ (stack >>= _) _ _ _
  refine PySem.wpAt_bind (PySem.wpAt_stack fun p below => PySem.wpAt_of_wpAny ?_)
  wp_walk
  refine PySem.wpAt_of_wpAny ?_
  rw [F.owner]
  repeat (first | with_reducible refine wpAny_madeHere_exc F.canon hC ?_ | (with_reducible refine wpAny_isSubtype_exc hC ?_; first | rw [hin] | rw [hnA] | rw [hnN]) | with_reducible refine wpAny_loadPart_at hC ?_ | wp_step)
  show R _ _
  rw [Heap.size_push]
  exact hq
theorem type_call (NF : NewF B0 newId bmB) (ht : excTail bmB bm = true) {us : List Value} {kws : List (Str × Value)} {fI : Value} {fs : Value → List Value} {Q : Fin → Shared → Prop}
    (hC : h.get? C = some (excClassObj nm q C N bs bm hdct sn sub ab col dd k0 k1 k2 k3 k5 newId))
    (hi : W.Looks (model prog w) h (typeLookup (.ref C) "__init__") (some fI)) (hb : ∀ self, W.Looks (model prog w) h (bindSpecial fI self) (fI, fs self)) (hus : us.length ≤ sizeLine)
    (hq : codeAny (model prog w) A (.call fI ⟨fs (.ref (h.objs.size + 1)) ++ us, kws⟩)
      (fun r s' => match r with | .ok (.ret v) => v = .none ∧ Q (.done (.ret (.ref (h.objs.size + 1)))) s' | .ok _ => False | .error e => E e s')
      ⟨(h.push (W.kdv_tup us)).push (HandSPX.excO C h.objs.size), g, d, t, os⟩) :
    wpAny (model prog w) A (Builtin.«type.__call__» ⟨.ref C :: us, kws⟩) Q E ⟨h, g, d, t, os⟩ := by
  obtain ⟨initId, bm0, F⟩ := NF.F
  repeat (first | with_reducible refine wpAny_madeBy_exc hC ?_ | with_reducible refine wpAny_loadPart_at hC ?_ | wp_step)
  refine codeAny_call_builtin_code (Code.quiet_builtin _ F.quiet) (check_new NF ht hC ?_)
  refine run_new NF ht hC ?_ hus
  show wpAny _ _ _ _ _ _
  have k : ∀ b o, h.get? b = some o → ((h.push (kdv_tup us)).push (HandSPX.excO C h.objs.size)).get? b = some o := fun b o e => Heap.get?_push_of_some _ (Heap.get?_push_of_some _ e)
  have hC1 := k _ _ hC
  have hget : ((h.push (kdv_tup us)).push (HandSPX.excO C h.objs.size)).get? (h.objs.size + 1) = some (HandSPX.excO C h.objs.size) := by heap_get
  have hcc : (Value.ref C :: bm).contains (.ref C) = true := by simp
  have i1 := hi.keeps k
  have b1 := (hb (.ref (h.objs.size + 1))).keeps k
  unfold isInstance
  repeat (first | (with_reducible refine wpAny_isSubtype_exc hC1 ?_; rw [hcc]) | with_reducible refine wpAny_loadPart_at hget ?_ | wp_step)
  show wpAny _ _ (typeLookup (.ref C) _) _ _ _
  refine i1.at ?_
  refine wpAny_holding (wpAny_bind (b1.at ?_))
  refine wpAny_bind (wpAny_call (codeAny_mono hq fun r s' z => ?_))
  rcases r with e | (v | _ | _ | _) <;> first | exact z.elim | exact z | skip
  obtain ⟨rfl, z⟩ := z
  first
    | (wp_walk; exact z)
    | exact wpAny_pure (wpAny_pure z)
theorem check_tc {us : List Value} {kws : List (Str × Value)} {M : Model} {Q : Unit → Shared → Prop} (hC : h.get? C = some (excClassObj nm q C N bs bm hdct sn sub ab col dd k0 k1 k2 k3 k5 newId))
    (hq : Q () ⟨h, g, d, t, os⟩) : wpAny M A (checkBuiltinCall "type.__call__" ⟨.ref C :: us, kws⟩) Q E ⟨h, g, d, t, os⟩ := by
  have f3 := tc_sub
  have hTy : (⟨h, g, d, t, os⟩ : Shared).TypeIs (.ref C) "type" := ⟨_, hC, rfl⟩
  simp only [checkBuiltinCall, tc_kind, tc_split]
  repeat (any_goals (first | assumption | with_reducible refine wpAny_onRaise ?_ | with_reducible refine wpAny_loadPart_at hC ?_ | with_reducible refine wpAny_map ?_ | wp_step))
/-- C(..), by position and by keyword -/
theorem call_cls (NF : NewF B0 newId bmB) (ht : excTail bmB bm = true) {us : List Value} {kws : List (Str × Value)} {fI : Value} {fs : Value → List Value}
    (hC : h.get? C = some (excClassObj nm q C N bs bm hdct sn sub ab col dd k0 k1 k2 k3 k5 newId))
    (hi : W.Looks (model prog w) h (typeLookup (.ref C) "__init__") (some fI)) (hb : ∀ self, W.Looks (model prog w) h (bindSpecial fI self) (fI, fs self)) (hus : us.length ≤ sizeLine)
    (hq : codeAny (model prog w) (A.under (.builtin "type.__call__" ⟨.ref C :: us, kws⟩)) (.call fI ⟨fs (.ref (h.objs.size + 1)) ++ us, kws⟩) (W.InitBack (h.objs.size + 1) R)
      ⟨(h.push (W.kdv_tup us)).push (HandSPX.excO C h.objs.size), g, d, t, os⟩) :
    codeAny (model prog w) A (.call (.ref C) ⟨us, kws⟩) R ⟨h, g, d, t, os⟩ := by
  have f1 := tc_lookup
  have f2 := tc_bind (.ref C)
  have hTy : (⟨h, g, d, t, os⟩ : Shared).TypeIs (.ref C) "type" := ⟨_, hC, rfl⟩
  refine codeAny_of_tree ?_
  show wpAny _ _ (callAny (.ref C) _) _ _ _
  repeat (any_goals (first | assumption | wp_step | with_reducible refine wpAny_loadPart_at hC ?_))
  refine ⟨rfl, ?_⟩
  refine codeAny_call_builtin_at (Code.quiet_builtin _ (by decide +kernel)) entry_typeCall (check_tc hC (type_call NF ht hC hi hb hus ?_))
  refine codeAny_mono hq fun r s' z => ?_
  rcases r with e | (v | _ | _ | _) <;> exact z
end
end Xn
namespace Xn
open PySem PySem.W PySem.Calls PyProof.Rows
def mOf : List (Str × Value) → Str → Option Value
  | [] => fun _ => none
  | (n, v) :: r => fun y => if y = n then some v else mOf r y
/-- an exception made: at e, its dict at dx -/
structure Made (C : Addr) (h h' : Heap) (e dx : Addr) (l : List (Str × Value)) : Prop where
  keep : ∀ b o, h.get? b = some o → h'.get? b = some o
  new : h.objs.size ≤ e
  obj : ∃ t1, h'.get? e = some { cls := .ref C, dict := some dx, data := .fields #[.ref t1, .none, .none, .none, .bool false, .none] }
  dbig : h.objs.size ≤ dx
  dne : dx ≠ e
  ns : h'.Ns1 dx (mOf l)
/-- C(*us, **kws) keeps l -/
def Mks (prog : Program) (w : World) (K : Frag) (mg : Str → Option Value) (C : Addr) (us : List Value) (kws : List (Str × Value)) (l : List (Str × Value)) : Prop :=
  ∀ (A : Around) (R : Result → Shared → Prop) (h : Heap) (g : Array GenState) (d : Drawn) (t : Nat) (os : OsState), K.In h → h.NoLimit → Gb mg h → A.depth + 1 < recursionLimit →
    (∀ h' tk e dx, Made C h h' e dx l → R (.ok (.ret (.ref e))) ⟨h', g, d, tk, os⟩) → codeAny (model prog w) A (.call (.ref C) ⟨us, kws⟩) R ⟨h, g, d, t, os⟩
section
variable {prog : Program} {w : World} {K : Frag} {mg : Str → Option Value} {C fI cc cda : Addr} {B i B0 newId : String} {bmB : List Value} {qual : Str} {fd : FuncData}
/-- all that is known of the class and its __init__ -/
structure ExC (prog : Program) (K : Frag) (C fI cc cda : Addr) (B i B0 newId : String) (bmB : List Value) (qual : Str) (fd : FuncData) : Prop where
  NF : NewF B0 newId bmB
  FI : IniF B i
  KF : KxsFacts B i
  SF : StoreFacts B bmB "object.__setattr__" "object"
  T : ExT K C B i newId bmB
  I : InT prog K fI cc cda C qual fd
  par : ∃ ar, (fd.params.posonlyargs ++ fd.params.args).head? = some ar ∧ ar.arg = "self"
  iC : findIn K (.ref C) "__init__" = some (some (.ref fI))
  tI : typeIn K (.ref fI) = some (.type "function")
theorem ended_made {h h' : Heap} {us : List Value} {dx : Addr} {m : Str → Option Value} {nl : List Str} {l : List (Str × Value)} (hm : m = mOf l) (e : Ended C ((h.push (kdv_tup us)).push (HandSPX.excO C h.objs.size)) h' (h.objs.size + 1) dx m nl) : Made C h h' (h.objs.size + 1) dx l where
  keep := fun b o q => e.keep b o (Nat.ne_of_lt (Nat.lt_succ_of_lt (Heap.lt_size q))) (Heap.get?_push_of_some _ (Heap.get?_push_of_some _ q))
  new := Nat.le_succ _
  obj := e.obj
  dbig := by
    have z := e.dbig
    rw [Heap.size_push, Heap.size_push] at z
    exact Nat.le_trans (Nat.le_trans (Nat.le_succ _) (Nat.le_succ _)) z
  dne := e.dne
  ns := hm ▸ e.ns
theorem mks1 (X : ExC prog K C fI cc cda B i B0 newId bmB qual fd) {n : Str} (S : ScI fd.scope [n]) {p0 p1 p2 p3 p4 q1 r0 r1 r2 r3 : Pos} (hbody : fd.body = .stmts [supX [.Name n q1] p0 p1 p2 p3 p4, keepX n r0 r1 r2 r3]) (hev : EvOk fd fI [.Name n q1] p0 p1 p2 p3)
    (hne : n ≠ "self") (hd : (n == ("__debug__" : Str)) = false) (ha : findIn K (.ref C) n = some none) {us : List Value} {kws : List (Str × Value)} {v : Value} (hus : us.length ≤ sizeLine)
    (hbind : ∀ (s : Shared) (x : Value), BindsTo s fd ⟨x :: us, kws⟩ [("self", x), (n, v)]) : Mks prog w K mg C us kws [(n, v)] := by
  intro A R h g d t os Xh hlim G hroom hq
  obtain ⟨nm, q, N, bs, bm, sn, sub, ab, col, dd, k0, k1, k2, k3, k5, hC, ht⟩ := X.T.cls
  refine call_cls X.NF ht (fs := fun s => [s]) (Xh _ _ hC) (looks_findIn Xh X.iC) (fun self => bind_fn Xh self X.tI) hus ?_
  have k : ∀ b o, h.get? b = some o → ((h.push (kdv_tup us)).push (HandSPX.excO C h.objs.size)).get? b = some o := fun b o e => Heap.get?_push_of_some _ (Heap.get?_push_of_some _ e)
  have hget : ((h.push (kdv_tup us)).push (HandSPX.excO C h.objs.size)).get? (h.objs.size + 1) = some (HandSPX.excO C h.objs.size) := by heap_get
  refine init1 X.FI X.KF X.SF X.T X.I S X.par hbody hev hne hd ha (x := h.objs.size + 1) (Xh.keeps k) (hlim.keeps k) (G.keeps k) hget (fresh_K Xh (Nat.le_succ _)) (by rw [L2.make_depth]; exact hroom) (hbind _ _) fun h' tk dx e => ?_
  exact ⟨rfl, hq h' tk _ dx (ended_made rfl e)⟩
theorem mks2 (X : ExC prog K C fI cc cda B i B0 newId bmB qual fd) {n k : Str} (S : ScI fd.scope [n, k]) {p0 p1 p2 p3 p4 q1 q2 r0 r1 r2 r3 y0 y1 y2 y3 : Pos} (hbody : fd.body = .stmts [supX [.Name n q1, .Name k q2] p0 p1 p2 p3 p4, keepX n r0 r1 r2 r3, keepX k y0 y1 y2 y3]) (hev : EvOk fd fI [.Name n q1, .Name k q2] p0 p1 p2 p3)
    (hne : n ≠ "self") (hke : k ≠ "self") (hnk : n ≠ k) (hd : (n == ("__debug__" : Str)) = false) (hd2 : (k == ("__debug__" : Str)) = false) (ha : findIn K (.ref C) n = some none) (ha2 : findIn K (.ref C) k = some none) {us : List Value} {kws : List (Str × Value)} {v u : Value} (hus : us.length ≤ sizeLine)
    (hbind : ∀ (s : Shared) (x : Value), BindsTo s fd ⟨x :: us, kws⟩ [("self", x), (n, v), (k, u)]) : Mks prog w K mg C us kws [(k, u), (n, v)] := by
  intro A R h g d t os Xh hlim G hroom hq
  obtain ⟨nm, q, N, bs, bm, sn, sub, ab, col, dd, k0, k1, k2, k3, k5, hC, ht⟩ := X.T.cls
  refine call_cls X.NF ht (fs := fun s => [s]) (Xh _ _ hC) (looks_findIn Xh X.iC) (fun self => bind_fn Xh self X.tI) hus ?_
  have kk : ∀ b o, h.get? b = some o → ((h.push (kdv_tup us)).push (HandSPX.excO C h.objs.size)).get? b = some o := fun b o e => Heap.get?_push_of_some _ (Heap.get?_push_of_some _ e)
  have hget : ((h.push (kdv_tup us)).push (HandSPX.excO C h.objs.size)).get? (h.objs.size + 1) = some (HandSPX.excO C h.objs.size) := by heap_get
  refine init2 X.FI X.KF X.SF X.T X.I S X.par hbody hev hne hke hnk hd hd2 ha ha2 (x := h.objs.size + 1) (Xh.keeps kk) (hlim.keeps kk) (G.keeps kk) hget (fresh_K Xh (Nat.le_succ _)) (by rw [L2.make_depth]; exact hroom) (hbind _ _) fun h' tk dx e => ?_
  exact ⟨rfl, hq h' tk _ dx (ended_made rfl e)⟩
end
end Xn
namespace L2
open PySem PySem.Spec PyProof.Rows
/-- the own dict of an exception at dx -/
theorem relO_all : ∀ {fs : List (Str × V)} {l : List (Str × Value)}, Paired (fun (p : Str × V) (q : Str × Value) => p.1 = q.1 ∧ RelV p.2 q.2) fs l → ∀ f, RelO (fs.lookup f) (Xn.mOf l f)
  | _, _, .nil, _ => True.intro
  | (n, v) :: fs, (k, u) :: l, .cons r t, f => by
    obtain ⟨e, rv⟩ := r
    have e' : n = k := e
    subst e'
    exact relO_put rv (relO_all t) f
theorem gb_of {X : Cx} {pins : List (Addr × Obj)} {σ : St} {H : Hp} {s : Shared} (I : Inv X pins σ H s) (hm : X.mg "super" = none) : Xn.Gb X.mg s.heap := by
  obtain ⟨mb, h1, h2⟩ := I.mod.blt
  exact ⟨I.mod.glob.keeps I.bk, ⟨mb, h1.keeps I.bk, (h2 _ (by decide)).trans (by decide +kernel)⟩, hm⟩
section
variable {X : Cx} {C : Addr}
/-- the exception as a value that stands in H: at e, its dict at d with the fields fs -/
theorem exc_laid {pins : List (Addr × Obj)} {σ : St} {H : Hp} {h h' : Heap} {g : Array GenState} {dr : Drawn} {tk tk' : Nat} {os : OsState} {e d : Addr} {fs : List (Str × V)} {l : List (Str × Value)} (I : Inv X pins σ H ⟨h, g, dr, tk, os⟩) (M : Xn.Made C h h' e d l)
    (r : Paired (fun (p : Str × V) (q : Str × Value) => p.1 = q.1 ∧ RelV p.2 q.2) fs l) : H e = none ∧ H d = none ∧ Inv X pins σ (upd (upd H d (exd d fs)) e (exo e C (some d))) ⟨h', g, dr, tk', os⟩ := by
  have ne : H e = none := I.hok.fresh M.new
  have nd : H d = none := I.hok.fresh M.dbig
  refine ⟨ne, nd, ?_⟩
  obtain ⟨t1, hobj⟩ := M.obj
  have low : ∀ b o, h.get? b = some o → b ≠ e ∧ b ≠ d := fun b o q => ⟨Nat.ne_of_lt (Nat.lt_of_lt_of_le (Heap.lt_size q) M.new), Nat.ne_of_lt (Nat.lt_of_lt_of_le (Heap.lt_size q) M.dbig)⟩
  have up : ∀ b, b ≠ e → b ≠ d → upd (upd H d (exd d fs)) e (exo e C (some d)) b = H b := fun b h1 h2 => by rw [upd_ne h1, upd_ne h2]
  have keepH : ∀ b o, H b = some o → upd (upd H d (exd d fs)) e (exo e C (some d)) b = some o := fun b o q => by rw [up b (ne_of_none q ne) (ne_of_none q nd)]; exact q
  refine I.un (t' := tk') ⟨fun b o q _ _ _ => M.keep b o q, fun b o q _ _ _ => ⟨o.slots, M.keep b o q⟩, fun b o q n _ => by rw [up b (low b o q).1 (low b o q).2]; exact n, fun b o q _ => ⟨o, M.keep b o q⟩,
    fun b xs q => keepH b _ q, fun b o u q => keepH b _ q, fun b ps q => ⟨#[], by rw [keepH b _ q]; simp⟩⟩ fun b o q => ?_
  by_cases hb : b = e
  · subst hb
    rw [upd_same] at q
    cases q
    exact exo_ok hobj
  · rw [upd_ne hb] at q
    by_cases hd : b = d
    · subst hd
      rw [upd_same] at q
      cases q
      exact exd_ok M.ns (relO_all r)
    · rw [upd_ne hd] at q
      exact (I.hok b o q).stay (fun c v _ z => M.keep c v z) (fun c z => keepH c _ z) fun c xs z => keepH c _ z
/-- C(e, ..) as a value -/
def tExV (C : Addr) (ns : List Str) (ta : TA) : TE := fun σ H Q => ta σ H fun vs H1 => vs.length = ns.length ∧ ∀ e d, H1 e = none → H1 d = none → d ≠ e → Q (.ref e) (upd (upd H1 d (exd d (ns.zip vs).reverse)) e (exo e C (some d)))
theorem zip_paired : ∀ {ns : List Str} {vs : List V} {us : List Value}, Vals vs us → Paired (fun (p : Str × V) (q : Str × Value) => p.1 = q.1 ∧ RelV p.2 q.2) (ns.zip vs) (ns.zip us)
  | [], _, _, _ => .nil
  | _ :: _, _, _, .nil => .nil
  | n :: ns, _, _, .cons r t => .cons ⟨rfl, r⟩ (zip_paired t)
theorem paired_app {α β : Type} {F : α → β → Prop} : ∀ {xs xs' : List α} {ys ys' : List β}, Paired F xs ys → Paired F xs' ys' → Paired F (xs ++ xs') (ys ++ ys')
  | _, _, _, _, .nil, s => s
  | _, _, _, _, .cons r t, s => .cons r (paired_app t s)
theorem paired_rev {α β : Type} {F : α → β → Prop} : ∀ {xs : List α} {ys : List β}, Paired F xs ys → Paired F xs.reverse ys.reverse
  | _, _, .nil => .nil
  | _, _, .cons r t => by
    rw [List.reverse_cons, List.reverse_cons]
    exact paired_app (paired_rev t) (.cons r .nil)
theorem pe_exV {x : Str} {e : Expr} {es : List Expr} {ns : List Str} {ta : TA} {p pos : Pos} {k : Nat} (hr : Room k X.A) (hg : Gl X x) (hm : X.mg x = some (.ref C)) (hs : X.mg "super" = none) (hk : PySem.W.keepIn X.K (.ref C) = true)
    (mk : ∀ us : List Value, us.length = ns.length → Xn.Mks X.prog X.w X.K X.mg C us [] (ns.zip us).reverse) (ha : PA X (e :: es) ta)
    (hdb : (x == ("__debug__" : Str)) = false := by decide) (he : starEach (e :: es) X.env = (false, eval e X.env) :: starEach es X.env := by rfl) (hpl : (backTo pos (starEach es X.env)).any (·.1) = false := by rfl) :
    PE X (.Call (.Name x p) (e :: es) [] pos) (tExV C ns ta) := by
  refine ⟨fun pins s σ H Q I h => ?_⟩
  refine wpAny_Call_Name_kw (ld_glob I hg hm ?_ hdb)
  refine PySem.W.callWith_K (h₀ := X.base) I.ok.mod.kin hk (thn (ha.run pos pins s σ H _ I h) fun us s1 ⟨vs, H1, I1, r1, hl, q1⟩ => ⟨I1.kIn, ?_⟩) he hpl
  show wpAny _ _ (call (.ref C) us) _ _ _
  have hlim := I1.nolimit
  have hG := gb_of I1 hs
  have hK := I1.kIn
  obtain ⟨hp, g, dr, tk, os⟩ := s1
  refine wpAny_call (mk us (by rw [← r1.length]; exact hl) X.A _ hp g dr tk os hK hlim hG (by have := hr.dp; omega) fun h' tk' ee d M => ?_)
  obtain ⟨n1, n2, J⟩ := exc_laid (tk' := tk') I1 M (paired_rev (zip_paired r1))
  exact ⟨.ref ee, _, J, rfl, q1 ee d n1 n2 M.dne⟩
end
end L2
namespace Xn
open PySem PySem.W PySem.Calls PyProof.Rows
/-- an exception without a dict made -/
structure Made0 (C : Addr) (h h' : Heap) (e : Addr) : Prop where
  keep : ∀ b o, h.get? b = some o → h'.get? b = some o
  new : h.objs.size ≤ e
  obj : ∃ t1, h'.get? e = some { cls := .ref C, dict := none, data := .fields #[.ref t1, .none, .none, .none, .bool false, .none] }
/-- an own class over ValueError without an own __init__ -/
structure ExZ (K : Frag) (C : Addr) : Prop where
  cls : ∃ nm q N bs bm hdct sn sub ab col dd k0 k1 k2 k3 k5, K.lookup C = some (excClassObj nm q C N bs bm hdct sn sub ab col dd k0 k1 k2 k3 k5 "ValueError.__new__") ∧ excTail bmV bm = true
  iC : findIn K (.ref C) "__init__" = some (some (.builtin "ValueError.__init__"))
theorem made0 {prog : Program} {w : World} {K : Frag} {C : Addr} {A : Around} {R : Result → Shared → Prop} {h : Heap} {g : Array GenState} {d : Drawn} {t : Nat} {os : OsState} (Z : ExZ K C) (X : K.In h)
    (hq : ∀ h' e, Made0 C h h' e → R (.ok (.ret (.ref e))) ⟨h', g, d, t, os⟩) : codeAny (model prog w) A (.call (.ref C) ⟨[], []⟩) R ⟨h, g, d, t, os⟩ := by
  obtain ⟨nm, q, N, bs, bm, hdct, sn, sub, ab, col, dd, k0, k1, k2, k3, k5, hC, ht⟩ := Z.cls
  refine call_cls new_V ht (fI := .builtin "ValueError.__init__") (fs := fun s => [s]) (X _ _ hC) (looks_findIn X Z.iC) (fun self => Looks.of_pure (F.excBase_ValueError.init.bind self)) (Nat.zero_le _) ?_
  have k : ∀ b o, h.get? b = some o → ((h.push (kdv_tup [])).push (HandSPX.excO C h.objs.size)).get? b = some o := fun b o e => Heap.get?_push_of_some _ (Heap.get?_push_of_some _ e)
  have hget : ((h.push (kdv_tup [])).push (HandSPX.excO C h.objs.size)).get? (h.objs.size + 1) = some (HandSPX.excO C h.objs.size) := by heap_get
  refine HandSPX.init_base F.excBase_ValueError (fun Y => excTail_contains Y bm ht) (k _ _ (X _ _ hC)) hget (Nat.zero_le _) fun h' t1 kk hx => ?_
  exact ⟨rfl, hq h' _ ⟨fun b o e => kk b o (Nat.ne_of_lt (Nat.lt_succ_of_lt (Heap.lt_size e))) (k b o e), Nat.le_succ _, ⟨t1, hx⟩⟩⟩
end Xn
namespace L2
open PySem PySem.Spec PyProof.Rows
section
variable {X : Cx} {C : Addr}
/-- C(k = v, ..), the keywords in the turned order of the parameters -/
def tExK (C : Addr) (ns : List Str) (ta : TA) : TE := fun σ H Q => ta σ H fun vs H1 => vs.length = ns.length ∧ ∀ e d, H1 e = none → H1 d = none → d ≠ e → Q (.ref e) (upd (upd H1 d (exd d (ns.zip vs.reverse).reverse)) e (exo e C (some d)))
theorem pe_exK {x : Str} {ns : List Str} {kws : List Keyword} {tk : TA} {p pos : Pos} {k : Nat} (hr : Room k X.A) (hg : Gl X x) (hm : X.mg x = some (.ref C)) (hs : X.mg "super" = none) (hk : PySem.W.keepIn X.K (.ref C) = true)
    (mk : ∀ us : List Value, us.length = ns.length → Xn.Mks X.prog X.w X.K X.mg C [] (ns.reverse.zip us) (ns.zip us.reverse).reverse) (hkw : PK X kws tk)
    (hall : (backToKw pos (keywordEach kws X.env)).all (·.1.isSome) = true := by rfl) (hks : (backToKw pos (keywordEach kws X.env)).filterMap (·.1) = ns.reverse := by rfl)
    (hdb : (x == ("__debug__" : Str)) = false := by decide) (hpl : ((backTo pos (starEach [] X.env)).any (·.1) || (backToKw pos (keywordEach kws X.env)).any (·.1.isNone)) = false := by rfl) :
    PE X (.Call (.Name x p) [] kws pos) (tExK C ns tk) := by
  refine ⟨fun pins s σ H Q I h => ?_⟩
  refine wpAny_Call_Name_kw (ld_glob I hg hm ?_ hdb)
  refine PySem.W.callWith_KW0 (h₀ := X.base) I.ok.mod.kin hk hall (thn (hkw.run pos pins s σ H _ I h) fun us s1 ⟨vs, H1, I1, r1, hl, q1⟩ => ⟨I1.kIn, ?_⟩) hpl
  rw [hks]
  show wpAny _ _ (call (.ref C) [] (ns.reverse.zip us)) _ _ _
  have hlim := I1.nolimit
  have hG := gb_of I1 hs
  have hK := I1.kIn
  obtain ⟨hp, g, dr, tk, os⟩ := s1
  refine wpAny_call (mk us (by rw [← r1.length]; exact hl) X.A _ hp g dr tk os hK hlim hG (by have := hr.dp; omega) fun h' tk' ee d M => ?_)
  obtain ⟨n1, n2, J⟩ := exc_laid (tk' := tk') I1 M (paired_rev (zip_paired (paired_rev r1)))
  exact ⟨.ref ee, _, J, rfl, q1 ee d n1 n2 M.dne⟩
/-- C(), no __init__ of its own -/
def tExZ (C : Addr) : TE := fun σ H Q => ∀ e, H e = none → Q (.ref e) (upd H e (exo e C none))
theorem pe_exZ {x : Str} {p pos : Pos} (hg : Gl X x) (hm : X.mg x = some (.ref C)) (hk : PySem.W.keepIn X.K (.ref C) = true) (Z : Xn.ExZ X.K C) (hdb : (x == ("__debug__" : Str)) = false := by decide) : PE X (.Call (.Name x p) [] [] pos) (tExZ C) := by
  refine ⟨fun pins s σ H Q I h => ?_⟩
  refine wpAny_Call_Name_kw (ld_glob I hg hm ?_ hdb)
  refine PySem.W.callWith_K0 I.kIn hk ?_
  show wpAny _ _ (call (.ref C) []) _ _ _
  have hK := I.kIn
  obtain ⟨hp, g, dr, tk, os⟩ := s
  refine wpAny_call (Xn.made0 Z hK fun h' e M => ?_)
  obtain ⟨t1, ho⟩ := M.obj
  exact ⟨.ref e, _, I.laid (t' := tk) M.keep M.new (exo_ok ho), rfl, h e (I.hok.fresh M.new)⟩
/-- .. raised: the exception is let go, its dict stands -/
def tMkV (C : Addr) (ns : List Str) (ta : TA) : St → Hp → XK → Prop := fun σ H Q => ta σ H fun vs H1 => vs.length = ns.length ∧ ∀ d, H1 d = none → Q (.ref C) (some d) (upd H1 d (.xd (ns.zip vs).reverse))
theorem pmk_exV {x : Str} {e : Expr} {es : List Expr} {ns : List Str} {ta : TA} {p pos : Pos} {k : Nat} (hr : Room k X.A) (hg : Gl X x) (hm : X.mg x = some (.ref C)) (hs : X.mg "super" = none) (hk : PySem.W.keepIn X.K (.ref C) = true) (hR : Raises X (.ref C))
    (mk : ∀ us : List Value, us.length = ns.length → Xn.Mks X.prog X.w X.K X.mg C us [] (ns.zip us).reverse) (ha : PA X (e :: es) ta)
    (hdb : (x == ("__debug__" : Str)) = false := by decide) (he : starEach (e :: es) X.env = (false, eval e X.env) :: starEach es X.env := by rfl) (hpl : (backTo pos (starEach es X.env)).any (·.1) = false := by rfl) :
    PMk X (.Call (.Name x p) (e :: es) [] pos) (tMkV C ns ta) := by
  intro pins s σ H Q I h
  refine wpAny_Call_Name_kw (ld_glob I hg hm ?_ hdb)
  refine PySem.W.callWith_K (h₀ := X.base) I.ok.mod.kin hk (thn (ha.run pos pins s σ H _ I h) fun us s1 ⟨vs, H1, I1, r1, hl, q1⟩ => ⟨I1.kIn, ?_⟩) he hpl
  show wpAny _ _ (call (.ref C) us) _ _ _
  have hlim := I1.nolimit
  have hG := gb_of I1 hs
  have hK := I1.kIn
  obtain ⟨hp, g, dr, tk, os⟩ := s1
  refine wpAny_call (mk us (by rw [← r1.length]; exact hl) X.A _ hp g dr tk os hK hlim hG (by have := hr.dp; omega) fun h' tk' e d M => ?_)
  show MkP X pins σ Q (.ref e) ⟨h', g, dr, tk', os⟩
  obtain ⟨t1, hoe⟩ := M.obj
  obtain ⟨G', g1, g2⟩ := restrict h' fun b => decide (b ≠ e)
  have gk : ∀ b, b ≠ e → G'.get? b = h'.get? b := fun b hb => g1 b (decide_eq_true hb)
  have ge : G'.get? e = none := g2 e (by simp)
  have old : ∀ b o, hp.get? b = some o → G'.get? b = some o := fun b o z => (gk b (Nat.ne_of_lt (Nat.lt_of_lt_of_le (Heap.lt_size z) M.new))).trans (M.keep b o z)
  have ob : ObjOk X.prog X.w (upd H1 d (.xd (ns.zip vs).reverse)) G' d (.xd (ns.zip vs).reverse) := ⟨_, M.ns.at (fun o z => (gk d M.dne).trans z), relO_all (paired_rev (zip_paired r1))⟩
  have J : Inv X pins σ (upd H1 d (.xd (ns.zip vs).reverse)) ⟨G', g, dr, tk', os⟩ := I1.laid (t' := tk') old M.dbig ob
  refine ⟨e, _, _, ⟨G', g, dr, tk', os⟩, _, .ref C, some d, rfl, J, fun b o z => ?_, ge, hoe, ⟨rfl, rfl⟩, rfl, rfl, ?_, rfl, I1.bare, hR, q1 d (I1.hok.fresh M.dbig)⟩
  · by_cases hb : b = e
    · have z' : G'.get? b = some o := z
      rw [hb, ge] at z'
      cases z'
    · exact (gk b hb).symm.trans z
  · rw [upd_ne (Ne.symm M.dne)]
    exact I1.hok.fresh M.new
theorem pmk_exZ {x : Str} {p pos : Pos} (hg : Gl X x) (hm : X.mg x = some (.ref C)) (hk : PySem.W.keepIn X.K (.ref C) = true) (hR : Raises X (.ref C)) (Z : Xn.ExZ X.K C) (hdb : (x == ("__debug__" : Str)) = false := by decide) :
    PMk X (.Call (.Name x p) [] [] pos) (fun _ H Q => Q (.ref C) none H) := by
  intro pins s σ H Q I h
  refine wpAny_Call_Name_kw (ld_glob I hg hm ?_ hdb)
  refine PySem.W.callWith_K0 I.kIn hk ?_
  show wpAny _ _ (call (.ref C) []) _ _ _
  have hK := I.kIn
  obtain ⟨hp, g, dr, tk, os⟩ := s
  refine wpAny_call (Xn.made0 Z hK fun h' e M => ?_)
  obtain ⟨t1, hoe⟩ := M.obj
  obtain ⟨G', g1, g2⟩ := restrict h' fun b => decide (b ≠ e)
  have gk : ∀ b, b ≠ e → G'.get? b = h'.get? b := fun b hb => g1 b (decide_eq_true hb)
  have ge : G'.get? e = none := g2 e (by simp)
  have old : ∀ b o, hp.get? b = some o → G'.get? b = some o := fun b o z => (gk b (Nat.ne_of_lt (Nat.lt_of_lt_of_le (Heap.lt_size z) M.new))).trans (M.keep b o z)
  refine ⟨e, _, _, ⟨G', g, dr, tk, os⟩, H, .ref C, none, rfl, I.kept (t' := tk) old, fun b o z => ?_, ge, hoe, ⟨rfl, rfl⟩, rfl, rfl, I.hok.fresh M.new, rfl, I.bare, hR, h⟩
  by_cases hb : b = e
  · have z' : G'.get? b = some o := z
    rw [hb, ge] at z'
    cases z'
  · exact (gk b hb).symm.trans z
/-- an exception of the class at C stands at a -/
def IsEx (H : Hp) (a C : Addr) : Prop := H a = some (exo a C none) ∨ ∃ d fs, H a = some (exo a C (some d)) ∧ H d = some (exd d fs)
theorem IsEx.inst {pins : List (Addr × Obj)} {σ : St} {H : Hp} {s : Shared} {a : Addr} (I : Inv X pins σ H s) (h : IsEx H a C) : ∃ ox od, PySem.W.InstAt s.heap a ox C od := by
  rcases h with e | ⟨d, fs, e, ed⟩
  · obtain ⟨t1, ho⟩ := exo_at I.hok e
    exact ⟨_, none, ho, rfl, rfl, trivial⟩
  · obtain ⟨t1, ho⟩ := exo_at I.hok e
    obtain ⟨mA, hns, _⟩ := exd_at I.hok ed
    obtain ⟨od, hod, _⟩ := lookIn_ns hns
    exact ⟨_, some od, ho, rfl, rfl, hod⟩
/-- e.f -/
structure ExA (K : PySem.W.Frag) (C : Addr) (f : Str) : Prop where
  c : ExcC K C
  no : PySem.W.findIn K (.ref C) f = some none
def tExF (K : PySem.W.Frag) (f : Str) (to : TE) : TE := fun σ H Q => to σ H fun x H1 => ∃ e C d fs v, x = .ref e ∧ ExA K C f ∧ H1 e = some (exo e C (some d)) ∧ H1 d = some (exd d fs) ∧ fs.lookup f = some v ∧ Q v H1
theorem pe_exF {o : Expr} {f : Str} {to : TE} {pos : Pos} (ho : PE X o to) (hb : attributeBase o f X.env (eval o X.env) = eval o X.env := by rfl) : PE X (.Attribute o f pos) (tExF X.K f to) := by
  refine ⟨fun pins s σ H Q I h => ?_⟩
  refine attr_of hb (thn (ho.run pins s σ H _ I h) fun u s1 ⟨x, H1, I1, rx, e, C, d, fs, v, ex, A, he, hd, hl, q⟩ => ?_)
  subst ex
  obtain rfl : u = Value.ref e := rx
  obtain ⟨t1, hoe⟩ := exo_at I1.hok he
  obtain ⟨mA, hns, hr⟩ := exd_at I1.hok hd
  obtain ⟨od, hod, hlk⟩ := lookIn_ns hns
  obtain ⟨u, hu, ru⟩ := RelO.some_of (v := v) (o := mA f) (by rw [← hl]; exact hr f)
  have J : PySem.W.InstAt s1.heap e _ C (some od) := ⟨hoe, rfl, rfl, hod⟩
  exact HandSPX.exc_get I1.kIn J A.c.hg A.c.hk A.c.hs (PySem.W.findObj_own A.c.hd A.no rfl (by rw [hlk, hu])) (handed_of ru) ⟨v, H1, I1.tok _, ru, q⟩
/-- isinstance(e, c) -/
def rIsX (K : PySem.W.Frag) : List V → Hp → VK → Prop := fun xs H Q => ∃ (a C : Addr) (c : V) (u : Value) (b : Bool), xs = [.ref a, c] ∧ ClsV c u ∧ IsEx H a C ∧ ExcC K C ∧ PySem.W.kitOne K (.ref C) u = some b ∧ Q (.bl b) H
def rIsXT (K : PySem.W.Frag) : List V → Hp → VK → Prop := fun xs H Q => ∃ (a C tp : Addr) (cs : List V) (us : List Value) (b : Bool), xs = [.ref a, .ref tp] ∧ H tp = some (.tup cs) ∧ Paired ClsV cs us ∧ IsEx H a C ∧ ExcC K C ∧ PySem.W.kitAny K (.ref C) us = some b ∧ Q (.bl b) H
theorem exc_cls (c : ExcC X.K C) : (PySem.W.clsIn X.K C).isSome = true := by
  obtain ⟨cd, h, _⟩ := PySem.W.any_some c.hd
  rw [h]
  rfl
theorem call_isX : CallR X (.builtin "isinstance") (rIsX X.K) := by
  intro pins s σ H xs us Q I r h
  obtain ⟨a, C, c, u, b, rfl, k, hE, cc, e, q⟩ := h
  obtain ⟨u1, u2, rfl, r1, r2⟩ := vals2 r
  have e2 := k.eq r2
  subst e2
  cases (show u1 = Value.ref a from r1)
  obtain ⟨ox, od, J⟩ := hE.inst I
  exact PySem.W.kia_one (PySem.W.kitx_exc (exc_cls cc) cc.hg cc.hk cc.hs cc.ha cc.hn cc.ht cc.hm) I.kIn J e (fun z => nomatch z) fun tk => ⟨.bl b, H, I.tok tk, rfl, q⟩
theorem call_isXT : CallR X (.builtin "isinstance") (rIsXT X.K) := by
  intro pins s σ H xs us Q I r h
  obtain ⟨a, C, tp, cs, ws, b, rfl, hT, k, hE, cc, e, q⟩ := h
  obtain ⟨u1, u2, rfl, r1, r2⟩ := vals2 r
  cases (show u2 = Value.ref tp from r2)
  cases (show u1 = Value.ref a from r1)
  obtain ⟨ox, od, J⟩ := hE.inst I
  obtain ⟨_, its, rv, o, h1, h2, n, h3⟩ := (show ObjOk X.prog X.w H s.heap tp (.tup cs) from I.hok tp _ hT)
  have e3 := ClsV.all k rv
  subst e3
  obtain ⟨oc, od', dt, sl⟩ := o
  simp only at h2 h3
  subst h2 h3
  exact PySem.W.kia_tup (PySem.W.kitx_exc (exc_cls cc) cc.hg cc.hk cc.hs cc.ha cc.hn cc.ht cc.hm) I.kIn J h1 e (fun z => nomatch z) fun tk => ⟨.bl b, H, I.tok tk, rfl, q⟩
end
end L2
/-! Xc: what is asked of the written part about exception classes, as one Bool. -/
namespace Xn
open PySem PySem.W PySem.Calls PyProof.Rows
def okCls (K : Frag) (C : Addr) (bmB : List Value) (newId : String) : Bool := match K.lookup C with
  | some ⟨.type "type", _, .cls cd, sl⟩ => (match cd.mro, sl.toList with
    | .ref C' :: bm, [_, _, _, _, some (.builtin n), _] => C' == C && n == newId && !cd.hasDel && cd.hasDict && excTail bmB bm
    | _, _ => false)
  | _ => false
theorem okCls_of {K : Frag} {C : Addr} {bmB : List Value} {newId : String} (q : okCls K C bmB newId = true) :
    ∃ nm qn N bs bm sn sub ab col dd k0 k1 k2 k3 k5, K.lookup C = some (excClassObj nm qn C N bs bm true sn sub ab col dd k0 k1 k2 k3 k5 newId) ∧ excTail bmB bm = true := by
  unfold okCls at q
  split at q
  · rename_i dd cd sl ho
    split at q
    · rename_i C' bm k0 k1 k2 k3 n k5 hm hs
      simp only [Bool.and_eq_true, beq_iff_eq, Bool.not_eq_true'] at q
      obtain ⟨⟨⟨⟨rfl, rfl⟩, hdel⟩, hd⟩, ht⟩ := q
      obtain ⟨nm, bs, mro, ns, qn, hdd, sn, sub, ab, col, del⟩ := cd
      dsimp only at hm hdel hd
      subst hm hdel hd
      have hsl : sl = #[k0, k1, k2, k3, some (.builtin n), k5] := by
        obtain ⟨l⟩ := sl
        simp only at hs
        rw [hs]
      subst hsl
      exact ⟨nm, qn, ns, bs, bm, sn, sub, ab, col, dd, k0, k1, k2, k3, k5, ho, ht⟩
    · cases q
  · cases q
def okT (K : Frag) (C : Addr) (B i newId : String) (bmB : List Value) : Bool :=
  okCls K C bmB newId && (ks_superIn K C C "__init__" == some (some (.builtin i))) && (subIn K (.ref C) (.type B) == some true) && (mroIn K C (.ref C) == some true) &&
  (findIn K (.ref C) "__setattr__" == some (some (.builtin "object.__setattr__"))) && (nsIn K cStatics "thirdparty.any" == some none)
theorem okT_of {K : Frag} {C : Addr} {B i newId : String} {bmB : List Value} (q : okT K C B i newId bmB = true) : ExT K C B i newId bmB := by
  unfold okT at q
  simp only [Bool.and_eq_true, beq_iff_eq] at q
  obtain ⟨⟨⟨⟨⟨q1, q2⟩, q3⟩, q4⟩, q5⟩, q6⟩ := q
  exact ⟨okCls_of q1, q2, q3, q4, q5, q6⟩
/-- what isinstance, a field, raise and except ask -/
def okE (K : Frag) (C : Addr) : Bool :=
  (findIn K (.ref C) "__getattribute__" == some (some (.builtin "BaseException.__getattribute__"))) && (findIn K (.ref C) "__getattr__" == some none) && (subIn K (.ref C) (.type "BaseException") == some true) && hasDictIn K C &&
  (findIn K (.ref C) "__class__" == some (some (.builtin "object.__class__"))) && (specialIn K (.builtin "object.__class__") "__get__" == some (some (.builtin "getset_descriptor.__get__"))) && (takesIn K (.builtin "object.__class__") == some true) && (mroIn K C (.type "object") == some true) &&
  (typeIn K (.ref C) == some (.type "type")) && keepIn K (.ref C)
theorem okE_of {K : Frag} {C : Addr} (q : okE K C = true) : L2.ExcC K C ∧ typeIn K (.ref C) = some (.type "type") ∧ keepIn K (.ref C) = true := by
  unfold okE at q
  simp only [Bool.and_eq_true, beq_iff_eq] at q
  obtain ⟨⟨⟨⟨⟨⟨⟨⟨⟨q1, q2⟩, q3⟩, q4⟩, q5⟩, q6⟩, q7⟩, q8⟩, q9⟩, q10⟩ := q
  exact ⟨⟨q1, q2, q3, q4, q5, q6, q7, q8⟩, q9, q10⟩
/-- the __init__ and its surroundings -/
def okI (prog : Program) (K : Frag) (C fI cc cda : Addr) (qual : Str) (ns : List Str) : Bool :=
  (findIn K (.ref C) "__init__" == some (some (.ref fI))) && (typeIn K (.ref fI) == some (.type "function")) && codeIn K (.ref cda) qual &&
  (match K.lookup cda with | some ⟨_, _, .fields vs, _⟩ => (match (vs[2]? : Option Value) with | some (Value.str file _) => ((prog.main.file : Str) == file) | _ => false) | _ => false) &&
  (match K.lookup cc with | some ⟨_, _, .cell (some (.ref C')), _⟩ => C' == C | _ => false) && !(prog.main.scope.names.lookup ("super" : Str)).isSome && ns.all fun n => findIn K (.ref C) n == some none
theorem okI_of {prog : Program} {K : Frag} {C fI cc cda : Addr} {qual : Str} {ns : List Str} {fd : FuncData} (q : okI prog K C fI cc cda qual ns = true) (hf : ∃ oc od osl, K.lookup fI = some ⟨oc, od, .func fd, osl⟩)
    (sh : fd.globals = mainGlobals ∧ fd.builtins = builtinsNs ∧ fd.closure = [((("__class__" : Str)), cc)] ∧ fd.code = .ref cda ∧ fd.qualname = qual) :
    InT prog K fI cc cda C qual fd ∧ findIn K (.ref C) "__init__" = some (some (.ref fI)) ∧ typeIn K (.ref fI) = some (.type "function") ∧ ∀ n ∈ ns, findIn K (.ref C) n = some none := by
  unfold okI at q
  simp only [Bool.and_eq_true, beq_iff_eq, Bool.not_eq_true', List.all_eq_true] at q
  obtain ⟨⟨⟨⟨⟨⟨q1, q2⟩, q3⟩, q4⟩, q5⟩, q6⟩, q7⟩ := q
  refine ⟨⟨hf, sh, q3, ?_, ?_, q6⟩, q1, q2, fun n hn => q7 n hn⟩
  · split at q4
    · rename_i c dd vs sl ho
      split at q4
      · rename_i file tf hv
        exact ⟨_, _, vs, _, file, tf, ho, hv, q4⟩
      · cases q4
    · cases q4
  · split at q5
    · rename_i c dd C' sl ho
      rw [beq_iff_eq.mp q5] at ho
      exact ⟨_, _, _, ho⟩
    · cases q5
end Xn
/-! En: enumerate(t) of a tuple; enumerate(x, start=k) of a list or a tuple. -/
namespace PySem
open PySem.Spec PyProof.Rows
theorem meets_enum1B {v : Value} {o : Obj} {H : Heap → Prop} (B : Begins v o H) :
    Meets (Builtin.«enumerate.__new__» ⟨[.type "enumerate", v], []⟩) (fun _ R s => H s.heap ∧
      R (.ok (.ret (.ref (s.heap.push o).objs.size))) { s with heap := (s.heap.push o).push { cls := .type "enumerate", data := .fields #[.none, .bool false, .ref s.heap.objs.size, rawInt 0, .none, .none] } }) :=
  .of_wp fun prog w A R s h => by
    obtain ⟨hp, g, d, tk, os⟩ := s; obtain ⟨h1, h⟩ := h
    have hsub := sub_enumerate
    have q1 : ∀ {A' : Around} {E : Value → Shared → Prop} {Q : Value → Shared → Prop}, Q (.ref hp.objs.size) ⟨hp.push o, g, d, tk, os⟩ → wpAny (model prog w) A' (pyIter v) Q E ⟨hp, g, d, tk, os⟩ :=
      fun q => B.iter prog w _ _ ⟨hp, g, d, tk, os⟩ _ h1 q
    wp_walk using q1
    refine wpAny_stack_any fun st => wpAny_pure ?_
    split
    · rename_i c _ _ _ _ _
      cases (c == Value.type "enumerate")
      · wp_walk using q1
        exact ⟨_, rfl, h⟩
      · wp_walk using q1
        exact ⟨_, rfl, h⟩
    · wp_walk using q1
      exact ⟨_, rfl, h⟩
section
variable {prog : Program} {w : World} {A : Around} {E : Value → Shared → Prop} {s : Shared}
theorem enum_begins1 {v : Value} {o : Obj} {H : Heap → Prop} {Q : Value → Shared → Prop} (B : Begins v o H) (h1 : H s.heap)
    (h : ∀ h', IsEnum h' (s.heap.objs.size + 1) s.heap.objs.size 0 .none → h'.get? s.heap.objs.size = some o → h'.objs.size = s.heap.objs.size + 2 →
      (∀ b o, s.heap.get? b = some o → h'.get? b = some o) → Q (.ref (s.heap.objs.size + 1)) { s with heap := h' }) :
    wpAny (model prog w) A (call (.type "enumerate") [v]) Q E s := by
  refine callType_new F.called_enumerate (by decide) (F.typeCall_enumerate_1 _) (F.newCall_enumerate_1 _) (fun obj => F.args_object_init_2 obj _) F.entry_enumerate_new
    (meets_enum1B B) ⟨h1, ?_⟩
  have hz : (s.heap.push o).objs.size = s.heap.objs.size + 1 := Heap.size_push ..
  show _ ∧ _
  rw [hz]
  have he : IsEnum ((s.heap.push o).push { cls := .type "enumerate", data := .fields #[.none, .bool false, .ref s.heap.objs.size, rawInt 0, .none, .none] }) (s.heap.objs.size + 1) s.heap.objs.size 0 .none := by
    have := Heap.get?_push_size (s.heap.push o) (o := { cls := .type "enumerate", data := .fields #[.none, .bool false, .ref s.heap.objs.size, rawInt 0, .none, .none] }) rfl
    rw [hz] at this; exact this
  refine ⟨⟨_, he, rfl⟩, h _ he (Heap.get?_push_of_some _ (Heap.get?_push_size _ B.free)) (by rw [Heap.size_push, hz]) fun b o x => Heap.get?_push_of_some _ (Heap.get?_push_of_some _ x)⟩
theorem enum_end_tuple {e it t : Addr} {i : Nat} {c : Int} {items : Array Value} {old : Value} {Q : Option Value → Shared → Prop} (hh : A.handled = none) (he : IsEnum s.heap e it c old) (hit : s.heap.IsTupleIter it t i) (ht : s.heap.IsTuple t items) (hx : items[i]? = none)
    (hQ : ∀ h', Heap.ExtBut it s.heap h' → Q none { s with heap := h' }) : wpAny (model prog w) A (pyNext (.ref e)) Q E s := by
  have hT : s.TypeIs (.ref e) "enumerate" := ⟨_, he, rfl⟩
  unfold pyNext
  refine wpAny_bind (wpAny_attempt (wpAny_callSpecial?_slot (name := Str.ofString "__next__") hT F.slot_enumerate_next
    (wpAny_call_entry F.slot_enumerate_next hT F.entry_enumerate_next ?_ (F.args_enumerate_next_1 _))))
  show wpAny _ _ (field (.ref e) 2 >>= _) _ _ _
  refine wpAny_bind (wpAny_field he rfl (x := .ref it) rfl ?_)
  refine wpAny_bind (wpAny_nextOf_tuple_end hh hit ht hx fun h' x he' hx' => ?_)
  obtain ⟨o, ho, hc⟩ := hx'
  refine wpAny_bind (wpAny_isInstance (T := "StopIteration") (b := true) ⟨o, ho, hc⟩ isSubtype_stop ?_)
  exact wpAny_pure (hQ _ he')
end
end PySem
namespace L2
open PySem PySem.Spec PyProof.Rows
/-- the items of the tuple at a, each in a new pair with its count from k on -/
def IteT (K : PySem.W.Frag) (k : Int) (a : Addr) : It :=
  ⟨fun i H => ∃ (xs : List V) (x : V), SqT K H a xs ∧ xs[i]? = some x, fun i H v H' => ∃ T x, v = .ref T ∧ H T = none ∧ H' = upd H T (.tup [.int (k + (i : Nat)), x]) ∧ ∀ xs, SqT K H a xs → xs[i]? = some x, fun i H => ∃ xs : List V, SqT K H a xs ∧ xs.length ≤ i⟩
theorem tup_ne {h : Heap} {a b : Addr} {its : Array Value} {o : Obj} (t : IsTup h a its) (e : h.get? b = some o) (c : o.cls ≠ .type "tuple") : a ≠ b := fun z => by
  obtain ⟨o', h1, h2, _⟩ := t
  rw [z, e] at h1
  cases h1
  exact c h2
theorem turn_enumT {P : Program} {w : World} {K : PySem.W.Frag} {elts : List Expr} {kk : Nat} {tpos : Pos} (k : Int) (a e it : Addr) :
    Turn P w K (.Tuple elts kk tpos) (IteT K k a) [e, it] e (fun i h => (∃ old, IsEnum h e it (k + ((i : Nat) : Int)) old) ∧ h.IsTupleIter it a i ∧ e ≠ it) where
  mem := by simp
  obj := fun i h st b hb => by
    obtain ⟨⟨old, he⟩, ⟨o, ho, hc, hd⟩, _⟩ := st
    have e' : b = e ∨ b = it := by simpa using hb
    rcases e' with z | z
    · rw [z]; exact ⟨_, he, fun v q => nomatch q⟩
    · rw [z]; exact ⟨o, ho, fun v q => by rw [hd] at q; cases q⟩
  keep := fun i h h' st k => let ⟨⟨old, he⟩, hi, hne⟩ := st; ⟨⟨old, k e (by simp) _ he⟩, hi.at fun o q => k it (by simp) o q, hne⟩
  item := by
    intro X hP hw hK hc i pins s σ H E I hf st hg
    subst hP hw hK
    obtain ⟨⟨old, he⟩, hit, hne⟩ := st
    obtain ⟨xs, x, hq, hx⟩ := hg
    obtain ⟨its, rv, p, hz⟩ := I.tuple hq
    obtain ⟨u, hu, ru⟩ := rv.get hx
    have hel : e < s.heap.objs.size := Heap.lt_size he
    have hil : it < s.heap.objs.size := by obtain ⟨_, q, _⟩ := hit; exact Heap.lt_size q
    have n1 : a ≠ it := by obtain ⟨o, q, c, _⟩ := hit; exact tup_ne p q (by rw [c]; decide)
    have n2 : a ≠ e := tup_ne p he (show (Value.type "enumerate") ≠ Value.type "tuple" by decide)
    have hlt : i < its.toArray.size := by
      have := (List.getElem?_eq_some_iff.mp hu).1
      simpa using this
    refine wpAny_pyNext_enum_itemC (Draws.tuple (A := X.A.in1) (I.ok.hd hc) it a n1 its.toArray) he ⟨hit, p⟩ hlt hne (by simp [hne, Ne.symm n2]) fun x' h' tk hP ho hst' hT hsz hk => ?_
    have hxu : x' = u := by
      have q : its.toArray[i]? = some x' := hP
      rw [List.getElem?_toArray, hu] at q
      exact (Option.some.inj q).symm
    subst hxu
    refine ⟨_, rfl, wpAny_letOwnedTupleGo_enum (s := { s with heap := h', toks := tk + 1 }) ho fun h'' he' sb => ?_⟩
    have hT2 : h''.get? s.heap.objs.size = some { cls := .type "tuple", data := .seq #[.int (k + (i : Nat)) tk, x'] } := (sb.2 _ (Nat.ne_of_gt hel)).trans hT
    have new : ObjOk X.prog X.w (upd H s.heap.objs.size (.tup [.int (k + (i : Nat)), x])) h'' s.heap.objs.size (.tup [.int (k + (i : Nat)), x]) :=
      ⟨by show 2 ≤ sizeLine; decide, [.int (k + (i : Nat)) tk, x'], .cons ⟨_, rfl⟩ (.cons ru .nil), ⟨_, hT2, rfl, _, rfl⟩⟩
    have I1 : Inv X pins σ (upd H s.heap.objs.size (.tup [.int (k + (i : Nat)), x])) { s with heap := h'', toks := tk + 1 } :=
      I.turnedNew (ch := [e, it]) (fun b ob hb q => (sb.2 b (fun z => hb (by simp [z]))).trans (hk b ob (fun z => hb (by simp [z])) (fun z => hb (by simp [z])) q)) hf (Nat.le_refl _) new
    refine ⟨.ref s.heap.objs.size, _, I1, rfl, ⟨_, x, rfl, I.hok.fresh (Nat.le_refl _), rfl, fun ys hy => by rw [I.tuple_inj hy hq]; exact hx⟩, ⟨⟨x', ?_⟩, hst'.1.at fun o q => (sb.2 it (Ne.symm hne)).trans q, hne⟩, fun b hb => ?_⟩
    · have e1 : k + ((i + 1 : Nat) : Int) = k + (i : Int) + 1 := by omega
      rw [e1]; exact he'
    · have hb' : b < s.heap.objs.size := by
        have e' : b = e ∨ b = it := by simpa using hb
        rcases e' with z | z
        · rw [z]; exact hel
        · rw [z]; exact hil
      rw [upd_ne (Nat.ne_of_lt hb')]
      exact (hf b hb).1
  done := by
    intro X hP hw hK hc i pins s σ H E I hf st hg
    subst hP hw hK
    obtain ⟨⟨old, he⟩, hit, hne⟩ := st
    obtain ⟨xs, hq, hx⟩ := hg
    obtain ⟨its, rv, p, hz⟩ := I.tuple hq
    obtain ⟨f0, f1, f2, f3, f4, f5⟩ := hf it (by simp)
    have hl := rv.length
    exact enum_end_tuple (I.ok.hd hc) he hit p (by rw [List.getElem?_toArray]; exact List.getElem?_eq_none (by omega)) fun h' eb => ⟨rfl, I.turned (t' := s.toks) (fun b o hb q => eb b o hb q) f0 f1 f3 f4 f5⟩
  self := fun A i s Q E st h => let ⟨⟨_, he⟩, _⟩ := st; wpAny_pyIter_enum he h
def iEnumT (K : PySem.W.Frag) (ta : TA) : TI := fun σ H R => ta σ H fun vs H1 => ∃ a xs, vs = [.ref a] ∧ SqT K H1 a xs ∧ R (IteT K 0 a) H1
theorem pi_enumT {X : Cx} {e : Expr} {ta : TA} {p pos tpos : Pos} {elts : List Expr} {kk : Nat} (hg : Gl X "enumerate") (hm : X.mg "enumerate" = none) (ha : PA X [e] ta) (hs : starEach [e] X.env = [(false, eval e X.env)] := by rfl) :
    PI X (.Tuple elts kk tpos) (.Call (.Name "enumerate" p) [e] [] pos) (iEnumT X.K ta) := by
  refine ⟨fun pins s σ H R I h => ?_⟩
  refine Call_ (ld_blt I hg hm boot_enumerate (PyProof.Rows.callWith_type1 (thn (ha.run pos pins s σ H _ I h) fun us s1 ⟨vs, H1, I1, r1, q1⟩ => ?_) hs rfl))
  obtain ⟨a, xs, ex, hq, q⟩ := q1
  subst ex
  cases r1 with
  | cons r rr =>
    cases rr
    cases r
    obtain ⟨its, rv, p', hz⟩ := I1.tuple hq
    refine enum_begins1 (begins_tuple a its.toArray) p' fun h' he hit hsz hk => wpAny_pyIter_enum he ?_
    have I2 : Inv X pins σ H1 { s1 with heap := h' } := I1.kept (t' := s1.toks) hk
    refine ⟨s1.heap.objs.size + 1, [s1.heap.objs.size + 1, s1.heap.objs.size], _, _, H1, rfl, I2, turn_enumT 0 a (s1.heap.objs.size + 1) s1.heap.objs.size, ⟨⟨.none, by simpa using he⟩, ⟨_, hit, rfl, rfl⟩, Nat.succ_ne_self _⟩, fun b hb => ?_, q⟩
    have e' : b = s1.heap.objs.size + 1 ∨ b = s1.heap.objs.size := by simpa using hb
    have hle : s1.heap.objs.size ≤ b := by
      rcases e' with z | z
      · rw [z]; exact Nat.le_add_right _ _
      · rw [z]; exact Nat.le_refl _
    exact I1.fpOk hle (I1.hok.fresh hle)
end L2
/-! Mi: a small functional world: values D, cells Hd, results R; how they stand for the abstract heap; expressions and statements as functions. -/
namespace Mi
open PySem L2
inductive D where
  | non | bl (b : Bool) | int (i : Int) | str (x : Str) | byt (b : Array UInt8) | ty (n : String)
  /-- a written object (class, def, dict of the module) -/
  | adr (a : Addr)
  /-- a cell -/
  | ref (n : Nat)
  | tup (xs : List D)
  /-- a list that nothing changes -/
  | tmp (xs : List D)
  /-- a list that lies in the written part of the heap -/
  | kls (xs : List D)
  /-- a dict that nothing changes: its keys, its values -/
  | dtm (ks : List Key) (xs : List D)
  /-- what is caught: its address, its class, its dict, with its attributes -/
  | xcp (a C dd : Addr) (ns : List Str) (xs : List D)
inductive O where
  | lst (xs : List D)
  /-- a list that is read alone (the script) -/
  | fro (xs : List D)
  | dct (kvs : List (Key × D))
  /-- a dict that is read alone -/
  | dfr (kvs : List (Key × D))
  | ins (C : Addr) (fs : List (Str × D))
abbrev Hd := List O
abbrev Env := List (Option D)
/-- the cells' addresses; those that no value shows -/
structure Rh where
  c : List Addr
  z : List Addr
def Rh.no (ρ : Rh) (a : Addr) : Prop := a ∉ ρ.c ∧ a ∉ ρ.z
def KLs (K : PySem.W.Frag) (a : Addr) (vs : List V) : Prop := ∃ (o : Obj) (its : Array Value) (n : Nat), K.lookup a = some o ∧ o.cls = .type "list" ∧ o.dict = none ∧ o.data = .seq its n ∧ its.size ≤ sizeLine ∧ Vals vs its.toList
mutual
def RV (K : PySem.W.Frag) (H : Hp) (ρ : Rh) : D → V → Prop
  | .non, v => v = .non
  | .bl b, v => v = .bl b
  | .int i, v => v = .int i
  | .str x, v => v = .str x
  | .byt b, v => v = .byt b
  | .ty n, v => v = .ty n
  | .adr a, v => v = .ref a
  | .ref n, v => ∃ a, ρ.c[n]? = some a ∧ v = .ref a
  | .tup xs, v => ∃ a vs, v = .ref a ∧ SqT K H a vs ∧ RVs K H ρ xs vs
  | .tmp xs, v => ∃ a vs, v = .ref a ∧ H a = some (.lst vs) ∧ ρ.no a ∧ RVs K H ρ xs vs
  | .kls xs, v => ∃ a vs, v = .ref a ∧ KLs K a vs ∧ RVs K H ρ xs vs
  | .dtm ks xs, v => ∃ a o vs, v = .ref a ∧ H a = some (.frz o (.dK (ks.zip vs))) ∧ ρ.no a ∧ ks.length = xs.length ∧ RVs K H ρ xs vs
  | .xcp a _ dd ns xs, v => v = .ref a ∧ ∃ vs, H dd = some (.xd (ns.zip vs)) ∧ ρ.no dd ∧ ns.length = xs.length ∧ RVs K H ρ xs vs
def RVs (K : PySem.W.Frag) (H : Hp) (ρ : Rh) : List D → List V → Prop
  | [], vs => vs = []
  | d :: ds, vs => ∃ v r, vs = v :: r ∧ RV K H ρ d v ∧ RVs K H ρ ds r
end
def RKs {κ : Type} (K : PySem.W.Frag) (H : Hp) (ρ : Rh) : List (κ × D) → List (κ × V) → Prop
  | [], vs => vs = []
  | p :: ds, vs => ∃ v r, vs = (p.1, v) :: r ∧ RV K H ρ p.2 v ∧ RKs K H ρ ds r
def RO (K : PySem.W.Frag) (H : Hp) (ρ : Rh) (a : Addr) : O → Prop
  | .lst xs => ∃ vs, H a = some (.lst vs) ∧ RVs K H ρ xs vs
  | .fro xs => ∃ vs o, H a = some (.frz o (.lst vs)) ∧ RVs K H ρ xs vs
  | .dct kvs => ∃ vs, H a = some (.dK vs) ∧ RKs K H ρ kvs vs
  | .dfr kvs => ∃ vs o, H a = some (.frz o (.dK vs)) ∧ RKs K H ρ kvs vs
  | .ins C fs => ∃ dx vs, H a = some (.ins C dx vs) ∧ RKs K H ρ fs vs
structure RH (K : PySem.W.Frag) (ρ : Rh) (h : Hd) (H : Hp) : Prop where
  len : ρ.c.length = h.length
  nd : ρ.c.Nodup
  zs : ∀ a ∈ ρ.z, H a ≠ none ∧ a ∉ ρ.c
  obj : ∀ (n : Nat) (a : Addr) (o : O), ρ.c[n]? = some a → h[n]? = some o → RO K H ρ a o
structure Le (ρ ρ' : Rh) (H H' : Hp) : Prop where
  ext : ∃ more, ρ' = ⟨ρ.c ++ more, ρ.z⟩ ∧ ∀ a ∈ more, H a = none ∧ a ∉ ρ.c
  fr : ∀ b o, b ∉ ρ.c → H b = some o → H' b = some o
  fz : ∀ b o u, H b = some (.frz o u) → H' b = some (.frz o u)
/-- the slots -/
structure RS (K : PySem.W.Frag) (H : Hp) (ρ : Rh) (σd : Env) (σ : St) : Prop where
  len : σd.length = σ.length
  get : ∀ (i : Nat) (d : D), σd[i]? = some (some d) → ∃ v, σ[i]? = some (some v) ∧ RV K H ρ d v
inductive R (α : Type) where
  | ok (a : α) (h : Hd)
  | exc (C : Addr) (fs : Option (List (Str × D))) (h : Hd)
  | bad
def R.bind {α β : Type} : R α → (α → Hd → R β) → R β
  | .ok a h, f => f a h
  | .exc C fs h, _ => .exc C fs h
  | .bad, _ => .bad
/-- an exception's own dict -/
def RX (K : PySem.W.Frag) (H : Hp) (ρ : Rh) : Option (List (Str × D)) → Option Addr → Prop
  | none, d => d = none
  | some fs, d => ∃ a vs, d = some a ∧ H a = some (.xd vs) ∧ ρ.no a ∧ RKs K H ρ fs vs
section
variable {K : PySem.W.Frag} {ρ ρ' ρ1 ρ2 : Rh} {H H' H1 H2 : Hp} {h h' : Hd}
theorem Le.refl : Le ρ ρ H H := ⟨⟨[], by simp⟩, fun _ _ _ e => e, fun _ _ _ e => e⟩
theorem Le.trans (a : Le ρ ρ1 H H1) (b : Le ρ1 ρ2 H1 H2) : Le ρ ρ2 H H2 := by
  obtain ⟨m, rfl, hm⟩ := a.ext
  obtain ⟨m', rfl, hm'⟩ := b.ext
  have out : ∀ c o, c ∉ ρ.c → H c = some o → c ∉ ρ.c ++ m := fun c o hc e hx => by
    rcases List.mem_append.mp hx with z | z
    · exact hc z
    · rw [(hm c z).1] at e; cases e
  refine ⟨⟨m ++ m', by rw [List.append_assoc], fun c hc => ?_⟩, fun c o hc e => b.fr c o (out c o hc e) (a.fr c o hc e), fun c o u e => b.fz c o u (a.fz c o u e)⟩
  rcases List.mem_append.mp hc with z | z
  · exact hm c z
  · have hr : c ∉ ρ.c := fun q => (hm' c z).2 (List.mem_append.mpr (.inl q))
    refine ⟨?_, hr⟩
    cases q : H c with
    | none => rfl
    | some o =>
      have := a.fr c o hr q
      rw [(hm' c z).1] at this; cases this
theorem Le.keep (a : Le ρ ρ1 H H1) {n : Nat} {c : Addr} (e : ρ.c[n]? = some c) : ρ1.c[n]? = some c := by
  obtain ⟨m, rfl, _⟩ := a.ext
  show (ρ.c ++ m)[n]? = some c
  rw [List.getElem?_append_left (List.getElem?_eq_some_iff.mp e).1]
  exact e
theorem Le.out (a : Le ρ ρ1 H H1) {c : Addr} {o : HO} (e : H c = some o) (hc : c ∉ ρ.c) : c ∉ ρ1.c := by
  obtain ⟨m, rfl, hm⟩ := a.ext
  intro hx
  rcases List.mem_append.mp hx with z | z
  · exact hc z
  · rw [(hm c z).1] at e; cases e
theorem Le.no (a : Le ρ ρ1 H H1) {c : Addr} {o : HO} (e : H c = some o) (hc : ρ.no c) : ρ1.no c :=
  ⟨a.out e hc.1, by obtain ⟨m, rfl, hm⟩ := a.ext; exact hc.2⟩
/-- a new object that is not a cell -/
theorem Le.new {p : Addr} {o : HO} (hp : H p = none) : Le ρ ρ H (upd H p o) := ⟨⟨[], by simp⟩, fun b u _ e => by rw [upd_ne (ne_of_none e hp)]; exact e, fun b _ _ e => by rw [upd_ne (ne_of_none e hp)]; exact e⟩
/-- no cell is a tuple -/
theorem RH.notTup (r : RH K ρ h H) {a : Addr} (ha : a ∈ ρ.c) : (∀ xs, H a ≠ some (.tup xs)) ∧ ∀ o xs, H a ≠ some (.frz o (.tup xs)) := by
  obtain ⟨n, hn⟩ := List.getElem?_of_mem ha
  have hl : n < h.length := by
    rw [← r.len]
    exact (List.getElem?_eq_some_iff.mp hn).1
  have ho := r.obj n a h[n] hn (List.getElem?_eq_getElem hl)
  cases q : h[n] with
  | lst xs => rw [q] at ho; obtain ⟨vs, e, _⟩ := ho; rw [e]; exact ⟨(by simp), (by simp)⟩
  | fro xs => rw [q] at ho; obtain ⟨vs, o, e, _⟩ := ho; rw [e]; exact ⟨(by simp), (by simp)⟩
  | dct xs => rw [q] at ho; obtain ⟨vs, e, _⟩ := ho; rw [e]; exact ⟨(by simp), (by simp)⟩
  | dfr xs => rw [q] at ho; obtain ⟨vs, o, e, _⟩ := ho; rw [e]; exact ⟨(by simp), (by simp)⟩
  | ins C xs => rw [q] at ho; obtain ⟨dx, vs, e, _⟩ := ho; rw [e]; exact ⟨(by simp), (by simp)⟩
theorem RH.ne (r : RH K ρ h H) {a : Addr} (ha : a ∈ ρ.c) : H a ≠ none := by
  obtain ⟨n, hn⟩ := List.getElem?_of_mem ha
  have hl : n < h.length := by
    rw [← r.len]
    exact (List.getElem?_eq_some_iff.mp hn).1
  have ho := r.obj n a h[n] hn (List.getElem?_eq_getElem hl)
  cases q : h[n] with
  | lst xs => rw [q] at ho; obtain ⟨vs, e, _⟩ := ho; rw [e]; simp
  | fro xs => rw [q] at ho; obtain ⟨vs, o, e, _⟩ := ho; rw [e]; simp
  | dct xs => rw [q] at ho; obtain ⟨vs, e, _⟩ := ho; rw [e]; simp
  | dfr xs => rw [q] at ho; obtain ⟨vs, o, e, _⟩ := ho; rw [e]; simp
  | ins C xs => rw [q] at ho; obtain ⟨dx, vs, e, _⟩ := ho; rw [e]; simp
theorem RH.free (r : RH K ρ h H) {a : Addr} (ha : H a = none) : a ∉ ρ.c := fun q => r.ne q ha
theorem RH.no (r : RH K ρ h H) {a : Addr} (ha : H a = none) : ρ.no a := ⟨r.free ha, fun q => (r.zs a q).1 ha⟩
/-- what RV needs of a step: tuples and lists that are no cells stay, cells stay -/
structure Mo (K : PySem.W.Frag) (ρ ρ' : Rh) (H H' : Hp) : Prop where
  tup : ∀ a xs, SqT K H a xs → SqT K H' a xs
  lst : ∀ a xs, ρ.no a → H a = some (.lst xs) → H' a = some (.lst xs) ∧ ρ'.no a
  dct : ∀ a o kvs, ρ.no a → H a = some (.frz o (.dK kvs)) → H' a = some (.frz o (.dK kvs)) ∧ ρ'.no a
  xdd : ∀ a fs, ρ.no a → H a = some (.xd fs) → H' a = some (.xd fs) ∧ ρ'.no a
  cell : ∀ (n : Nat) (a : Addr), ρ.c[n]? = some a → ρ'.c[n]? = some a
theorem Le.mo (l : Le ρ ρ' H H') (r : RH K ρ h H) : Mo K ρ ρ' H H' where
  tup := fun a xs q => by
    rcases q with (q | ⟨o, q⟩) | q
    · exact .inl (.inl (l.fr a _ (fun z => (r.notTup z).1 _ q) q))
    · exact .inl (.inr ⟨o, l.fr a _ (fun z => (r.notTup z).2 _ _ q) q⟩)
    · exact .inr q
  lst := fun a xs n q => ⟨l.fr a _ n.1 q, l.no q n⟩
  dct := fun a o xs n q => ⟨l.fr a _ n.1 q, l.no q n⟩
  xdd := fun a xs n q => ⟨l.fr a _ n.1 q, l.no q n⟩
  cell := fun n a e => l.keep e
theorem Mo.trans (a : Mo K ρ ρ1 H H1) (b : Mo K ρ1 ρ2 H1 H2) : Mo K ρ ρ2 H H2 :=
  ⟨fun c xs q => b.tup c xs (a.tup c xs q), fun c xs n q => b.lst c xs (a.lst c xs n q).2 (a.lst c xs n q).1, fun c o xs n q => b.dct c o xs (a.dct c o xs n q).2 (a.dct c o xs n q).1, fun c xs n q => b.xdd c xs (a.xdd c xs n q).2 (a.xdd c xs n q).1, fun n c e => b.cell n c (a.cell n c e)⟩
mutual
theorem RV.mo (m : Mo K ρ ρ' H H') : ∀ (d : D) (v : V), RV K H ρ d v → RV K H' ρ' d v
  | .non, _, q => q
  | .bl _, _, q => q
  | .int _, _, q => q
  | .str _, _, q => q
  | .byt _, _, q => q
  | .ty _, _, q => q
  | .adr _, _, q => q
  | .ref n, _, ⟨a, e, q⟩ => ⟨a, m.cell n a e, q⟩
  | .tup xs, _, ⟨a, vs, e, t, q⟩ => ⟨a, vs, e, m.tup a vs t, RVs.mo m xs vs q⟩
  | .tmp xs, _, ⟨a, vs, e, t, n, q⟩ => ⟨a, vs, e, (m.lst a vs n t).1, (m.lst a vs n t).2, RVs.mo m xs vs q⟩
  | .kls xs, _, ⟨a, vs, e, t, q⟩ => ⟨a, vs, e, t, RVs.mo m xs vs q⟩
  | .dtm ks xs, _, ⟨a, o, vs, e, t, n, hl, q⟩ => ⟨a, o, vs, e, (m.dct a o _ n t).1, (m.dct a o _ n t).2, hl, RVs.mo m xs vs q⟩
  | .xcp a _ dd ns xs, _, ⟨e, vs, t, n, hl, q⟩ => ⟨e, vs, (m.xdd dd _ n t).1, (m.xdd dd _ n t).2, hl, RVs.mo m xs vs q⟩
theorem RVs.mo (m : Mo K ρ ρ' H H') : ∀ (ds : List D) (vs : List V), RVs K H ρ ds vs → RVs K H' ρ' ds vs
  | [], _, q => q
  | d :: ds, _, ⟨v, r, e, q, qs⟩ => ⟨v, r, e, RV.mo m d v q, RVs.mo m ds r qs⟩
end
theorem RKs.mo {κ : Type} (m : Mo K ρ ρ' H H') : ∀ (ds : List (κ × D)) (vs : List (κ × V)), RKs K H ρ ds vs → RKs K H' ρ' ds vs
  | [], _, q => q
  | d :: ds, _, ⟨v, r, e, q, qs⟩ => ⟨v, r, e, RV.mo m d.2 v q, RKs.mo m ds r qs⟩
theorem RS.mo {σd : Env} {σ : St} (m : Mo K ρ ρ' H H') (r : RS K H ρ σd σ) : RS K H' ρ' σd σ :=
  ⟨r.len, fun i d e => let ⟨v, e1, q⟩ := r.get i d e; ⟨v, e1, RV.mo m d v q⟩⟩
theorem RO.mo {a : Addr} {o : O} (m : Mo K ρ ρ' H H') (e : H' a = H a) (r : RO K H ρ a o) : RO K H' ρ' a o := by
  cases o with
  | lst xs => obtain ⟨vs, q, rv⟩ := r; exact ⟨vs, by rw [e]; exact q, RVs.mo m _ _ rv⟩
  | fro xs => obtain ⟨vs, o, q, rv⟩ := r; exact ⟨vs, o, by rw [e]; exact q, RVs.mo m _ _ rv⟩
  | dct xs => obtain ⟨vs, q, rv⟩ := r; exact ⟨vs, by rw [e]; exact q, RKs.mo m _ _ rv⟩
  | dfr xs => obtain ⟨vs, o, q, rv⟩ := r; exact ⟨vs, o, by rw [e]; exact q, RKs.mo m _ _ rv⟩
  | ins C xs => obtain ⟨dx, vs, q, rv⟩ := r; exact ⟨dx, vs, by rw [e]; exact q, RKs.mo m _ _ rv⟩
theorem RX.mo {fs : Option (List (Str × D))} {d : Option Addr} (l : Le ρ ρ' H H') (m : Mo K ρ ρ' H H') (r : RX K H ρ fs d) : RX K H' ρ' fs d := by
  cases fs with
  | none => exact r
  | some fs => obtain ⟨a, vs, e, q, n, rv⟩ := r; exact ⟨a, vs, e, l.fr a _ n.1 q, l.no q n, RKs.mo m _ _ rv⟩
/-- a new object that is no cell -/
theorem RH.new (r : RH K ρ h H) {p : Addr} {o : HO} (hp : H p = none) : RH K ρ h (upd H p o) :=
  ⟨r.len, r.nd, fun a ha => ⟨by
    have hne : a ≠ p := fun z => (r.zs a ha).1 (by rw [z]; exact hp)
    rw [upd_ne hne]
    exact (r.zs a ha).1, (r.zs a ha).2⟩, fun n a u e1 e2 => (r.obj n a u e1 e2).mo ((Le.new hp).mo r) (upd_ne fun z => r.free hp (z ▸ List.mem_of_getElem? e1))⟩
theorem mo_new (r : RH K ρ h H) {p : Addr} {o : HO} (hp : H p = none) : Mo K ρ ρ H (upd H p o) := (Le.new hp).mo r
/-! ### a row of values -/
theorem RVs.len : ∀ {ds : List D} {vs : List V}, RVs K H ρ ds vs → ds.length = vs.length
  | [], _, q => by rw [show _ = [] from q]; rfl
  | _ :: ds, _, ⟨v, r, e, _, qs⟩ => by rw [e, List.length_cons, List.length_cons, RVs.len qs]
theorem RVs.get : ∀ {ds : List D} {vs : List V} {i : Nat} {d : D}, RVs K H ρ ds vs → ds[i]? = some d → ∃ v, vs[i]? = some v ∧ RV K H ρ d v
  | [], _, _, _, _, e => by simp at e
  | x :: ds, _, 0, d, ⟨v, r, e, q, _⟩, e1 => by
    subst e
    simp at e1
    subst e1
    exact ⟨v, rfl, q⟩
  | x :: ds, _, i + 1, d, ⟨v, r, e, _, qs⟩, e1 => by
    subst e
    exact RVs.get (i := i) qs (by simpa using e1)
theorem RVs.app : ∀ {ds es : List D} {vs us : List V}, RVs K H ρ ds vs → RVs K H ρ es us → RVs K H ρ (ds ++ es) (vs ++ us)
  | [], _, _, _, q, r => by rw [show _ = [] from q]; exact r
  | _ :: ds, _, _, _, ⟨v, t, e, q, qs⟩, r => by subst e; exact ⟨v, t ++ _, rfl, q, RVs.app qs r⟩
theorem RVs.take : ∀ {ds : List D} {vs : List V} (n : Nat), RVs K H ρ ds vs → RVs K H ρ (ds.take n) (vs.take n)
  | _, _, 0, _ => by rw [List.take_zero, List.take_zero]; exact rfl
  | [], _, n + 1, q => by rw [show _ = [] from q]; exact rfl
  | _ :: ds, _, n + 1, ⟨v, t, e, q, qs⟩ => by subst e; exact ⟨v, t.take n, rfl, q, RVs.take n qs⟩
theorem RVs.drop : ∀ {ds : List D} {vs : List V} (n : Nat), RVs K H ρ ds vs → RVs K H ρ (ds.drop n) (vs.drop n)
  | _, _, 0, q => q
  | [], _, n + 1, q => by rw [show _ = [] from q]; exact rfl
  | _ :: ds, _, n + 1, ⟨v, t, e, q, qs⟩ => by subst e; exact RVs.drop n qs
theorem RVs.set : ∀ {ds : List D} {vs : List V} {d : D} {v : V} (n : Nat), RVs K H ρ ds vs → RV K H ρ d v → RVs K H ρ (ds.set n d) (vs.set n v)
  | [], _, _, _, _, q, _ => by rw [show _ = [] from q]; exact rfl
  | _ :: ds, _, _, _, 0, ⟨v, t, e, q, qs⟩, r => by subst e; exact ⟨_, t, rfl, r, qs⟩
  | _ :: ds, _, _, _, n + 1, ⟨v, t, e, q, qs⟩, r => by subst e; exact ⟨v, _, rfl, q, RVs.set n qs r⟩
theorem RVs.one {d : D} {v : V} (q : RV K H ρ d v) : RVs K H ρ [d] [v] := ⟨v, [], rfl, q, rfl⟩
/-! ### results -/
def TQ {α β : Type} (RR : Hp → Rh → α → β → Prop) (K : PySem.W.Frag) (W : Value → Option Addr → Hp → Prop) (ρ : Rh) (H : Hp) (r : R α) (Q : β → Hp → Prop) : Prop := match r with
  | .ok a h' => ∀ ρ' v H', Le ρ ρ' H H' → RH K ρ' h' H' → RR H' ρ' a v → Q v H'
  | .exc C fs h' => ∀ ρ' H' d, Le ρ ρ' H H' → RH K ρ' h' H' → RX K H' ρ' fs d → W (.ref C) d H'
  | .bad => False
theorem TQ.le {α β : Type} {RR : Hp → Rh → α → β → Prop} {W : Value → Option Addr → Hp → Prop} {r : R α} {Q : β → Hp → Prop} (l : Le ρ ρ1 H H1) (q : TQ RR K W ρ H r Q) : TQ RR K W ρ1 H1 r Q := by
  cases r with
  | ok a h' => exact fun ρ' v H' l' => q ρ' v H' (l.trans l')
  | exc C fs h' => exact fun ρ' H' d l' => q ρ' H' d (l.trans l')
  | bad => exact q
theorem TQ.bind {α β γ δ : Type} {RR : Hp → Rh → α → β → Prop} {RR' : Hp → Rh → γ → δ → Prop} {W : Value → Option Addr → Hp → Prop} {r : R α} {f : α → Hd → R γ} {Q : δ → Hp → Prop} {Q1 : β → Hp → Prop}
    (q : TQ RR' K W ρ H (r.bind f) Q) (h : ∀ ρ1 x H1 a h1, Le ρ ρ1 H H1 → RH K ρ1 h1 H1 → RR H1 ρ1 a x → TQ RR' K W ρ1 H1 (f a h1) Q → Q1 x H1) : TQ RR K W ρ H r Q1 := by
  cases r with
  | ok a h' => exact fun ρ' v H' l rh rv => h ρ' v H' a h' l rh rv (TQ.le l q)
  | exc C fs h' => exact q
  | bad => exact q
end
abbrev E := Env → Hd → R D
abbrev ET := Env → Hd → R Bool
abbrev EA := Env → Hd → R (List D)
def RB : Hp → Rh → Bool → Bool → Prop := fun _ _ a b => a = b
def tG {α β : Type} (RR : Hp → Rh → α → β → Prop) (K : PySem.W.Frag) (W : WX) (m : Env → Hd → R α) : St → Hp → (β → Hp → Prop) → Prop := fun σ H Q =>
  ∃ ρ σd h, RH K ρ h H ∧ RS K H ρ σd σ ∧ TQ RR K (fun c d H' => W c d σ H') ρ H (m σd h) Q
abbrev tE (K : PySem.W.Frag) (W : WX) (m : E) : TE := tG (RV K) K W m
abbrev tT (K : PySem.W.Frag) (W : WX) (m : ET) : TT := tG RB K W m
abbrev tA (K : PySem.W.Frag) (W : WX) (m : EA) : TA := tG (RVs K) K W m
abbrev CE (X : Cx) (W : WX) (e : Expr) (m : E) : Prop := PE X e (tE X.K W m)
abbrev CT (X : Cx) (W : WX) (e : Expr) (m : ET) : Prop := PT X e (tT X.K W m)
abbrev CA (X : Cx) (W : WX) (es : List Expr) (m : EA) : Prop := PA X es (tA X.K W m)
/-! ### statements -/
inductive SR where
  | nx (σ : Env) (h : Hd) | ret (d : D) (h : Hd) | brk (σ : Env) (h : Hd) | ct (σ : Env) (h : Hd) | exc (C : Addr) (fs : Option (List (Str × D))) (σ : Env) (h : Hd) | bad
abbrev S := Env → Hd → SR
def SQ (K : PySem.W.Frag) (W : WX) (ρ : Rh) (H : Hp) (r : SR) (E : Ends) : Prop := match r with
  | .nx σd h' => ∀ ρ' σ H', Le ρ ρ' H H' → RH K ρ' h' H' → RS K H' ρ' σd σ → E.nx σ H'
  | .brk σd h' => ∀ ρ' σ H', Le ρ ρ' H H' → RH K ρ' h' H' → RS K H' ρ' σd σ → E.bk σ H'
  | .ct σd h' => ∀ ρ' σ H', Le ρ ρ' H H' → RH K ρ' h' H' → RS K H' ρ' σd σ → E.ct σ H'
  | .ret d h' => ∀ ρ' v H', Le ρ ρ' H H' → RH K ρ' h' H' → RV K H' ρ' d v → E.rt v H'
  | .exc C fs σd h' => ∀ ρ' σ H' d, Le ρ ρ' H H' → RH K ρ' h' H' → RS K H' ρ' σd σ → RX K H' ρ' fs d → W (.ref C) d σ H'
  | .bad => False
def tS (K : PySem.W.Frag) (W : WX) (m : S) : TS := fun E σ H => ∃ ρ σd h, RH K ρ h H ∧ RS K H ρ σd σ ∧ SQ K W ρ H (m σd h) E
abbrev CS (X : Cx) (W : WX) (st : Stmt) (m : S) : Prop := PS X st (tS X.K W m)
abbrev CSs (X : Cx) (W : WX) (st : List Stmt) (m : S) : Prop := PSs X st (tS X.K W m)
section
variable {X : Cx} {e : Expr}
theorem _root_.L2.PE.imp {t t' : TE} (h : PE X e t) (i : ∀ σ H Q, t' σ H Q → t σ H Q) : PE X e t' := ⟨fun pins s σ H Q I q => h.run pins s σ H Q I (i σ H Q q)⟩
theorem _root_.L2.PT.imp {t t' : TT} (h : PT X e t) (i : ∀ σ H Q, t' σ H Q → t σ H Q) : PT X e t' := ⟨fun pins s σ H Q I q => h.run pins s σ H Q I (i σ H Q q)⟩
theorem _root_.L2.PA.imp {es : List Expr} {t t' : TA} (h : PA X es t) (i : ∀ σ H Q, t' σ H Q → t σ H Q) : PA X es t' := ⟨fun pos pins s σ H Q I q => h.run pos pins s σ H Q I (i σ H Q q)⟩
theorem _root_.L2.PS.imp {st : Stmt} {t t' : TS} (h : PS X st t) (i : ∀ D σ H, t' D σ H → t D σ H) : PS X st t' := ⟨fun pins s σ H D I q => h.run pins s σ H D I (i D σ H q)⟩
theorem _root_.L2.PSs.imp {st : List Stmt} {t t' : TS} (h : PSs X st t) (i : ∀ D σ H, t' D σ H → t D σ H) : PSs X st t' := ⟨fun pins s σ H D I q => h.run pins s σ H D I (i D σ H q)⟩
end
end Mi
/-! Mi2: expressions. -/
namespace Mi
open PySem L2
abbrev line : Nat := 16777216
theorem line_eq : line = sizeLine := rfl
def ofO {α : Type} (o : Option α) (h : Hd) : R α := match o with
  | some a => .ok a h
  | none => .bad
section
variable {K : PySem.W.Frag} {ρ ρ' ρ1 : Rh} {H H' H1 : Hp} {h h' : Hd} {d : D} {v : V} {Q : VK}
theorem RV.le (l : Le ρ ρ' H H') (r : RH K ρ h H) (q : RV K H ρ d v) : RV K H' ρ' d v := RV.mo (l.mo r) d v q
theorem RVs.le {ds : List D} {vs : List V} (l : Le ρ ρ' H H') (r : RH K ρ h H) (q : RVs K H ρ ds vs) : RVs K H' ρ' ds vs := RVs.mo (l.mo r) ds vs q
theorem RS.le {σd : Env} {σ : St} (l : Le ρ ρ' H H') (r : RH K ρ h H) (q : RS K H ρ σd σ) : RS K H' ρ' σd σ := RS.mo (l.mo r) q
theorem Le.fresh {p : Addr} (l : Le ρ ρ' H H') (r : RH K ρ' h' H') (hp : H' p = none) : H p = none := by
  cases q : H p with
  | none => rfl
  | some o =>
    by_cases hr : p ∈ ρ.c
    · obtain ⟨m, rfl, _⟩ := l.ext
      exact absurd (List.mem_append.mpr (.inl hr)) (r.free hp)
    · have := l.fr p o hr q
      rw [hp] at this; cases this
/-- what follows a pure operation -/
def PQ (K : PySem.W.Frag) (ρ : Rh) (h : Hd) (H : Hp) (d : D) (Q : VK) : Prop := ∀ v H', Le ρ ρ H H' → RH K ρ h H' → RV K H' ρ d v → Q v H'
theorem PQ.of (q : TQ (RV K) K W ρ H (ofO (some d) h) Q) : PQ K ρ h H d Q := fun v H' l rh rv => q ρ v H' l rh rv
theorem PQ.here (q : PQ K ρ h H d Q) (r : RH K ρ h H) (rv : RV K H ρ d v) : Q v H := q v H .refl r rv
theorem PQ.lst {xs : List D} {vs : List V} (q : PQ K ρ h H (.tmp xs) Q) (r : RH K ρ h H) (rv : RVs K H ρ xs vs) : ∀ p, H p = none → Q (.ref p) (upd H p (.lst vs)) := fun p hp =>
  q _ _ (Le.new hp) (r.new hp) ⟨p, vs, rfl, upd_same, r.no hp, RVs.mo (mo_new r hp) _ _ rv⟩
theorem PQ.tup {xs : List D} {vs : List V} (q : PQ K ρ h H (.tup xs) Q) (r : RH K ρ h H) (rv : RVs K H ρ xs vs) : ∀ p, H p = none → Q (.ref p) (upd H p (.tup vs)) := fun p hp =>
  q _ _ (Le.new hp) (r.new hp) ⟨p, vs, rfl, .of upd_same, RVs.mo (mo_new r hp) _ _ rv⟩
/-- a list that may be read -/
def asL (h : Hd) : D → Option (List D)
  | .tmp xs => some xs
  | .kls xs => some xs
  | .ref n => match h[n]? with
    | some (.lst xs) => some xs
    | some (.fro xs) => some xs
    | _ => none
  | _ => none
/-- one cell more -/
def _root_.Mi.Rh.add (ρ : Rh) (p : Addr) : Rh := ⟨ρ.c ++ [p], ρ.z⟩
theorem asL_of {xs : List D} (e : asL h d = some xs) (r : RH K ρ h H) (q : RV K H ρ d v) : ∃ p vs, v = .ref p ∧ SqL K H p vs ∧ RVs K H ρ xs vs := by
  cases d with
  | tmp ys =>
    cases e
    obtain ⟨a, vs, e, t, _, q⟩ := q
    exact ⟨a, vs, e, .of t, q⟩
  | kls ys =>
    cases e
    obtain ⟨a, vs, e, t, q⟩ := q
    exact ⟨a, vs, e, .inr t, q⟩
  | ref n =>
    obtain ⟨a, ea, e'⟩ := q
    unfold asL at e
    simp only at e
    split at e
    · next hn =>
      cases e
      obtain ⟨vs, q1, q2⟩ := r.obj _ _ _ ea hn
      exact ⟨a, vs, e', .of q1, q2⟩
    · next hn =>
      cases e
      obtain ⟨vs, o, q1, q2⟩ := r.obj _ _ _ ea hn
      exact ⟨a, vs, e', .inl (.inr ⟨o, q1⟩), q2⟩
    · cases e
  | _ => cases e
/-- a list whose object is plain -/
def asM (h : Hd) : D → Option (List D)
  | .tmp xs => some xs
  | .ref n => match h[n]? with
    | some (.lst xs) => some xs
    | _ => none
  | _ => none
theorem asM_of {xs : List D} (e : asM h d = some xs) (r : RH K ρ h H) (q : RV K H ρ d v) : ∃ p vs, v = .ref p ∧ H p = some (.lst vs) ∧ RVs K H ρ xs vs := by
  cases d with
  | tmp ys =>
    cases e
    obtain ⟨a, vs, e, t, _, q⟩ := q
    exact ⟨a, vs, e, t, q⟩
  | ref n =>
    obtain ⟨a, ea, e'⟩ := q
    unfold asM at e
    simp only at e
    split at e
    · next hn =>
      cases e
      obtain ⟨vs, q1, q2⟩ := r.obj _ _ _ ea hn
      exact ⟨a, vs, e', q1, q2⟩
    · cases e
  | _ => cases e
/-- a list or a tuple that may be read -/
def asQ (h : Hd) : D → Option (List D)
  | .tup xs => some xs
  | d => asL h d
theorem asQ_of {xs : List D} (e : asQ h d = some xs) (r : RH K ρ h H) (q : RV K H ρ d v) : ∃ p vs, v = .ref p ∧ (SqL K H p vs ∨ SqT K H p vs) ∧ RVs K H ρ xs vs := by
  have go : asL h d = some xs → ∃ p vs, v = .ref p ∧ (SqL K H p vs ∨ SqT K H p vs) ∧ RVs K H ρ xs vs := fun e => by
    obtain ⟨p, vs, e1, e2, e3⟩ := asL_of e r q
    exact ⟨p, vs, e1, Or.inl e2, e3⟩
  cases d with
  | tup ys =>
    cases e
    obtain ⟨a, vs, e, t, q⟩ := q
    exact ⟨a, vs, e, .inr t, q⟩
  | tmp ys => exact go e
  | kls ys => exact go e
  | ref n => exact go e
  | _ => cases e
end
/-! ### by values -/
abbrev P1 := Hd → D → Option D
abbrev P2 := Hd → D → D → Option D
abbrev PN := Hd → List D → Option D
def rP1 (K : PySem.W.Frag) (F : P1) : V → Hp → VK → Prop := fun x H Q => ∃ ρ h a d, RH K ρ h H ∧ RV K H ρ a x ∧ F h a = some d ∧ PQ K ρ h H d Q
def rP2 (K : PySem.W.Frag) (F : P2) : R2 := fun x y H Q => ∃ ρ h a b d, RH K ρ h H ∧ RV K H ρ a x ∧ RV K H ρ b y ∧ F h a b = some d ∧ PQ K ρ h H d Q
def rPN (K : PySem.W.Frag) (F : PN) : List V → Hp → VK → Prop := fun xs H Q => ∃ ρ h as d, RH K ρ h H ∧ RVs K H ρ as xs ∧ F h as = some d ∧ PQ K ρ h H d Q
/-- a method that leaves the cells -/
def rPM (K : PySem.W.Frag) (F : Hd → D → List D → Option D) : V → List V → Hp → VK → Prop := fun x xs H Q => ∃ ρ h a as d, RH K ρ h H ∧ RV K H ρ a x ∧ RVs K H ρ as xs ∧ F h a as = some d ∧ PQ K ρ h H d Q
/-- a method that may change them -/
def rMM (K : PySem.W.Frag) (F : Hd → D → List D → Option (D × Hd)) : V → List V → Hp → VK → Prop := fun x xs H Q => ∃ ρ h a as d h', RH K ρ h H ∧ RV K H ρ a x ∧ RVs K H ρ as xs ∧ F h a as = some (d, h') ∧
  ∀ ρ' v H', Le ρ ρ' H H' → RH K ρ' h' H' → RV K H' ρ' d v → Q v H'
section
variable {X : Cx} {f : Value → Value → Sem Value} {g : Value} {id : String}
theorem _root_.L2.OpR.imp {r r' : R2} (h : OpR X f r) (i : ∀ x y H Q, r' x y H Q → r x y H Q) : OpR X f r' := fun pins s σ H x y v u Q I rx ry q => h pins s σ H x y v u Q I rx ry (i _ _ _ _ q)
theorem _root_.L2.CallR.imp {r r' : List V → Hp → VK → Prop} (h : CallR X g r) (i : ∀ x H Q, r' x H Q → r x H Q) : CallR X g r' := fun pins s σ H xs us Q I rx q => h pins s σ H xs us Q I rx (i _ _ _ q)
theorem _root_.L2.IxR.imp {r r' : R2} (h : IxR X r) (i : ∀ x y H Q, r' x y H Q → r x y H Q) : IxR X r' := fun a b pins s σ H x y v u Q I rx ry q => h a b pins s σ H x y v u Q I rx ry (i _ _ _ _ q)
theorem _root_.L2.MtR.imp {r r' : V → List V → Hp → VK → Prop} (h : MtR X id r) (i : ∀ x y H Q, r' x y H Q → r x y H Q) : MtR X id r' := fun pins s σ H x xs v us Q I rx rxs q => h pins s σ H x xs v us Q I rx rxs (i _ _ _ _ q)
end
/-! ### the combinators -/
def eVar (i : Nat) : E := fun σ h => match σ[i]? with
  | some (some d) => .ok d h
  | _ => .bad
def eC (d : D) : E := fun _ h => .ok d h
def eUn (F : P1) (a : E) : E := fun σ h => (a σ h).bind fun x h1 => ofO (F h1 x) h1
def eOp (F : P2) (a b : E) : E := fun σ h => (a σ h).bind fun x h1 => (b σ h1).bind fun y h2 => ofO (F h2 x y) h2
def eNil : EA := fun _ h => .ok [] h
def eCons (a : E) (r : EA) : EA := fun σ h => (a σ h).bind fun x h1 => (r σ h1).bind fun xs h2 => .ok (x :: xs) h2
def ePN (F : PN) (a : EA) : E := fun σ h => (a σ h).bind fun xs h1 => ofO (F h1 xs) h1
def tst (F : P1) (a : E) : ET := fun σ h => (a σ h).bind fun x h1 => match F h1 x with
  | some (.bl b) => .ok b h1
  | _ => .bad
def tVal (a : E) : ET := fun σ h => (a σ h).bind fun x h1 => match x with
  | .bl b => .ok b h1
  | _ => .bad
def tOpT (F : P2) (a b : E) : ET := tVal (eOp F a b)
def tAndM (a b : ET) : ET := fun σ h => (a σ h).bind fun c h1 => if c then b σ h1 else .ok false h1
def tOrM (a b : ET) : ET := fun σ h => (a σ h).bind fun c h1 => if c then .ok true h1 else b σ h1
def tNotM (a : ET) : ET := fun σ h => (a σ h).bind fun c h1 => .ok (!c) h1
def eAnd (a b : E) : E := fun σ h => (a σ h).bind fun x h1 => match x with
  | .bl true => b σ h1
  | .bl false => .ok (.bl false) h1
  | _ => .bad
def eOr (a b : E) : E := fun σ h => (a σ h).bind fun x h1 => match x with
  | .bl true => .ok (.bl true) h1
  | .bl false => b σ h1
  | _ => .bad
def eNot (a : E) : E := fun σ h => (a σ h).bind fun x h1 => match x with
  | .bl b => .ok (.bl (!b)) h1
  | _ => .bad
def eIf (c : ET) (a b : E) : E := fun σ h => (c σ h).bind fun x h1 => if x then a σ h1 else b σ h1
def eTup (a : EA) : E := fun σ h => (a σ h).bind fun xs h1 => if xs.length ≤ line then .ok (.tup xs) h1 else .bad
/-- a chain a op b op' c -/
def eChain (F G : P2) (a b c : E) : E := fun σ h => (a σ h).bind fun x h1 => (b σ h1).bind fun y h2 => match F h2 x y with
  | some (.bl true) => (c σ h2).bind fun z h3 => ofO (G h3 y z) h3
  | some (.bl false) => .ok (.bl false) h2
  | _ => .bad
/-! ### fresh lists -/
abbrev EL := Env → Hd → R (List D)
/-- a new list has come: the cells do not know it -/
def LQ (K : PySem.W.Frag) (W : Value → Option Addr → Hp → Prop) (ρ : Rh) (H : Hp) (r : R (List D)) (Q : VK) : Prop := match r with
  | .ok xs h' => ∀ ρ' p vs H', Le ρ ρ' H H' → RH K ρ' h' H' → RVs K H' ρ' xs vs → H' p = none → Q (.ref p) (upd H' p (.lst vs))
  | .exc C fs h' => ∀ ρ' H' d, Le ρ ρ' H H' → RH K ρ' h' H' → RX K H' ρ' fs d → W (.ref C) d H'
  | .bad => False
theorem LQ.le {K : PySem.W.Frag} {ρ ρ1 : Rh} {H H1 : Hp} {W : Value → Option Addr → Hp → Prop} {r : R (List D)} {Q : VK} (l : Le ρ ρ1 H H1) (q : LQ K W ρ H r Q) : LQ K W ρ1 H1 r Q := by
  cases r with
  | ok a h' => exact fun ρ' p vs H' l' => q ρ' p vs H' (l.trans l')
  | exc C fs h' => exact fun ρ' H' d l' => q ρ' H' d (l.trans l')
  | bad => exact q
theorem LQ.bind {α β : Type} {K : PySem.W.Frag} {ρ : Rh} {H : Hp} {RR : Hp → Rh → α → β → Prop} {W : Value → Option Addr → Hp → Prop} {r : R α} {f : α → Hd → R (List D)} {Q : VK} {Q1 : β → Hp → Prop}
    (q : LQ K W ρ H (r.bind f) Q) (h : ∀ ρ1 x H1 a h1, Le ρ ρ1 H H1 → RH K ρ1 h1 H1 → RR H1 ρ1 a x → LQ K W ρ1 H1 (f a h1) Q → Q1 x H1) : TQ RR K W ρ H r Q1 := by
  cases r with
  | ok a h' => exact fun ρ' v H' l rh rv => h ρ' v H' a h' l rh rv (LQ.le l q)
  | exc C fs h' => exact q
  | bad => exact q
def tL (K : PySem.W.Frag) (W : WX) (m : EL) : TE := fun σ H Q => ∃ ρ σd h, RH K ρ h H ∧ RS K H ρ σd σ ∧ LQ K (fun c d H' => W c d σ H') ρ H (m σd h) Q
abbrev CL (X : Cx) (W : WX) (e : Expr) (m : EL) : Prop := PE X e (tL X.K W m)
def eTmp (m : EL) : E := fun σ h => (m σ h).bind fun xs h1 => .ok (.tmp xs) h1
def eNew (m : EL) : E := fun σ h => (m σ h).bind fun xs h1 => .ok (.ref h1.length) (h1 ++ [.lst xs])
def lLst (a : EA) : EL := fun σ h => (a σ h).bind fun xs h1 => if xs.length ≤ line then .ok xs h1 else .bad
def lOp (F : Hd → D → D → Option (List D)) (a b : E) : EL := fun σ h => (a σ h).bind fun x h1 => (b σ h1).bind fun y h2 => ofO (F h2 x y) h2
def lPN (F : Hd → List D → Option (List D)) (a : EA) : EL := fun σ h => (a σ h).bind fun xs h1 => ofO (F h1 xs) h1
section
variable {X : Cx} {W : WX} {e a b c : Expr} {es : List Expr} {ma mb mc : E} {ms : EA} {pos : Pos} {ta tb tc : ET}
theorem tG_mk {α β : Type} {RR : Hp → Rh → α → β → Prop} {K : PySem.W.Frag} {ρ : Rh} {σd : Env} {h : Hd} {σ : St} {H : Hp} {m : Env → Hd → R α} {Q : β → Hp → Prop} (rh : RH K ρ h H) (rs : RS K H ρ σd σ)
    (q : TQ RR K (fun c d H' => W c d σ H') ρ H (m σd h) Q) : tG RR K W m σ H Q := ⟨ρ, σd, h, rh, rs, q⟩
theorem ce_var (i : Nat) {x : Str} (hN : X.N[i]? = some x := by rfl) (hv : Vis X.env.scope x := by first | exact Or.inl rfl | exact Or.inr (Or.inl rfl) | exact Or.inr (Or.inr rfl)) (hd : (x == ("__debug__" : Str)) = false := by decide)
    (hcd : (x == ("__classdict__" : Str)) = false := by decide) : CE X W (.Name x pos) (eVar i) := (pe_var hN hv hd hcd).imp fun σ H Q ⟨ρ, σd, h, rh, rs, q⟩ => by
  unfold eVar at q
  split at q
  · next hd =>
    obtain ⟨v, e1, rv⟩ := rs.get i _ hd
    exact ⟨v, e1, q ρ v H .refl rh rv⟩
  · exact q.elim
theorem ce_c {v : V} {d : D} (he : PE X e (L2.tC v)) (hd : ∀ H ρ, RV X.K H ρ d v) : CE X W e (eC d) := he.imp fun σ H Q ⟨ρ, σd, h, rh, rs, q⟩ => q ρ v H .refl rh (hd H ρ)
theorem ce_int {i j} : CE X W (.Constant (.int i) j pos) (eC (.int i)) := ce_c pe_int fun _ _ => rfl
theorem ce_bl {i j} : CE X W (.Constant (.bool i) j pos) (eC (.bl i)) := ce_c pe_bl fun _ _ => rfl
theorem ce_non {j} : CE X W (.Constant .none j pos) (eC .non) := ce_c pe_non fun _ _ => rfl
theorem ce_str {i j} : CE X W (.Constant (.str i) j pos) (eC (.str i)) := ce_c pe_str fun _ _ => rfl
theorem ce_op {op : Operator} {F : P2} (ho : OpR X (binaryOp op) (rP2 X.K F)) (ha : CE X W a ma) (hb : CE X W b mb) : CE X W (.BinOp a op b pos) (eOp F ma mb) := (pe_op ho ha hb).imp fun σ H Q ⟨ρ, σd, h, rh, rs, q⟩ =>
  ⟨ρ, σd, h, rh, rs, TQ.bind q fun ρ1 x H1 a h1 l1 rh1 rv1 q1 => ⟨ρ1, σd, h1, rh1, rs.le l1 rh, TQ.bind q1 fun ρ2 y H2 b h2 l2 rh2 rv2 q2 => by
    cases e : F h2 a b with
    | none => rw [e] at q2; exact q2.elim
    | some d => rw [e] at q2; exact ⟨ρ2, h2, a, b, d, rh2, rv1.le l2 rh1, rv2, e, PQ.of q2⟩⟩⟩
theorem ce_cmp {op : CmpOp} {F : P2} (ho : OpR X (compareOp op) (rP2 X.K F)) (ha : CE X W a ma) (hb : CE X W b mb) (hm : behindInMarks op b = false) : CE X W (.Compare a [op] [b] pos) (eOp F ma mb) := (pe_cmpR ho ha hb hm).imp fun σ H Q ⟨ρ, σd, h, rh, rs, q⟩ =>
  ⟨ρ, σd, h, rh, rs, TQ.bind q fun ρ1 x H1 a h1 l1 rh1 rv1 q1 => ⟨ρ1, σd, h1, rh1, rs.le l1 rh, TQ.bind q1 fun ρ2 y H2 b h2 l2 rh2 rv2 q2 => by
    cases e : F h2 a b with
    | none => rw [e] at q2; exact q2.elim
    | some d => rw [e] at q2; exact ⟨ρ2, h2, a, b, d, rh2, rv1.le l2 rh1, rv2, e, PQ.of q2⟩⟩⟩
theorem ct_cmp {op : CmpOp} {F : P2} (ho : OpR X (compareOp op) (rP2 X.K F)) (ha : CE X W a ma) (hb : CE X W b mb) (hm : behindInMarks op b = false) : CT X W (.Compare a [op] [b] pos) (tOpT F ma mb) := (pt_cmpR ho ha hb hm).imp fun σ H Q ⟨ρ, σd, h, rh, rs, q⟩ => by
  refine ⟨ρ, σd, h, rh, rs, ?_⟩
  unfold tOpT tVal eOp at q
  have assoc : ∀ {α β γ : Type} (r : R α) (f : α → Hd → R β) (g : β → Hd → R γ), (r.bind f).bind g = r.bind fun a h => (f a h).bind g := fun r f g => by cases r <;> rfl
  rw [assoc] at q
  refine TQ.bind q fun ρ1 x H1 a h1 l1 rh1 rv1 q1 => ⟨ρ1, σd, h1, rh1, rs.le l1 rh, ?_⟩
  rw [assoc] at q1
  refine TQ.bind q1 fun ρ2 y H2 b h2 l2 rh2 rv2 q2 => ?_
  cases e : F h2 a b with
  | none => rw [e] at q2; exact q2.elim
  | some d =>
    rw [e] at q2
    refine ⟨ρ2, h2, a, b, d, rh2, rv1.le l2 rh1, rv2, e, fun v H3 l3 rh3 rv3 => ?_⟩
    cases d with
    | bl k => exact ⟨k, rv3, q2 ρ2 k H3 l3 rh3 rfl⟩
    | _ => exact q2.elim
theorem ce_un {op : UnaryOp} {F : P1} (ho : UnR X (unaryOp op) (rP1 X.K F)) (ha : CE X W a ma) : CE X W (.UnaryOp op a pos) (eUn F ma) := (pe_un ho ha).imp fun σ H Q ⟨ρ, σd, h, rh, rs, q⟩ =>
  ⟨ρ, σd, h, rh, rs, TQ.bind q fun ρ1 x H1 a h1 l1 rh1 rv1 q1 => by
    cases e : F h1 a with
    | none => rw [e] at q1; exact q1.elim
    | some d => rw [e] at q1; exact ⟨ρ1, h1, a, d, rh1, rv1, e, PQ.of q1⟩⟩
theorem ca_nil : CA X W [] eNil := pa_nil.imp fun σ H Q ⟨ρ, σd, h, rh, rs, q⟩ => q ρ [] H .refl rh rfl
theorem ca_cons (ha : CE X W e ma) (hr : CA X W es ms) (hs : starEach (e :: es) X.env = (false, eval e X.env) :: starEach es X.env := by rfl) : CA X W (e :: es) (eCons ma ms) := (pa_cons ha hr hs).imp fun σ H Q ⟨ρ, σd, h, rh, rs, q⟩ =>
  ⟨ρ, σd, h, rh, rs, TQ.bind q fun ρ1 x H1 a h1 l1 rh1 rv1 q1 => ⟨ρ1, σd, h1, rh1, rs.le l1 rh, TQ.bind q1 fun ρ2 y H2 b h2 l2 rh2 rv2 q2 => q2 ρ2 (x :: y) H2 .refl rh2 ⟨x, y, rfl, rv1.le l2 rh1, rv2⟩⟩⟩
theorem ce_tup {x1} (hs : CA X W es ms) : CE X W (.Tuple es x1 pos) (eTup ms) := (pe_tup hs).imp fun σ H Q ⟨ρ, σd, h, rh, rs, q⟩ =>
  ⟨ρ, σd, h, rh, rs, TQ.bind q fun ρ1 xs H1 as h1 l1 rh1 rv1 q1 => by
    by_cases hl : as.length ≤ line
    · rw [if_pos hl] at q1
      exact ⟨by rw [← RVs.len rv1]; exact hl, PQ.tup (fun v H' l rh' rv => q1 ρ1 v H' l rh' rv) rh1 rv1⟩
    · rw [if_neg hl] at q1
      exact q1.elim⟩
theorem cl_lst (hs : CA X W es ms) : CL X W (.List es pos) (lLst ms) := (pe_lst hs).imp fun σ H Q ⟨ρ, σd, h, rh, rs, q⟩ =>
  ⟨ρ, σd, h, rh, rs, LQ.bind q fun ρ1 xs H1 as h1 l1 rh1 rv1 q1 => by
    by_cases hl : as.length ≤ line
    · rw [if_pos hl] at q1
      exact ⟨by rw [← RVs.len rv1]; exact hl, fun p hp => q1 ρ1 p xs H1 .refl rh1 rv1 hp⟩
    · rw [if_neg hl] at q1
      exact q1.elim⟩
theorem R.assoc {α β γ : Type} (r : R α) (f : α → Hd → R β) (g : β → Hd → R γ) : (r.bind f).bind g = r.bind fun a h => (f a h).bind g := by cases r <;> rfl
theorem ct_val (he : CE X W e ma) (hv : ∀ whole, isTrue e X.env whole = (do let v ← whole; standAt e.pos; holding [v] (truthy v)) := by intro _; rfl) : CT X W e (tVal ma) := (pt_val he hv).imp fun σ H Q ⟨ρ, σd, h, rh, rs, q⟩ =>
  ⟨ρ, σd, h, rh, rs, TQ.bind q fun ρ1 x H1 a h1 l1 rh1 rv1 q1 => by
    cases a with
    | bl k => exact ⟨k, rv1, q1 ρ1 k H1 .refl rh1 rfl⟩
    | _ => exact q1.elim⟩
/-- a test: any of its forms -/
structure CW (X : Cx) (W : WX) (e : Expr) (m : ET) : Prop where
  w : PW X e (tT X.K W m)
theorem CW.t (h : CW X W e ta) : CT X W e ta := h.w.pt
theorem _root_.L2.PW.imp {t t' : TT} (h : PW X e t) (i : ∀ σ H Q, t' σ H Q → t σ H Q) : PW X e t' := ⟨fun whole pins s σ H Q I q => h.run whole pins s σ H Q I (i σ H Q q)⟩
theorem cw_and1 (ha : CT X W a ta) : CW X W (.BoolOp .And [a] pos) ta := ⟨pw_and1 ha⟩
theorem cw_or1 (ha : CT X W a ta) : CW X W (.BoolOp .Or [a] pos) ta := ⟨pw_or1 ha⟩
variable {rest : List Expr}
theorem cw_and (ha : CT X W a ta) (hb : CW X W (.BoolOp .And (b :: rest) pos) tb) : CW X W (.BoolOp .And (a :: b :: rest) pos) (tAndM ta tb) := ⟨(pw_and ha hb.w).imp fun σ H Q ⟨ρ, σd, h, rh, rs, q⟩ =>
  ⟨ρ, σd, h, rh, rs, TQ.bind q fun ρ1 x H1 a h1 l1 rh1 rv1 q1 => by
    cases rv1
    cases x with
    | true => exact iteT ⟨ρ1, σd, h1, rh1, rs.le l1 rh, q1⟩
    | false => exact iteF (q1 ρ1 false H1 .refl rh1 rfl)⟩⟩
theorem cw_or (ha : CT X W a ta) (hb : CW X W (.BoolOp .Or (b :: rest) pos) tb) : CW X W (.BoolOp .Or (a :: b :: rest) pos) (tOrM ta tb) := ⟨(pw_or ha hb.w).imp fun σ H Q ⟨ρ, σd, h, rh, rs, q⟩ =>
  ⟨ρ, σd, h, rh, rs, TQ.bind q fun ρ1 x H1 a h1 l1 rh1 rv1 q1 => by
    cases rv1
    cases x with
    | false => exact iteF ⟨ρ1, σd, h1, rh1, rs.le l1 rh, q1⟩
    | true => exact iteT (q1 ρ1 true H1 .refl rh1 rfl)⟩⟩
theorem ct_not (ha : CT X W a ta) : CT X W (.UnaryOp .Not a pos) (tNotM ta) := (pt_not ha).imp fun σ H Q ⟨ρ, σd, h, rh, rs, q⟩ =>
  ⟨ρ, σd, h, rh, rs, TQ.bind q fun ρ1 x H1 a h1 l1 rh1 rv1 q1 => by
    cases rv1
    exact q1 ρ1 (!x) H1 .refl rh1 rfl⟩
theorem ce_one {op} (h : CE X W a ma) : CE X W (.BoolOp op [a] pos) ma := pe_one h
theorem ce_and (ha : CE X W a ma) (hb : CE X W (.BoolOp .And (b :: rest) pos) mb) : CE X W (.BoolOp .And (a :: b :: rest) pos) (eAnd ma mb) := (pe_and ha hb).imp fun σ H Q ⟨ρ, σd, h, rh, rs, q⟩ =>
  ⟨ρ, σd, h, rh, rs, TQ.bind q fun ρ1 x H1 a h1 l1 rh1 rv1 q1 => by
    cases a with
    | bl k =>
      cases k with
      | true => exact ⟨true, rv1, iteT ⟨ρ1, σd, h1, rh1, rs.le l1 rh, q1⟩⟩
      | false => exact ⟨false, rv1, iteF (q1 ρ1 _ H1 .refl rh1 rfl)⟩
    | _ => exact q1.elim⟩
theorem ce_or (ha : CE X W a ma) (hb : CE X W (.BoolOp .Or (b :: rest) pos) mb) : CE X W (.BoolOp .Or (a :: b :: rest) pos) (eOr ma mb) := (pe_or ha hb).imp fun σ H Q ⟨ρ, σd, h, rh, rs, q⟩ =>
  ⟨ρ, σd, h, rh, rs, TQ.bind q fun ρ1 x H1 a h1 l1 rh1 rv1 q1 => by
    cases a with
    | bl k =>
      cases k with
      | false => exact ⟨false, rv1, iteF ⟨ρ1, σd, h1, rh1, rs.le l1 rh, q1⟩⟩
      | true => exact ⟨true, rv1, iteT (q1 ρ1 _ H1 .refl rh1 rfl)⟩
    | _ => exact q1.elim⟩
theorem ce_not (ha : CE X W a ma) : CE X W (.UnaryOp .Not a pos) (eNot ma) := (pe_not ha).imp fun σ H Q ⟨ρ, σd, h, rh, rs, q⟩ =>
  ⟨ρ, σd, h, rh, rs, TQ.bind q fun ρ1 x H1 a h1 l1 rh1 rv1 q1 => by
    cases a with
    | bl k => exact ⟨k, rv1, q1 ρ1 _ H1 .refl rh1 rfl⟩
    | _ => exact q1.elim⟩
theorem ce_if (hc : CT X W c ta) (ha : CE X W a ma) (hb : CE X W b mb) : CE X W (.IfExp c a b pos) (eIf ta ma mb) := (pe_ifExp hc ha hb).imp fun σ H Q ⟨ρ, σd, h, rh, rs, q⟩ =>
  ⟨ρ, σd, h, rh, rs, TQ.bind q fun ρ1 x H1 a h1 l1 rh1 rv1 q1 => by
    cases rv1
    cases x with
    | true => exact iteT ⟨ρ1, σd, h1, rh1, rs.le l1 rh, q1⟩
    | false => exact iteF ⟨ρ1, σd, h1, rh1, rs.le l1 rh, q1⟩⟩
theorem tmp_read {K : PySem.W.Frag} {m : EL} {σ : L2.St} {H : Hp} {Q : VK} (q : tE K W (eTmp m) σ H Q) : tL K W m σ H Q := by
  obtain ⟨ρ, σd, h, rh, rs, q⟩ := q
  refine ⟨ρ, σd, h, rh, rs, ?_⟩
  unfold eTmp at q
  cases r : m σd h with
  | bad => rw [r] at q; exact q
  | exc C fs h' => rw [r] at q; exact q
  | ok xs h1 =>
    rw [r] at q
    exact fun ρ1 p vs H1 l1 rh1 rv hp => q ρ1 (.ref p) _ (l1.trans (Le.new hp)) (rh1.new hp) ⟨p, vs, rfl, upd_same, rh1.no hp, RVs.mo (mo_new rh1 hp) _ _ rv⟩
theorem ce_tmp {m : EL} (he : CL X W e m) : CE X W e (eTmp m) := he.imp fun σ H Q q => tmp_read q
theorem TQ.ok {α β : Type} {RR : Hp → Rh → α → β → Prop} {K : PySem.W.Frag} {W : Value → Option Addr → Hp → Prop} {ρ : Rh} {H : Hp} {a : α} {h : Hd} {Q : β → Hp → Prop} (q : TQ RR K W ρ H (.ok a h) Q) : ∀ ρ' v H', Le ρ ρ' H H' → RH K ρ' h H' → RR H' ρ' a v → Q v H' := q
/-- a new object becomes a cell -/
theorem RH.push {K : PySem.W.Frag} {ρ : Rh} {h : Hd} {H : Hp} {p : Addr} {u : HO} {o : O} (r : RH K ρ h H) (hp : H p = none) (mo : Mo K ρ (ρ.add p) H (upd H p u)) (ro : RO K (upd H p u) (ρ.add p) p o) : RH K (ρ.add p) (h ++ [o]) (upd H p u) := by
  refine ⟨by simp [Rh.add, r.len], ?_, fun a ha => ?_, fun n a w e1 e2 => ?_⟩
  · refine List.nodup_append.mpr ⟨r.nd, by simp, fun a ha b hb => ?_⟩
    have : b = p := by simpa using hb
    subst this
    rintro rfl
    exact r.free hp ha
  · have hne : a ≠ p := fun z => (r.zs a ha).1 (by rw [z]; exact hp)
    refine ⟨by rw [upd_ne hne]; exact (r.zs a ha).1, fun z => ?_⟩
    rcases List.mem_append.mp z with z | z
    · exact (r.zs a ha).2 z
    · exact hne (by simpa using z)
  · have e1' : (ρ.c ++ [p])[n]? = some a := e1
    by_cases hn : n < ρ.c.length
    · rw [List.getElem?_append_left hn] at e1'
      rw [List.getElem?_append_left (by rw [← r.len]; exact hn)] at e2
      exact (r.obj n a w e1' e2).mo mo (upd_ne fun z => r.free hp (z ▸ List.mem_of_getElem? e1'))
    · rw [List.getElem?_append_right (by omega)] at e1'
      rw [List.getElem?_append_right (by rw [← r.len]; omega)] at e2
      have hz : n - ρ.c.length = 0 := by
        have := (List.getElem?_eq_some_iff.mp e1').1
        simp at this
        omega
      rw [hz] at e1'
      rw [← r.len, hz] at e2
      simp at e1' e2
      subst e1'
      subst e2
      exact ro
theorem mo_push {K : PySem.W.Frag} {ρ : Rh} {h : Hd} {H : Hp} {p : Addr} {u : HO} (r : RH K ρ h H) (hp : H p = none) : Mo K ρ (ρ.add p) H (upd H p u) where
  tup := (mo_new r hp).tup
  lst := fun a xs n e => by
    refine ⟨((mo_new r hp).lst a xs n e).1, fun z => ?_, n.2⟩
    rcases List.mem_append.mp z with z | z
    · exact n.1 z
    · have : a = p := by simpa using z
      subst this
      rw [hp] at e
      cases e
  dct := fun a o xs n e => by
    refine ⟨((mo_new r hp).dct a o xs n e).1, fun z => ?_, n.2⟩
    rcases List.mem_append.mp z with z | z
    · exact n.1 z
    · have : a = p := by simpa using z
      subst this
      rw [hp] at e
      cases e
  xdd := fun a xs n e => by
    refine ⟨((mo_new r hp).xdd a xs n e).1, fun z => ?_, n.2⟩
    rcases List.mem_append.mp z with z | z
    · exact n.1 z
    · have : a = p := by simpa using z
      subst this
      rw [hp] at e
      cases e
  cell := fun n a e => by
    show (ρ.c ++ [p])[n]? = some a
    rw [List.getElem?_append_left (List.getElem?_eq_some_iff.mp e).1]
    exact e
theorem le_push {K : PySem.W.Frag} {ρ : Rh} {h : Hd} {H : Hp} {p : Addr} {u : HO} (r : RH K ρ h H) (hp : H p = none) : Le ρ (ρ.add p) H (upd H p u) :=
  ⟨⟨[p], rfl, fun a ha => by
    have : a = p := by simpa using ha
    subst this
    exact ⟨hp, r.free hp⟩⟩, fun b o _ e => by rw [upd_ne (ne_of_none e hp)]; exact e, fun b _ _ e => by rw [upd_ne (ne_of_none e hp)]; exact e⟩
theorem new_read {K : PySem.W.Frag} {m : EL} {σ : L2.St} {H : Hp} {Q : VK} (q : tE K W (eNew m) σ H Q) : tL K W m σ H Q := by
  obtain ⟨ρ, σd, h, rh, rs, q⟩ := q
  refine ⟨ρ, σd, h, rh, rs, ?_⟩
  unfold eNew at q
  cases r : m σd h with
  | bad => rw [r] at q; exact q
  | exc C fs h' => rw [r] at q; exact q
  | ok xs h1 =>
    rw [r] at q
    refine fun ρ1 p vs H1 l1 rh1 rv hp => q (ρ1.add p) (.ref p) _ (l1.trans (le_push rh1 hp)) (rh1.push hp (mo_push rh1 hp) ⟨vs, upd_same, RVs.mo (mo_push rh1 hp) _ _ rv⟩) ⟨p, ?_, rfl⟩
    show (ρ1.c ++ [p])[h1.length]? = some p
    rw [← rh1.len]
    simp
theorem ce_new {m : EL} (he : CL X W e m) : CE X W e (eNew m) := he.imp fun σ H Q q => new_read q
/-! ### built-in functions -/
variable {x : Str} {p : Pos} {id T : String}
theorem ce_callB {F : PN} (hc : CallR X (.builtin id) (rPN X.K F)) (hg : Gl X x) (hm : X.mg x = none) (hv : bootBuiltins x = some (.builtin id)) (ha : CA X W (e :: es) ms) (hn : x ≠ "__name__" := by decide) (hdb : (x == ("__debug__" : Str)) = false := by decide)
    (he : starEach (e :: es) X.env = (false, eval e X.env) :: starEach es X.env := by rfl) (hpl : (backTo pos (starEach es X.env)).any (·.1) = false := by rfl) : CE X W (.Call (.Name x p) (e :: es) [] pos) (ePN F ms) :=
  (pe_callB hc hg hm hv ha hn hdb he hpl).imp fun σ H Q ⟨ρ, σd, h, rh, rs, q⟩ => ⟨ρ, σd, h, rh, rs, TQ.bind q fun ρ1 xs H1 as h1 l1 rh1 rv1 q1 => by
    cases e : F h1 as with
    | none => rw [e] at q1; exact q1.elim
    | some d => rw [e] at q1; exact ⟨ρ1, h1, as, d, rh1, rv1, e, PQ.of q1⟩⟩
theorem ce_callTy {F : PN} (hc : CallR X (.type T) (rPN X.K F)) (hg : Gl X x) (hm : X.mg x = none) (hv : bootBuiltins x = some (.type T)) (ha : CA X W (e :: es) ms) (hn : x ≠ "__name__" := by decide) (hdb : (x == ("__debug__" : Str)) = false := by decide)
    (he : starEach (e :: es) X.env = (false, eval e X.env) :: starEach es X.env := by rfl) (hpl : (backTo pos (starEach es X.env)).any (·.1) = false := by rfl) : CE X W (.Call (.Name x p) (e :: es) [] pos) (ePN F ms) :=
  (pe_callTy hc hg hm hv ha hn hdb he hpl).imp fun σ H Q ⟨ρ, σd, h, rh, rs, q⟩ => ⟨ρ, σd, h, rh, rs, TQ.bind q fun ρ1 xs H1 as h1 l1 rh1 rv1 q1 => by
    cases e : F h1 as with
    | none => rw [e] at q1; exact q1.elim
    | some d => rw [e] at q1; exact ⟨ρ1, h1, as, d, rh1, rv1, e, PQ.of q1⟩⟩
theorem ce_ix {F : P2} (hr : IxR X (rP2 X.K F)) (ha : CE X W a ma) (hb : CE X W b mb) (hs : PlainIx b) : CE X W (.Subscript a b pos) (eOp F ma mb) := (pe_ix hr ha hb hs).imp fun σ H Q ⟨ρ, σd, h, rh, rs, q⟩ =>
  ⟨ρ, σd, h, rh, rs, TQ.bind q fun ρ1 x H1 a h1 l1 rh1 rv1 q1 => ⟨ρ1, σd, h1, rh1, rs.le l1 rh, TQ.bind q1 fun ρ2 y H2 b h2 l2 rh2 rv2 q2 => by
    cases e : F h2 a b with
    | none => rw [e] at q2; exact q2.elim
    | some d => rw [e] at q2; exact ⟨ρ2, h2, a, b, d, rh2, rv1.le l2 rh1, rv2, e, PQ.of q2⟩⟩⟩
theorem ce_chain {op op' : CmpOp} {F G : P2} (ho : OpR X (compareOp op) (rP2 X.K F)) (ho' : OpR X (compareOp op') (rP2 X.K G)) (ha : CE X W a ma) (hb : CE X W b mb) (hc : CE X W c mc) (hl : lastMarks [op, op'] [b, c] = false := by rfl) :
    CE X W (.Compare a [op, op'] [b, c] pos) (eChain F G ma mb mc) := (pe_chain ho ho' ha hb hc hl).imp fun σ H Q ⟨ρ, σd, h, rh, rs, q⟩ =>
  ⟨ρ, σd, h, rh, rs, TQ.bind q fun ρ1 x H1 a h1 l1 rh1 rv1 q1 => ⟨ρ1, σd, h1, rh1, rs.le l1 rh, TQ.bind q1 fun ρ2 y H2 b h2 l2 rh2 rv2 q2 => by
    cases e : F h2 a b with
    | none => rw [e] at q2; exact q2.elim
    | some d =>
      rw [e] at q2
      refine ⟨ρ2, h2, a, b, d, rh2, rv1.le l2 rh1, rv2, e, fun v H3 l3 rh3 rv3 => ?_⟩
      cases d with
      | bl k =>
        refine ⟨k, rv3, ?_⟩
        cases k with
        | false => exact iteF (q2 ρ2 _ H3 l3 rh3 rfl)
        | true =>
          refine iteT ⟨ρ2, σd, h2, rh3, (rs.le (l1.trans l2) rh).le l3 rh2, TQ.bind (TQ.le l3 q2) fun ρ4 z H4 c h4 l4 rh4 rv4 q4 => ?_⟩
          cases e' : G h4 b c with
          | none => rw [e'] at q4; exact q4.elim
          | some d' => rw [e'] at q4; exact ⟨ρ4, h4, b, c, d', rh4, (rv2.le l3 rh2).le l4 rh3, rv4, e', PQ.of q4⟩
      | _ => exact q2.elim⟩⟩
end
end Mi
/-! Mi3: statements, targets, loops, comprehensions, calls. -/
namespace Mi
open PySem L2
section
variable {K : PySem.W.Frag} {W : WX} {ρ ρ1 : Rh} {H H1 : Hp} {h : Hd}
theorem SQ.le {r : SR} {E : Ends} (l : Le ρ ρ1 H H1) (q : SQ K W ρ H r E) : SQ K W ρ1 H1 r E := by
  cases r with
  | nx σ h' => exact fun ρ' σ H' l' => q ρ' σ H' (l.trans l')
  | brk σ h' => exact fun ρ' σ H' l' => q ρ' σ H' (l.trans l')
  | ct σ h' => exact fun ρ' σ H' l' => q ρ' σ H' (l.trans l')
  | ret d h' => exact fun ρ' v H' l' => q ρ' v H' (l.trans l')
  | exc C fs σ h' => exact fun ρ' σ H' d l' => q ρ' σ H' d (l.trans l')
  | bad => exact q
/-- an expression, then the rest of the statement -/
def bindS {α : Type} (r : R α) (σ : Env) (f : α → Hd → SR) : SR := match r with
  | .ok a h => f a h
  | .exc C fs h => .exc C fs σ h
  | .bad => .bad
theorem SQ.bind {α β : Type} {RR : Hp → Rh → α → β → Prop} {r : R α} {σd : Env} {σ : St} {f : α → Hd → SR} {E : Ends} {Q1 : β → Hp → Prop} (rh : RH K ρ h H) (rs : RS K H ρ σd σ)
    (q : SQ K W ρ H (bindS r σd f) E) (hk : ∀ ρ1 x H1 a h1, Le ρ ρ1 H H1 → RH K ρ1 h1 H1 → RR H1 ρ1 a x → SQ K W ρ1 H1 (f a h1) E → Q1 x H1) : TQ RR K (fun c d H' => W c d σ H') ρ H r Q1 := by
  cases r with
  | ok a h' => exact fun ρ' v H' l rh rv => hk ρ' v H' a h' l rh rv (SQ.le l q)
  | exc C fs h' => exact fun ρ' H' d l rh' rx => q ρ' σ H' d l rh' (rs.le l rh) rx
  | bad => exact q
theorem RS.set {σd : Env} {σ : St} {d : D} {v : V} (rs : RS K H ρ σd σ) (i : Nat) (rv : RV K H ρ d v) : RS K H ρ (σd.set i (some d)) (σ.set i (some v)) := by
  refine ⟨by simp [rs.len], fun j e he => ?_⟩
  by_cases hj : i = j
  · subst hj
    have hi : i < σd.length := by
      have := (List.getElem?_eq_some_iff.mp he).1
      simpa using this
    rw [List.getElem?_set_self hi] at he
    cases he
    exact ⟨v, List.getElem?_set_self (by rw [← rs.len]; exact hi), rv⟩
  · rw [List.getElem?_set_ne hj] at he
    rw [List.getElem?_set_ne hj]
    exact rs.get j e he
end
/-! ### the combinators -/
def sNext : S := fun σ h => .nx σ h
def sBrk : S := fun σ h => .brk σ h
def sCont : S := fun σ h => .ct σ h
def sSeq (a b : S) : S := fun σ h => match a σ h with
  | .nx σ1 h1 => b σ1 h1
  | r => r
def sDrop (e : E) : S := fun σ h => bindS (e σ h) σ fun _ h1 => .nx σ h1
def sRet (e : E) : S := fun σ h => bindS (e σ h) σ fun d h1 => .ret d h1
def sRetN : S := fun σ h => .ret .non h
def sIf (c : ET) (a b : S) : S := fun σ h => bindS (c σ h) σ fun x h1 => if x then a σ h1 else b σ h1
def sSet (i : Nat) (e : E) : S := fun σ h => bindS (e σ h) σ fun d h1 => .nx (σ.set i (some d)) h1
/-- a target that is no name -/
abbrev G := D → Env → Hd → R Env
def sAsg (e : E) (g : G) : S := fun σ h => bindS (e σ h) σ fun d h1 => bindS (g d σ h1) σ fun σ2 h2 => .nx σ2 h2
def sNever : S := fun _ _ => .bad
section
variable {X : Cx} {W : WX} {e a b c : Expr} {st : Stmt} {sts rest : List Stmt} {ma mb : E} {ta : ET} {ms ma' mb' : S} {pos : Pos}
theorem css_nil : CSs X W [] sNext := pss_nil.imp fun D σ H ⟨ρ, σd, h, rh, rs, q⟩ => q ρ σ H .refl rh rs
theorem css_cons (h1 : CS X W st ma') (h2 : CSs X W rest mb') : CSs X W (st :: rest) (sSeq ma' mb') := (pss_cons h1 h2).imp fun D σ H ⟨ρ, σd, h, rh, rs, q⟩ => by
  refine ⟨ρ, σd, h, rh, rs, ?_⟩
  unfold sSeq at q
  cases r : ma' σd h with
  | nx σ1 h1 => rw [r] at q; exact fun ρ' σ' H' l rh' rs' => ⟨ρ', σ1, h1, rh', rs', SQ.le l q⟩
  | _ => rw [r] at q; exact q
theorem css_one (h1 : CS X W st ma') : CSs X W [st] ma' := pss_one h1
theorem cs_pass : CS X W (.Pass pos) sNext := ps_pass.imp fun D σ H ⟨ρ, σd, h, rh, rs, q⟩ => q ρ σ H .refl rh rs
theorem cs_break : CS X W (.Break pos) sBrk := ps_break.imp fun D σ H ⟨ρ, σd, h, rh, rs, q⟩ => q ρ σ H .refl rh rs
theorem cs_continue : CS X W (.Continue pos) sCont := ps_continue.imp fun D σ H ⟨ρ, σd, h, rh, rs, q⟩ => q ρ σ H .refl rh rs
theorem cs_never : CS X W st sNever := ps_never.imp fun D σ H ⟨ρ, σd, h, rh, rs, q⟩ => q
theorem css_never : CSs X W sts sNever := pss_never.imp fun D σ H ⟨ρ, σd, h, rh, rs, q⟩ => q
theorem cs_doc {x j pos pos'} : CS X W (.Expr (.Constant (.str x) j pos) pos') sNext := ps_doc.imp fun D σ H ⟨ρ, σd, h, rh, rs, q⟩ => q ρ σ H .refl rh rs
theorem cs_expr (he : CE X W e ma) (hs : swapsWith e none pos.line X.env = pure false := by rfl) : CS X W (.Expr e pos) (sDrop ma) := (ps_expr he hs).imp fun D σ H ⟨ρ, σd, h, rh, rs, q⟩ =>
  ⟨ρ, σd, h, rh, rs, SQ.bind rh rs q fun ρ1 x H1 a h1 l1 rh1 rv1 q1 => q1 ρ1 σ H1 .refl rh1 (rs.le l1 rh)⟩
theorem cs_ret (he : CE X W e ma) : CS X W (.Return (some e) pos) (sRet ma) := (ps_ret he).imp fun D σ H ⟨ρ, σd, h, rh, rs, q⟩ =>
  ⟨ρ, σd, h, rh, rs, SQ.bind rh rs q fun ρ1 x H1 a h1 l1 rh1 rv1 q1 => q1 ρ1 x H1 .refl rh1 rv1⟩
theorem cs_retN : CS X W (.Return none pos) sRetN := ps_retN.imp fun D σ H ⟨ρ, σd, h, rh, rs, q⟩ => q ρ .non H .refl rh rfl
theorem cs_if {sa sb : List Stmt} (hc : CT X W c ta) (ha : CSs X W sa ma') (hb : CSs X W sb mb') : CS X W (.If c sa sb pos) (sIf ta ma' mb') := (ps_if hc ha hb).imp fun D σ H ⟨ρ, σd, h, rh, rs, q⟩ =>
  ⟨ρ, σd, h, rh, rs, SQ.bind rh rs q fun ρ1 x H1 a h1 l1 rh1 rv1 q1 => by
    cases rv1
    cases x with
    | true => exact iteT ⟨ρ1, σd, h1, rh1, rs.le l1 rh, q1⟩
    | false => exact iteF ⟨ρ1, σd, h1, rh1, rs.le l1 rh, q1⟩⟩
theorem cs_set {i : Nat} {x : Str} {pos' : Pos} (hN : X.N.Nodup) (hi : X.N[i]? = some x) (hx : Loc X.env.scope x) (he : CE X W e ma) (hs : swapsWith e (some (.Name x pos')) pos.line X.env = pure false := by rfl)
    (hf : X.fn x = true ∨ X.env.scope.names.lookup x = some .local := by first | exact .inl rfl | exact .inr rfl | assumption) : CS X W (.Assign [.Name x pos'] e pos) (sSet i ma) := (ps_set hN hi hx he hs hf).imp fun D σ H ⟨ρ, σd, h, rh, rs, q⟩ =>
  ⟨ρ, σd, h, rh, rs, SQ.bind rh rs q fun ρ1 x H1 a h1 l1 rh1 rv1 q1 => q1 ρ1 _ H1 .refl rh1 ((rs.le l1 rh).set i rv1)⟩
/-! ### targets -/
def RE (K : PySem.W.Frag) : Hp → Rh → Env → St → Prop := fun H ρ σd σ => RS K H ρ σd σ
def tTg (K : PySem.W.Frag) (W : WX) (g : G) : TG := fun v σ H Q => ∃ ρ σd h d, RH K ρ h H ∧ RS K H ρ σd σ ∧ RV K H ρ d v ∧ TQ (RE K) K (fun c d H' => W c d σ H') ρ H (g d σd h) Q
abbrev CG (X : Cx) (W : WX) (e : Expr) (g : G) : Prop := PG X e (tTg X.K W g)
theorem _root_.L2.PG.imp {t t' : TG} (h : PG X e t) (i : ∀ v σ H Q, t' v σ H Q → t v σ H Q) : PG X e t' := ⟨fun pins s σ H v u Q I r q => h.run pins s σ H v u Q I r (i v σ H Q q)⟩
theorem cs_asg {tg : Expr} {g : G} (he : CE X W e ma) (hg : CG X W tg g) (hs : swapsWithSole [tg] e pos.line X.env = pure false := by rfl) (hw : swappedStores [tg] e X.env = pure none := by rfl)
    (h1 : (assignEach [tg] X.env).map (·.2) = [assign tg X.env] := by rfl) : CS X W (.Assign [tg] e pos) (sAsg ma g) := (ps_asg he hg hs hw h1).imp fun D σ H ⟨ρ, σd, h, rh, rs, q⟩ =>
  ⟨ρ, σd, h, rh, rs, SQ.bind rh rs q fun ρ1 x H1 a h1 l1 rh1 rv1 q1 => ⟨ρ1, σd, h1, a, rh1, rs.le l1 rh, rv1, SQ.bind rh1 (rs.le l1 rh) q1 fun ρ2 σ2 H2 σd2 h2 l2 rh2 rs2 q2 => q2 ρ2 σ2 H2 .refl rh2 rs2⟩⟩
/-- names and tuples of names: what the target does with the slots alone -/
def Pat (K : PySem.W.Frag) (g : TG) (a : D → Env → Option Env) (vs : List Nat) : Prop := ∀ (ρ : Rh) (h : Hd) (H : Hp) (σ : St) (σd : Env) (d : D) (v : V) (σd' : Env) (Q : St → Hp → Prop), RH K ρ h H → RS K H ρ σd σ → RV K H ρ d v → a d σd = some σd' →
  (∀ σ', RS K H ρ σd' σ' → σ'.length = σ.length → (∀ i : Nat, i ∉ vs → σ'[i]? = σ[i]?) → Q σ' H) → g v σ H Q
def Pats (K : PySem.W.Frag) (g : TGs) (a : List D → Env → Option Env) (vs : List Nat) : Prop := ∀ (ρ : Rh) (h : Hd) (H : Hp) (σ : St) (σd : Env) (ds : List D) (us : List V) (σd' : Env) (Q : St → Hp → Prop), RH K ρ h H → RS K H ρ σd σ → RVs K H ρ ds us → a ds σd = some σd' →
  (∀ σ', RS K H ρ σd' σ' → σ'.length = σ.length → (∀ i : Nat, i ∉ vs → σ'[i]? = σ[i]?) → Q σ' H) → g us σ H Q
def aNm (i : Nat) : D → Env → Option Env := fun d σ => some (σ.set i (some d))
def aNil : List D → Env → Option Env := fun ds σ => match ds with
  | [] => some σ
  | _ => none
def aCons (a : D → Env → Option Env) (r : List D → Env → Option Env) : List D → Env → Option Env := fun ds σ => match ds with
  | d :: ds => (a d σ).bind (r ds)
  | [] => none
def aTup (r : List D → Env → Option Env) : D → Env → Option Env := fun d σ => match d with
  | .tup xs => r xs σ
  | _ => none
theorem pat_nm {K : PySem.W.Frag} (i : Nat) : Pat K (gName i) (aNm i) [i] := fun ρ h H σ σd d v σd' Q rh rs rv e k => by
  cases e
  refine k _ (rs.set i rv) (by simp) fun j hj => ?_
  rw [List.getElem?_set_ne (by intro z; apply hj; simp [z])]
theorem pats_nil {K : PySem.W.Frag} : Pats K gNil aNil [] := fun ρ h H σ σd ds us σd' Q rh rs rv e k => by
  cases ds with
  | nil => cases e; exact ⟨rv, k σ rs rfl fun _ _ => rfl⟩
  | cons x xs => cases e
theorem pats_cons {K : PySem.W.Frag} {g : TG} {gs : TGs} {a : D → Env → Option Env} {r : List D → Env → Option Env} {vs us : List Nat} (h1 : Pat K g a vs) (h2 : Pats K gs r us) : Pats K (gCons g gs) (aCons a r) (vs ++ us) := fun ρ h H σ σd ds ws σd' Q rh rs rv e k => by
  cases ds with
  | nil => cases e
  | cons d ds =>
    obtain ⟨v, t, rfl, q1, q2⟩ := rv
    cases e1 : a d σd with
    | none => simp [aCons, e1] at e
    | some σ1 =>
      refine ⟨v, t, rfl, h1 ρ h H σ σd d v σ1 _ rh rs q1 e1 fun σ' rs' hl ho => ?_⟩
      refine h2 ρ h H σ' σ1 ds t σd' Q rh rs' q2 (by simpa [aCons, e1] using e) fun σ2 rs2 hl2 ho2 => ?_
      exact k σ2 rs2 (hl2.trans hl) fun i hi => (ho2 i fun z => hi (List.mem_append.mpr (.inr z))).trans (ho i fun z => hi (List.mem_append.mpr (.inl z)))
theorem rvs_sq {K : PySem.W.Frag} {H : Hp} {ρ : Rh} {xs : List D} {ys : List V} (q : RVs K H ρ xs ys) : xs.length = ys.length := RVs.len q
theorem pats_len {r : List D → Env → Option Env} {n : Nat} : True := trivial
theorem pat_tup {K : PySem.W.Frag} {gs : TGs} {r : List D → Env → Option Env} {vs : List Nat} {n : Nat} (h : Pats K gs r vs) (hn : ∀ ds σ σ', r ds σ = some σ' → ds.length = n) : Pat K (gTup K n gs) (aTup r) vs := fun ρ hd H σ σd d v σd' Q rh rs rv e k => by
  cases d with
  | tup xs =>
    obtain ⟨a, ws, e1, q1, q2⟩ := rv
    exact ⟨a, ws, e1, q1, by rw [← RVs.len q2]; exact hn _ _ _ e, h ρ hd H σ σd xs ws σd' Q rh rs q2 e k⟩
  | _ => cases e
theorem aNil_len : ∀ ds σ σ', aNil ds σ = some σ' → ds.length = 0 := fun ds σ σ' e => by
  cases ds with
  | nil => rfl
  | cons _ _ => cases e
theorem aCons_len {a : D → Env → Option Env} {r : List D → Env → Option Env} {n : Nat} (h : ∀ ds σ σ', r ds σ = some σ' → ds.length = n) : ∀ ds σ σ', aCons a r ds σ = some σ' → ds.length = n + 1 := fun ds σ σ' e => by
  cases ds with
  | nil => cases e
  | cons d ds =>
    cases e1 : a d σ with
    | none => simp [aCons, e1] at e
    | some σ1 => rw [List.length_cons, h ds σ1 σ' (by simpa [aCons, e1] using e)]
def gPat (a : D → Env → Option Env) : G := fun d σ h => ofO (a d σ) h
theorem cg_pat {g : TG} {a : D → Env → Option Env} {vs : List Nat} (hg : PG X e g) (hp : Pat X.K g a vs) : CG X W e (gPat a) := hg.imp fun v σ H Q ⟨ρ, σd, h, d, rh, rs, rv, q⟩ => by
  unfold gPat at q
  cases e1 : a d σd with
  | none => rw [e1] at q; exact q.elim
  | some σ1 =>
    rw [e1] at q
    exact hp ρ h H σ σd d v σ1 Q rh rs rv e1 fun σ' rs' _ _ => q ρ σ' H .refl rh rs'
end
end Mi
/-! Mi4: loops, comprehensions, calls, defs. -/
namespace Mi
open PySem L2
mutual
def D.beq : D → D → Bool
  | .non, .non => true
  | .bl a, .bl b => a == b
  | .int a, .int b => a == b
  | .str a, .str b => decide (a = b)
  | .byt a, .byt b => decide (a = b)
  | .ty a, .ty b => a == b
  | .adr a, .adr b => a == b
  | .ref a, .ref b => a == b
  | .tup a, .tup b => beqL a b
  | .tmp a, .tmp b => beqL a b
  | .kls a, .kls b => beqL a b
  | .dtm k a, .dtm j b => decide (k = j) && beqL a b
  | .xcp a C d ns xs, .xcp a' C' d' ns' xs' => a == a' && C == C' && d == d' && decide (ns = ns') && beqL xs xs'
  | _, _ => false
def beqL : List D → List D → Bool
  | [], [] => true
  | a :: as, b :: bs => D.beq a b && beqL as bs
  | _, _ => false
end
mutual
theorem D.beq_of : ∀ (a b : D), D.beq a b = true → a = b
  | .non, b, h => by cases b <;> first | rfl | cases h
  | .bl a, b, h => by cases b <;> first | (cases h; done) | skip
                      simp [D.beq] at h; rw [h]
  | .int a, b, h => by cases b <;> first | (cases h; done) | skip
                       simp [D.beq] at h; rw [h]
  | .str a, b, h => by cases b <;> first | (cases h; done) | skip
                       simp [D.beq] at h; rw [h]
  | .byt a, b, h => by cases b <;> first | (cases h; done) | skip
                       simp [D.beq] at h; rw [h]
  | .ty a, b, h => by cases b <;> first | (cases h; done) | skip
                      simp [D.beq] at h; rw [h]
  | .adr a, b, h => by cases b <;> first | (cases h; done) | skip
                       simp [D.beq] at h; rw [h]
  | .ref a, b, h => by cases b <;> first | (cases h; done) | skip
                       simp [D.beq] at h; rw [h]
  | .tup a, b, h => by cases b <;> first | (cases h; done) | skip
                       simp [D.beq] at h; rw [beqL_of _ _ h]
  | .tmp a, b, h => by cases b <;> first | (cases h; done) | skip
                       simp [D.beq] at h; rw [beqL_of _ _ h]
  | .kls a, b, h => by cases b <;> first | (cases h; done) | skip
                       simp [D.beq] at h; rw [beqL_of _ _ h]
  | .dtm k a, b, h => by cases b <;> first | (cases h; done) | skip
                         simp [D.beq] at h; rw [h.1, beqL_of _ _ h.2]
  | .xcp a C d ns xs, b, h => by cases b <;> first | (cases h; done) | skip
                                 simp [D.beq] at h; rw [h.1.1.1.1, h.1.1.1.2, h.1.1.2, h.1.2, beqL_of _ _ h.2]
theorem beqL_of : ∀ (a b : List D), beqL a b = true → a = b
  | [], b, h => by cases b <;> first | rfl | cases h
  | a :: as, b, h => by
    cases b with
    | nil => cases h
    | cons b bs =>
      simp [beqL] at h
      rw [D.beq_of a b h.1, beqL_of as bs h.2]
end
mutual
theorem D.beq_self : ∀ a : D, D.beq a a = true
  | .non => rfl
  | .bl _ => by simp [D.beq]
  | .int _ => by simp [D.beq]
  | .str _ => by simp [D.beq]
  | .byt _ => by simp [D.beq]
  | .ty _ => by simp [D.beq]
  | .adr _ => by simp [D.beq]
  | .ref _ => by simp [D.beq]
  | .tup a => by simp [D.beq, beqL_self a]
  | .tmp a => by simp [D.beq, beqL_self a]
  | .kls a => by simp [D.beq, beqL_self a]
  | .dtm k a => by simp [D.beq, beqL_self a]
  | .xcp _ _ _ _ a => by simp [D.beq, beqL_self a]
theorem beqL_self : ∀ a : List D, beqL a a = true
  | [] => rfl
  | a :: as => by simp [beqL, D.beq_self a, beqL_self as]
end
/-! ### what is walked -/
/-- as Le, where new addresses may be hidden -/
structure Lz (ρ ρ' : Rh) (H H' : Hp) : Prop where
  ext : ∃ more, ρ'.c = ρ.c ++ more ∧ ∀ a ∈ more, H a = none ∧ a ∉ ρ.c
  zex : ∃ mz, ρ'.z = mz ++ ρ.z ∧ ∀ a ∈ mz, H a = none
  fr : ∀ b o, b ∉ ρ.c → H b = some o → H' b = some o
  fz : ∀ b o u, H b = some (.frz o u) → H' b = some (.frz o u)
theorem Le.lz {ρ ρ' : Rh} {H H' : Hp} (l : Le ρ ρ' H H') : Lz ρ ρ' H H' := by
  obtain ⟨m, rfl, hm⟩ := l.ext
  exact ⟨⟨m, rfl, hm⟩, ⟨[], rfl, fun _ h => nomatch h⟩, l.fr, l.fz⟩
theorem Lz.keep {ρ ρ1 : Rh} {H H1 : Hp} (a : Lz ρ ρ1 H H1) {n : Nat} {c : Addr} (e : ρ.c[n]? = some c) : ρ1.c[n]? = some c := by
  obtain ⟨m, h, _⟩ := a.ext
  rw [h, List.getElem?_append_left (List.getElem?_eq_some_iff.mp e).1]
  exact e
theorem Lz.no {ρ ρ1 : Rh} {H H1 : Hp} (a : Lz ρ ρ1 H H1) {c : Addr} {o : HO} (e : H c = some o) (hc : ρ.no c) : ρ1.no c := by
  obtain ⟨m, h, hm⟩ := a.ext
  obtain ⟨mz, hz, hmz⟩ := a.zex
  refine ⟨fun hx => ?_, fun hx => ?_⟩
  · rw [h] at hx
    rcases List.mem_append.mp hx with z | z
    · exact hc.1 z
    · rw [(hm c z).1] at e; cases e
  · rw [hz] at hx
    rcases List.mem_append.mp hx with z | z
    · rw [hmz c z] at e; cases e
    · exact hc.2 z
theorem Lz.mo {K : PySem.W.Frag} {ρ ρ' : Rh} {H H' : Hp} {h : Hd} (l : Lz ρ ρ' H H') (r : RH K ρ h H) : Mo K ρ ρ' H H' where
  tup := fun a xs q => by
    rcases q with (q | ⟨o, q⟩) | q
    · exact .inl (.inl (l.fr a _ (fun z => (r.notTup z).1 _ q) q))
    · exact .inl (.inr ⟨o, l.fr a _ (fun z => (r.notTup z).2 _ _ q) q⟩)
    · exact .inr q
  lst := fun a xs n q => ⟨l.fr a _ n.1 q, l.no q n⟩
  dct := fun a o xs n q => ⟨l.fr a _ n.1 q, l.no q n⟩
  xdd := fun a xs n q => ⟨l.fr a _ n.1 q, l.no q n⟩
  cell := fun n a e => l.keep e
structure Itm where
  xs : List D
  gd : Hd → Bool
def RI (K : PySem.W.Frag) : Hp → Rh → Itm → It → Prop := fun H0 ρ0 itm J => ∀ (ρ : Rh) (h : Hd) (H : Hp), Lz ρ0 ρ H0 H → RH K ρ h H → itm.gd h = true → ∀ i : Nat, (itm.xs.length ≤ i → J.stop i H) ∧
  ∀ d, itm.xs[i]? = some d → J.go i H ∧ ∀ x H', J.yld i H x H' → Le ρ ρ H H' ∧ RH K ρ h H' ∧ RV K H' ρ d x
abbrev EI := Env → Hd → R Itm
def tI (K : PySem.W.Frag) (W : WX) (m : EI) : TI := fun σ H Q => ∃ ρ σd h, RH K ρ h H ∧ RS K H ρ σd σ ∧ TQ (RI K) K (fun c d H' => W c d σ H') ρ H (m σd h) Q
abbrev CI (X : Cx) (W : WX) (tg e : Expr) (m : EI) : Prop := PI X tg e (tI X.K W m)
theorem _root_.L2.PI.imp {X : Cx} {tg e : Expr} {t t' : TI} (h : PI X tg e t) (i : ∀ σ H Q, t' σ H Q → t σ H Q) : PI X tg e t' := ⟨fun pins s σ H Q I q => h.run pins s σ H Q I (i σ H Q q)⟩
theorem _root_.L2.PI.or {X : Cx} {tg e : Expr} {t t' : TI} (h : PI X tg e t) (h' : PI X tg e t') : PI X tg e (fun σ H Q => t σ H Q ∨ t' σ H Q) := ⟨fun pins s σ H Q I q => q.elim (h.run pins s σ H Q I) (h'.run pins s σ H Q I)⟩
def always : Hd → Bool := fun _ => true
def stays (n : Nat) (xs : List D) : Hd → Bool := fun h => match asL h (.ref n) with
  | some ys => beqL ys xs
  | none => false
theorem stays_of {n : Nat} {xs : List D} {h : Hd} (q : stays n xs h = true) : asL h (.ref n) = some xs := by
  unfold stays at q
  split at q
  · next e => rw [e, beqL_of _ _ q]
  · cases q
/-- a row as it may be walked: lists, tuples -/
def itOf (h : Hd) (d : D) : Option Itm := match d with
  | .tup xs => some ⟨xs, always⟩
  | .tmp xs => some ⟨xs, always⟩
  | .ref n => (asL h (.ref n)).map fun xs => ⟨xs, stays n xs⟩
  | _ => none
def isTup : D → Bool
  | .tup _ => true
  | _ => false
def iSeq (a : E) : EI := fun σ h => (a σ h).bind fun d h1 => ofO (itOf h1 d) h1
section
variable {X : Cx} {W : WX} {e tg : Expr} {ma : E} {K : PySem.W.Frag} {ρ ρ1 : Rh} {H H1 : Hp} {h h1 : Hd} {d : D} {v : V}
theorem sqL_le (l : Le ρ ρ1 H H1) {a : Addr} {xs : List V} (n : a ∉ ρ.c) (q : SqL K H a xs) : SqL K H1 a xs := by
  rcases q with (q | ⟨o, q⟩) | q
  · exact .inl (.inl (l.fr a _ n q))
  · exact .inl (.inr ⟨o, l.fr a _ n q⟩)
  · exact .inr q
theorem ri_tup {a : Addr} {xs : List D} {vs : List V} (rh : RH K ρ h H) (q : SqT K H a vs) (rv : RVs K H ρ xs vs) : RI K H ρ ⟨xs, always⟩ (Itt K a) := fun ρ1 h1 H1 l rh1 _ i => by
  have q1 : SqT K H1 a vs := (l.mo rh).tup a vs q
  have rv1 := RVs.mo (l.mo rh) _ _ rv
  refine ⟨fun hi => ⟨vs, q1, by rw [← RVs.len rv1]; exact hi⟩, fun d hd => ?_⟩
  obtain ⟨v, e1, r1⟩ := RVs.get rv1 hd
  refine ⟨⟨vs, v, q1, e1⟩, fun x H' ⟨e2, e3⟩ => ?_⟩
  subst e2
  have := e3 vs q1
  rw [e1] at this
  cases this
  exact ⟨.refl, rh1, r1⟩
theorem ri_tmp {a : Addr} {xs : List D} {vs : List V} (rh : RH K ρ h H) (q : H a = some (.lst vs)) (n : a ∉ ρ.c) (rv : RVs K H ρ xs vs) {g : Hd → Bool} : RI K H ρ ⟨xs, g⟩ (Itl K a) := fun ρ1 h1 H1 l rh1 _ i => by
  have q1 : SqL K H1 a vs := .of (l.fr a _ n q)
  have rv1 := RVs.mo (l.mo rh) _ _ rv
  refine ⟨fun hi => ⟨vs, q1, by rw [← RVs.len rv1]; exact hi⟩, fun d hd => ?_⟩
  obtain ⟨v, e1, r1⟩ := RVs.get rv1 hd
  refine ⟨⟨vs, v, q1, e1⟩, fun x H' ⟨e2, e3⟩ => ?_⟩
  subst e2
  have := e3 vs q1
  rw [e1] at this
  cases this
  exact ⟨.refl, rh1, r1⟩
theorem ri_cell {a : Addr} {xs : List D} {n : Nat} (e : ρ.c[n]? = some a) : RI K H ρ ⟨xs, stays n xs⟩ (Itl K a) := fun ρ1 h1 H1 l rh1 g i => by
  have e' := stays_of g
  obtain ⟨p, vs, ep, q1, rv1⟩ := asL_of (v := .ref a) e' rh1 ⟨a, l.keep e, rfl⟩
  cases ep
  refine ⟨fun hi => ⟨vs, q1, by rw [← RVs.len rv1]; exact hi⟩, fun d hd => ?_⟩
  obtain ⟨v, e1, r1⟩ := RVs.get rv1 hd
  refine ⟨⟨vs, v, q1, e1⟩, fun x H' ⟨e2, e3⟩ => ?_⟩
  subst e2
  have := e3 vs q1
  rw [e1] at this
  cases this
  exact ⟨.refl, rh1, r1⟩
theorem TQ.bad_elim {α β : Type} {RR : Hp → Rh → α → β → Prop} {W : Value → Option Addr → Hp → Prop} {Q : β → Hp → Prop} (q : TQ RR K W ρ H (.bad : R α) Q) : False := q
theorem ci_seq (he : CE X W e ma) : CI X W tg e (iSeq ma) := ((pi_list he).or (pi_tup he)).imp fun σ H Q ⟨ρ, σd, h, rh, rs, q⟩ => by
  have q0 := q
  cases r : ma σd h with
  | bad => unfold iSeq at q; rw [r] at q; exact q.elim
  | exc C fs h1 =>
    refine .inl ⟨ρ, σd, h, rh, rs, ?_⟩
    unfold iSeq at q
    rw [r] at q ⊢
    exact q
  | ok d h1 =>
    unfold iSeq at q
    rw [r] at q
    cases ht : isTup d with
    | true =>
      refine .inr ⟨ρ, σd, h, rh, rs, ?_⟩
      rw [r]
      intro ρ1 v H1 l1 rh1 rv1
      cases d with
      | tup xs =>
        obtain ⟨a, vs, e, t, rv⟩ := rv1
        exact ⟨a, e, ⟨vs, t⟩, q ρ1 (Itt X.K a) H1 l1 rh1 (ri_tup rh1 t rv)⟩
      | _ => cases ht
    | false =>
      refine .inl ⟨ρ, σd, h, rh, rs, ?_⟩
      rw [r]
      intro ρ1 v H1 l1 rh1 rv1
      cases d with
      | tmp xs =>
        obtain ⟨a, vs, e, t, n, rv⟩ := rv1
        exact ⟨a, e, ⟨vs, .of t⟩, q ρ1 (Itl X.K a) H1 l1 rh1 (ri_tmp rh1 t n.1 rv)⟩
      | ref n =>
        cases ea : asL h1 (.ref n) with
        | none => simp only [R.bind, itOf, ea] at q; exact q.elim
        | some xs =>
          simp only [R.bind, itOf, ea] at q
          obtain ⟨p, vs, ep, q1, rv⟩ := asL_of ea rh1 rv1
          obtain ⟨a, e1, e2⟩ := rv1
          subst ep
          cases e2
          exact ⟨p, rfl, ⟨vs, q1⟩, q ρ1 (Itl X.K p) H1 l1 rh1 (ri_cell e1)⟩
      | tup xs => cases ht
      | _ => exact q.elim
/-- range(n), range(a, b) -/
def rangeD (i : Int) : Nat → List D
  | 0 => []
  | n + 1 => .int i :: rangeD (i + 1) n
theorem rangeD_len (i : Int) : ∀ n, (rangeD i n).length = n := fun n => by
  induction n generalizing i with
  | zero => rfl
  | succ n ih => rw [rangeD, List.length_cons, ih]
theorem rangeD_get : ∀ (n k : Nat) (i : Int), k < n → (rangeD i n)[k]? = some (.int (i + k))
  | 0, _, _, h => absurd h (Nat.not_lt_zero _)
  | n + 1, 0, i, _ => by rw [rangeD]; simp
  | n + 1, k + 1, i, h => by
    rw [rangeD, List.getElem?_cons_succ, rangeD_get n k (i + 1) (by omega)]
    congr 2
    omega
theorem ri_range {lo : Int} {n : Nat} : RI K H ρ ⟨rangeD lo n, always⟩ (Itr lo n) := fun ρ1 h1 H1 l rh1 _ i => by
  refine ⟨fun hi => by rw [rangeD_len] at hi; exact hi, fun d hd => ?_⟩
  have hi : i < n := by
    have := (List.getElem?_eq_some_iff.mp hd).1
    rwa [rangeD_len] at this
  rw [rangeD_get n i lo hi] at hd
  cases hd
  exact ⟨hi, fun x H' ⟨e1, e2⟩ => by subst e1; exact ⟨.refl, rh1, e2⟩⟩
def itRange1 (d : D) : Option Itm := match d with
  | .int j => if -4611686018427387904 ≤ j ∧ j < 4611686018427387904 then some ⟨rangeD 0 j.toNat, always⟩ else none
  | _ => none
def itRange2 (d e : D) : Option Itm := match d, e with
  | .int i, .int j => if -4611686018427387904 ≤ i ∧ i < 4611686018427387904 ∧ -4611686018427387904 ≤ j ∧ j < 4611686018427387904 then some ⟨rangeD i (j - i).toNat, always⟩ else none
  | _, _ => none
def iRange1 (a : E) : EI := fun σ h => (a σ h).bind fun d h1 => ofO (itRange1 d) h1
def iRange2 (a b : E) : EI := fun σ h => (a σ h).bind fun d h1 => (b σ h1).bind fun e h2 => ofO (itRange2 d e) h2
theorem ci_range1 {a : Expr} {p pos : Pos} (hg : Gl X "range") (hm : X.mg "range" = none) (ha : CE X W a ma) (hs : starEach [a] X.env = [(false, eval a X.env)] := by rfl) : CI X W tg (.Call (.Name "range" p) [a] [] pos) (iRange1 ma) :=
  (pi_range1 hg hm (pa_cons ha pa_nil hs) hs).imp fun σ H Q ⟨ρ, σd, h, rh, rs, q⟩ => ⟨ρ, σd, h, rh, rs, TQ.bind q fun ρ1 x H1 a h1 l1 rh1 rv1 q1 => by
    cases a with
    | int j =>
      simp only [itRange1] at q1
      cases rv1
      show ∃ _, _
      split at q1
      · next hj => exact ⟨j, rfl, hj.1, hj.2, q1 ρ1 (Itr 0 j.toNat) H1 .refl rh1 ri_range⟩
      · exact q1.elim
    | _ => exact q1.elim⟩
theorem ci_range2 {a b : Expr} {mb : E} {p pos : Pos} (hg : Gl X "range") (hm : X.mg "range" = none) (ha : CE X W a ma) (hb : CE X W b mb) (hs : starEach [a, b] X.env = [(false, eval a X.env), (false, eval b X.env)] := by rfl) (hs2 : starEach [b] X.env = [(false, eval b X.env)] := by rfl) :
    CI X W tg (.Call (.Name "range" p) [a, b] [] pos) (iRange2 ma mb) :=
  (pi_range2 hg hm (pa_cons ha (pa_cons hb pa_nil hs2) (by rw [hs, hs2])) hs hs2).imp fun σ H Q ⟨ρ, σd, h, rh, rs, q⟩ => ⟨ρ, σd, h, rh, rs, TQ.bind q fun ρ1 x H1 a h1 l1 rh1 rv1 q1 => ⟨ρ1, σd, h1, rh1, rs.le l1 rh, TQ.bind q1 fun ρ2 y H2 b h2 l2 rh2 rv2 q2 => by
    cases a with
    | int i =>
      cases b with
      | int j =>
        simp only [itRange2] at q2
        cases rv1
        cases rv2
        show ∃ _, _
        split at q2
        · next hj => exact ⟨i, j, rfl, hj, q2 ρ2 (Itr i (j - i).toNat) H2 .refl rh2 ri_range⟩
        · exact q2.elim
      | _ => exact q2.elim
    | _ => exact q2.elim⟩⟩
/-! ### for -/
def forM (g : G) (b : S) (gd : Hd → Bool) : List D → Env → Hd → SR
  | [], σ, h => if gd h then .nx σ h else .bad
  | x :: xs, σ, h => if gd h then bindS (g x σ h) σ fun σ1 h1 => match b σ1 h1 with
      | .nx σ2 h2 => forM g b gd xs σ2 h2
      | .ct σ2 h2 => forM g b gd xs σ2 h2
      | .brk σ2 h2 => .nx σ2 h2
      | r => r
    else .bad
def sFor (it : EI) (g : G) (b : S) : S := fun σ h => bindS (it σ h) σ fun itm h1 => forM g b itm.gd itm.xs σ h1
theorem cs_for {iter : Expr} {body : List Stmt} {mi : EI} {g : G} {mb : S} {pos : Pos} (hp : PassesOwn (model X.prog X.w) X.A X.env X.xe) (hc : X.calm = true) (hi : CI X W tg iter mi) (hg : CG X W tg g) (hb : CSs X W body mb)
    (hs : ∀ x, foldedSetIterable iter X.env x = pure x := by intro _; rfl) : CS X W (.For tg iter body [] pos) (sFor mi g mb) := (ps_for hp hc hi hg hb hs).imp fun D σ H ⟨ρ, σd, h, rh, rs, q⟩ => by
  refine ⟨ρ, σd, h, rh, rs, SQ.bind rh rs q fun ρ1 J H1 itm h1 l1 rh1 ri q1 => ?_⟩
  refine ⟨fun i m σ' H' => ∃ ρ' σd' h', Le ρ1 ρ' H1 H' ∧ RH X.K ρ' h' H' ∧ RS X.K H' ρ' σd' σ' ∧ i ≤ itm.xs.length ∧ m = itm.xs.length - i ∧ SQ X.K W ρ' H' (forM g mb itm.gd (itm.xs.drop i) σd' h') D, ⟨_, ρ1, σd, h1, .refl, rh1, rs.le l1 rh, Nat.zero_le _, rfl, q1⟩, ?_⟩
  rintro i m σ' H' ⟨ρ', σd', h', l', rh', rs', hi', rfl, q'⟩
  cases hd : itm.xs.drop i with
  | nil =>
    rw [hd, forM] at q'
    have hl : itm.xs.length ≤ i := List.drop_eq_nil_iff.mp hd
    by_cases hgd : itm.gd h' = true
    · rw [if_pos hgd] at q'
      exact .inl ⟨(ri ρ' h' H' l'.lz rh' hgd i).1 hl, q' ρ' σ' H' .refl rh' rs'⟩
    · rw [if_neg hgd] at q'
      exact q'.elim
  | cons x xs =>
    rw [hd, forM] at q'
    have hx : itm.xs[i]? = some x := by
      have := List.getElem?_drop (xs := itm.xs) (i := i) (j := 0)
      rw [hd] at this
      simpa using this.symm
    have hxs : itm.xs.drop (i + 1) = xs := by
      rw [← List.drop_drop, hd]
      rfl
    have hlt : i < itm.xs.length := (List.getElem?_eq_some_iff.mp hx).1
    by_cases hgd : itm.gd h' = true
    · rw [if_pos hgd] at q'
      obtain ⟨hgo, hy⟩ := (ri ρ' h' H' l'.lz rh' hgd i).2 x hx
      refine .inr ⟨hgo, fun σ2 H2 => ∃ ρ2 σd2 h2, Le ρ1 ρ2 H1 H2 ∧ RH X.K ρ2 h2 H2 ∧ RS X.K H2 ρ2 σd2 σ2 ∧ SQ X.K W ρ2 H2 (forM g mb itm.gd xs σd2 h2) D, ?_, ?_⟩
      · rintro σ2 H2 ⟨ρ2, σd2, h2, l2, rh2, rs2, q2⟩
        refine ⟨itm.xs.length - (i + 1), by omega, ρ2, σd2, h2, l2, rh2, rs2, hlt, rfl, ?_⟩
        rw [hxs]
        exact q2
      · intro v H2 hyl
        obtain ⟨l2, rh2, rv2⟩ := hy v H2 hyl
        refine ⟨ρ', σd', h', x, rh2, rs'.le l2 rh', rv2, ?_⟩
        refine SQ.bind rh2 (rs'.le l2 rh') (SQ.le l2 q') fun ρ3 σ3 H3 σd3 h3 l3 rh3 rs3 q3 => ?_
        refine ⟨ρ3, σd3, h3, rh3, rs3, ?_⟩
        have lall : Le ρ1 ρ3 H1 H3 := (l'.trans l2).trans l3
        cases r : mb σd3 h3 with
        | nx σ4 h4 => rw [r] at q3; exact fun ρ4 σ' H4 l4 rh4 rs4 => ⟨ρ4, σ4, h4, lall.trans l4, rh4, rs4, SQ.le l4 q3⟩
        | ct σ4 h4 => rw [r] at q3; exact fun ρ4 σ' H4 l4 rh4 rs4 => ⟨ρ4, σ4, h4, lall.trans l4, rh4, rs4, SQ.le l4 q3⟩
        | brk σ4 h4 => rw [r] at q3; exact q3
        | ret d h4 => rw [r] at q3; exact q3
        | exc C fs σ4 h4 => rw [r] at q3; exact q3
        | bad => rw [r] at q3; exact q3
    · rw [if_neg hgd] at q'
      exact q'.elim
/-! ### while -/
def whileM (c : ET) (b : S) : Nat → Env → Hd → SR
  | 0, _, _ => .bad
  | n + 1, σ, h => bindS (c σ h) σ fun x h1 => if x then (match b σ h1 with
      | .nx σ2 h2 => whileM c b n σ2 h2
      | .ct σ2 h2 => whileM c b n σ2 h2
      | .brk σ2 h2 => .nx σ2 h2
      | r => r) else .nx σ h1
def sWhile (n : Nat) (c : ET) (b : S) : S := whileM c b n
theorem cs_while {c : Expr} {body : List Stmt} {tc : ET} {mb : S} {pos : Pos} (n : Nat) (hp : PassesOwn (model X.prog X.w) X.A X.env X.xe) (hc : CT X W c tc) (hb : CSs X W body mb) : CS X W (.While c body [] pos) (sWhile n tc mb) := (ps_while hp hc hb).imp fun D σ H ⟨ρ, σd, h, rh, rs, q⟩ => by
  refine ⟨fun m σ' H' => ∃ ρ' σd' h', RH X.K ρ' h' H' ∧ RS X.K H' ρ' σd' σ' ∧ SQ X.K W ρ' H' (whileM tc mb m σd' h') D, ⟨n, ρ, σd, h, rh, rs, q⟩, ?_⟩
  rintro m σ' H' ⟨ρ', σd', h', rh', rs', q'⟩
  cases m with
  | zero => exact q'.elim
  | succ m =>
    rw [whileM] at q'
    refine ⟨ρ', σd', h', rh', rs', SQ.bind rh' rs' q' fun ρ1 x H1 a h1 l1 rh1 rv1 q1 => ?_⟩
    cases rv1
    cases x with
    | false =>
      refine iteF ?_
      exact q1 ρ1 σ' H1 .refl rh1 (rs'.le l1 rh')
    | true =>
      refine iteT ⟨fun σ2 H2 => ∃ ρ2 σd2 h2, RH X.K ρ2 h2 H2 ∧ RS X.K H2 ρ2 σd2 σ2 ∧ SQ X.K W ρ2 H2 (whileM tc mb m σd2 h2) D, fun σ2 H2 q2 => ⟨m, Nat.lt_succ_self m, q2⟩, ρ1, σd', h1, rh1, rs'.le l1 rh', ?_⟩
      have q3 : SQ X.K W ρ1 H1 (match mb σd' h1 with
        | .nx σ2 h2 => whileM tc mb m σ2 h2
        | .ct σ2 h2 => whileM tc mb m σ2 h2
        | .brk σ2 h2 => .nx σ2 h2
        | r => r) D := q1
      cases r : mb σd' h1 with
      | nx σ4 h4 => rw [r] at q3; exact fun ρ4 σ' H4 l4 rh4 rs4 => ⟨ρ4, σ4, h4, rh4, rs4, SQ.le l4 q3⟩
      | ct σ4 h4 => rw [r] at q3; exact fun ρ4 σ' H4 l4 rh4 rs4 => ⟨ρ4, σ4, h4, rh4, rs4, SQ.le l4 q3⟩
      | brk σ4 h4 => rw [r] at q3; exact q3
      | ret d h4 => rw [r] at q3; exact q3
      | exc C fs σ4 h4 => rw [r] at q3; exact q3
      | bad => rw [r] at q3; exact q3
end
end Mi
/-! Mi5: comprehensions. -/
namespace Mi
open PySem L2
def er (H : Hp) (p : Addr) : Hp := fun b => if b = p then none else H b
theorem er_same {H : Hp} {p : Addr} : er H p p = none := by unfold er; rw [if_pos rfl]
theorem er_ne {H : Hp} {p b : Addr} (h : b ≠ p) : er H p b = H b := by unfold er; rw [if_neg h]
theorem er_some {H : Hp} {p b : Addr} {o : HO} (h : er H p b = some o) : b ≠ p ∧ H b = some o := by
  by_cases e : b = p
  · rw [e, er_same] at h; cases h
  · rw [er_ne e] at h; exact ⟨e, h⟩
theorem upd_er {H : Hp} {p : Addr} {o : HO} (h : H p = some o) : upd (er H p) p o = H := by
  funext b
  by_cases e : b = p
  · rw [e, upd_same, h]
  · rw [upd_ne e, er_ne e]
theorem er_upd {H : Hp} {p : Addr} {o : HO} (h : H p = none) : er (upd H p o) p = H := by
  funext b
  by_cases e : b = p
  · rw [e, er_same, h]
  · rw [er_ne e, upd_ne e]
theorem er_upd' {H : Hp} {p : Addr} {o : HO} : er (upd H p o) p = er H p := by
  funext b
  by_cases e : b = p
  · rw [e, er_same, er_same]
  · rw [er_ne e, upd_ne e, er_ne e]
/-- p hidden -/
def Rh.hide (ρ : Rh) (p : Addr) : Rh := ⟨ρ.c, p :: ρ.z⟩
/-- no tuple -/
def noT (u : HO) : Prop := (∀ ys, u ≠ .tup ys) ∧ ∀ o ys, u ≠ .frz o (.tup ys)
theorem noT_lst {xs : List V} : noT (.lst xs) := ⟨by simp, by simp⟩
theorem noT_dK {xs : List (Key × V)} : noT (.dK xs) := ⟨by simp, by simp⟩
section
variable {K : PySem.W.Frag} {ρ ρ' : Rh} {H H' : Hp} {h h' : Hd} {p : Addr} {u : HO}
/-- into the heap with p -/
theorem mo_in (hp : H p = some u) : Mo K ρ (ρ.hide p) (er H p) H where
  tup := fun a ys q => by
    rcases q with (q | ⟨o, q⟩) | q
    · exact .inl (.inl (er_some q).2)
    · exact .inl (.inr ⟨o, (er_some q).2⟩)
    · exact .inr q
  lst := fun a ys n q => ⟨(er_some q).2, n.1, fun z => by
    rcases List.mem_cons.mp z with z | z
    · exact (er_some q).1 z
    · exact n.2 z⟩
  dct := fun a o ys n q => ⟨(er_some q).2, n.1, fun z => by
    rcases List.mem_cons.mp z with z | z
    · exact (er_some q).1 z
    · exact n.2 z⟩
  xdd := fun a ys n q => ⟨(er_some q).2, n.1, fun z => by
    rcases List.mem_cons.mp z with z | z
    · exact (er_some q).1 z
    · exact n.2 z⟩
  cell := fun n a e => e
theorem rh_in (hp : H p = some u) (r : RH K ρ h (er H p)) : RH K (ρ.hide p) h H := by
  refine ⟨r.len, r.nd, fun a ha => ?_, fun n a u e1 e2 => ?_⟩
  · rcases List.mem_cons.mp ha with z | z
    · subst z
      exact ⟨by rw [hp]; simp, r.free er_same⟩
    · have q := r.zs a z
      have hne : a ≠ p := fun e => q.1 (by rw [e]; exact er_same)
      rw [er_ne hne] at q
      exact q
  · have q := r.obj n a u e1 e2
    have hne : a ≠ p := fun e => r.free er_same (e ▸ List.mem_of_getElem? e1)
    exact q.mo (mo_in hp) (er_ne hne).symm
/-- out of it -/
theorem mo_out (hp : H p = some u) (hu : noT u) : Mo K (ρ.hide p) ρ H (er H p) where
  tup := fun a ys q => by
    rcases q with (q | ⟨o, q⟩) | q
    · have hne : a ≠ p := fun z => by
        rw [z, hp] at q
        exact hu.1 _ (Option.some.inj q)
      refine .inl (.inl ?_)
      rw [er_ne hne]
      exact q
    · have hne : a ≠ p := fun z => by
        rw [z, hp] at q
        exact hu.2 _ _ (Option.some.inj q)
      refine .inl (.inr ⟨o, ?_⟩)
      rw [er_ne hne]
      exact q
    · exact .inr q
  lst := fun a ys n q => by
    have hne : a ≠ p := fun e => n.2 (by rw [e]; exact List.mem_cons_self)
    exact ⟨by rw [er_ne hne]; exact q, n.1, fun z => n.2 (List.mem_cons_of_mem _ z)⟩
  dct := fun a o ys n q => by
    have hne : a ≠ p := fun e => n.2 (by rw [e]; exact List.mem_cons_self)
    exact ⟨by rw [er_ne hne]; exact q, n.1, fun z => n.2 (List.mem_cons_of_mem _ z)⟩
  xdd := fun a ys n q => by
    have hne : a ≠ p := fun e => n.2 (by rw [e]; exact List.mem_cons_self)
    exact ⟨by rw [er_ne hne]; exact q, n.1, fun z => n.2 (List.mem_cons_of_mem _ z)⟩
  cell := fun n a e => e
theorem rh_out (hp : H p = some u) (hu : noT u) (r : RH K (ρ.hide p) h H) (hz : p ∉ ρ.z) : RH K ρ h (er H p) := by
  refine ⟨r.len, r.nd, fun a ha => ?_, fun n a u e1 e2 => ?_⟩
  · have hne : a ≠ p := fun e => hz (e ▸ ha)
    rw [er_ne hne]
    exact r.zs a (List.mem_cons_of_mem _ ha)
  · have q := r.obj n a u e1 e2
    have hne : a ≠ p := fun e => (r.zs p List.mem_cons_self).2 (e ▸ List.mem_of_getElem? e1)
    exact q.mo (mo_out hp hu) (er_ne hne)
theorem le_out (l : Le (ρ.hide p) ρ' H H') : ∃ ρ1 : Rh, ρ' = ρ1.hide p ∧ Le ρ ρ1 (er H p) (er H' p) := by
  obtain ⟨m, e, hm⟩ := l.ext
  refine ⟨⟨ρ.c ++ m, ρ.z⟩, e, ⟨m, rfl, fun a ha => ⟨?_, (hm a ha).2⟩⟩, fun b o hb q => ?_, fun b o u q => ?_⟩
  · unfold er
    split
    · rfl
    · exact (hm a ha).1
  · obtain ⟨hne, q⟩ := er_some q
    rw [er_ne hne]
    exact l.fr b o hb q
  · obtain ⟨hne, q⟩ := er_some q
    rw [er_ne hne]
    exact l.fz b o u q
end
def wipeD (σ : Env) : List Nat → Env
  | [] => σ
  | v :: vs => (wipeD σ vs).set v none
theorem RS.wipe {K : PySem.W.Frag} {H : Hp} {ρ : Rh} {σd : Env} {σ : St} (r : RS K H ρ σd σ) : ∀ vs : List Nat, RS K H ρ (wipeD σd vs) (wipe σ vs)
  | [] => r
  | v :: vs => by
    have ih := RS.wipe r vs
    refine ⟨by simp [wipeD, L2.wipe, ih.len], fun i d e => ?_⟩
    unfold wipeD at e
    by_cases hi : v = i
    · subst hi
      by_cases hl : v < (wipeD σd vs).length
      · rw [List.getElem?_set_self hl] at e; cases e
      · rw [List.getElem?_eq_none (by simp; omega)] at e; cases e
    · rw [List.getElem?_set_ne hi] at e
      unfold L2.wipe
      rw [List.getElem?_set_ne hi]
      exact ih.get i d e
def compM (a : D → Env → Option Env) (t : ET) (e : E) (gd : Hd → Bool) (σ : Env) : List D → Hd → R (List D)
  | [], h => if gd h then .ok [] h else .bad
  | x :: xs, h => if gd h then (match a x σ with
      | none => .bad
      | some σ1 => (t σ1 h).bind fun b h1 => if b then (e σ1 h1).bind fun d h2 => (compM a t e gd σ xs h2).bind fun r h3 => .ok (d :: r) h3 else compM a t e gd σ xs h1) else .bad
/-- nothing that is raised leaves a comprehension's block -/
def shut (r : R (List D)) : R (List D) := match r with
  | .ok xs h => if xs.length ≤ line then .ok xs h else .bad
  | _ => .bad
def lComp (it : EI) (a : D → Env → Option Env) (t : ET) (e : E) (vs : List Nat) : EL := fun σ h => (it σ h).bind fun itm h1 => shut (compM a t e itm.gd (wipeD σ vs) itm.xs h1)
def W0 : WX := fun _ _ _ _ => False
def tYesM : ET := fun _ h => .ok true h
abbrev CTs (X : Cx) (W : WX) (ifs : List Expr) (m : ET) : Prop := PTs X ifs (tT X.K W m)
theorem _root_.L2.PTs.imp {X : Cx} {ifs : List Expr} {t t' : TT} (h : PTs X ifs t) (i : ∀ σ H Q, t' σ H Q → t σ H Q) : PTs X ifs t' := ⟨fun pins s σ H Q I q => h.run pins s σ H Q I (i σ H Q q)⟩
theorem cts_nil {X : Cx} {W : WX} : CTs X W [] tYesM := pts_nil.imp fun σ H Q ⟨ρ, σd, h, rh, rs, q⟩ => q ρ true H .refl rh rfl
theorem cts_one {X : Cx} {W : WX} {c : Expr} {m : ET} (h : CT X W c m) : CTs X W [c] m := pts_one h
/-- slots off the pattern's own stay -/
theorem wipe_same {σ σ' : St} {vs us : List Nat} (hl : σ'.length = σ.length) (h : ∀ i : Nat, i ∉ us → σ'[i]? = (wipe σ vs)[i]?) (hs : ∀ i ∈ us, i ∈ vs) (hle : (wipe σ vs).length = σ'.length) : wipe σ' vs = wipe σ vs := by
  apply List.ext_getElem?
  intro i
  by_cases hi : i ∈ vs
  · have gone : ∀ (τ : St) (ws : List Nat), i ∈ ws → i < τ.length → (wipe τ ws)[i]? = some none := fun τ ws => by
      induction ws with
      | nil => intro h; cases h
      | cons w ws ih =>
        intro hm hlt
        unfold L2.wipe
        by_cases hw : w = i
        · subst hw
          rw [List.getElem?_set_self (by rw [wipe_length]; exact hlt)]
        · rw [List.getElem?_set_ne hw]
          exact ih (by rcases List.mem_cons.mp hm with z | z; exact absurd z.symm hw; exact z) hlt
    by_cases hlt : i < σ.length
    · rw [gone σ' vs hi (by rw [hl]; exact hlt), gone σ vs hi hlt]
    · rw [List.getElem?_eq_none (by rw [wipe_length, hl]; omega), List.getElem?_eq_none (by rw [wipe_length]; omega)]
  · rw [wipe_out hi, h i fun z => hi (hs i z)]
section
variable {X : Cx} {W : WX}
theorem lc_read {K : PySem.W.Frag} {mi : EI} {g : TG} {a : D → Env → Option Env} {us vs : List Nat} {tt : ET} {me : E} (hp : Pat K g a us) (hus : ∀ i ∈ us, i ∈ vs) {σ : St} {H : Hp} {Q : VK} (q : tL K W (lComp mi a tt me vs) σ H Q) : tLc (tI K W mi) g (tT K W0 tt) (tE K W0 me) vs σ H Q := by
  obtain ⟨ρ, σd, h, rh, rs, q⟩ := q
  refine ⟨ρ, σd, h, rh, rs, LQ.bind q fun ρ1 J H1 itm h1 l1 rh1 ri q1 => fun p hp1 => ?_⟩
  cases hr : compM a tt me itm.gd (wipeD σd vs) itm.xs h1 with
  | bad => rw [hr] at q1; exact q1.elim
  | exc C fs h2 => rw [hr] at q1; exact q1.elim
  | ok full hF =>
    rw [hr, shut] at q1
    by_cases hlen : full.length ≤ line
    case neg => rw [if_neg hlen] at q1; exact q1.elim
    rw [if_pos hlen] at q1
    have hz1 : p ∉ ρ1.z := (rh1.no hp1).2
    refine ⟨fun i m H' => ∃ ρ' h' acc vs' r, Le ρ1 ρ' H1 (er H' p) ∧ RH K ρ' h' (er H' p) ∧ H' p = some (.lst vs') ∧ RVs K (er H' p) ρ' acc vs' ∧ i ≤ itm.xs.length ∧ m = itm.xs.length - i ∧
      compM a tt me itm.gd (wipeD σd vs) (itm.xs.drop i) h' = .ok r hF ∧ full = acc ++ r, ⟨_, ρ1, h1, [], [], full, by rw [er_upd hp1]; exact .refl, by rw [er_upd hp1]; exact rh1, upd_same, rfl, Nat.zero_le _, rfl, hr, rfl⟩, ?_⟩
    rintro i m H' ⟨ρ', h', acc, vs', r, l', rh', hp', rv', hi', rfl, hr', hfull⟩
    have hz' : p ∉ ρ'.z := by obtain ⟨mm, rfl, _⟩ := l'.ext; exact hz1
    have rhI := rh_in hp' rh'
    have lz : Lz ρ1 (ρ'.hide p) H1 H' := by
      obtain ⟨mm, rfl, hm⟩ := l'.ext
      exact ⟨⟨mm, rfl, hm⟩, ⟨[p], rfl, fun b hb => by rw [show b = p by simpa using hb]; exact hp1⟩, fun b o hb e => (er_some (l'.fr b o hb e)).2, fun b o u e => (er_some (l'.fz b o u e)).2⟩
    have rsI : RS K H' (ρ'.hide p) (wipeD σd vs) (wipe σ vs) := (((rs.le l1 rh).le l' rh1).mo (mo_in hp')).wipe _
    cases hd : itm.xs.drop i with
    | nil =>
      rw [hd, compM] at hr'
      have hl : itm.xs.length ≤ i := List.drop_eq_nil_iff.mp hd
      by_cases hgd : itm.gd h' = true
      · rw [if_pos hgd] at hr'
        cases hr'
        refine .inl ⟨(ri (ρ'.hide p) _ H' lz rhI hgd i).1 hl, ?_⟩
        have := q1 ρ' p vs' (er H' p) l' rh' (by rw [hfull, List.append_nil]; exact rv') er_same
        rw [upd_er hp'] at this
        exact this
      · rw [if_neg hgd] at hr'
        cases hr'
    | cons x xs =>
      rw [hd, compM] at hr'
      have hx : itm.xs[i]? = some x := by
        have := List.getElem?_drop (xs := itm.xs) (i := i) (j := 0)
        rw [hd] at this
        simpa using this.symm
      have hxs : itm.xs.drop (i + 1) = xs := by
        rw [← List.drop_drop, hd]
        rfl
      have hlt : i < itm.xs.length := (List.getElem?_eq_some_iff.mp hx).1
      by_cases hgd : itm.gd h' = true
      case neg => rw [if_neg hgd] at hr'; cases hr'
      rw [if_pos hgd] at hr'
      cases ha : a x (wipeD σd vs) with
      | none => rw [ha] at hr'; cases hr'
      | some σ1 =>
        rw [ha] at hr'
        simp only at hr'
        obtain ⟨hgo, hy⟩ := (ri (ρ'.hide p) h' H' lz rhI hgd i).2 x hx
        refine .inr ⟨hgo, fun H2 => ∃ ρ2 h2 acc2 vs2 r2, Le ρ1 ρ2 H1 (er H2 p) ∧ RH K ρ2 h2 (er H2 p) ∧ H2 p = some (.lst vs2) ∧ RVs K (er H2 p) ρ2 acc2 vs2 ∧ compM a tt me itm.gd (wipeD σd vs) xs h2 = .ok r2 hF ∧ full = acc2 ++ r2, ?_, ?_⟩
        · rintro H2 ⟨ρ2, h2, acc2, vs2, r2, a1, a2, a3, a4, a5, a6⟩
          refine ⟨itm.xs.length - (i + 1), by omega, ρ2, h2, acc2, vs2, r2, a1, a2, a3, a4, hlt, rfl, ?_, a6⟩
          rw [hxs]
          exact a5
        · intro v H2 hyl
          obtain ⟨l2, rh2, rv2⟩ := hy v H2 hyl
          refine hp _ h' H2 _ _ x v σ1 _ rh2 (rsI.le l2 rhI) rv2 ha fun σ2 rs2 hl2 ho2 => ?_
          refine ⟨wipe_same (by rw [hl2, wipe_length]) ho2 hus (by rw [hl2]), ?_⟩
          refine ⟨_, σ1, h', rh2, rs2, ?_⟩
          have hp2 : H2 p = some (.lst vs') := l2.fr p _ (rhI.zs p List.mem_cons_self).2 hp'
          cases ht' : tt σ1 h' with
          | bad => rw [ht'] at hr'; cases hr'
          | exc C fs h3 => rw [ht'] at hr'; cases hr'
          | ok b h3 =>
            rw [ht'] at hr'
            simp only [R.bind] at hr'
            intro ρ3 b' H3 l3 rh3 hb
            cases hb
            have hp3 : H3 p = some (.lst vs') := l3.fr p _ (rh2.zs p List.mem_cons_self).2 hp2
            obtain ⟨ρ2', e2, l2'⟩ := le_out l2
            obtain ⟨ρ3', e3, l3'⟩ := le_out l3
            have e2' : ρ2' = ρ' := by
              obtain ⟨mm, em, _⟩ := l2'.ext
              have hc2 : (ρ'.hide p).c = (ρ2'.hide p).c := congrArg Rh.c e2
              have hc3 : (ρ'.hide p).z = (ρ2'.hide p).z := congrArg Rh.z e2
              have c2 : ρ2'.c = ρ'.c := hc2.symm
              have c3 : ρ2'.z = ρ'.z := (List.cons.inj hc3).2.symm
              cases ρ2'
              cases ρ'
              simp only at c2 c3
              rw [c2, c3]
            subst e2'
            subst e3
            have hz3 : p ∉ ρ3'.z := by obtain ⟨mm, rfl, _⟩ := l3'.ext; exact hz'
            cases b with
            | false =>
              refine iteF ⟨ρ3', h3, acc, vs', r, (l'.trans l2').trans l3', rh_out hp3 noT_lst rh3 hz3, hp3, ?_, by simpa using hr', hfull⟩
              exact (rv'.le l2' rh').le l3' (rh_out hp2 noT_lst rh2 hz')
            | true =>
              simp only [if_true] at hr'
              refine iteT ⟨_, σ1, h3, rh3, rs2.le l3 rh2, ?_⟩
              cases he' : me σ1 h3 with
              | bad => rw [he'] at hr'; cases hr'
              | exc C fs h4 => rw [he'] at hr'; cases hr'
              | ok d h4 =>
                rw [he'] at hr'
                simp only [R.bind] at hr'
                intro ρ4 y H4 l4 rh4 rv4
                have hp4 : H4 p = some (.lst vs') := l4.fr p _ (rh3.zs p List.mem_cons_self).2 hp3
                obtain ⟨ρ4', e4, l4'⟩ := le_out l4
                subst e4
                have hz4 : p ∉ ρ4'.z := by obtain ⟨mm, rfl, _⟩ := l4'.ext; exact hz3
                have rvA : RVs K (er H4 p) ρ4' acc vs' := ((rv'.le l2' rh').le l3' (rh_out hp2 noT_lst rh2 hz')).le l4' (rh_out hp3 noT_lst rh3 hz3)
                cases hcr : compM a tt me itm.gd (wipeD σd vs) xs h4 with
                | bad => rw [hcr] at hr'; cases hr'
                | exc C fs h5 => rw [hcr] at hr'; cases hr'
                | ok r2 h5 =>
                  rw [hcr] at hr'
                  simp only [R.ok.injEq] at hr'
                  obtain ⟨hr1, hr2⟩ := hr'
                  refine ⟨vs', hp4, ?_, ρ4', h4, acc ++ [d], vs' ++ [y], r2, ?_, ?_, upd_same, ?_, ?_, ?_⟩
                  · have h1 := RVs.len rvA
                    have h2 : (acc ++ r).length ≤ line := by rw [← hfull]; exact hlen
                    rw [← hr1] at h2
                    simp only [List.length_append, List.length_cons] at h2
                    show vs'.length < line
                    omega
                  · rw [er_upd']; exact ((l'.trans l2').trans l3').trans l4'
                  · rw [er_upd']; exact rh_out hp4 noT_lst rh4 hz4
                  · rw [er_upd']; exact RVs.app rvA (.one (RV.mo (mo_out hp4 noT_lst) _ _ rv4))
                  · rw [hcr, hr2]
                  · rw [hfull, ← hr1, List.append_assoc]; rfl
theorem cl_comp {elt tg iter : Expr} {ifs : List Expr} {scope : Scope} {own : List (Str × Nat)} {pos : Pos} {mi : EI} {g : TG} {a : D → Env → Option Env} {us : List Nat} {tt : ET} {me : E} (hc : X.calm = true) (hN : X.N.Nodup) (hi : CI X W tg iter mi) (ok : BlkOk X.N X.env.scope scope own)
    (hg : ∀ (s : Shared) (H : Hp) (C : Addr) (cl : List (Str × Addr)) (fp : List Addr), PG (X.blk s H scope (compEnvC scope cl C X.env) fp) tg g) (hp : Pat X.K g a us) (hus : ∀ i ∈ us, i ∈ own.map (·.2))
    (ht : ∀ (s : Shared) (H : Hp) (C : Addr) (cl : List (Str × Addr)) (fp : List Addr), CTs (X.blk s H scope (compEnvC scope cl C X.env) fp) W0 ifs tt)
    (he : ∀ (s : Shared) (H : Hp) (C : Addr) (cl : List (Str × Addr)) (fp : List Addr), CE (X.blk s H scope (compEnvC scope cl C X.env) fp) W0 elt me) (hs : ∀ x, foldedSetIterable iter X.env x = pure x := by intro _; rfl) :
    CL X W (.ListComp elt [⟨tg, iter, ifs, 0⟩] scope pos) (lComp mi a tt me (own.map (·.2))) := (pe_lc (tt := tT X.K W0 tt) (te := tE X.K W0 me) hc hN hi ok hg ht he hs).imp fun σ H Q q => lc_read hp hus q
end
end Mi
/-! Mi6: defs, calls, instances. -/
namespace Mi
open PySem L2 PySem.Spec PyProof.Rows
section
variable {K : PySem.W.Frag} {ρ : Rh} {H : Hp} {h : Hd} {a : Addr} {n : Nat} {u : HO} {o : O}
/-- a cell is changed -/
theorem mo_upd (r : RH K ρ h H) (hn : ρ.c[n]? = some a) : Mo K ρ ρ H (upd H a u) where
  tup := fun b xs q => by
    have ha := List.mem_of_getElem? hn
    rcases q with (q | ⟨w, q⟩) | q
    · have hne : b ≠ a := fun z => (r.notTup ha).1 xs (by rw [← z]; exact q)
      refine .inl (.inl ?_)
      rw [upd_ne hne]
      exact q
    · have hne : b ≠ a := fun z => (r.notTup ha).2 w xs (by rw [← z]; exact q)
      refine .inl (.inr ⟨w, ?_⟩)
      rw [upd_ne hne]
      exact q
    · exact .inr q
  lst := fun b xs n q => by
    have hne : b ≠ a := fun z => n.1 (by rw [z]; exact List.mem_of_getElem? hn)
    exact ⟨by rw [upd_ne hne]; exact q, n⟩
  dct := fun b o xs n q => by
    have hne : b ≠ a := fun z => n.1 (by rw [z]; exact List.mem_of_getElem? hn)
    exact ⟨by rw [upd_ne hne]; exact q, n⟩
  xdd := fun b xs n q => by
    have hne : b ≠ a := fun z => n.1 (by rw [z]; exact List.mem_of_getElem? hn)
    exact ⟨by rw [upd_ne hne]; exact q, n⟩
  cell := fun _ _ e => e
theorem le_upd (hn : ρ.c[n]? = some a) (hz : ∀ o w, H a ≠ some (.frz o w)) : Le ρ ρ H (upd H a u) := ⟨⟨[], by simp⟩, fun b o hb e => by
  have hne : b ≠ a := fun z => hb (by rw [z]; exact List.mem_of_getElem? hn)
  rw [upd_ne hne]
  exact e, fun b o w e => by
  have hne : b ≠ a := fun z => hz o w (by rw [← z]; exact e)
  rw [upd_ne hne]
  exact e⟩
theorem nodup_at {l : List Addr} (nd : l.Nodup) {i j : Nat} {a : Addr} (h1 : l[i]? = some a) (h2 : l[j]? = some a) : i = j := by
  obtain ⟨p1, e1⟩ := List.getElem?_eq_some_iff.mp h1
  obtain ⟨p2, e2⟩ := List.getElem?_eq_some_iff.mp h2
  exact (List.getElem_inj nd).mp (e1.trans e2.symm)
theorem RH.upd (r : RH K ρ h H) (hn : ρ.c[n]? = some a) (ro : RO K (upd H a u) ρ a o) : RH K ρ (h.set n o) (upd H a u) := by
  have ha := List.mem_of_getElem? hn
  refine ⟨by simp [r.len], r.nd, fun b hb => ?_, fun m b w e1 e2 => ?_⟩
  · have hne : b ≠ a := fun e => (r.zs b hb).2 (e ▸ ha)
    rw [upd_ne hne]
    exact r.zs b hb
  · by_cases hm : n = m
    · subst hm
      rw [hn] at e1
      cases e1
      have hl : n < h.length := by
        rw [← r.len]
        exact (List.getElem?_eq_some_iff.mp hn).1
      rw [List.getElem?_set_self hl] at e2
      cases e2
      exact ro
    · rw [List.getElem?_set_ne hm] at e2
      have hne : b ≠ a := fun e => hm (nodup_at r.nd hn (e ▸ e1))
      exact (r.obj m b w e1 e2).mo (mo_upd r hn) (upd_ne hne)
theorem RKs.lookup : ∀ {fs : List (Str × D)} {vs : List (Str × V)} {f : Str} {d : D}, RKs K H ρ fs vs → fs.lookup f = some d → ∃ v, vs.lookup f = some v ∧ RV K H ρ d v
  | [], _, _, _, _, e => by cases e
  | (g, d) :: fs, _, f, d', ⟨v, r, e, q, qs⟩, l => by
    subst e
    rw [List.lookup_cons] at l ⊢
    cases hg : f == (g, d).1 with
    | true => rw [hg] at l; cases l; exact ⟨v, rfl, q⟩
    | false => rw [hg] at l; obtain ⟨v', e1, q1⟩ := RKs.lookup qs l; exact ⟨v', e1, q1⟩
theorem RKs.lookup_none : ∀ {fs : List (Str × D)} {vs : List (Str × V)} {f : Str}, RKs K H ρ fs vs → fs.lookup f = none → vs.lookup f = none
  | [], _, _, q, _ => by rw [show _ = [] from q]; rfl
  | (g, d) :: fs, _, f, ⟨v, r, e, q, qs⟩, l => by
    subst e
    rw [List.lookup_cons] at l ⊢
    cases hg : f == (g, d).1 with
    | true => rw [hg] at l; cases l
    | false => rw [hg] at l; exact RKs.lookup_none qs l
theorem RKs.len {κ : Type} : ∀ {fs : List (κ × D)} {vs : List (κ × V)}, RKs K H ρ fs vs → fs.length = vs.length
  | [], _, q => by rw [show _ = [] from q]; rfl
  | (g, d) :: fs, _, ⟨v, r, e, q, qs⟩ => by subst e; rw [List.length_cons, List.length_cons, RKs.len qs]
def putD (f : Str) (v : D) : List (Str × D) → List (Str × D)
  | [] => [(f, v)]
  | (g, u) :: r => if g = f then (g, v) :: r else (g, u) :: putD f v r
theorem RKs.put {f : Str} {d : D} {v : V} (rv : RV K H ρ d v) : ∀ {fs : List (Str × D)} {vs : List (Str × V)}, RKs K H ρ fs vs → RKs K H ρ (putD f d fs) (putF f v vs)
  | [], _, q => by rw [show _ = [] from q]; exact ⟨v, [], rfl, rv, rfl⟩
  | (g, u) :: r, _, ⟨w, t, e, q, qs⟩ => by
    subst e
    unfold putD putF
    by_cases hg : g = f
    · rw [if_pos hg, if_pos hg]; exact ⟨v, t, rfl, rv, qs⟩
    · rw [if_neg hg, if_neg hg]; exact ⟨w, _, rfl, q, RKs.put rv qs⟩
end
/-! ### defs -/
abbrev Fn := List D → Hd → R D
def spD (K : PySem.W.Frag) (F : Fn) : Sp := fun vs H Q E => ∃ ρ ds h, RH K ρ h H ∧ RVs K H ρ ds vs ∧ TQ (RV K) K E ρ H (F ds h) Q
/-- a body run: np parameters, n names -/
def runFn (np n : Nat) (m : S) : Fn := fun ds h => if ds.length = np then (match m (ds.map some ++ List.replicate (n - np) none) h with
  | .ret d h' => .ok d h'
  | .nx _ h' => .ok .non h'
  | .exc C fs _ h' => .exc C fs h'
  | _ => .bad) else .bad
theorem RS.start {K : PySem.W.Frag} {H : Hp} {ρ : Rh} {ds : List D} {vs : List V} {n : Nat} (q : RVs K H ρ ds vs) : RS K H ρ (ds.map some ++ List.replicate n none) (vs.map some ++ List.replicate n none) := by
  refine ⟨by simp [RVs.len q], fun i d e => ?_⟩
  by_cases hi : i < ds.length
  · rw [List.getElem?_append_left (by simpa using hi), List.getElem?_map] at e
    cases hd : ds[i]? with
    | none => rw [hd] at e; cases e
    | some d' =>
      rw [hd] at e
      cases e
      obtain ⟨v, e1, r⟩ := RVs.get q hd
      refine ⟨v, ?_, r⟩
      rw [List.getElem?_append_left (by simpa [← RVs.len q] using hi), List.getElem?_map, e1]
      rfl
  · rw [List.getElem?_append_right (by simpa using hi)] at e
    rw [List.getElem?_replicate] at e
    split at e <;> cases e
theorem spD_len {K : PySem.W.Frag} {np n : Nat} {m : S} : ∀ vs H Q E, spD K (runFn np n m) vs H Q E → vs.length = np := fun vs H Q E ⟨ρ, ds, h, rh, rv, q⟩ => by
  unfold runFn at q
  by_cases hl : ds.length = np
  · rw [← RVs.len rv]; exact hl
  · rw [if_neg hl] at q; exact q.elim
section
variable {P : Program} {w : World} {K : PySem.W.Frag} {mg : Str → Option Value} {base : Heap}
/-- the wish of a def about what it raises -/
abbrev WF (E : XK) : WX := fun cls d _ H => E cls d H
theorem fn_ok {x qual : Str} {st : Stmt} {f : Addr} {fd : FuncData} {N ps : List Str} {k : Nat} {m : S} (F : Fun K x qual st f fd) (S : FnScope N ps (defScope st))
    (hb : ∀ (cdv : Value) (A : Around) (outer : List PySem.Env) (s : Shared) (H : Hp) (E : XK), Room k (A.deeper (envOfC qual (defScope st) s.heap.objs.size f cdv)) → CSs (cxOf (L2.CX P w) P w K mg base N qual (defScope st) f cdv A outer s H E) (WF E) (defBody st) m) :
    FnOk P w K mg base (L2.CX P w) (k + 1) f fd ps (spD K (runFn ps.length N.length m)) := by
  refine F.okX S spD_len fun cdv A outer s H vs Q E hr hsp => ⟨_, hb cdv A outer s H E hr, ?_⟩
  have hl := spD_len vs H Q E hsp
  obtain ⟨ρ, ds, h, rh, rv, q⟩ := hsp
  have hd : ds.length = ps.length := by rw [RVs.len rv]; exact hl
  unfold runFn at q
  rw [if_pos hd] at q
  refine ⟨ρ, ds.map some ++ List.replicate (N.length - ps.length) none, h, rh, ?_, ?_⟩
  · have := RS.start (n := N.length - vs.length) rv
    rw [hl] at this
    show RS _ _ _ _ (vs.map some ++ List.replicate (N.length - vs.length) none)
    rw [hl]
    exact this
  · cases r : m (ds.map some ++ List.replicate (N.length - ps.length) none) h with
    | ret d h' => rw [r] at q; exact q
    | nx σ h' => rw [r] at q; exact fun ρ' σ' H' l rh' _ => q ρ' .non H' l rh' rfl
    | exc C fs σ h' => rw [r] at q; exact fun ρ' σ' H' d l rh' _ rx => q ρ' H' d l rh' rx
    | brk σ h' => rw [r] at q; exact q.elim
    | ct σ h' => rw [r] at q; exact q.elim
    | bad => rw [r] at q; exact q.elim
/-- another function that is the same where it matters -/
theorem fn_imp {f : Addr} {fd : FuncData} {ps : List Str} {k : Nat} {F F' : Fn} (G : FnOk P w K mg base (L2.CX P w) k f fd ps (spD K F)) (h : ∀ vs H Q E, spD K F' vs H Q E → spD K F vs H Q E) : FnOk P w K mg base (L2.CX P w) k f fd ps (spD K F') := G.imp h
end
/-! ### calls -/
def eCall (F : Fn) (dds : List D) (a : EA) : E := fun σ h => (a σ h).bind fun ds h1 => F (ds ++ dds) h1
section
variable {X : Cx} {W : WX} {k : Nat} {f C : Addr} {fd : FuncData} {ps : List Str} {F : Fn} {dvs : List V} {dds : List D} {ds : List Value} {x m : Str} {p pos apos : Pos} {e o : Expr} {es : List Expr} {ms : EA} {mo : E}
theorem ce_call (G : FnOk X.prog X.w X.K X.mg X.base (L2.CX X.prog X.w) k f fd ps (spD X.K F)) (hr : Room k X.A) (hg : Gl X x) (hm : X.mg x = some (.ref f)) (hk : PySem.W.keepIn X.K (.ref f) = true) (hb : Binds X.K fd ps ds) (hd : Vals dvs ds) (hdd : ∀ H ρ, RVs X.K H ρ dds dvs) (tk : Takes X W)
    (ha : CA X W (e :: es) ms) (hdb : (x == ("__debug__" : Str)) = false := by decide) (he : starEach (e :: es) X.env = (false, eval e X.env) :: starEach es X.env := by rfl) (hpl : (backTo pos (starEach es X.env)).any (·.1) = false := by rfl) :
    CE X W (.Call (.Name x p) (e :: es) [] pos) (eCall F dds ms) := (pe_callSD (E := WE W) G hr hg hm hk hb hd (passAt tk) ha hdb he hpl).imp fun σ H Q ⟨ρ, σd, h, rh, rs, q⟩ =>
  ⟨ρ, σd, h, rh, rs, TQ.bind q fun ρ1 xs H1 as h1 l1 rh1 rv1 q1 => ⟨ρ1, as ++ dds, h1, rh1, RVs.app rv1 (hdd H1 ρ1), q1⟩⟩
theorem ce_call0 (G : FnOk X.prog X.w X.K X.mg X.base (L2.CX X.prog X.w) k f fd ps (spD X.K F)) (hr : Room k X.A) (hg : Gl X x) (hm : X.mg x = some (.ref f)) (hk : PySem.W.keepIn X.K (.ref f) = true) (hb : Binds X.K fd ps ds) (hd : Vals dvs ds) (hdd : ∀ H ρ, RVs X.K H ρ dds dvs) (tk : Takes X W)
    (hdb : (x == ("__debug__" : Str)) = false := by decide) : CE X W (.Call (.Name x p) [] [] pos) (eCall F dds eNil) := ⟨fun pins s σ H Q I ⟨ρ, σd, h, rh, rs, q⟩ => by
  refine wpAny_Call_Name_kw (ld_glob I hg hm ?_ hdb)
  exact PySem.W.callWith_K0 I.kIn hk (run_fnSD (us := []) (vs := []) (E := WE W) G hr hb hd (passAt tk σ) I .nil ⟨ρ, [] ++ dds, h, rh, hdd H ρ, q⟩)⟩
/-- a method of the class C -/
def eMeth (C : Addr) (m : Str) (F : Fn) (dds : List D) (o : E) (a : EA) : E := fun σ h => (o σ h).bind fun x h1 => match x with
  | .ref n => match h1[n]? with
    | some (.ins C' fs) => if C' = C ∧ fs.lookup m = none then (a σ h1).bind fun ds h2 => F (.ref n :: (ds ++ dds)) h2 else .bad
    | _ => .bad
  | _ => .bad
theorem ce_meth {pl : Sem Bool} (he : CE X W o mo) (c : Cls X.K C) (hm : Meth X.K C m f) (G : FnOk X.prog X.w X.K X.mg X.base (L2.CX X.prog X.w) k f fd ps (spD X.K F)) (hr : Room k X.A) (hb : Binds X.K fd ps ds) (hd : Vals dvs ds) (hdd : ∀ H ρ, RVs X.K H ρ dds dvs) (tk : Takes X W) (ha : CA X W (e :: es) ms)
    (hst : starEach (e :: es) X.env = (false, eval e X.env) :: starEach es X.env := by rfl) (hpl : (backTo pos (starEach es X.env)).any (·.1) = false := by rfl)
    (ht : eval (.Call (.Attribute o m apos) (e :: es) [] pos) X.env = (do
      let ov ← eval o X.env
      standAt apos.atName
      let (f, first) ← holding [ov] (getMethod ov m pl)
      callWith pos f first (backTo pos (starEach (e :: es) X.env)) (backToKw pos (keywordEach [] X.env))) := by rfl) :
    CE X W (.Call (.Attribute o m apos) (e :: es) [] pos) (eMeth C m F dds mo ms) := ⟨fun pins s σ H Q I ⟨ρ, σd, h, rh, rs, q⟩ => by
  refine PySem.W.methodCall_KW (pl := pl) (thn (he.run pins s σ H (fun x H1 => ∃ a dx fs, x = .ref a ∧ H1 a = some (.ins C dx fs) ∧ fs.lookup m = none ∧ tA X.K W ms σ H1 fun vs H2 => spD X.K F (.ref a :: (vs ++ dvs)) H2 Q (WE W σ)) I
    ⟨ρ, σd, h, rh, rs, TQ.bind q fun ρ1 x H1 d h1 l1 rh1 rv1 q1 => ?_⟩) fun u s1 ⟨x, H1, I1, rx, a, dx, fs, ex, ea, l, q⟩ => ?_) ht
  · cases d with
    | ref n =>
      obtain ⟨a, ea, rfl⟩ := rv1
      simp only at q1
      split at q1
      · next C' fs hn =>
        split at q1
        · next hc =>
          obtain ⟨rfl, hl⟩ := hc
          obtain ⟨dx, vs, e1, e2⟩ := rh1.obj _ _ _ ea hn
          refine ⟨a, dx, vs, rfl, e1, RKs.lookup_none e2 hl, ρ1, σd, h1, rh1, rs.le l1 rh, TQ.bind q1 fun ρ2 xs H2 as h2 l2 rh2 rv2 q2 => ⟨ρ2, .ref n :: (as ++ dds), h2, rh2, ⟨.ref a, _, rfl, ⟨a, l2.keep ea, rfl⟩, RVs.app rv2 (hdd H2 ρ2)⟩, q2⟩⟩
        · exact q1.elim
      · exact q1.elim
    | _ => exact q1.elim
  · subst ex
    obtain rfl : u = Value.ref a := rx
    refine getmeth_ok I1 ea c hm l ?_
    refine PySem.W.callWith_K (first := [.ref a]) (h₀ := X.base) I.ok.mod.kin hm.kp (thn (ha.run pos pins s1 σ H1 _ I1 q) fun us s2 ⟨vs, H2, I2, r, q2⟩ => ⟨I2.kIn, ?_⟩) hst hpl
    exact run_fnSD (us := .ref a :: us) (vs := .ref a :: vs) (E := WE W) G hr hb hd (passAt tk σ) I2 (.cons rfl r) q2⟩
theorem ce_meth0 {pl : Sem Bool} (he : CE X W o mo) (c : Cls X.K C) (hm : Meth X.K C m f) (G : FnOk X.prog X.w X.K X.mg X.base (L2.CX X.prog X.w) k f fd ps (spD X.K F)) (hr : Room k X.A) (hb : Binds X.K fd ps ds) (hd : Vals dvs ds) (hdd : ∀ H ρ, RVs X.K H ρ dds dvs) (tk : Takes X W)
    (ht : eval (.Call (.Attribute o m apos) [] [] pos) X.env = (do
      let ov ← eval o X.env
      standAt apos.atName
      let (f, first) ← holding [ov] (getMethod ov m pl)
      callWith pos f first (backTo pos (starEach [] X.env)) (backToKw pos (keywordEach [] X.env))) := by rfl) :
    CE X W (.Call (.Attribute o m apos) [] [] pos) (eMeth C m F dds mo eNil) := ⟨fun pins s σ H Q I ⟨ρ, σd, h, rh, rs, q⟩ => by
  refine PySem.W.methodCall_KW (pl := pl) (thn (he.run pins s σ H (fun x H1 => ∃ a dx fs, x = .ref a ∧ H1 a = some (.ins C dx fs) ∧ fs.lookup m = none ∧ spD X.K F (.ref a :: dvs) H1 Q (WE W σ)) I
    ⟨ρ, σd, h, rh, rs, TQ.bind q fun ρ1 x H1 d h1 l1 rh1 rv1 q1 => ?_⟩) fun u s1 ⟨x, H1, I1, rx, a, dx, fs, ex, ea, l, q⟩ => ?_) ht
  · cases d with
    | ref n =>
      obtain ⟨a, ea, rfl⟩ := rv1
      simp only at q1
      split at q1
      · next C' fs hn =>
        split at q1
        · next hc =>
          obtain ⟨rfl, hl⟩ := hc
          obtain ⟨dx, vs, e1, e2⟩ := rh1.obj _ _ _ ea hn
          exact ⟨a, dx, vs, rfl, e1, RKs.lookup_none e2 hl, ρ1, .ref n :: dds, h1, rh1, ⟨.ref a, _, rfl, ⟨a, ea, rfl⟩, hdd H1 ρ1⟩, q1⟩
        · exact q1.elim
      · exact q1.elim
    | _ => exact q1.elim
  · subst ex
    obtain rfl : u = Value.ref a := rx
    refine getmeth_ok I1 ea c hm l ?_
    exact PySem.W.callWith_K0 (first := [.ref a]) I1.kIn hm.kp (run_fnSD (us := [.ref a]) (vs := [.ref a]) (E := WE W) G hr hb hd (passAt tk σ) I1 (.cons rfl .nil) q)⟩
/-- an instance is made -/
def eMake (C : Addr) (F : Fn) (dds : List D) (a : EA) : E := fun σ h => (a σ h).bind fun ds h1 => (F (.ref h1.length :: (ds ++ dds)) (h1 ++ [.ins C []])).bind fun d h2 => match d with
  | .non => .ok (.ref h1.length) h2
  | _ => .bad
theorem run_makeSD {E : L2.St → XK} {sp : Sp} {CX : CXT} {pins : List (Addr × Obj)} {σ : L2.St} {H : Hp} {s : Shared} {Q : VK} {us : List Value} {vs : List V} (M : Mk X.K C f) (F : FnOk X.prog X.w X.K X.mg X.base CX k f fd ps sp) (hr : Room (k + 1) X.A) (hb : Binds X.K fd ps ds) (hd : Vals dvs ds)
    (hx : PassesAt CX X σ (E σ)) (I : Inv X pins σ H s) (r : Vals vs us)
    (h : ∀ x dx, H x = none → H dx = none → dx ≠ x → sp (.ref x :: (vs ++ dvs)) (upd (upd H dx (.own x)) x (.ins C dx [])) (fun v H2 => v = .non ∧ Q (.ref x) H2) (E σ)) :
    wpAny (model X.prog X.w) X.A (call (.ref C) us) (EP X pins σ Q) X.xe s := by
  have hq := h (s.heap.objs.size + 1) s.heap.objs.size (I.hok.fresh (Nat.le_succ _)) (I.hok.fresh (Nat.le_refl _)) (Nat.ne_of_lt (Nat.lt_succ_self _))
  have I2 := Inv.made (C := C) I
  have r2 : Vals (V.ref (s.heap.objs.size + 1) :: (vs ++ dvs)) (Value.ref (s.heap.objs.size + 1) :: (us ++ ds)) := .cons rfl (r.append hd)
  have hl : (Value.ref (s.heap.objs.size + 1) :: us ++ ds).length = ps.length := by
    have e := r2.length
    rw [F.len _ _ _ _ hq] at e
    exact e.symm
  refine wpAny_call (make_map (f := f) I.kIn M.makes M.init (beq_iff_eq.mp M.fn) (codeAny_mono (F.run _ X.stack _ _ ⟨Value.ref (s.heap.objs.size + 1) :: us, []⟩ (Value.ref (s.heap.objs.size + 1) :: (us ++ ds)) _ _ (E σ) (hr.make C us [])
    (I2.env0.make C us []) (hb _ (Value.ref (s.heap.objs.size + 1) :: us) I2.kIn hl) r2 hq) fun r s' hq' => ?_))
  cases r with
  | error e => exact hx pins _ _ e s' I2 hq'
  | ok fl =>
    cases fl with
    | ret u =>
      obtain ⟨v, H', I3, rv, ev, q3⟩ := I2.after hq'
      subst ev
      exact ⟨rv, ⟨V.ref (s.heap.objs.size + 1), H', I3, rfl, q3⟩⟩
    | next => exact False.elim hq'
    | brk => exact False.elim hq'
    | cont => exact False.elim hq'
theorem mk_sp {K : PySem.W.Frag} {ρ : Rh} {H : Hp} {h : Hd} {as : List D} {vs : List V} {Q : VK} {E : XK} (rh : RH K ρ h H) (rv : RVs K H ρ as vs)
    (q : TQ (RV K) K E ρ H ((F (.ref h.length :: as) (h ++ [.ins C []])).bind fun d h2 => match d with
      | .non => .ok (.ref h.length) h2
      | _ => .bad) Q) : ∀ x dx, H x = none → H dx = none → dx ≠ x → spD K F (.ref x :: vs) (upd (upd H dx (.own x)) x (.ins C dx [])) (fun v H2 => v = .non ∧ Q (.ref x) H2) E := fun x dx hx hdx hne => by
  have rh1 := rh.new (o := .own x) hdx
  have hx1 : upd H dx (.own x) x = none := by rw [upd_ne (Ne.symm hne)]; exact hx
  have l1 : Le ρ (ρ.add x) H (upd (upd H dx (.own x)) x (.ins C dx [])) := (Le.new hdx).trans (le_push rh1 hx1)
  have ex : (ρ.add x).c[h.length]? = some x := by
    show (ρ.c ++ [x])[h.length]? = some x
    rw [← rh.len]
    simp
  refine ⟨ρ.add x, .ref h.length :: as, h ++ [.ins C []], rh1.push (o := .ins C []) hx1 (mo_push rh1 hx1) ⟨dx, [], upd_same, rfl⟩, ⟨.ref x, vs, rfl, ⟨x, ex, rfl⟩, rv.le l1 rh⟩, ?_⟩
  refine TQ.bind (TQ.le l1 q) fun ρ2 v H2 d h2 l2 rh2 rv2 q2 => ?_
  cases d with
  | non => exact ⟨rv2, q2 ρ2 (.ref x) H2 .refl rh2 ⟨x, l2.keep ex, rfl⟩⟩
  | _ => exact q2.elim
theorem ce_make (M : Mk X.K C f) (G : FnOk X.prog X.w X.K X.mg X.base (L2.CX X.prog X.w) k f fd ps (spD X.K F)) (hr : Room (k + 1) X.A) (hg : Gl X x) (hm : X.mg x = some (.ref C)) (hb : Binds X.K fd ps ds) (hd : Vals dvs ds) (hdd : ∀ H ρ, RVs X.K H ρ dds dvs) (tk : Takes X W)
    (ha : CA X W (e :: es) ms) (hdb : (x == ("__debug__" : Str)) = false := by decide) (he : starEach (e :: es) X.env = (false, eval e X.env) :: starEach es X.env := by rfl) (hpl : (backTo pos (starEach es X.env)).any (·.1) = false := by rfl) :
    CE X W (.Call (.Name x p) (e :: es) [] pos) (eMake C F dds ms) := ⟨fun pins s σ H Q I ⟨ρ, σd, h, rh, rs, q⟩ => by
  refine wpAny_Call_Name_kw (ld_glob I hg hm ?_ hdb)
  refine PySem.W.callWith_K (h₀ := X.base) I.ok.mod.kin M.kp (thn (ha.run pos pins s σ H (fun vs H1 => ∀ x dx, H1 x = none → H1 dx = none → dx ≠ x → spD X.K F (.ref x :: (vs ++ dvs)) (upd (upd H1 dx (.own x)) x (.ins C dx [])) (fun v H2 => v = .non ∧ Q (.ref x) H2) (WE W σ)) I
    ⟨ρ, σd, h, rh, rs, TQ.bind q fun ρ1 xs H1 as h1 l1 rh1 rv1 q1 => mk_sp rh1 (RVs.app rv1 (hdd H1 ρ1)) q1⟩) fun us s1 ⟨vs, H1, I1, r, q⟩ => ⟨I1.kIn, ?_⟩) he hpl
  exact run_makeSD (E := WE W) M G hr hb hd (passAt tk σ) I1 r q⟩
theorem ce_make0 (M : Mk X.K C f) (G : FnOk X.prog X.w X.K X.mg X.base (L2.CX X.prog X.w) k f fd ps (spD X.K F)) (hr : Room (k + 1) X.A) (hg : Gl X x) (hm : X.mg x = some (.ref C)) (hb : Binds X.K fd ps ds) (hd : Vals dvs ds) (hdd : ∀ H ρ, RVs X.K H ρ dds dvs) (tk : Takes X W)
    (hdb : (x == ("__debug__" : Str)) = false := by decide) : CE X W (.Call (.Name x p) [] [] pos) (eMake C F dds eNil) := ⟨fun pins s σ H Q I ⟨ρ, σd, h, rh, rs, q⟩ => by
  refine wpAny_Call_Name_kw (ld_glob I hg hm ?_ hdb)
  exact PySem.W.callWith_K0 I.kIn M.kp (run_makeSD (us := []) (vs := []) (E := WE W) M G hr hb hd (passAt tk σ) I .nil (mk_sp (as := dds) rh (hdd H ρ) q))⟩
/-- an attribute -/
def eFld (C : Addr) (f : Str) (o : E) : E := fun σ h => (o σ h).bind fun x h1 => match x with
  | .ref n => match h1[n]? with
    | some (.ins C' fs) => if C' = C then ofO (fs.lookup f) h1 else .bad
    | _ => .bad
  | _ => .bad
theorem ce_fld {g : Str} (he : CE X W o mo) (c : Cls X.K C) (na : NoAttr X.K C g) (hb : attributeBase o g X.env (eval o X.env) = eval o X.env := by rfl) : CE X W (.Attribute o g pos) (eFld C g mo) := (pe_fld he hb).imp fun σ H Q ⟨ρ, σd, h, rh, rs, q⟩ =>
  ⟨ρ, σd, h, rh, rs, TQ.bind q fun ρ1 x H1 d h1 l1 rh1 rv1 q1 => by
    cases d with
    | ref n =>
      obtain ⟨a, ea, rfl⟩ := rv1
      simp only at q1
      split at q1
      · next C' fs hn =>
        split at q1
        · next hc =>
          subst hc
          obtain ⟨dx, vs, e1, e2⟩ := rh1.obj _ _ _ ea hn
          cases hl : fs.lookup g with
          | none => rw [hl] at q1; exact q1.elim
          | some d =>
            rw [hl] at q1
            obtain ⟨v, e3, rv⟩ := RKs.lookup e2 hl
            exact ⟨a, C', dx, vs, v, rfl, e1, c, na, e3, q1 ρ1 v H1 .refl rh1 rv⟩
        · exact q1.elim
      · exact q1.elim
    | _ => exact q1.elim⟩
/-- o.f = v -/
def sFldM (C : Addr) (f : Str) (o v : E) : S := fun σ h => bindS (v σ h) σ fun y h1 => bindS (o σ h1) σ fun x h2 => match x with
  | .ref n => match h2[n]? with
    | some (.ins C' fs) => if C' = C ∧ fs.length < 1000 then .nx σ (h2.set n (.ins C' (putD f y fs))) else .bad
    | _ => .bad
  | _ => .bad
theorem cs_fld {g : Str} {value : Expr} {mv : E} {pos' : Pos} (ho : CE X W o mo) (hv : CE X W value mv) (c : Cls X.K C) (na : NoAttr X.K C g) (hs : swapsWith value (some (.Attribute o g pos')) pos.line X.env = pure false := by rfl) : CS X W (.Assign [.Attribute o g pos'] value pos) (sFldM C g mo mv) := (ps_fld ho hv hs).imp fun D σ H ⟨ρ, σd, h, rh, rs, q⟩ =>
  ⟨ρ, σd, h, rh, rs, SQ.bind rh rs q fun ρ1 y H1 dy h1 l1 rh1 rv1 q1 => ⟨ρ1, σd, h1, rh1, rs.le l1 rh, SQ.bind rh1 (rs.le l1 rh) q1 fun ρ2 x H2 d h2 l2 rh2 rv2 q2 => by
    cases d with
    | ref n =>
      obtain ⟨a, ea, rfl⟩ := rv2
      simp only at q2
      split at q2
      · next C' fs hn =>
        split at q2
        · next hc =>
          obtain ⟨hc, hl⟩ := hc
          subst hc
          obtain ⟨dx, vs, e1, e2⟩ := rh2.obj _ _ _ ea hn
          refine ⟨a, C', dx, vs, rfl, e1, c, na, by rw [← RKs.len e2]; exact hl, ?_⟩
          have mo := mo_upd (u := .ins C' dx (putF g y vs)) rh2 ea
          refine q2 ρ2 σ _ (le_upd ea (by rw [e1]; simp)) (rh2.upd ea ⟨dx, _, upd_same, RKs.put (RV.mo mo _ _ (rv1.le l2 rh1)) (RKs.mo mo _ _ e2)⟩) ?_
          exact ((rs.le l1 rh).le l2 rh1).mo mo
        · exact q2.elim
      · exact q2.elim
    | _ => exact q2.elim⟩⟩
end
end Mi
/-! Mi7: operators and comparisons by values. -/
namespace Mi
open PySem L2
section
variable {X : Cx}
theorem RVs.nil_iff {K : PySem.W.Frag} {H : Hp} {ρ : Rh} {xs : List D} {vs : List V} (q : RVs K H ρ xs vs) : vs = [] ↔ xs = [] := by
  cases xs with
  | nil => simp [show vs = [] from q]
  | cons x xs => obtain ⟨v, r, e, _⟩ := q; simp [e]
/-! ### arithmetic -/
def addP : P2 := fun h a b => match a, b with
  | .int i, .int j => some (.int (i + j))
  | .str x, .str y => if x.length + y.length ≤ line then some (.str (x ++ y)) else none
  | .tup xs, .tup ys => if xs.length + ys.length ≤ line then some (.tup (xs ++ ys)) else none
  | .tmp xs, b => match asM h b with
    | some ys => if xs.length + ys.length ≤ line then some (.tmp (xs ++ ys)) else none
    | none => none
  | .ref n, b => match asM h (.ref n), asM h b with
    | some xs, some ys => if xs.length + ys.length ≤ line then some (.tmp (xs ++ ys)) else none
    | _, _ => none
  | _, _ => none
theorem add_lst {K : PySem.W.Frag} {ρ : Rh} {h : Hd} {H : Hp} {a b : D} {x y : V} {d : D} {Q : VK} (rh : RH K ρ h H) (ra : RV K H ρ a x) (rb : RV K H ρ b y) (e : (match asM h a, asM h b with
    | some xs, some ys => if xs.length + ys.length ≤ line then some (D.tmp (xs ++ ys)) else none
    | _, _ => none) = some d) (q : PQ K ρ h H d Q) : rCat x y H Q := by
  cases e1 : asM h a with
  | none => rw [e1] at e; cases e
  | some xs =>
    cases e2 : asM h b with
    | none => rw [e1, e2] at e; cases e
    | some ys =>
      rw [e1, e2] at e
      simp only at e
      split at e
      · next hl =>
        cases e
        obtain ⟨p1, vs, rfl, h1, r1⟩ := asM_of e1 rh ra
        obtain ⟨p2, us, rfl, h2, r2⟩ := asM_of e2 rh rb
        exact ⟨p1, p2, vs, us, rfl, rfl, h1, h2, by rw [← RVs.len r1, ← RVs.len r2]; exact hl, PQ.lst q rh (RVs.app r1 r2)⟩
      · cases e
theorem op_addP : OpR X (binaryOp .Add) (rP2 X.K addP) := ((op_add.or op_add_str).or (op_catA.or op_cat)).imp fun x y H Q ⟨ρ, h, a, b, d, rh, ra, rb, e, q⟩ => by
  unfold addP at e
  split at e
  · cases e; cases ra; cases rb
    exact .inl (.inl ⟨_, _, rfl, rfl, q.here rh rfl⟩)
  · split at e
    · next hl => cases e; cases ra; cases rb; exact .inl (.inr ⟨_, _, rfl, rfl, hl, q.here rh rfl⟩)
    · cases e
  · next xs ys =>
    split at e
    · next hl =>
      cases e
      obtain ⟨p1, vs, rfl, h1, r1⟩ := ra
      obtain ⟨p2, us, rfl, h2, r2⟩ := rb
      refine .inr (.inl ⟨p1, p2, vs, us, rfl, rfl, h1, h2, by rw [← RVs.len r1, ← RVs.len r2]; exact hl, fun e => ?_, fun _ e => ?_, fun _ _ => PQ.tup q rh (RVs.app r1 r2)⟩)
      · have := (RVs.nil_iff r1).mp e
        subst this
        exact q.here rh ⟨p2, us, rfl, h2, r2⟩
      · have := (RVs.nil_iff r2).mp e
        subst this
        refine q.here rh ⟨p1, vs, rfl, h1, ?_⟩
        rw [List.append_nil]
        exact r1
    · cases e
  · refine .inr (.inr (add_lst rh ra rb ?_ q))
    show (match some _, asM h _ with
      | some xs, some ys => if xs.length + ys.length ≤ line then some (D.tmp (xs ++ ys)) else none
      | _, _ => none) = some d
    cases e2 : asM h _ with
    | none => rw [e2] at e; cases e
    | some ys => rw [e2] at e; exact e
  · exact .inr (.inr (add_lst rh ra rb e q))
  · cases e
def subP : P2 := fun _ a b => match a, b with
  | .int i, .int j => some (.int (i - j))
  | _, _ => none
theorem op_subP : OpR X (binaryOp .Sub) (rP2 X.K subP) := op_sub.imp fun x y H Q ⟨ρ, h, a, b, d, rh, ra, rb, e, q⟩ => by
  unfold subP at e
  split at e
  · cases e; cases ra; cases rb
    exact ⟨_, _, rfl, rfl, q.here rh rfl⟩
  · cases e
abbrev small64 (i : Int) : Bool := decide (-18446744073709551616 < i) && decide (i < 18446744073709551616)
theorem mulOk_small {x : Str} {k : Int} (h0 : -1000 ≤ k) (h1 : k ≤ 1000) (h2 : x.length ≤ 1000) : MulOk x k := by
  refine ⟨?_, fun h _ => ?_, fun h _ => ?_⟩
  · simp only [Bool.or_eq_false_iff, decide_eq_false_iff_not]
    omega
  · intro z
    have h3 : (9223372036854775807 : Int) / k ≥ 9223372036854775807 / 1000 := by
      apply Int.le_ediv_of_mul_le (by omega)
      have : (9223372036854775807 : Int) / 1000 * k ≤ 9223372036854775807 / 1000 * 1000 := Int.mul_le_mul_of_nonneg_left h1 (by decide)
      exact Int.le_trans this (by decide)
    have h4 : ((2 : Int) ^ 63 - 1) = 9223372036854775807 := by decide
    rw [h4] at z
    have : (9223372036854775807 : Int) / 1000 = 9223372036854775 := by decide
    omega
  · have h3 : x.length * k.toNat ≤ 1000 * 1000 := Nat.mul_le_mul h2 (by omega)
    unfold Builtin.Str.tooLong sizeLine
    simp
    omega
theorem op_mulS : OpR X (binaryOp .Mult) (fun x y H Q => ∃ z k, x = .str z ∧ y = .int k ∧ MulOk z k ∧ Q (.str (Txt.mul z k)) H) := by
  intro pins s σ H x y v u Q I rx ry h
  obtain ⟨z, k, rfl, rfl, hk, q⟩ := h
  obtain ⟨t, rfl⟩ := rx
  obtain ⟨t', rfl⟩ := ry
  exact PySem.SB.mul hk fun t' k' => ⟨.str _, H, I.tok _, ⟨_, rfl⟩, q⟩
def mulP : P2 := fun h a b => match a, b with
  | .int i, .int j => if small64 i || small64 j then some (.int (i * j)) else none
  | .str x, .int k => if -1000 ≤ k ∧ k ≤ 1000 ∧ x.length ≤ 1000 then some (.str (Txt.mul x k)) else none
  | .tmp xs, .int k => if -9223372036854775808 ≤ k ∧ k < 9223372036854775808 ∧ xs.length * k.toNat ≤ line then some (.tmp (List.replicate k.toNat xs).flatten) else none
  | _, _ => none
theorem op_mulP : OpR X (binaryOp .Mult) (rP2 X.K mulP) := (op_mul.or (op_mulS.or op_rep)).imp fun x y H Q ⟨ρ, h, a, b, d, rh, ra, rb, e, q⟩ => by
  unfold mulP at e
  split at e
  · split at e
    · next hc =>
      cases e; cases ra; cases rb
      refine .inl ⟨_, _, rfl, rfl, ?_, q.here rh rfl⟩
      simp only [small64, Bool.or_eq_true, Bool.and_eq_true, decide_eq_true_eq] at hc
      exact hc
    · cases e
  · split at e
    · next hc =>
      cases e; cases ra; cases rb
      exact .inr (.inl ⟨_, _, rfl, rfl, mulOk_small hc.1 hc.2.1 hc.2.2, q.here rh rfl⟩)
    · cases e
  · split at e
    · next hc =>
      cases e; cases rb
      obtain ⟨p1, vs, rfl, h1, _, r1⟩ := ra
      refine .inr (.inr ⟨p1, _, vs, rfl, rfl, h1, hc.1, hc.2.1, by rw [← RVs.len r1]; exact hc.2.2, ?_⟩)
      refine PQ.lst q rh ?_
      generalize (Int.toNat _) = n
      induction n with
      | zero => exact rfl
      | succ n ih =>
        rw [List.replicate_succ, List.flatten_cons, List.replicate_succ, List.flatten_cons]
        exact RVs.app r1 ih
    · cases e
  · cases e
def modP : P2 := fun _ a b => match a, b with
  | .int i, .int j => if 0 < j then some (.int (i % j)) else none
  | _, _ => none
theorem op_modP : OpR X (binaryOp .Mod) (rP2 X.K modP) := op_mod.imp fun x y H Q ⟨ρ, h, a, b, d, rh, ra, rb, e, q⟩ => by
  unfold modP at e
  split at e
  · split at e
    · next hc => cases e; cases ra; cases rb; exact ⟨_, _, rfl, rfl, hc, q.here rh rfl⟩
    · cases e
  · cases e
def fdivP : P2 := fun _ a b => match a, b with
  | .int i, .int j => if 0 < j ∧ j < 1073741824 then some (.int (i / j)) else none
  | _, _ => none
theorem op_fdivP : OpR X (binaryOp .FloorDiv) (rP2 X.K fdivP) := op_fdiv.imp fun x y H Q ⟨ρ, h, a, b, d, rh, ra, rb, e, q⟩ => by
  unfold fdivP at e
  split at e
  · split at e
    · next hc => cases e; cases ra; cases rb; exact ⟨_, _, rfl, rfl, hc, q.here rh rfl⟩
    · cases e
  · cases e
def powP : P2 := fun _ a b => match a, b with
  | .int i, .int j => if 0 ≤ j ∧ j ≤ 1000000 ∧ i.natAbs < 18446744073709551616 then some (.int (i ^ j.toNat)) else none
  | _, _ => none
theorem op_powP : OpR X (binaryOp .Pow) (rP2 X.K powP) := op_pow.imp fun x y H Q ⟨ρ, h, a, b, d, rh, ra, rb, e, q⟩ => by
  unfold powP at e
  split at e
  · split at e
    · next hc => cases e; cases ra; cases rb; exact ⟨_, _, rfl, rfl, hc, q.here rh rfl⟩
    · cases e
  · cases e
def negP : P1 := fun _ a => match a with
  | .int i => some (.int (-i))
  | _ => none
theorem _root_.L2.UnR.imp {f : Value → Sem Value} {r r' : V → Hp → VK → Prop} (h : UnR X f r) (i : ∀ x H Q, r' x H Q → r x H Q) : UnR X f r' := fun pins s σ H x v Q I rx q => h pins s σ H x v Q I rx (i _ _ _ q)
theorem un_negP : UnR X (unaryOp .USub) (rP1 X.K negP) := un_neg.imp fun x H Q ⟨ρ, h, a, d, rh, ra, e, q⟩ => by
  unfold negP at e
  split at e
  · cases e; cases ra
    exact ⟨_, rfl, q.here rh rfl⟩
  · cases e
/-! ### data -/
mutual
def toP0 : D → Option PyData
  | .non => some .none
  | .bl b => some (.bool b)
  | .int i => some (.int i)
  | .str x => some (.str x)
  | .tup xs => (toP0s xs).map .tuple
  | .tmp xs => (toP0s xs).map .list
  | _ => none
def toP0s : List D → Option (List PyData)
  | [] => some []
  | d :: ds => match toP0 d, toP0s ds with
    | some p, some ps => some (p :: ps)
    | _, _ => none
end
def toP (h : Hd) (d : D) : Option PyData := match d with
  | .ref n => ((asL h (.ref n)).bind toP0s).map .list
  | d => toP0 d
mutual
theorem dp0 {K : PySem.W.Frag} {H : Hp} {ρ : Rh} : ∀ (d : D) (v : V) (p : PyData), toP0 d = some p → RV K H ρ d v → Dp K H v p
  | .non, v, p, e, r => by cases e; cases r; exact .non
  | .bl b, v, p, e, r => by cases e; cases r; exact .bl b
  | .int b, v, p, e, r => by cases e; cases r; exact .int b
  | .str b, v, p, e, r => by cases e; cases r; exact .str b
  | .byt _, _, _, e, _ => by cases e
  | .ty _, _, _, e, _ => by cases e
  | .adr _, _, _, e, _ => by cases e
  | .ref _, _, _, e, _ => by cases e
  | .dtm _ _, _, _, e, _ => by cases e
  | .kls _, _, _, e, _ => by cases e
  | .xcp _ _ _ _ _, _, _, e, _ => by cases e
  | .tup xs, v, p, e, r => by
    obtain ⟨a, vs, rfl, t, q⟩ := r
    rw [toP0] at e
    cases h : toP0s xs with
    | none => rw [h] at e; cases e
    | some ps => rw [h] at e; cases e; exact .tup t (dp0s xs vs ps h q)
  | .tmp xs, v, p, e, r => by
    obtain ⟨a, vs, rfl, t, _, q⟩ := r
    rw [toP0] at e
    cases h : toP0s xs with
    | none => rw [h] at e; cases e
    | some ps => rw [h] at e; cases e; exact .lst (.of t) (dp0s xs vs ps h q)
theorem dp0s {K : PySem.W.Frag} {H : Hp} {ρ : Rh} : ∀ (ds : List D) (vs : List V) (ps : List PyData), toP0s ds = some ps → RVs K H ρ ds vs → DpAll K H vs ps
  | [], vs, ps, e, r => by cases e; rw [show vs = [] from r]; exact .nil
  | d :: ds, vs, ps, e, ⟨v, t, e1, q, qs⟩ => by
    subst e1
    rw [toP0s] at e
    cases h1 : toP0 d with
    | none => rw [h1] at e; cases e
    | some p =>
      cases h2 : toP0s ds with
      | none => rw [h1, h2] at e; cases e
      | some ps' => rw [h1, h2] at e; cases e; exact .cons (dp0 d v p h1 q) (dp0s ds t ps' h2 qs)
end
theorem dp_of {K : PySem.W.Frag} {H : Hp} {ρ : Rh} {h : Hd} {d : D} {v : V} {p : PyData} (e : toP h d = some p) (rh : RH K ρ h H) (r : RV K H ρ d v) : Dp K H v p := by
  cases d with
  | ref n =>
    simp only [toP] at e
    cases h1 : asL h (.ref n) with
    | none => rw [h1] at e; cases e
    | some xs =>
      rw [h1] at e
      simp only [Option.bind_some] at e
      cases h2 : toP0s xs with
      | none => rw [h2] at e; cases e
      | some ps =>
        rw [h2] at e
        cases e
        obtain ⟨a, vs, rfl, t, q⟩ := asL_of h1 rh r
        exact .lst t (dp0s xs vs ps h2 q)
  | _ => exact dp0 _ v p e r
/-! ### == and != -/
def flatD : D → Bool
  | .non => true
  | .bl _ => true
  | .int _ => true
  | .str _ => true
  | _ => false
/-- == of flat values -/
def eqF : D → D → Bool
  | .non, .non => true
  | .bl a, .bl b => a == b
  | .bl a, .int b => (if a then 1 else 0) == b
  | .int a, .bl b => a == (if b then 1 else 0)
  | .int a, .int b => a == b
  | .str a, .str b => a == b
  | _, _ => false
mutual
theorem plain0 : ∀ (d : D) (p : PyData), toP0 d = some p → p.plain = true
  | .non, p, e => by cases e; rfl
  | .bl _, p, e => by cases e; rfl
  | .int _, p, e => by cases e; rfl
  | .str _, p, e => by cases e; rfl
  | .byt _, _, e => by cases e
  | .ty _, _, e => by cases e
  | .adr _, _, e => by cases e
  | .ref _, _, e => by cases e
  | .dtm _ _, _, e => by cases e
  | .kls _, _, e => by cases e
  | .xcp _ _ _ _ _, _, e => by cases e
  | .tup xs, p, e => by
    cases h : toP0s xs with
    | none => rw [toP0, h] at e; cases e
    | some ps => rw [toP0, h] at e; cases e; exact plain0s xs ps h
  | .tmp xs, p, e => by
    cases h : toP0s xs with
    | none => rw [toP0, h] at e; cases e
    | some ps => rw [toP0, h] at e; cases e; exact plain0s xs ps h
theorem plain0s : ∀ (ds : List D) (ps : List PyData), toP0s ds = some ps → PyData.plainAll ps = true
  | [], ps, e => by cases e; rfl
  | d :: ds, ps, e => by
    rw [toP0s] at e
    cases h1 : toP0 d with
    | none => rw [h1] at e; cases e
    | some p =>
      cases h2 : toP0s ds with
      | none => rw [h1, h2] at e; cases e
      | some qs =>
        rw [h1, h2] at e
        cases e
        rw [PyData.plainAll, plain0 d p h1, plain0s ds qs h2]
        rfl
end
theorem plain_toP {h : Hd} {d : D} {p : PyData} (e : toP h d = some p) : p.plain = true := by
  unfold toP at e
  split at e
  · next n =>
    cases h1 : asL h (.ref n) with
    | none => rw [h1] at e; cases e
    | some xs =>
      rw [h1] at e
      cases h2 : toP0s xs with
      | none => simp [h2] at e
      | some ps =>
        simp [h2] at e
        subst e
        exact plain0s xs ps h2
  · exact plain0 _ p e
theorem op_eqD2 (hu : X.A.units + 64 < cLine) : OpR X (compareOp .Eq) (fun x y H Q => ∃ d e, Dp X.K H x d ∧ Dp X.K H y e ∧ d.plain = true ∧ e.plain = true ∧ min d.depth e.depth ≤ 64 ∧ Q (.bl (PyData.eqv d e)) H) := by
  intro pins s σ H x y v u Q I rx ry h
  obtain ⟨d, e, hd, he, sd, se, sm, q⟩ := h
  obtain ⟨as, r1⟩ := Dp.reads I d x v hd rx
  obtain ⟨bs, r2⟩ := Dp.reads I e y u he ry
  exact SeqAt.eq_plain r1 r2 sd se (by omega) ⟨.bl _, H, I, rfl, q⟩
theorem op_neD2 (hu : X.A.units + 64 < cLine) : OpR X (compareOp .NotEq) (fun x y H Q => ∃ d e, Dp X.K H x d ∧ Dp X.K H y e ∧ d.plain = true ∧ e.plain = true ∧ min d.depth e.depth ≤ 64 ∧ Q (.bl (!PyData.eqv d e)) H) := by
  intro pins s σ H x y v u Q I rx ry h
  obtain ⟨d, e, hd, he, sd, se, sm, q⟩ := h
  obtain ⟨as, r1⟩ := Dp.reads I d x v hd rx
  obtain ⟨bs, r2⟩ := Dp.reads I e y u he ry
  exact SeqAt.ne_plain r1 r2 sd se (by omega) ⟨.bl _, H, I, rfl, q⟩
def eqB (h : Hd) (a b : D) : Option Bool := match a, b with
  | .str x, .str y => some (x == y)
  | .int x, .int y => some (x == y)
  | .int _, .str _ => some false
  | .str _, .int _ => some false
  | .non, .str _ => some false
  | .str _, .non => some false
  | a, b => match toP h a, toP h b with
    | some p, some q => if min p.depth q.depth ≤ 64 then some (PyData.eqv p q) else none
    | _, _ => none
def eqP : P2 := fun h a b => (eqB h a b).map .bl
def neP : P2 := fun h a b => (eqB h a b).map fun c => .bl (!c)
theorem eqB_of {K : PySem.W.Frag} {H : Hp} {ρ : Rh} {h : Hd} {a b : D} {x y : V} {c : Bool} (e : eqB h a b = some c) (rh : RH K ρ h H) (ra : RV K H ρ a x) (rb : RV K H ρ b y) :
    (scal x y = true ∧ decide (x = y) = c) ∨ ∃ d e, Dp K H x d ∧ Dp K H y e ∧ d.plain = true ∧ e.plain = true ∧ min d.depth e.depth ≤ 64 ∧ PyData.eqv d e = c := by
  unfold eqB at e
  split at e
  · cases e; cases ra; cases rb; exact .inl ⟨rfl, dec_str⟩
  · cases e; cases ra; cases rb; exact .inl ⟨rfl, dec_int⟩
  · cases e; cases ra; cases rb; exact .inl ⟨rfl, by simp⟩
  · cases e; cases ra; cases rb; exact .inl ⟨rfl, by simp⟩
  · cases e; cases ra; cases rb; exact .inl ⟨rfl, by simp⟩
  · cases e; cases ra; cases rb; exact .inl ⟨rfl, by simp⟩
  · split at e
    · next p q h1 h2 =>
      split at e
      · next hs =>
        cases e
        exact .inr ⟨p, q, dp_of h1 rh ra, dp_of h2 rh rb, plain_toP h1, plain_toP h2, hs, rfl⟩
      · cases e
    · cases e
theorem op_eqP (hu : X.A.units + 64 < cLine) : OpR X (compareOp .Eq) (rP2 X.K eqP) := (op_eq.or (op_eqD2 hu)).imp fun x y H Q ⟨ρ, h, a, b, d, rh, ra, rb, e, q⟩ => by
  unfold eqP at e
  cases e1 : eqB h a b with
  | none => rw [e1] at e; cases e
  | some c =>
    rw [e1] at e
    cases e
    have q' := q.here (v := .bl c) rh rfl
    rcases eqB_of e1 rh ra rb with ⟨h1, h2⟩ | ⟨p, r, h1, h2, h3, h4, h6, h5⟩
    · exact .inl ⟨h1, by rw [h2]; exact q'⟩
    · exact .inr ⟨p, r, h1, h2, h3, h4, h6, by rw [h5]; exact q'⟩
theorem op_neP (hu : X.A.units + 64 < cLine) : OpR X (compareOp .NotEq) (rP2 X.K neP) := (op_ne.or (op_neD2 hu)).imp fun x y H Q ⟨ρ, h, a, b, d, rh, ra, rb, e, q⟩ => by
  unfold neP at e
  cases e1 : eqB h a b with
  | none => rw [e1] at e; cases e
  | some c =>
    rw [e1] at e
    cases e
    have q' := q.here (v := .bl (!c)) rh rfl
    rcases eqB_of e1 rh ra rb with ⟨h1, h2⟩ | ⟨p, r, h1, h2, h3, h4, h6, h5⟩
    · exact .inl ⟨h1, by rw [h2]; exact q'⟩
    · exact .inr ⟨p, r, h1, h2, h3, h4, h6, by rw [h5]; exact q'⟩
end
end Mi
/-! Mi8: orders, in, is, subscripts, slices by values. -/
namespace Mi
open PySem L2
section
variable {X : Cx}
def strLt (x y : Str) : Bool := decide (x.cps.toList < y.cps.toList)
def notNone : PyData → Bool
  | .none => false
  | _ => true
def ltB (h : Hd) (a b : D) : Option Bool := match a, b with
  | .int i, .int j => some (decide (i < j))
  | .str x, .str y => some (strLt x y)
  | a, b => match toP h a, toP h b with
    | some p, some q => if PySem.W.alike p q && PySem.W.alike q p && notNone p && notNone q && decide (min p.depth q.depth ≤ 60) then some (PySem.W.dataLt p q) else none
    | _, _ => none
def ltP : P2 := fun h a b => (ltB h a b).map .bl
def gtP : P2 := fun h a b => (ltB h b a).map .bl
def leP : P2 := fun h a b => (ltB h b a).map fun c => .bl (!c)
def geP : P2 := fun h a b => (ltB h a b).map fun c => .bl (!c)
theorem ltB_of {K : PySem.W.Frag} {H : Hp} {ρ : Rh} {h : Hd} {a b : D} {x y : V} {c : Bool} (e : ltB h a b = some c) (rh : RH K ρ h H) (ra : RV K H ρ a x) (rb : RV K H ρ b y) :
    ∃ p q, Dp K H x p ∧ Dp K H y q ∧ PySem.W.alike p q = true ∧ PySem.W.alike q p = true ∧ p ≠ .none ∧ q ≠ .none ∧ min p.depth q.depth ≤ 60 ∧ PySem.W.dataLt p q = c := by
  unfold ltB at e
  split at e
  · cases e; cases ra; cases rb
    exact ⟨_, _, .int _, .int _, by simp [PySem.W.alike], by simp [PySem.W.alike], by simp, by simp, by simp [PyData.depth], PySem.W.dataLt_int _ _⟩
  · cases e; cases ra; cases rb
    exact ⟨_, _, .str _, .str _, by simp [PySem.W.alike], by simp [PySem.W.alike], by simp, by simp, by simp [PyData.depth], PySem.W.dataLt_str _ _⟩
  · split at e
    · next p q h1 h2 =>
      split at e
      · next hs =>
        cases e
        simp only [Bool.and_eq_true, decide_eq_true_eq] at hs
        obtain ⟨⟨⟨⟨s1, s2⟩, s3⟩, s4⟩, s5⟩ := hs
        exact ⟨p, q, dp_of h1 rh ra, dp_of h2 rh rb, s1, s2, (fun z => by subst z; cases s3), (fun z => by subst z; cases s4), s5, rfl⟩
      · cases e
    · cases e
theorem op_ltP (hu : X.A.units + 64 < cLine) : OpR X (compareOp .Lt) (rP2 X.K ltP) := (op_ltD hu).imp fun x y H Q ⟨ρ, h, a, b, d, rh, ra, rb, e, q⟩ => by
  unfold ltP at e
  cases e1 : ltB h a b with
  | none => rw [e1] at e; cases e
  | some c =>
    rw [e1] at e
    cases e
    obtain ⟨p, r, h1, h2, h3, h4, h5, h6, h7, h8⟩ := ltB_of e1 rh ra rb
    exact ⟨p, r, h1, h2, h3, h5, h7, by rw [h8]; exact q.here rh rfl⟩
theorem op_geP (hu : X.A.units + 64 < cLine) : OpR X (compareOp .GtE) (rP2 X.K geP) := (op_geD hu).imp fun x y H Q ⟨ρ, h, a, b, d, rh, ra, rb, e, q⟩ => by
  unfold geP at e
  cases e1 : ltB h a b with
  | none => rw [e1] at e; cases e
  | some c =>
    rw [e1] at e
    cases e
    obtain ⟨p, r, h1, h2, h3, h4, h5, h6, h7, h8⟩ := ltB_of e1 rh ra rb
    exact ⟨p, r, h1, h2, h3, h5, h7, by rw [h8]; exact q.here rh rfl⟩
theorem op_gtP (hu : X.A.units + 64 < cLine) : OpR X (compareOp .Gt) (rP2 X.K gtP) := (op_gtD hu).imp fun x y H Q ⟨ρ, h, a, b, d, rh, ra, rb, e, q⟩ => by
  unfold gtP at e
  cases e1 : ltB h b a with
  | none => rw [e1] at e; cases e
  | some c =>
    rw [e1] at e
    cases e
    obtain ⟨p, r, h1, h2, h3, h4, h5, h6, h7, h8⟩ := ltB_of e1 rh rb ra
    exact ⟨r, p, h2, h1, h4, h6, by omega, by rw [h8]; exact q.here rh rfl⟩
theorem op_leP (hu : X.A.units + 64 < cLine) : OpR X (compareOp .LtE) (rP2 X.K leP) := (op_leD hu).imp fun x y H Q ⟨ρ, h, a, b, d, rh, ra, rb, e, q⟩ => by
  unfold leP at e
  cases e1 : ltB h b a with
  | none => rw [e1] at e; cases e
  | some c =>
    rw [e1] at e
    cases e
    obtain ⟨p, r, h1, h2, h3, h4, h5, h6, h7, h8⟩ := ltB_of e1 rh rb ra
    exact ⟨r, p, h2, h1, h4, h6, by omega, by rw [h8]; exact q.here rh rfl⟩
/-! ### is None -/
def isN : D → Bool
  | .non => true
  | _ => false
def isNP : P2 := fun _ a b => match b with
  | .non => some (.bl (isN a))
  | _ => none
def notNP : P2 := fun _ a b => match b with
  | .non => some (.bl (!isN a))
  | _ => none
theorem isN_of {K : PySem.W.Frag} {H : Hp} {ρ : Rh} {a : D} {x : V} (ra : RV K H ρ a x) : decide (x = .non) = isN a := by
  cases a with
  | non => cases ra; rfl
  | bl _ => cases ra; rfl
  | int _ => cases ra; rfl
  | str _ => cases ra; rfl
  | byt _ => cases ra; rfl
  | ty _ => cases ra; rfl
  | adr _ => cases ra; rfl
  | ref _ => obtain ⟨a, _, rfl⟩ := ra; rfl
  | tup _ => obtain ⟨a, _, rfl, _⟩ := ra; rfl
  | tmp _ => obtain ⟨a, _, rfl, _⟩ := ra; rfl
  | kls _ => obtain ⟨a, _, rfl, _⟩ := ra; rfl
  | dtm _ _ => obtain ⟨a, _, _, rfl, _⟩ := ra; rfl
  | xcp _ _ _ _ _ => obtain ⟨rfl, _⟩ := ra; rfl
theorem op_isNP : OpR X (compareOp .Is) (rP2 X.K isNP) := op_isN.imp fun x y H Q ⟨ρ, h, a, b, d, rh, ra, rb, e, q⟩ => by
  unfold isNP at e
  split at e
  · cases e; cases rb
    exact ⟨rfl, q.here rh (by rw [isN_of ra]; rfl)⟩
  · cases e
theorem op_notNP : OpR X (compareOp .IsNot) (rP2 X.K notNP) := op_notN.imp fun x y H Q ⟨ρ, h, a, b, d, rh, ra, rb, e, q⟩ => by
  unfold notNP at e
  split at e
  · cases e; cases rb
    exact ⟨rfl, q.here rh (by rw [isN_of ra]; rfl)⟩
  · cases e
/-! ### in -/
def kD : Key → D
  | .inl i => .int i
  | .inr x => .str x
def asKey : D → Option Key
  | .int i => some (.inl i)
  | .str x => some (.inr x)
  | _ => none
theorem asKey_of {K : PySem.W.Frag} {H : Hp} {ρ : Rh} {a : D} {x : V} {k : Key} (e : asKey a = some k) (ra : RV K H ρ a x) : x = kV k := by
  cases a with
  | int i => cases e; exact ra
  | str i => cases e; exact ra
  | _ => cases e
theorem RKs.zip {K : PySem.W.Frag} {H : Hp} {ρ : Rh} : ∀ (ks : List Key) {xs : List D} {vs : List V}, RVs K H ρ xs vs → RKs K H ρ (ks.zip xs) (ks.zip vs)
  | [], _, _, _ => rfl
  | k :: ks, [], vs, q => by rw [show vs = [] from q]; exact rfl
  | k :: ks, x :: xs, _, ⟨v, t, e, q, qs⟩ => by subst e; exact ⟨v, _, rfl, q, RKs.zip ks qs⟩
/-- a dict that may be read -/
def asDct (h : Hd) : D → Option (List (Key × D))
  | .ref n => match h[n]? with
    | some (.dct kvs) => some kvs
    | some (.dfr kvs) => some kvs
    | _ => none
  | .dtm ks xs => some (ks.zip xs)
  | _ => none
theorem asDct_of {K : PySem.W.Frag} {H : Hp} {ρ : Rh} {h : Hd} {a : D} {x : V} {kvs : List (Key × D)} (e : asDct h a = some kvs) (rh : RH K ρ h H) (ra : RV K H ρ a x) : ∃ p vs, x = .ref p ∧ L2.Rd H p (.dK vs) ∧ RKs K H ρ kvs vs := by
  cases a with
  | ref n =>
    obtain ⟨p, ep, rfl⟩ := ra
    unfold asDct at e
    simp only at e
    split at e
    · next hn =>
      cases e
      obtain ⟨vs, q1, q2⟩ := rh.obj _ _ _ ep hn
      exact ⟨p, vs, rfl, .inl q1, q2⟩
    · next hn =>
      cases e
      obtain ⟨vs, o, q1, q2⟩ := rh.obj _ _ _ ep hn
      exact ⟨p, vs, rfl, .inr ⟨o, q1⟩, q2⟩
    · cases e
  | dtm ks xs =>
    cases e
    obtain ⟨p, o, vs, rfl, q1, _, _, q2⟩ := ra
    exact ⟨p, _, rfl, .inr ⟨o, q1⟩, RKs.zip ks q2⟩
  | _ => cases e
/-- a dict that may be written -/
def asDm (h : Hd) : D → Option (Nat × List (Key × D))
  | .ref n => match h[n]? with
    | some (.dct kvs) => some (n, kvs)
    | _ => none
  | _ => none
theorem asDm_of {K : PySem.W.Frag} {H : Hp} {ρ : Rh} {h : Hd} {a : D} {x : V} {n : Nat} {kvs : List (Key × D)} (e : asDm h a = some (n, kvs)) (rh : RH K ρ h H) (ra : RV K H ρ a x) : ∃ p vs, ρ.c[n]? = some p ∧ x = .ref p ∧ H p = some (.dK vs) ∧ RKs K H ρ kvs vs := by
  cases a with
  | ref m =>
    obtain ⟨p, ep, rfl⟩ := ra
    unfold asDm at e
    simp only at e
    split at e
    · next hn =>
      cases e
      obtain ⟨vs, q1, q2⟩ := rh.obj _ _ _ ep hn
      exact ⟨p, vs, ep, rfl, q1, q2⟩
    · cases e
  | _ => cases e
def valD (kvs : List (Key × D)) (k : Key) : Option D := match kvs with
  | [] => none
  | (j, v) :: r => if j = k then some v else valD r k
def seqIn (h : Hd) (a : D) (xs : List D) : Option Bool := if flatD a && xs.all flatD then some (xs.any fun y => eqF y a) else match toP h a, toP0s xs with
  | some p, some ps => if min (PyData.depthAll ps) p.depth ≤ 64 then some (ps.any fun z => PyData.eqv z p) else none
  | _, _ => none
def strIn (y z : Str) : Bool := match y.cps.toList with
  | [c] => decide (c ∈ z.cps.toList)
  | _ => !(Builtin.Str.occurrences z y 0 z.length 1).isEmpty
def inB (h : Hd) (a b : D) : Option Bool := match b with
  | .str z => match a with
    | .str y => some (strIn y z)
    | _ => none
  | .tup xs => seqIn h a xs
  | .tmp xs => seqIn h a xs
  | b => match asDct h b with
    | some kvs => (asKey a).map fun k => (valD kvs k).isSome
    | none => match asL h b with
      | some xs => seqIn h a xs
      | none => none
def inP : P2 := fun h a b => (inB h a b).map .bl
def notInP : P2 := fun h a b => (inB h a b).map fun c => .bl (!c)
/-- what in says, by values -/
def rInT (K : PySem.W.Frag) (g : Bool → Bool) : R2 := fun x y H Q => ∃ d ds, Dp K H x d ∧ (Dp K H y (.list ds) ∨ Dp K H y (.tuple ds)) ∧ d.plain = true ∧ PyData.plainAll ds = true ∧ min (PyData.depthAll ds) d.depth ≤ 64 ∧ Q (.bl (g (ds.any fun z => PyData.eqv z d))) H
theorem op_inT (hu : X.A.units + 65 < cLine) : OpR X (compareOp .In) (rInT X.K id) := by
  intro pins s σ H x y v u Q I rx ry h
  obtain ⟨d, ds, hd, he, sd, se, sm, q⟩ := h
  obtain ⟨as, r1⟩ := Dp.reads I d x v hd rx
  rcases he with he | he
  · obtain ⟨bs, r2⟩ := Dp.reads I (.list ds) y u he ry
    exact SeqAt.in_list_data r2 r1 se sd (by omega) ⟨.bl _, H, I, rfl, q⟩
  · obtain ⟨bs, r2⟩ := Dp.reads I (.tuple ds) y u he ry
    exact SeqAt.in_tuple_data r2 r1 se sd (by omega) ⟨.bl _, H, I, rfl, q⟩
theorem op_notInT (hu : X.A.units + 65 < cLine) : OpR X (compareOp .NotIn) (rInT X.K not) := by
  intro pins s σ H x y v u Q I rx ry h
  obtain ⟨d, ds, hd, he, sd, se, sm, q⟩ := h
  obtain ⟨as, r1⟩ := Dp.reads I d x v hd rx
  rcases he with he | he
  · obtain ⟨bs, r2⟩ := Dp.reads I (.list ds) y u he ry
    exact SeqAt.notIn_list_data r2 r1 se sd (by omega) ⟨.bl _, H, I, rfl, q⟩
  · obtain ⟨bs, r2⟩ := Dp.reads I (.tuple ds) y u he ry
    exact SeqAt.notIn_tuple_data r2 r1 se sd (by omega) ⟨.bl _, H, I, rfl, q⟩
def rDInV (g : Bool → Bool) : R2 := fun x y H Q => ∃ a ov, y = .ref a ∧ DGet H a x ov ∧ Q (.bl (g ov.isSome)) H
theorem op_dIn (hu : X.A.units + 1 < cLine) : OpR X (compareOp .In) (rDInV id) := by
  intro pins s σ H x y v u Q I rx ry h
  obtain ⟨a, ov, rfl, g, q⟩ := h
  obtain rfl : u = Value.ref a := ry
  exact d_in hu I g rx fun s3 I3 => ⟨.bl ov.isSome, H, I3, rfl, q⟩
theorem op_dNotIn (hu : X.A.units + 1 < cLine) : OpR X (compareOp .NotIn) (rDInV not) := by
  intro pins s σ H x y v u Q I rx ry h
  obtain ⟨a, ov, rfl, g, q⟩ := h
  obtain rfl : u = Value.ref a := ry
  exact d_notIn hu I g rx fun s3 I3 => ⟨.bl (!ov.isSome), H, I3, rfl, q⟩
theorem RKs.val {K : PySem.W.Frag} {H : Hp} {ρ : Rh} {k : Key} : ∀ {kvs : List (Key × D)} {vs : List (Key × V)}, RKs K H ρ kvs vs → (valD kvs k = none ∧ valV vs k = none) ∨ ∃ d v, valD kvs k = some d ∧ valV vs k = some v ∧ RV K H ρ d v
  | [], _, q => by rw [show _ = [] from q]; exact .inl ⟨rfl, rfl⟩
  | (j, d) :: r, _, ⟨v, t, e, q, qs⟩ => by
    subst e
    by_cases hj : j = k
    · exact .inr ⟨d, v, by rw [valD, if_pos hj], valV_pos hj, q⟩
    · have e2 : valV ((j, v) :: t) k = valV t k := by
        unfold valV
        rw [List.find?_cons_of_neg (by simpa using hj)]
      rcases RKs.val (k := k) qs with ⟨h1, h2⟩ | ⟨d', v', h1, h2, h3⟩
      · exact .inl ⟨by rw [valD, if_neg hj]; exact h1, by rw [e2]; exact h2⟩
      · exact .inr ⟨d', v', by rw [valD, if_neg hj]; exact h1, by rw [e2]; exact h2, h3⟩
theorem eqF_of {K : PySem.W.Frag} {H : Hp} {ρ : Rh} {a b : D} {x y : V} (fa : flatD a = true) (fb : flatD b = true) (ra : RV K H ρ a x) (rb : RV K H ρ b y) : eqV x y = eqF a b ∧ flatV x = true := by
  cases a with
  | non => cases ra; cases b <;> first | (cases fb; done) | (cases rb; exact ⟨rfl, rfl⟩)
  | bl _ => cases ra; cases b <;> first | (cases fb; done) | (cases rb; exact ⟨rfl, rfl⟩)
  | int _ => cases ra; cases b <;> first | (cases fb; done) | (cases rb; exact ⟨rfl, rfl⟩)
  | str _ => cases ra; cases b <;> first | (cases fb; done) | (cases rb; exact ⟨rfl, rfl⟩)
  | _ => cases fa
theorem anyF_of {K : PySem.W.Frag} {H : Hp} {ρ : Rh} {a : D} {x : V} (fa : flatD a = true) (ra : RV K H ρ a x) : ∀ {xs : List D} {vs : List V}, xs.all flatD = true → RVs K H ρ xs vs → inV x vs = (xs.any fun y => eqF y a) ∧ vs.all flatV = true
  | [], _, _, q => by rw [show _ = [] from q]; exact ⟨rfl, rfl⟩
  | d :: ds, _, f, ⟨v, t, e, q, qs⟩ => by
    subst e
    rw [List.all_cons, Bool.and_eq_true] at f
    obtain ⟨h1, h2⟩ := anyF_of fa ra f.2 qs
    obtain ⟨h3, h4⟩ := eqF_of f.1 fa q ra
    refine ⟨?_, by rw [List.all_cons, h4, h2]; rfl⟩
    unfold inV at h1 ⊢
    rw [List.any_cons, List.any_cons, h1, h3]
/-- the flat, the deep -/
theorem seqIn_of {K : PySem.W.Frag} {H : Hp} {ρ : Rh} {h : Hd} {a : D} {x y : V} {xs : List D} {c : Bool} (e : seqIn h a xs = some c) (rh : RH K ρ h H) (ra : RV K H ρ a x) {p : Addr} {vs : List V} (hy : y = .ref p) (hs : SqL K H p vs ∨ SqT K H p vs) (rv : RVs K H ρ xs vs) {Q : VK} :
    (∀ g : Bool → Bool, Q (.bl (g c)) H → (∃ p xs, y = .ref p ∧ (SqL K H p xs ∨ SqT K H p xs) ∧ flatV x = true ∧ xs.all flatV = true ∧ Q (.bl (g (inV x xs))) H) ∨ rInT K g x y H Q) := fun g q => by
  unfold seqIn at e
  split at e
  · next hf =>
    cases e
    rw [Bool.and_eq_true] at hf
    obtain ⟨h1, h2⟩ := anyF_of hf.1 ra hf.2 rv
    exact .inl ⟨p, vs, hy, hs, (eqF_of hf.1 hf.1 ra ra).2, h2, by rw [h1]; exact q⟩
  · split at e
    · next pd ps h1 h2 =>
      split at e
      · next hs' =>
        cases e
        refine .inr ⟨pd, ps, dp_of h1 rh ra, ?_, plain_toP h1, plain0s _ _ h2, hs', q⟩
        have := dp0s xs vs ps h2 rv
        subst hy
        rcases hs with hs | hs
        · exact .inl (.lst hs this)
        · exact .inr (.tup hs this)
      · cases e
    · cases e
/-- all that in may be, by values -/
def rInAll (K : PySem.W.Frag) (g : Bool → Bool) : R2 := fun x y H Q => (∃ p xs, y = .ref p ∧ (SqL K H p xs ∨ SqT K H p xs) ∧ flatV x = true ∧ xs.all flatV = true ∧ Q (.bl (g (inV x xs))) H) ∨ rInT K g x y H Q ∨ rDInV g x y H Q ∨
  (∃ i j, x = .str i ∧ y = .str j ∧ Q (.bl (g (!(Builtin.Str.occurrences j i 0 j.length 1).isEmpty))) H) ∨ ∃ (c : Nat) (z : Str), x = .str ⟨#[c]⟩ ∧ y = .str z ∧ Q (.bl (g (decide (c ∈ z.cps.toList)))) H
theorem op_inAll (hu : X.A.units + 65 < cLine) : OpR X (compareOp .In) (rInAll X.K id) := (op_in_seq.or ((op_inT hu).or ((op_dIn (by omega)).or (op_in_str.or op_in_sign)))).imp fun x y H Q q => q
theorem op_notInAll (hu : X.A.units + 65 < cLine) : OpR X (compareOp .NotIn) (rInAll X.K not) := (op_notIn_seq.or ((op_notInT hu).or ((op_dNotIn (by omega)).or (op_notIn_str.or op_notIn_sign)))).imp fun x y H Q q => q
theorem inB_of {K : PySem.W.Frag} {H : Hp} {ρ : Rh} {h : Hd} {a b : D} {x y : V} {c : Bool} (e : inB h a b = some c) (rh : RH K ρ h H) (ra : RV K H ρ a x) (rb : RV K H ρ b y) {Q : VK} (g : Bool → Bool) (q : Q (.bl (g c)) H) : rInAll K g x y H Q := by
  have seq : ∀ {xs : List D} {p : Addr} {vs : List V}, seqIn h a xs = some c → y = .ref p → (SqL K H p vs ∨ SqT K H p vs) → RVs K H ρ xs vs → rInAll K g x y H Q := fun e hy hs rv => by
    rcases seqIn_of e rh ra hy hs rv g q with h1 | h1
    · exact .inl h1
    · exact .inr (.inl h1)
  unfold inB at e
  split at e
  · next z =>
    split at e
    · next y' =>
      cases e; cases ra; cases rb
      unfold strIn at q
      split at q
      · next c' hc =>
        refine .inr (.inr (.inr (.inr ⟨c', _, ?_, rfl, q⟩)))
        congr 1
        have : y'.cps = #[c'] := by
          apply Array.toList_inj.mp
          rw [hc]
        cases y'
        simp only at this
        rw [this]
      · exact .inr (.inr (.inr (.inl ⟨_, _, rfl, rfl, q⟩)))
    · cases e
  · obtain ⟨p, vs, hy, hs, rv⟩ := rb
    exact seq e hy (.inr hs) rv
  · obtain ⟨p, vs, hy, hs, _, rv⟩ := rb
    exact seq e hy (.inl (.of hs)) rv
  · split at e
    · next kvs hn =>
      obtain ⟨p, vs, hy, q1, q2⟩ := asDct_of hn rh rb
      cases hk : asKey a with
      | none => rw [hk] at e; cases e
      | some k =>
        rw [hk] at e
        cases e
        refine .inr (.inr (.inl ⟨p, valV vs k, hy, ?_, ?_⟩))
        · rw [asKey_of hk ra]; exact .inl ⟨vs, k, q1, rfl, rfl⟩
        · rcases RKs.val (k := k) q2 with ⟨h1, h2⟩ | ⟨d, v, h1, h2, _⟩
          · rw [h2]; simp only [h1] at q; exact q
          · rw [h2]; simp only [h1] at q; exact q
    · split at e
      · next xs hx =>
        obtain ⟨p, vs, hy, q1, q2⟩ := asL_of hx rh rb
        exact seq e hy (.inl q1) q2
      · cases e
theorem op_inP (hu : X.A.units + 65 < cLine) : OpR X (compareOp .In) (rP2 X.K inP) := (op_inAll hu).imp fun x y H Q ⟨ρ, h, a, b, d, rh, ra, rb, e, q⟩ => by
  unfold inP at e
  cases e1 : inB h a b with
  | none => rw [e1] at e; cases e
  | some c => rw [e1] at e; cases e; exact inB_of e1 rh ra rb id (q.here rh rfl)
theorem op_notInP (hu : X.A.units + 65 < cLine) : OpR X (compareOp .NotIn) (rP2 X.K notInP) := (op_notInAll hu).imp fun x y H Q ⟨ρ, h, a, b, d, rh, ra, rb, e, q⟩ => by
  unfold notInP at e
  cases e1 : inB h a b with
  | none => rw [e1] at e; cases e
  | some c => rw [e1] at e; cases e; exact inB_of e1 rh ra rb not (q.here rh rfl)
/-! ### subscripts -/
def ixP : P2 := fun h a b => match b with
  | .int i => match a with
    | .str z => if z.length ≤ line then (atI z.cps.toList i).map fun c => .str ⟨#[c]⟩ else none
    | a => (asQ h a).bind fun xs => atI xs i
  | _ => none
theorem RVs.atI {K : PySem.W.Frag} {H : Hp} {ρ : Rh} {xs : List D} {vs : List V} {i : Int} {d : D} (rv : RVs K H ρ xs vs) (e : L2.atI xs i = some d) : ∃ v, L2.atI vs i = some v ∧ RV K H ρ d v := by
  unfold L2.atI at e ⊢
  rw [← RVs.len rv]
  cases h : ixN xs.length i with
  | none => rw [h] at e; cases e
  | some j =>
    rw [h] at e
    exact RVs.get rv e
theorem ix_P : IxR X (rP2 X.K ixP) := ix_seq.imp fun x y H Q ⟨ρ, h, a, b, d, rh, ra, rb, e, q⟩ => by
  unfold ixP at e
  split at e
  · next i =>
    cases rb
    split at e
    · next z =>
      cases ra
      split at e
      · next hz =>
        cases h1 : atI z.cps.toList i with
        | none => rw [h1] at e; cases e
        | some c => rw [h1] at e; cases e; exact .inr (.inr ⟨z, i, c, rfl, rfl, hz, h1, q.here rh rfl⟩)
      · cases e
    · cases h1 : asQ h a with
      | none => rw [h1] at e; cases e
      | some xs =>
        rw [h1] at e
        obtain ⟨p, vs, rfl, hs, rv⟩ := asQ_of h1 rh ra
        obtain ⟨v, e1, r1⟩ := RVs.atI rv e
        rcases hs with hs | hs
        · exact .inl ⟨p, vs, i, v, rfl, rfl, hs, e1, q.here rh r1⟩
        · exact .inr (.inl ⟨p, vs, i, v, rfl, rfl, hs, e1, q.here rh r1⟩)
  · cases e
/-- d[k] of a cell -/
def dgetP : P2 := fun h a b => match asDct h a, asKey b with
  | some kvs, some k => valD kvs k
  | _, _ => none
end
end Mi
/-! Mi9: dicts, slices, built-ins, methods by values. -/
namespace L2
open PySem PySem.Spec PyProof.Rows
section
variable {X : Cx}
def rIxDk : R2 := fun x y H Q => ∃ a v, x = .ref a ∧ DGet H a y (some v) ∧ Q v H
theorem ix_dict (hu : X.A.units + 1 < cLine) : IxR X rIxDk := by
  intro value slice pins s σ H x y v u Q I rx ry h hs
  obtain ⟨a, z, rfl, g, q⟩ := h
  obtain rfl : v = Value.ref a := rx
  have hT : s.TypeIs (.ref a) "dict" := dict_typeIs I g
  have h₂ : wpAny (model X.prog X.w) X.A (getItem (.ref a) u) (EP X pins σ Q) X.xe s := d_getItem hu I g ry fun w' s3 I3 rw' => ⟨z, H, I3, rw', q⟩
  unfold subscriptTail
  refine wpAny_bind ?_
  rw [getitemInPython_of_ne hT.not_modules]
  refine wpAny_bind (wpAny_specialOf hT PySem.F.slot_dict_getitem.lookup ?_)
  have fin : wpAny (model X.prog X.w) X.A (subscripted slice false (.ref a) u) (fun r s₃ => wpAny (model X.prog X.w) X.A (letTemporaryGo value (.ref a) r >>= fun _ => pure r) (EP X pins σ Q) X.xe s₃) X.xe s := by
    rw [hs]
    exact wpAny_operating (wpAny_mono h₂ (fun r s₃ h₃ => wpAny_bind (wpAny_letTemporaryGo (wpAny_pure h₃))) fun _ _ x => x)
  first
    | exact wpAny_pure (wpAny_bind fin)
    | exact wpAny_bind (wpAny_pure (wpAny_bind fin))
    | exact wpAny_bind fin
def rSetD : TSet := fun o i v H Q => ∃ a H', o = .ref a ∧ DPut H a i v H' ∧ Q H'
theorem set_dict (hu : X.A.units + 1 < cLine) : PSet X rSetD := by
  intro pins s σ H o i v ov iv u Q I ro ri rv h
  obtain ⟨a, H', rfl, g, q⟩ := h
  obtain rfl : ov = Value.ref a := ro
  exact d_setItem hu I g ri rv fun s' I' => ⟨H', I', q⟩
end
end L2
namespace Mi
open PySem L2
section
variable {X : Cx}
theorem ix_dP (hu : X.A.units + 1 < cLine) : IxR X (rP2 X.K dgetP) := (ix_dict hu).imp fun x y H Q ⟨ρ, h, a, b, d, rh, ra, rb, e, q⟩ => by
  unfold dgetP at e
  split at e
  · next kvs k h1 h2 =>
    obtain ⟨p, vs, rfl, hp, rk⟩ := asDct_of h1 rh ra
    have ey := asKey_of h2 rb
    rcases RKs.val (k := k) rk with ⟨z1, z2⟩ | ⟨d', v, z1, z2, z3⟩
    · rw [z1] at e; cases e
    · rw [z1] at e
      cases e
      refine ⟨p, v, rfl, ?_, q.here rh z3⟩
      rw [← z2, ey]
      exact .inl ⟨vs, k, hp, rfl, rfl⟩
  · cases e
/-- a[b]: rows, texts, dicts -/
def itemP : P2 := fun h a b => match asDct h a with
  | some kvs => (asKey b).bind (valD kvs)
  | none => ixP h a b
theorem ix_item (hu : X.A.units + 1 < cLine) : IxR X (rP2 X.K itemP) := ((ix_dP hu).or ix_P).imp fun x y H Q ⟨ρ, h, a, b, d, rh, ra, rb, e, q⟩ => by
  unfold itemP at e
  split at e
  · next kvs h1 =>
    refine .inl ⟨ρ, h, a, b, d, rh, ra, rb, ?_, q⟩
    unfold dgetP
    rw [h1]
    cases h2 : asKey b with
    | none => rw [h2] at e; cases e
    | some k => rw [h2] at e; exact e
  · exact .inr ⟨ρ, h, a, b, d, rh, ra, rb, e, q⟩
/-! ### slices -/
def cutD (xs : List D) (lo hi : Option Int) : List D := (xs.drop (HT.sIx xs.length 0 lo)).take (HT.sIx xs.length xs.length hi - HT.sIx xs.length 0 lo)
theorem RVs.cut {K : PySem.W.Frag} {H : Hp} {ρ : Rh} {xs : List D} {vs : List V} (rv : RVs K H ρ xs vs) (lo hi : Option Int) : RVs K H ρ (cutD xs lo hi) (cutV vs lo hi) := by
  unfold cutD cutV
  rw [← RVs.len rv]
  exact RVs.take _ (RVs.drop _ rv)
/-- the ends of a slice: nothing, an int -/
abbrev EO := Env → Hd → R (Option Int)
def oNone : EO := fun _ h => .ok none h
def oSome (a : E) : EO := fun σ h => (a σ h).bind fun x h1 => match x with
  | .int i => .ok (some i) h1
  | _ => .bad
def RI0 : Hp → Rh → Option Int → Option Int → Prop := fun _ _ a b => a = b
abbrev CO (X : Cx) (W : WX) (e : Option Expr) (m : EO) : Prop := PO X e (tG RI0 X.K W m)
theorem _root_.L2.PO.imp {e : Option Expr} {t t' : TO} (h : PO X e t) (i : ∀ σ H Q, t' σ H Q → t σ H Q) : PO X e t' := ⟨fun pins s σ H Q I q => h.run pins s σ H Q I (i σ H Q q)⟩
theorem co_none {W : WX} : CO X W none oNone := po_none.imp fun σ H Q ⟨ρ, σd, h, rh, rs, q⟩ => q ρ none H .refl rh rfl
theorem co_some {W : WX} {e : Expr} {m : E} (he : CE X W e m) : CO X W (some e) (oSome m) := (po_some he).imp fun σ H Q ⟨ρ, σd, h, rh, rs, q⟩ =>
  ⟨ρ, σd, h, rh, rs, TQ.bind q fun ρ1 x H1 a h1 l1 rh1 rv1 q1 => by
    cases a with
    | int i => exact ⟨i, rv1, q1 ρ1 _ H1 .refl rh1 rfl⟩
    | _ => exact q1.elim⟩
def slP (h : Hd) (a : D) (lo hi : Option Int) : Option D := match a with
  | .str z => if z.length ≤ line then some (.str (Txt.slice z lo hi)) else none
  | .tup xs => some (.tup (cutD xs lo hi))
  | a => (asL h a).map fun xs => .tmp (cutD xs lo hi)
def eSl (a : E) (lo hi : EO) : E := fun σ h => (a σ h).bind fun x h1 => (lo σ h1).bind fun l h2 => (hi σ h2).bind fun u h3 => ofO (slP h3 x l u) h3
def lSl (a : E) (lo hi : EO) : EL := fun σ h => (a σ h).bind fun x h1 => (lo σ h1).bind fun l h2 => (hi σ h2).bind fun u h3 => ofO ((asL h3 x).map fun xs => cutD xs l u) h3
theorem ce_sl {W : WX} {e : Expr} {lo hi : Option Expr} {m : E} {ml mh : EO} {p2 pos : Pos} (he : CE X W e m) (hl : CO X W lo ml) (hh : CO X W hi mh) : CE X W (.Subscript e (.Slice lo hi none p2) pos) (eSl m ml mh) := (pe_slice (sl_list.or (sl_tupA.or C8.sl_txt)) he hl hh).imp fun σ H Q ⟨ρ, σd, h, rh, rs, q⟩ =>
  ⟨ρ, σd, h, rh, rs, TQ.bind q fun ρ1 x H1 a h1 l1 rh1 rv1 q1 => ⟨ρ1, σd, h1, rh1, rs.le l1 rh, TQ.bind q1 fun ρ2 l H2 l' h2 l2 rh2 e2 q2 => ⟨ρ2, σd, h2, rh2, (rs.le l1 rh).le l2 rh1, TQ.bind q2 fun ρ3 u H3 u' h3 l3 rh3 e3 q3 => by
    cases e2
    cases e3
    have rv := (rv1.le l2 rh1).le l3 rh2
    cases hs : slP h3 a l u with
    | none => rw [hs] at q3; exact q3.elim
    | some d =>
      rw [hs] at q3
      have q := PQ.of q3
      have go : (asL h3 a).map (fun xs => D.tmp (cutD xs l u)) = some d → rSlL X.K x l u H3 Q := fun e => by
        cases h1 : asL h3 a with
        | none => rw [h1] at e; cases e
        | some xs =>
          rw [h1] at e
          cases e
          obtain ⟨p, vs, rfl, hp, r⟩ := asL_of h1 rh3 rv
          exact ⟨p, vs, rfl, hp, PQ.lst q rh3 (r.cut l u)⟩
      unfold slP at hs
      split at hs
      · split at hs
        · next hz => cases hs; cases rv; exact .inr (.inr ⟨_, rfl, hz, q.here rh3 rfl⟩)
        · cases hs
      · next xs =>
        cases hs
        obtain ⟨p, vs, rfl, hp, r⟩ := rv
        refine .inr (.inl ⟨p, vs, rfl, hp, fun w => ?_, fun _ => PQ.tup q rh3 (r.cut l u)⟩)
        rw [← RVs.len r] at w
        have ec : cutD xs l u = xs := by
          unfold cutD
          rw [w.1, w.2, List.drop_zero, Nat.sub_zero, List.take_length]
        refine q.here rh3 ?_
        rw [ec]
        exact ⟨p, vs, rfl, hp, r⟩
      · exact .inl (go hs)⟩⟩⟩
theorem cl_sl {W : WX} {e : Expr} {lo hi : Option Expr} {m : E} {ml mh : EO} {p2 pos : Pos} (he : CE X W e m) (hl : CO X W lo ml) (hh : CO X W hi mh) : CL X W (.Subscript e (.Slice lo hi none p2) pos) (lSl m ml mh) := (pe_slice sl_list he hl hh).imp fun σ H Q ⟨ρ, σd, h, rh, rs, q⟩ =>
  ⟨ρ, σd, h, rh, rs, LQ.bind q fun ρ1 x H1 a h1 l1 rh1 rv1 q1 => ⟨ρ1, σd, h1, rh1, rs.le l1 rh, LQ.bind q1 fun ρ2 l H2 l' h2 l2 rh2 e2 q2 => ⟨ρ2, σd, h2, rh2, (rs.le l1 rh).le l2 rh1, LQ.bind q2 fun ρ3 u H3 u' h3 l3 rh3 e3 q3 => by
    cases e2
    cases e3
    have rv := (rv1.le l2 rh1).le l3 rh2
    cases h1 : asL h3 a with
    | none => rw [h1] at q3; exact q3.elim
    | some xs =>
      rw [h1] at q3
      obtain ⟨p, vs, rfl, hp, r⟩ := asL_of h1 rh3 rv
      exact ⟨p, vs, rfl, hp, fun p hp => q3 ρ3 p _ H3 .refl rh3 (r.cut l u) hp⟩⟩⟩⟩
/-! ### built-in functions -/
def intP : PN := fun _ as => match as with
  | [.int i] => some (.int i)
  | [.bl b] => some (.int (if b then 1 else 0))
  | _ => none
theorem call_intP : CallR X (.type "int") (rPN X.K intP) := call_int1.imp fun xs H Q ⟨ρ, h, as, d, rh, ra, e, q⟩ => by
  unfold intP at e
  split at e
  · cases e
    obtain ⟨v, r, rfl, rv, rn⟩ := ra
    cases rv; rw [show r = [] from rn]
    exact .inl ⟨_, rfl, q.here rh rfl⟩
  · cases e
    obtain ⟨v, r, rfl, rv, rn⟩ := ra
    cases rv; rw [show r = [] from rn]
    exact .inr ⟨_, rfl, q.here rh rfl⟩
  · cases e
theorem rvs1 {K : PySem.W.Frag} {H : Hp} {ρ : Rh} {a : D} {xs : List V} (q : RVs K H ρ [a] xs) : ∃ x, xs = [x] ∧ RV K H ρ a x := by
  obtain ⟨v, r, rfl, rv, rn⟩ := q
  exact ⟨v, by rw [show r = [] from rn], rv⟩
theorem rvs2 {K : PySem.W.Frag} {H : Hp} {ρ : Rh} {a b : D} {xs : List V} (q : RVs K H ρ [a, b] xs) : ∃ x y, xs = [x, y] ∧ RV K H ρ a x ∧ RV K H ρ b y := by
  obtain ⟨v, r, rfl, rv, rn⟩ := q
  obtain ⟨y, rfl, ry⟩ := rvs1 rn
  exact ⟨v, y, rfl, rv, ry⟩
def rLenD : List V → Hp → VK → Prop := fun xs H Q => ∃ d kvs, xs = [V.ref d] ∧ H d = some (.dK kvs) ∧ Q (.int kvs.length) H
def tupP : PN := fun h as => match as with
  | [.tup xs] => some (.tup xs)
  | [a] => (asL h a).map .tup
  | _ => none
theorem call_tupP : CallR X (.type "tuple") (rPN X.K tupP) := Rd.c_tuple.imp fun xs H Q ⟨ρ, h, as, d, rh, ra, e, q⟩ => by
  unfold tupP at e
  split at e
  · cases e
    obtain ⟨x, rfl, rv⟩ := rvs1 ra
    have q' := q.here rh rv
    obtain ⟨p, vs, rfl, hs, r⟩ := rv
    exact ⟨p, vs, rfl, .inr ⟨hs, q'⟩⟩
  · next a _ =>
    obtain ⟨x, rfl, rv⟩ := rvs1 ra
    cases h1 : asL h a with
    | none => rw [h1] at e; cases e
    | some ys =>
      rw [h1] at e
      cases e
      obtain ⟨p, vs, rfl, hs, r⟩ := asL_of h1 rh rv
      exact ⟨p, vs, rfl, .inl ⟨hs, PQ.tup q rh r⟩⟩
  · cases e
end
end Mi
/-! Mi10: more built-ins, methods, items that are set. -/
namespace Mi
open PySem L2
section
variable {X : Cx}
theorem call_lenDk : CallR X (.builtin "len") (fun xs H Q => ∃ a kvs, xs = [V.ref a] ∧ H a = some (.dK kvs) ∧ Q (.int kvs.length) H) := call_lenD
def lenP : PN := fun h as => match as with
  | [.str z] => if z.length ≤ line then some (.int z.length) else none
  | [a] => match asDm h a with
    | some p => some (.int p.2.length)
    | none => (asQ h a).map fun xs => .int xs.length
  | _ => none
theorem call_lenP : CallR X (.builtin "len") (rPN X.K lenP) := (call_len.or call_lenDk).imp fun xs H Q ⟨ρ, h, as, d, rh, ra, e, q⟩ => by
  unfold lenP at e
  split at e
  · split at e
    · next hz =>
      cases e
      obtain ⟨x, rfl, rv⟩ := rvs1 ra
      cases rv
      exact .inl ⟨_, _, rfl, ⟨hz, rfl⟩, q.here rh rfl⟩
    · cases e
  · next a _ =>
    obtain ⟨x, rfl, rv⟩ := rvs1 ra
    split at e
    · next p hp =>
      cases e
      obtain ⟨a', vs, _, rfl, hd, rk⟩ := asDm_of (n := p.1) (kvs := p.2) hp rh rv
      exact .inr ⟨a', vs, rfl, hd, q.here rh (congrArg (fun n : Nat => V.int n) (RKs.len rk).symm)⟩
    · cases h1 : asQ h a with
      | none => rw [h1] at e; cases e
      | some ys =>
        rw [h1] at e
        cases e
        obtain ⟨p, vs, rfl, hs, r⟩ := asQ_of h1 rh rv
        refine .inl ⟨_, vs.length, rfl, ?_, q.here rh (congrArg (fun n : Nat => V.int n) (RVs.len r).symm)⟩
        rcases hs with hs | hs
        · exact .inl ⟨vs, hs, rfl⟩
        · exact .inr ⟨vs, hs, rfl⟩
  · cases e
abbrev fits1920 (i : Int) : Bool := decide (i.natAbs.log2 < 1920)
def strP : PN := fun _ as => match as with
  | [.str z] => some (.str z)
  | [.int i] => if fits1920 i then some (.str (toString i)) else none
  | _ => none
theorem call_strP : CallR X (.type "str") (rPN X.K strP) := (call_str_int.or SkE.call_str_str).imp fun xs H Q ⟨ρ, h, as, d, rh, ra, e, q⟩ => by
  unfold strP at e
  split at e
  · cases e
    obtain ⟨x, rfl, rv⟩ := rvs1 ra
    cases rv
    exact .inr ⟨_, rfl, q.here rh rfl⟩
  · split at e
    · next hz =>
      cases e
      obtain ⟨x, rfl, rv⟩ := rvs1 ra
      cases rv
      exact .inl ⟨_, rfl, of_decide_eq_true hz, q.here rh rfl⟩
    · cases e
  · cases e
/-- list(x) -/
def listL (h : Hd) (as : List D) : Option (List D) := match as with
  | [a] => asQ h a
  | _ => none
theorem cl_list {W : WX} {e : Expr} {m : EA} {p pos : Pos} (hg : Gl X "list") (hm : X.mg "list" = none) (ha : CA X W [e] m) (hs : starEach [e] X.env = (false, eval e X.env) :: starEach [] X.env := by rfl) (hpl : (backTo pos (starEach [] X.env)).any (·.1) = false := by rfl) :
    CL X W (.Call (.Name "list" p) [e] [] pos) (lPN listL m) := (pe_callTy (T := "list") call_list_of hg hm (by decide +kernel) ha (by decide) (by decide) hs hpl).imp fun σ H Q ⟨ρ, σd, h, rh, rs, q⟩ =>
  ⟨ρ, σd, h, rh, rs, LQ.bind q fun ρ1 xs H1 as h1 l1 rh1 rv1 q1 => by
    cases e : listL h1 as with
    | none => rw [e] at q1; exact q1.elim
    | some ys =>
      rw [e] at q1
      unfold listL at e
      split at e
      · obtain ⟨x, rfl, rv⟩ := rvs1 rv1
        obtain ⟨p, vs, rfl, hs, r⟩ := asQ_of e rh1 rv
        exact ⟨p, vs, rfl, hs, fun l hl => q1 ρ1 l vs H1 .refl rh1 r hl⟩
      · cases e⟩
/-- all, any of a list of truths -/
def bools : List D → Option (List Bool)
  | [] => some []
  | .bl b :: r => (bools r).map (b :: ·)
  | _ => none
theorem bools_of {K : PySem.W.Frag} {H : Hp} {ρ : Rh} : ∀ {xs : List D} {vs : List V} {bs : List Bool}, bools xs = some bs → RVs K H ρ xs vs → vs = bs.map V.bl
  | [], vs, bs, e, q => by cases e; exact q
  | .bl b :: r, _, bs, e, ⟨v, t, e1, q, qs⟩ => by
    rw [bools] at e
    cases h : bools r with
    | none => rw [h] at e; cases e
    | some cs =>
      rw [h] at e
      cases e
      cases q
      rw [e1, bools_of h qs]
      rfl
  | .non :: _, _, _, e, _ => by cases e
  | .int _ :: _, _, _, e, _ => by cases e
  | .str _ :: _, _, _, e, _ => by cases e
  | .byt _ :: _, _, _, e, _ => by cases e
  | .ty _ :: _, _, _, e, _ => by cases e
  | .adr _ :: _, _, _, e, _ => by cases e
  | .ref _ :: _, _, _, e, _ => by cases e
  | .tup _ :: _, _, _, e, _ => by cases e
  | .tmp _ :: _, _, _, e, _ => by cases e
  | .dtm _ _ :: _, _, _, e, _ => by cases e
def allP : PN := fun h as => match as with
  | [a] => ((asL h a).bind bools).map fun bs => .bl (bs.all id)
  | _ => none
def anyP : PN := fun h as => match as with
  | [a] => ((asL h a).bind bools).map fun bs => .bl (bs.any id)
  | _ => none
theorem lbools {K : PySem.W.Frag} {H : Hp} {ρ : Rh} {h : Hd} {a : D} {x : V} {bs : List Bool} (e : (asL h a).bind bools = some bs) (rh : RH K ρ h H) (rv : RV K H ρ a x) : ∃ p, x = .ref p ∧ SqL K H p (bs.map V.bl) := by
  cases h1 : asL h a with
  | none => rw [h1] at e; cases e
  | some xs =>
    rw [h1] at e
    obtain ⟨p, vs, rfl, hs, r⟩ := asL_of h1 rh rv
    rw [bools_of e r] at hs
    exact ⟨p, rfl, hs⟩
theorem call_allP (hc : X.calm = true) : CallR X (.builtin "all") (rPN X.K allP) := (call_allL hc).imp fun xs H Q ⟨ρ, h, as, d, rh, ra, e, q⟩ => by
  unfold allP at e
  split at e
  · next a =>
    obtain ⟨x, rfl, rv⟩ := rvs1 ra
    cases h1 : (asL h a).bind bools with
    | none => rw [h1] at e; cases e
    | some bs =>
      rw [h1] at e
      cases e
      obtain ⟨p, rfl, hs⟩ := lbools h1 rh rv
      exact ⟨p, bs, rfl, hs, q.here rh rfl⟩
  · cases e
theorem call_anyP (hc : X.calm = true) : CallR X (.builtin "any") (rPN X.K anyP) := (call_anyL hc).imp fun xs H Q ⟨ρ, h, as, d, rh, ra, e, q⟩ => by
  unfold anyP at e
  split at e
  · next a =>
    obtain ⟨x, rfl, rv⟩ := rvs1 ra
    cases h1 : (asL h a).bind bools with
    | none => rw [h1] at e; cases e
    | some bs =>
      rw [h1] at e
      cases e
      obtain ⟨p, rfl, hs⟩ := lbools h1 rh rv
      exact ⟨p, bs, rfl, hs, q.here rh rfl⟩
  · cases e
def maxP : PN := fun _ as => match as with
  | [.int i, .int j] => some (.int (if j > i then j else i))
  | _ => none
def minP : PN := fun _ as => match as with
  | [.int i, .int j] => some (.int (if j < i then j else i))
  | _ => none
theorem call_maxP (hc : X.calm = true) : CallR X (.builtin "max") (rPN X.K maxP) := (call_max2 hc).imp fun xs H Q ⟨ρ, h, as, d, rh, ra, e, q⟩ => by
  unfold maxP at e
  split at e
  · cases e
    obtain ⟨x, y, rfl, rv, rw'⟩ := rvs2 ra
    cases rv; cases rw'
    exact ⟨_, _, rfl, q.here rh rfl⟩
  · cases e
theorem call_minP (hc : X.calm = true) : CallR X (.builtin "min") (rPN X.K minP) := (call_min2 hc).imp fun xs H Q ⟨ρ, h, as, d, rh, ra, e, q⟩ => by
  unfold minP at e
  split at e
  · cases e
    obtain ⟨x, y, rfl, rv, rw'⟩ := rvs2 ra
    cases rv; cases rw'
    exact ⟨_, _, rfl, q.here rh rfl⟩
  · cases e
/-! ### sorted of texts -/
def strsOf : List D → Option (List Str)
  | [] => some []
  | .str b :: r => (strsOf r).map (b :: ·)
  | _ => none
theorem strsOf_of {K : PySem.W.Frag} {H : Hp} {ρ : Rh} : ∀ {xs : List D} {vs : List V} {bs : List Str}, strsOf xs = some bs → RVs K H ρ xs vs → vs = bs.map V.str
  | [], vs, bs, e, q => by cases e; exact q
  | .str b :: r, _, bs, e, ⟨v, t, e1, q, qs⟩ => by
    rw [strsOf] at e
    cases h : strsOf r with
    | none => rw [h] at e; cases e
    | some cs =>
      rw [h] at e
      cases e
      cases q
      rw [e1, strsOf_of h qs]
      rfl
  | .non :: _, _, _, e, _ => by cases e
  | .int _ :: _, _, _, e, _ => by cases e
  | .bl _ :: _, _, _, e, _ => by cases e
  | .byt _ :: _, _, _, e, _ => by cases e
  | .ty _ :: _, _, _, e, _ => by cases e
  | .adr _ :: _, _, _, e, _ => by cases e
  | .ref _ :: _, _, _, e, _ => by cases e
  | .tup _ :: _, _, _, e, _ => by cases e
  | .tmp _ :: _, _, _, e, _ => by cases e
  | .dtm _ _ :: _, _, _, e, _ => by cases e
theorem rvs_strs {K : PySem.W.Frag} {H : Hp} {ρ : Rh} : ∀ ss : List Str, RVs K H ρ (ss.map D.str) (ss.map V.str)
  | [] => rfl
  | s :: ss => ⟨.str s, _, rfl, rfl, rvs_strs ss⟩
/-! the order of texts -/
theorem lt_irr : ∀ a : List Nat, Spec.ltCps a a = false
  | [] => rfl
  | a :: r => by simp [Spec.ltCps, lt_irr r]
theorem lt_tri : ∀ a b : List Nat, Spec.ltCps a b = false → Spec.ltCps b a = false → a = b
  | [], [], _, _ => rfl
  | [], _ :: _, h, _ => by cases h
  | _ :: _, [], _, h => by cases h
  | a :: r, b :: t, h1, h2 => by
    simp only [Spec.ltCps, Bool.or_eq_false_iff, Bool.and_eq_false_iff, decide_eq_false_iff_not, beq_eq_false_iff_ne] at h1 h2
    have e : a = b := by omega
    subst e
    rw [lt_tri r t (h1.2.resolve_left (by simp)) (h2.2.resolve_left (by simp))]
theorem lt_trans : ∀ a b c : List Nat, Spec.ltCps a b = true → Spec.ltCps b c = true → Spec.ltCps a c = true
  | [], _, [], h1, h2 => by cases ‹List Nat› <;> simp [Spec.ltCps] at *
  | [], _, _ :: _, _, _ => rfl
  | _ :: _, [], _, h, _ => by cases h
  | _ :: _, _ :: _, [], _, h => by cases h
  | a :: r, b :: t, c :: u, h1, h2 => by
    simp only [Spec.ltCps, Bool.or_eq_true, Bool.and_eq_true, decide_eq_true_eq, beq_iff_eq] at h1 h2 ⊢
    rcases h1 with h1 | ⟨e1, h1⟩
    · rcases h2 with h2 | ⟨e2, h2⟩
      · exact .inl (by omega)
      · exact .inl (by omega)
    · rcases h2 with h2 | ⟨e2, h2⟩
      · exact .inl (by omega)
      · exact .inr ⟨by omega, lt_trans r t u h1 h2⟩
theorem strLt_eq (x y : Str) : strLt x y = Spec.ltCps x.cps.toList y.cps.toList := by
  unfold strLt
  generalize x.cps.toList = a
  generalize y.cps.toList = b
  induction a generalizing b with
  | nil => cases b with
    | nil => rfl
    | cons b t => simp [Spec.ltCps]
  | cons a r ih => cases b with
    | nil => simp [Spec.ltCps]
    | cons b t =>
      simp only [Spec.ltCps, ← ih t]
      by_cases h1 : a < b
      · simp [h1, List.cons_lt_cons_iff]
      · by_cases h2 : a = b
        · subst h2; simp [List.cons_lt_cons_iff]
        · simp [h1, h2, List.cons_lt_cons_iff]
/-- insertion -/
def insS (x : Str) : List Str → List Str
  | [] => [x]
  | y :: ys => if strLt y x then y :: insS x ys else x :: y :: ys
def sortS : List Str → List Str
  | [] => []
  | x :: xs => insS x (sortS xs)
theorem insS_perm (x : Str) : ∀ ys, (insS x ys).Perm (x :: ys)
  | [] => .refl _
  | y :: ys => by
    unfold insS
    split
    · exact ((insS_perm x ys).cons y).trans (.swap x y ys)
    · exact .refl _
theorem sortS_perm : ∀ xs, (sortS xs).Perm xs
  | [] => .refl _
  | x :: xs => (insS_perm x (sortS xs)).trans ((sortS_perm xs).cons x)
abbrev upS (l : List Str) : Prop := l.Pairwise fun a b => strLt b a = false
theorem lt_le {a b c : Str} (h1 : strLt b a = false) (h2 : strLt c b = false) : strLt c a = false := by
  rw [strLt_eq] at *
  cases h : Spec.ltCps c.cps.toList a.cps.toList with
  | false => rfl
  | true =>
    exfalso
    cases h3 : Spec.ltCps a.cps.toList b.cps.toList with
    | true => rw [lt_trans _ _ _ h h3] at h2; cases h2
    | false =>
      have := lt_tri _ _ h3 h1
      rw [this, h2] at h
      cases h
theorem insS_up (x : Str) : ∀ ys, upS ys → upS (insS x ys)
  | [], _ => by simp [insS]
  | y :: ys, h => by
    unfold insS
    obtain ⟨h1, h2⟩ := List.pairwise_cons.mp h
    split
    · next hy =>
      refine List.pairwise_cons.mpr ⟨fun z hz => ?_, insS_up x ys h2⟩
      rcases List.mem_cons.mp ((insS_perm x ys).mem_iff.mp hz) with e | e
      · subst e
        rw [strLt_eq] at hy ⊢
        cases q : Spec.ltCps z.cps.toList y.cps.toList with
        | false => rfl
        | true =>
          have := lt_trans _ _ _ hy q
          rw [lt_irr] at this
          cases this
      · exact h1 z e
    · next hy =>
      have hy' : strLt y x = false := by simpa using hy
      refine List.pairwise_cons.mpr ⟨fun z hz => ?_, h⟩
      rcases List.mem_cons.mp hz with e | e
      · rw [e]; exact hy'
      · exact lt_le hy' (h1 z e)
theorem sortS_up : ∀ xs, upS (sortS xs)
  | [] => .nil
  | x :: xs => insS_up x _ (sortS_up xs)
theorem rising_up : ∀ (p : Str) (l : List Str), PyProof.Rows.risingS p l = true → upS (p :: l)
  | p, [], _ => by simp
  | p, x :: r, h => by
    unfold PyProof.Rows.risingS at h
    rw [Bool.and_eq_true] at h
    have ih := rising_up x r h.2
    have hx : strLt x p = false := by rw [strLt_eq]; simpa using h.1
    refine List.pairwise_cons.mpr ⟨fun z hz => ?_, ih⟩
    rcases List.mem_cons.mp hz with e | e
    · rw [e]; exact hx
    · exact lt_le hx ((List.pairwise_cons.mp ih).1 z e)
theorem sorted_up : ∀ l : List Str, PyProof.Rows.sortedS l = true → upS l
  | [], _ => .nil
  | x :: r, h => rising_up x r h
theorem str_cps {x y : Str} (h : x.cps.toList = y.cps.toList) : x = y := PySem.W.str_of_cps h
theorem sort_one {xs ys : List Str} (p : ys.Perm xs) (s : upS ys) : ys = sortS xs := (p.trans (sortS_perm xs).symm).eq_of_pairwise (fun x y _ _ h1 h2 => str_cps (by
  rw [strLt_eq] at h1 h2
  exact lt_tri _ _ h2 h1)) s (sortS_up xs)
def sortL (h : Hd) (as : List D) : Option (List D) := match as with
  | [a] => ((asL h a).bind strsOf).bind fun ss => if ss.length < 64 then some ((sortS ss).map .str) else none
  | _ => none
theorem cl_sorted {W : WX} {e : Expr} {m : EA} {p pos : Pos} (hg : Gl X "sorted") (hm : X.mg "sorted" = none) (ha : CA X W [e] m) (hs : starEach [e] X.env = (false, eval e X.env) :: starEach [] X.env := by rfl) (hpl : (backTo pos (starEach [] X.env)).any (·.1) = false := by rfl) :
    CL X W (.Call (.Name "sorted" p) [e] [] pos) (lPN sortL m) := (pe_callB (id := "sorted") cr_sortedS hg hm (by decide +kernel) ha (by decide) (by decide) hs hpl).imp fun σ H Q ⟨ρ, σd, h, rh, rs, q⟩ =>
  ⟨ρ, σd, h, rh, rs, LQ.bind q fun ρ1 xs H1 as h1 l1 rh1 rv1 q1 => by
    cases e : sortL h1 as with
    | none => rw [e] at q1; exact q1.elim
    | some ys =>
      rw [e] at q1
      unfold sortL at e
      split at e
      · next a =>
        obtain ⟨x, rfl, rv⟩ := rvs1 rv1
        cases h2 : asL h1 a with
        | none => rw [h2] at e; cases e
        | some zs =>
          rw [h2] at e
          simp only [Option.bind_some] at e
          cases h3 : strsOf zs with
          | none => rw [h3] at e; cases e
          | some ss =>
            rw [h3] at e
            simp only [Option.bind_some] at e
            split at e
            · next hl =>
              cases e
              obtain ⟨p, vs, rfl, hs, r⟩ := asL_of h2 rh1 rv
              rw [strsOf_of h3 r] at hs
              refine ⟨p, ss, rfl, hs, hl, fun ys l pm so hl => ?_⟩
              rw [sort_one pm (sorted_up _ so)]
              exact q1 ρ1 l _ H1 .refl rh1 (rvs_strs _) hl
            · cases e
      · cases e⟩
end
end Mi
/-! Mi11: isinstance, methods of lists and texts, items that are set, stars, f-strings. -/
namespace Mi
open PySem L2
/-- what isinstance looks at in a class -/
structure ClsI (K : PySem.W.Frag) (C : Addr) : Prop where
  cl : Cls K C
  ha : PySem.W.findIn K (.ref C) "__class__" = some (some (.builtin "object.__class__"))
  hn : PySem.W.specialIn K (.builtin "object.__class__") "__get__" = some (some (.builtin "getset_descriptor.__get__"))
  htk : PySem.W.takesIn K (.builtin "object.__class__") = some true
  hm : PySem.W.mroIn K C (.type "object") = some true
section
variable {X : Cx}
def tyD (cs : List Addr) (h : Hd) : D → Option Value
  | .non => some (.type "NoneType")
  | .bl _ => some (.type "bool")
  | .int _ => some (.type "int")
  | .str _ => some (.type "str")
  | .tup _ => some (.type "tuple")
  | .tmp _ => some (.type "list")
  | .dtm _ _ => some (.type "dict")
  | .ref n => match h[n]? with
    | some (.lst _) => some (.type "list")
    | some (.fro _) => some (.type "list")
    | some (.dct _) => some (.type "dict")
    | some (.dfr _) => some (.type "dict")
    | some (.ins C _) => if cs.contains C then some (.ref C) else none
    | none => none
  | _ => none
theorem tyT {K : PySem.W.Frag} {H : Hp} {p : Addr} {xs : List V} (h : SqT K H p xs) : TyX K H (.ref p) (.type "tuple") := by
  rcases h with (h | ⟨o, h⟩) | ⟨o, its, n, h, hc, _⟩
  · exact .base (.tup h)
  · exact .fTuple h
  · exact .kTuple h hc
theorem tyD_of {K : PySem.W.Frag} {H : Hp} {ρ : Rh} {cs : List Addr} (hc : ∀ C ∈ cs, ClsI K C) {h : Hd} {d : D} {v : V} {t : Value} (e : tyD cs h d = some t) (rh : RH K ρ h H) (r : RV K H ρ d v) : TyX K H v t := by
  cases d with
  | non => cases e; cases r; exact .base .non
  | bl b => cases e; cases r; exact .base (.bl b)
  | int b => cases e; cases r; exact .base (.int b)
  | str b => cases e; cases r; exact .base (.str b)
  | tup xs => cases e; obtain ⟨a, vs, rfl, t, _⟩ := r; exact tyT t
  | tmp xs => cases e; obtain ⟨a, vs, rfl, t, _⟩ := r; exact .base (.lst t)
  | dtm ks xs => cases e; obtain ⟨a, o, vs, rfl, t, _⟩ := r; exact .fDict t
  | ref n =>
    obtain ⟨a, ea, rfl⟩ := r
    unfold tyD at e
    simp only at e
    split at e
    · next hn => cases e; obtain ⟨vs, q, _⟩ := rh.obj _ _ _ ea hn; exact .base (.lst q)
    · next hn => cases e; obtain ⟨vs, o, q, _⟩ := rh.obj _ _ _ ea hn; exact .base (.frz q)
    · next hn => cases e; obtain ⟨vs, q, _⟩ := rh.obj _ _ _ ea hn; exact .base (.dK q)
    · next hn => cases e; obtain ⟨vs, o, q, _⟩ := rh.obj _ _ _ ea hn; exact .fDict q
    · next hn =>
      split at e
      · next hm =>
        cases e
        obtain ⟨dx, vs, q, _⟩ := rh.obj _ _ _ ea hn
        have c := hc _ (by simpa using hm)
        exact .base (.ins q c.cl c.ha c.hn c.htk c.hm)
      · cases e
    · cases e
  | _ => cases e
def clsD : D → Option Value
  | .ty n => some (.type n)
  | .adr a => some (.ref a)
  | _ => none
def clsDs : List D → Option (List Value)
  | [] => some []
  | d :: ds => match clsD d, clsDs ds with
    | some c, some cs => some (c :: cs)
    | _, _ => none
theorem clsD_of {K : PySem.W.Frag} {H : Hp} {ρ : Rh} {d : D} {v : V} {u : Value} (e : clsD d = some u) (r : RV K H ρ d v) : ClsV v u := by
  cases d with
  | ty n => cases e; cases r; exact .ty n
  | adr a => cases e; cases r; exact .own a
  | _ => cases e
theorem clsDs_of {K : PySem.W.Frag} {H : Hp} {ρ : Rh} : ∀ {ds : List D} {vs : List V} {us : List Value}, clsDs ds = some us → RVs K H ρ ds vs → Paired ClsV vs us
  | [], _, _, e, q => by cases e; rw [show _ = [] from q]; exact .nil
  | d :: ds, _, us, e, ⟨v, t, e1, q, qs⟩ => by
    subst e1
    rw [clsDs] at e
    cases h1 : clsD d with
    | none => rw [h1] at e; cases e
    | some c =>
      cases h2 : clsDs ds with
      | none => rw [h1, h2] at e; cases e
      | some cs => rw [h1, h2] at e; cases e; exact .cons (clsD_of h1 q) (clsDs_of h2 qs)
def rIsiS (K : PySem.W.Frag) : List V → Hp → VK → Prop := fun xs H Q => ∃ (x : V) (tp : Addr) (cs : List V) (t : Value) (us : List Value) (b : Bool), xs = [x, .ref tp] ∧ SqT K H tp cs ∧ Paired ClsV cs us ∧ TyX K H x t ∧ PySem.W.kitAny K t us = some b ∧ Q (.bl b) H
theorem call_isiS : CallR X (.builtin "isinstance") (rIsiS X.K) := by
  intro pins s σ H xs us Q I r h
  obtain ⟨x, tp, cs, t, ws, b, rfl, hT, k, ty, e, q⟩ := h
  obtain ⟨u1, u2, rfl, r1, r2⟩ := vals2 r
  cases (show u2 = Value.ref tp from r2)
  obtain ⟨P, Z, p, hx⟩ := kit_of I r1 ty
  obtain ⟨its, rv, ⟨o, h1, h2, n, h3⟩, _⟩ := I.tuple hT
  have e3 := ClsV.all k rv
  subst e3
  obtain ⟨oc, od, dt, sl⟩ := o
  simp only at h2 h3
  subst h2 h3
  exact PySem.W.kia_tup Z I.kIn p h1 e hx fun tk => ⟨.bl b, H, I.tok tk, rfl, q⟩
/-- isinstance, with the classes' tables of the program -/
def isiP (K : PySem.W.Frag) (cs : List Addr) : PN := fun h as => match as with
  | [a, .tup us] => (tyD cs h a).bind fun t => (clsDs us).bind fun us => (PySem.W.kitAny K t us).map .bl
  | [a, c] => (tyD cs h a).bind fun t => (clsD c).bind fun u => (PySem.W.kitOne K t u).map .bl
  | _ => none
theorem call_isiP {cs : List Addr} (hc : ∀ C ∈ cs, ClsI X.K C) : CallR X (.builtin "isinstance") (rPN X.K (isiP X.K cs)) := (call_isi.or call_isiS).imp fun xs H Q ⟨ρ, h, as, d, rh, ra, e, q⟩ => by
  unfold isiP at e
  split at e
  · next a us =>
    obtain ⟨x, y, rfl, rx, ry⟩ := rvs2 ra
    cases h1 : tyD cs h a with
    | none => rw [h1] at e; cases e
    | some t =>
      rw [h1] at e
      simp only [Option.bind_some] at e
      cases h2 : clsDs us with
      | none => rw [h2] at e; cases e
      | some ws =>
        rw [h2] at e
        simp only [Option.bind_some] at e
        cases h3 : PySem.W.kitAny X.K t ws with
        | none => rw [h3] at e; cases e
        | some b =>
          rw [h3] at e
          cases e
          obtain ⟨p, vs, rfl, hs, r⟩ := ry
          exact .inr ⟨x, p, vs, t, ws, b, rfl, hs, clsDs_of h2 r, tyD_of hc h1 rh rx, h3, q.here rh rfl⟩
  · next a c _ =>
    obtain ⟨x, y, rfl, rx, ry⟩ := rvs2 ra
    cases h1 : tyD cs h a with
    | none => rw [h1] at e; cases e
    | some t =>
      rw [h1] at e
      simp only [Option.bind_some] at e
      cases h2 : clsD c with
      | none => rw [h2] at e; cases e
      | some u =>
        rw [h2] at e
        simp only [Option.bind_some] at e
        cases h3 : PySem.W.kitOne X.K t u with
        | none => rw [h3] at e; cases e
        | some b =>
          rw [h3] at e
          cases e
          exact .inl ⟨x, y, t, u, b, rfl, clsD_of h2 ry, tyD_of hc h1 rh rx, h3, q.here rh rfl⟩
  · cases e
/-! ### methods -/
def eBm (F : Hd → D → List D → Option D) (tc : Hd → D → Bool) (o : E) (a : EA) : E := fun σ h => (o σ h).bind fun x h1 => if tc h1 x then (a σ h1).bind fun as h2 => ofO (F h2 x as) h2 else .bad
def eBmM (F : Hd → D → List D → Option (D × Hd)) (tc : Hd → D → Bool) (o : E) (a : EA) : E := fun σ h => (o σ h).bind fun x h1 => if tc h1 x then (a σ h1).bind fun as h2 => match F h2 x as with
  | some (d, h3) => .ok d h3
  | none => .bad else .bad
def isL (h : Hd) (d : D) : Bool := (asL h d).isSome
def isS : Hd → D → Bool := fun _ d => match d with
  | .str _ => true
  | _ => false
/-- the receiver is of the type T -/
def TcOk (K : PySem.W.Frag) (T : String) (tc : Hd → D → Bool) : Prop := ∀ (ρ : Rh) (h : Hd) (H : Hp) (d : D) (v : V), RH K ρ h H → RV K H ρ d v → tc h d = true → tyV K T v H
theorem tc_list {K : PySem.W.Frag} : TcOk K "list" isL := fun ρ h H d v rh rv e => by
  unfold isL at e
  cases h1 : asL h d with
  | none => rw [h1] at e; cases e
  | some xs =>
    obtain ⟨p, vs, rfl, hs, _⟩ := asL_of h1 rh rv
    exact .inl ⟨rfl, vs, hs⟩
theorem tc_str {K : PySem.W.Frag} : TcOk K "str" isS := fun ρ h H d v rh rv e => by
  cases d with
  | str x => cases rv; rfl
  | _ => cases e
variable {W : WX} {o e : Expr} {es : List Expr} {mo : E} {ms : EA} {name : Str} {apos cpos : Pos} {T id : String} {tc : Hd → D → Bool}
theorem ce_bm {F : Hd → D → List D → Option D} (pa : PySem.PlainAttrs T) (slot : PySem.Slot T name id) (hty : typeOf (.builtin id) = pure (.type "method_descriptor")) (hm : MtR X id (rPM X.K F)) (ht : TcOk X.K T tc) (ho : CE X W o mo) (ha : CA X W (e :: es) ms)
    (hbase : attributeBase o name X.env (eval o X.env) = eval o X.env := by rfl)
    (hfew : ((backTo cpos (starEach (e :: es) X.env)).all (fun x => !x.1) && (backToKw cpos (keywordEach [] X.env)).all (fun x => x.1.isSome)
      && decide ((e :: es).length + ([] : List Keyword).length + (if ([] : List Keyword).isEmpty then 0 else 1) < 30)) = true := by rfl)
    (hline : (apos.endLine == cpos.line) = true := by rfl) (hs : starEach (e :: es) X.env = (false, eval e X.env) :: starEach es X.env := by rfl) (hplain : (backTo cpos (starEach es X.env)).any (·.1) = false := by rfl) :
    CE X W (.Call (.Attribute o name apos) (e :: es) [] cpos) (eBm F tc mo ms) := (pe_bm pa slot hty hm ho ha hbase hfew hline hs hplain).imp fun σ H Q ⟨ρ, σd, h, rh, rs, q⟩ =>
  ⟨ρ, σd, h, rh, rs, TQ.bind q fun ρ1 x H1 a h1 l1 rh1 rv1 q1 => by
    by_cases htc : tc h1 a = true
    · rw [if_pos htc] at q1
      refine ⟨ht ρ1 h1 H1 a x rh1 rv1 htc, ρ1, σd, h1, rh1, rs.le l1 rh, TQ.bind q1 fun ρ2 xs H2 as h2 l2 rh2 rv2 q2 => ?_⟩
      cases e : F h2 a as with
      | none => rw [e] at q2; exact q2.elim
      | some d => rw [e] at q2; exact ⟨ρ2, h2, a, as, d, rh2, rv1.le l2 rh1, rv2, e, PQ.of q2⟩
    · rw [if_neg htc] at q1
      exact q1.elim⟩
theorem ce_bmM {F : Hd → D → List D → Option (D × Hd)} (pa : PySem.PlainAttrs T) (slot : PySem.Slot T name id) (hty : typeOf (.builtin id) = pure (.type "method_descriptor")) (hm : MtR X id (rMM X.K F)) (ht : TcOk X.K T tc) (ho : CE X W o mo) (ha : CA X W (e :: es) ms)
    (hbase : attributeBase o name X.env (eval o X.env) = eval o X.env := by rfl)
    (hfew : ((backTo cpos (starEach (e :: es) X.env)).all (fun x => !x.1) && (backToKw cpos (keywordEach [] X.env)).all (fun x => x.1.isSome)
      && decide ((e :: es).length + ([] : List Keyword).length + (if ([] : List Keyword).isEmpty then 0 else 1) < 30)) = true := by rfl)
    (hline : (apos.endLine == cpos.line) = true := by rfl) (hs : starEach (e :: es) X.env = (false, eval e X.env) :: starEach es X.env := by rfl) (hplain : (backTo cpos (starEach es X.env)).any (·.1) = false := by rfl) :
    CE X W (.Call (.Attribute o name apos) (e :: es) [] cpos) (eBmM F tc mo ms) := (pe_bm pa slot hty hm ho ha hbase hfew hline hs hplain).imp fun σ H Q ⟨ρ, σd, h, rh, rs, q⟩ =>
  ⟨ρ, σd, h, rh, rs, TQ.bind q fun ρ1 x H1 a h1 l1 rh1 rv1 q1 => by
    by_cases htc : tc h1 a = true
    · rw [if_pos htc] at q1
      refine ⟨ht ρ1 h1 H1 a x rh1 rv1 htc, ρ1, σd, h1, rh1, rs.le l1 rh, TQ.bind q1 fun ρ2 xs H2 as h2 l2 rh2 rv2 q2 => ?_⟩
      cases e : F h2 a as with
      | none => rw [e] at q2; exact q2.elim
      | some p => obtain ⟨d, h3⟩ := p; rw [e] at q2; exact ⟨ρ2, h2, a, as, d, h3, rh2, rv1.le l2 rh1, rv2, e, q2⟩
    · rw [if_neg htc] at q1
      exact q1.elim⟩
/-- a list that may be written: its cell -/
def asLm (h : Hd) : D → Option (Nat × List D)
  | .ref n => match h[n]? with
    | some (.lst xs) => some (n, xs)
    | _ => none
  | _ => none
theorem asLm_of {K : PySem.W.Frag} {H : Hp} {ρ : Rh} {h : Hd} {a : D} {x : V} {n : Nat} {xs : List D} (e : asLm h a = some (n, xs)) (rh : RH K ρ h H) (ra : RV K H ρ a x) : ∃ p vs, ρ.c[n]? = some p ∧ x = .ref p ∧ H p = some (.lst vs) ∧ RVs K H ρ xs vs := by
  cases a with
  | ref m =>
    obtain ⟨p, ep, rfl⟩ := ra
    unfold asLm at e
    simp only at e
    split at e
    · next hn =>
      cases e
      obtain ⟨vs, q1, q2⟩ := rh.obj _ _ _ ep hn
      exact ⟨p, vs, ep, rfl, q1, q2⟩
    · cases e
  | _ => cases e
/-- the cell holds another list -/
theorem lst_put {K : PySem.W.Frag} {H : Hp} {ρ : Rh} {h : Hd} {n : Nat} {p : Addr} {ys : List D} {us ws : List V} (rh : RH K ρ h H) (ep : ρ.c[n]? = some p) (hp : H p = some (.lst ws)) (rv : RVs K H ρ ys us) : Le ρ ρ H (upd H p (.lst us)) ∧ RH K ρ (h.set n (.lst ys)) (upd H p (.lst us)) ∧ Mo K ρ ρ H (upd H p (.lst us)) :=
  ⟨le_upd ep (by rw [hp]; simp), rh.upd ep ⟨us, upd_same, RVs.mo (mo_upd rh ep) _ _ rv⟩, mo_upd rh ep⟩
def appendM : Hd → D → List D → Option (D × Hd) := fun h a as => match as with
  | [y] => (asLm h a).bind fun p => if p.2.length < line then some (.non, h.set p.1 (.lst (p.2 ++ [y]))) else none
  | _ => none
theorem mt_appendM : MtR X "list.append" (rMM X.K appendM) := (show MtR X "list.append" rAppend from mt_append).imp fun x vs H Q ⟨ρ, h, a, as, d, h', rh, ra, ras, e, q⟩ => by
  unfold appendM at e
  split at e
  · next y =>
    obtain ⟨u, rfl, ru⟩ := rvs1 ras
    cases h1 : asLm h a with
    | none => rw [h1] at e; cases e
    | some p =>
      obtain ⟨n, xs⟩ := p
      rw [h1] at e
      simp only [Option.bind_some] at e
      split at e
      · next hl =>
        cases e
        obtain ⟨p, ws, ep, rfl, hp, rw'⟩ := asLm_of h1 rh ra
        obtain ⟨l, r, _⟩ := lst_put rh ep hp (RVs.app rw' (.one ru))
        exact ⟨p, ws, u, rfl, rfl, hp, by rw [← RVs.len rw']; exact hl, q ρ _ _ l r rfl⟩
      · cases e
  · cases e
def extendM : Hd → D → List D → Option (D × Hd) := fun h a as => match as with
  | [y] => (asLm h a).bind fun p => (asM h y).bind fun ys => if p.2.length + ys.length ≤ line then some (.non, h.set p.1 (.lst (p.2 ++ ys))) else none
  | _ => none
theorem mt_extendM : MtR X "list.extend" (rMM X.K extendM) := (show MtR X "list.extend" rExtend from mt_extend).imp fun x vs H Q ⟨ρ, h, a, as, d, h', rh, ra, ras, e, q⟩ => by
  unfold extendM at e
  split at e
  · next y =>
    obtain ⟨u, rfl, ru⟩ := rvs1 ras
    cases h1 : asLm h a with
    | none => rw [h1] at e; cases e
    | some p =>
      obtain ⟨n, xs⟩ := p
      rw [h1] at e
      simp only [Option.bind_some] at e
      cases h2 : asM h y with
      | none => rw [h2] at e; cases e
      | some ys =>
        rw [h2] at e
        simp only [Option.bind_some] at e
        split at e
        · next hl =>
          cases e
          obtain ⟨p, ws, ep, rfl, hp, rw'⟩ := asLm_of h1 rh ra
          obtain ⟨p2, ws2, rfl, hp2, rw2⟩ := asM_of h2 rh ru
          obtain ⟨l, r, _⟩ := lst_put rh ep hp (RVs.app rw' rw2)
          exact ⟨p, p2, ws, ws2, rfl, rfl, hp, hp2, by rw [← RVs.len rw', ← RVs.len rw2]; exact hl, q ρ _ _ l r rfl⟩
        · cases e
  · cases e
/-- text.join(row of texts) -/
def joinP : Hd → D → List D → Option D := fun h a as => match a, as with
  | .str x, [y] => ((asQ h y).bind strsOf).bind fun ss => if (ss.map (·.length)).sum + ss.length * x.length ≤ 16777216 then some (.str (Txt.join x ss)) else none
  | _, _ => none
theorem mt_joinP : MtR X "str.join" (rPM X.K joinP) := mt_join.imp fun x vs H Q ⟨ρ, h, a, as, d, rh, ra, ras, e, q⟩ => by
  unfold joinP at e
  split at e
  · next y =>
    obtain ⟨u, rfl, ru⟩ := rvs1 ras
    cases ra
    cases h1 : asQ h y with
    | none => rw [h1] at e; cases e
    | some xs =>
      rw [h1] at e
      simp only [Option.bind_some] at e
      cases h2 : strsOf xs with
      | none => rw [h2] at e; cases e
      | some ss =>
        rw [h2] at e
        simp only [Option.bind_some] at e
        split at e
        · next hl =>
          cases e
          obtain ⟨p, ws, rfl, hs, rw'⟩ := asQ_of h1 rh ru
          rw [strsOf_of h2 rw'] at hs
          exact ⟨_, p, ss, rfl, rfl, hs, hl, q.here rh rfl⟩
        · cases e
  · cases e
/-- text.split(sep): a new list -/
def splitL : Hd → D → List D → Option (List D) := fun _ a as => match a, as with
  | .str x, [.str y] => if (y.length == 0) = false ∧ x.length + 2 ≤ line then some ((Txt.split x y).map .str) else none
  | _, _ => none
def lBm (F : Hd → D → List D → Option (List D)) (tc : Hd → D → Bool) (o : E) (a : EA) : EL := fun σ h => (o σ h).bind fun x h1 => if tc h1 x then (a σ h1).bind fun as h2 => ofO (F h2 x as) h2 else .bad
theorem cl_split (ho : CE X W o mo) (ha : CA X W [e] ms) (hbase : attributeBase o "split" X.env (eval o X.env) = eval o X.env := by rfl)
    (hfew : ((backTo cpos (starEach [e] X.env)).all (fun x => !x.1) && (backToKw cpos (keywordEach [] X.env)).all (fun x => x.1.isSome)
      && decide (([e] : List Expr).length + ([] : List Keyword).length + (if ([] : List Keyword).isEmpty then 0 else 1) < 30)) = true := by rfl)
    (hline : (apos.endLine == cpos.line) = true := by rfl) (hs : starEach [e] X.env = (false, eval e X.env) :: starEach [] X.env := by rfl) (hplain : (backTo cpos (starEach [] X.env)).any (·.1) = false := by rfl) :
    CL X W (.Call (.Attribute o "split" apos) [e] [] cpos) (lBm splitL isS mo ms) := (pe_bm PySem.F.plainAttrs_str PySem.F.slot_str_split PySem.F.type_str_split mt_split ho ha hbase hfew hline hs hplain).imp fun σ H Q ⟨ρ, σd, h, rh, rs, q⟩ =>
  ⟨ρ, σd, h, rh, rs, LQ.bind q fun ρ1 x H1 a h1 l1 rh1 rv1 q1 => by
    by_cases htc : isS h1 a = true
    · rw [if_pos htc] at q1
      refine ⟨tc_str ρ1 h1 H1 a x rh1 rv1 htc, ρ1, σd, h1, rh1, rs.le l1 rh, LQ.bind q1 fun ρ2 xs H2 as h2 l2 rh2 rv2 q2 => ?_⟩
      cases e : splitL h2 a as with
      | none => rw [e] at q2; exact q2.elim
      | some ys =>
        rw [e] at q2
        unfold splitL at e
        split at e
        · obtain ⟨u, rfl, ru⟩ := rvs1 rv2
          split at e
          · next hc =>
            cases e
            cases rv1
            cases ru
            exact ⟨_, _, rfl, rfl, hc.1, hc.2, fun p hp => q2 ρ2 p _ H2 .refl rh2 (rvs_strs _) hp⟩
          · cases e
        · cases e
    · rw [if_neg htc] at q1
      exact q1.elim⟩
end
end Mi
/-! Mi12: items that are set, stars, f-strings, dicts made, what is raised. -/
namespace Mi
open PySem L2
/-- in its place, or at the end -/
def putKD (kvs : List (Key × D)) (k : Key) (v : D) : List (Key × D) := if (kvs.any fun kv => decide (kv.1 = k)) = true then kvs.map (fun kv => if kv.1 = k then (kv.1, v) else kv) else kvs ++ [(k, v)]
section
variable {K : PySem.W.Frag} {H : Hp} {ρ : Rh}
theorem RKs.any {p : Key → Bool} : ∀ {kvs : List (Key × D)} {vs : List (Key × V)}, RKs K H ρ kvs vs → (kvs.any fun kv => p kv.1) = vs.any fun kv => p kv.1
  | [], _, q => by rw [show _ = [] from q]; rfl
  | (k, d) :: r, _, ⟨v, t, e, q, qs⟩ => by subst e; rw [List.any_cons, List.any_cons, RKs.any qs]
theorem RKs.mapPut {k : Key} {d : D} {v : V} (rv : RV K H ρ d v) : ∀ {kvs : List (Key × D)} {vs : List (Key × V)}, RKs K H ρ kvs vs → RKs K H ρ (kvs.map fun kv => if kv.1 = k then (kv.1, d) else kv) (vs.map fun kv => if kv.1 = k then (kv.1, v) else kv)
  | [], _, q => by rw [show _ = [] from q]; exact rfl
  | (j, d') :: r, _, ⟨v', t, e, q, qs⟩ => by
    subst e
    rw [List.map_cons, List.map_cons]
    by_cases hj : j = k
    · rw [if_pos hj, if_pos hj]; exact ⟨v, _, rfl, rv, RKs.mapPut rv qs⟩
    · rw [if_neg hj, if_neg hj]; exact ⟨v', _, rfl, q, RKs.mapPut rv qs⟩
theorem RKs.app {κ : Type} {as : List (κ × D)} {us : List (κ × V)} (r : RKs K H ρ as us) : ∀ {kvs : List (κ × D)} {vs : List (κ × V)}, RKs K H ρ kvs vs → RKs K H ρ (kvs ++ as) (vs ++ us)
  | [], _, q => by rw [show _ = [] from q]; exact r
  | (j, d') :: l, _, ⟨v', t, e, q, qs⟩ => by subst e; exact ⟨v', _, rfl, q, RKs.app r qs⟩
theorem RKs.putK {k : Key} {d : D} {v : V} (rv : RV K H ρ d v) {kvs : List (Key × D)} {vs : List (Key × V)} (q : RKs K H ρ kvs vs) : RKs K H ρ (putKD kvs k d) (L2.putK vs k v) := by
  unfold putKD L2.putK
  rw [RKs.any (p := fun j => decide (j = k)) q]
  split
  · exact RKs.mapPut rv q
  · exact RKs.app (as := [(k, d)]) (us := [(k, v)]) ⟨v, [], rfl, rv, rfl⟩ q
end
section
variable {X : Cx} {W : WX}
/-! ### o[i] = v -/
def gSubM (F : Hd → D → D → D → Option Hd) (o i : E) : G := fun d σ h => (o σ h).bind fun x h1 => (i σ h1).bind fun y h2 => match F h2 x y d with
  | some h3 => .ok σ h3
  | none => .bad
def rSetM (K : PySem.W.Frag) (F : Hd → D → D → D → Option Hd) : TSet := fun o i v H Q => ∃ ρ h a b d h', RH K ρ h H ∧ RV K H ρ a o ∧ RV K H ρ b i ∧ RV K H ρ d v ∧ F h a b d = some h' ∧ ∀ H', Le ρ ρ H H' → RH K ρ h' H' → Q H'
theorem _root_.L2.PSet.imp {r r' : TSet} (h : PSet X r) (i : ∀ x y v H Q, r' x y v H Q → r x y v H Q) : PSet X r' := fun pins s σ H o i' v ov iv u Q I ro ri rv q => h pins s σ H o i' v ov iv u Q I ro ri rv (i _ _ _ _ _ q)
theorem _root_.L2.PSet.or {r r' : TSet} (h : PSet X r) (h' : PSet X r') : PSet X (fun x y v H Q => r x y v H Q ∨ r' x y v H Q) := fun pins s σ H o i' v ov iv u Q I ro ri rv q => q.elim (h pins s σ H o i' v ov iv u Q I ro ri rv) (h' pins s σ H o i' v ov iv u Q I ro ri rv)
def setM (h : Hd) (a b d : D) : Option Hd := match a with
  | .ref n => match h[n]? with
    | some (.lst xs) => match b with
      | .int i => (ixN xs.length i).map fun j => h.set n (.lst (xs.set j d))
      | _ => none
    | some (.dct kvs) => (asKey b).bind fun k => if kvs.length < line then some (h.set n (.dct (putKD kvs k d))) else none
    | _ => none
  | _ => none
theorem set_M (hu : X.A.units + 1 < cLine) : PSet X (rSetM X.K setM) := (set_list.or (set_dict hu)).imp fun o i v H Q ⟨ρ, h, a, b, d, h', rh, ra, rb, rd, e, q⟩ => by
  cases a with
  | ref n =>
    obtain ⟨p, ep, rfl⟩ := ra
    unfold setM at e
    simp only at e
    split at e
    · next xs hn =>
      obtain ⟨vs, hp, rv⟩ := rh.obj _ _ _ ep hn
      split at e
      · next k =>
        cases rb
        cases h1 : ixN xs.length k with
        | none => rw [h1] at e; cases e
        | some j =>
          rw [h1] at e
          cases e
          obtain ⟨l, r, _⟩ := lst_put rh ep hp (RVs.set j rv rd)
          exact .inl ⟨p, vs, k, j, rfl, rfl, hp, by rw [← RVs.len rv]; exact h1, q _ l r⟩
      · cases e
    · next kvs hn =>
      obtain ⟨vs, hp, rv⟩ := rh.obj _ _ _ ep hn
      cases h1 : asKey b with
      | none => rw [h1] at e; cases e
      | some k =>
        rw [h1] at e
        simp only [Option.bind_some] at e
        split at e
        · next hl =>
          cases e
          refine .inr ⟨p, _, rfl, ?_, q _ (le_upd ep (by rw [hp]; simp)) (rh.upd (u := .dK (L2.putK vs k v)) ep ⟨_, upd_same, RKs.mo (mo_upd rh ep) _ _ (RKs.putK rd rv)⟩)⟩
          rw [asKey_of h1 rb]
          exact DPut.k hp (by rw [← RKs.len rv]; exact hl)
        · cases e
    · cases e
  | _ => cases e
theorem cg_sub {o i : Expr} {mo mi : E} {pos : Pos} (hu : X.A.units + 1 < cLine) (ho : CE X W o mo) (hi : CE X W i mi)
    (ha : ∀ v, assign (.Subscript o i pos) X.env v = (do
      let ov ← holding [v] (eval o X.env)
      let iv ← holding [v, ov] (eval i X.env)
      standAt pos
      holding [v, ov, iv] (setItem ov iv v)
      release [v, ov, iv] []) := by intro _; rfl) : CG X W (.Subscript o i pos) (gSubM setM mo mi) := (pg_sub ho hi (set_M hu) ha).imp fun v σ H Q ⟨ρ, σd, h, d, rh, rs, rv, q⟩ =>
  ⟨ρ, σd, h, rh, rs, TQ.bind q fun ρ1 x H1 a h1 l1 rh1 rv1 q1 => ⟨ρ1, σd, h1, rh1, rs.le l1 rh, TQ.bind q1 fun ρ2 y H2 b h2 l2 rh2 rv2 q2 => by
    cases e : setM h2 a b d with
    | none => rw [e] at q2; exact q2.elim
    | some h3 =>
      rw [e] at q2
      exact ⟨ρ2, h2, a, b, d, h3, rh2, rv1.le l2 rh1, rv2, (rv.le l1 rh).le l2 rh1, e, fun H' l r => q2 ρ2 σ H' l r (((rs.le l1 rh).le l2 rh1).le l rh2)⟩⟩⟩
/-! ### *x in a display -/
def eStar (a : E) (r : EA) : EA := fun σ h => (a σ h).bind fun x h1 => match asQ h1 x with
  | some xs => (r σ h1).bind fun ys h2 => .ok (xs ++ ys) h2
  | none => .bad
theorem ca_star {e : Expr} {es : List Expr} {m : E} {ms : EA} {p : Pos} (he : CE X W e m) (hr : CA X W es ms) (hs : starEach (.Starred e p :: es) X.env = (true, eval e X.env) :: starEach es X.env := by rfl) : CA X W (.Starred e p :: es) (eStar m ms) := (StX.pa_star he hr hs).imp fun σ H Q ⟨ρ, σd, h, rh, rs, q⟩ =>
  ⟨ρ, σd, h, rh, rs, TQ.bind q fun ρ1 x H1 a h1 l1 rh1 rv1 q1 => by
    cases e : asQ h1 a with
    | none => rw [e] at q1; exact q1.elim
    | some xs =>
      rw [e] at q1
      obtain ⟨p, vs, rfl, hs, r⟩ := asQ_of e rh1 rv1
      exact ⟨p, vs, rfl, hs.symm, ρ1, σd, h1, rh1, rs.le l1 rh, TQ.bind q1 fun ρ2 ys H2 b h2 l2 rh2 rv2 q2 => q2 ρ2 _ H2 .refl rh2 (RVs.app (r.le l2 rh1) rv2)⟩⟩
/-! ### f-strings -/
def fmtP (d : D) : Option D := match d with
  | .str z => if z.length ≤ line then some (.str z) else none
  | .int i => if fits1920 i then some (.str (toString i)) else none
  | _ => none
def eFmt (a : E) : E := fun σ h => (a σ h).bind fun x h1 => ofO (fmtP x) h1
theorem ce_fmt {e : Expr} {m : E} {pos : Pos} (he : CE X W e m) : CE X W (.FormattedValue e (-1) none pos) (eFmt m) := (pe_fmt he).imp fun σ H Q ⟨ρ, σd, h, rh, rs, q⟩ =>
  ⟨ρ, σd, h, rh, rs, TQ.bind q fun ρ1 x H1 a h1 l1 rh1 rv1 q1 => by
    cases e : fmtP a with
    | none => rw [e] at q1; exact q1.elim
    | some d =>
      rw [e] at q1
      unfold fmtP at e
      split at e
      · split at e
        · next hz => cases e; cases rv1; exact .inl ⟨_, rfl, hz, q1 ρ1 _ H1 .refl rh1 rfl⟩
        · cases e
      · split at e
        · next hz => cases e; cases rv1; exact .inr ⟨_, rfl, of_decide_eq_true hz, q1 ρ1 _ H1 .refl rh1 rfl⟩
        · cases e
      · cases e⟩
/-- {i:spec} of an int -/
def eFmtI (sp : Str) (a : E) : E := fun σ h => (a σ h).bind fun x h1 => match x with
  | .int i => if i.natAbs < 1000000000000000000 then .ok (.str (PyProof.Rows.intSpecTextOf sp i)) h1 else .bad
  | _ => .bad
theorem ce_fmtI {e spec : Expr} {m : E} {sp : Str} {pos : Pos} (z : PySem.W.nsIn X.K cStatics "sys.int_max_str_digits" = some none) (he : CE X W e m) (hs : PE X spec (tC (.str sp))) (hok : PyProof.Rows.intSpecOk sp = true) (hz : sp.length ≤ sizeLine) : CE X W (.FormattedValue e (-1) (some spec) pos) (eFmtI sp m) := (pe_fmtI z he hs hok hz).imp fun σ H Q ⟨ρ, σd, h, rh, rs, q⟩ =>
  ⟨ρ, σd, h, rh, rs, TQ.bind q fun ρ1 x H1 a h1 l1 rh1 rv1 q1 => by
    cases a with
    | int i =>
      simp only at q1
      split at q1
      · next hi => exact ⟨i, rv1, hi, q1 ρ1 _ H1 .refl rh1 rfl⟩
      · exact q1.elim
    | _ => exact q1.elim⟩
def joinsM : List E → Str → Env → Hd → R D
  | [], acc, _, h => .ok (.str acc) h
  | e :: es, acc, σ, h => (e σ h).bind fun x h1 => match x with
    | .str y => if (acc ++ y).length ≤ line then joinsM es (acc ++ y) σ h1 else .bad
    | _ => .bad
def eJs (es : List E) : E := joinsM es Str.empty
inductive CJ (X : Cx) (W : WX) : List Expr → List E → Prop where
  | nil : CJ X W [] []
  | cons {e : Expr} {m : E} {es : List Expr} {ms : List E} (h : CE X W e m) (r : CJ X W es ms) : CJ X W (e :: es) (m :: ms)
theorem CJ.pj {es : List Expr} {ms : List E} (h : CJ X W es ms) : PJ X es (ms.map fun m => tE X.K W m) := by
  induction h with
  | nil => exact .nil
  | cons h r ih => exact .cons h ih
theorem js_run : ∀ (ms : List E) (acc : Str) (σ : L2.St) (ρ : Rh) (σd : Env) (h : Hd) (H : Hp) (Q : VK), RH X.K ρ h H → RS X.K H ρ σd σ → TQ (RV X.K) X.K (fun c d H' => W c d σ H') ρ H (joinsM ms acc σd h) Q → tJs (ms.map fun m => tE X.K W m) acc σ H fun out H1 => Q (.str out) H1
  | [], acc, σ, ρ, σd, h, H, Q, rh, rs, q => q ρ _ H .refl rh rfl
  | m :: ms, acc, σ, ρ, σd, h, H, Q, rh, rs, q => ⟨ρ, σd, h, rh, rs, TQ.bind q fun ρ1 x H1 a h1 l1 rh1 rv1 q1 => by
    cases a with
    | str y =>
      simp only at q1
      split at q1
      · next hz => exact ⟨y, rv1, hz, js_run ms (acc ++ y) σ ρ1 σd h1 H1 Q rh1 (rs.le l1 rh) q1⟩
      · exact q1.elim
    | _ => exact q1.elim⟩
theorem ce_joined {v1 v2 : Expr} {rest : List Expr} {ms : List E} {pos : Pos} (h : CJ X W (v1 :: v2 :: rest) ms) : CE X W (.JoinedStr (v1 :: v2 :: rest) pos) (eJs ms) := (pe_joined h.pj).imp fun σ H Q ⟨ρ, σd, hd, rh, rs, q⟩ => js_run ms Str.empty σ ρ σd hd H Q rh rs q
/-! ### what is raised -/
def RMkOk : Prop := True
/-- raise C(..): its attributes by names, the last one first -/
def sRaise (C : Addr) (ns : List Str) (a : EA) : S := fun σ h => bindS (a σ h) σ fun ds h1 => if ds.length = ns.length then .exc C (some (ns.zip ds).reverse) σ h1 else .bad
def sRaiseZ (C : Addr) : S := fun σ h => .exc C none σ h
theorem RKs.zipS {K : PySem.W.Frag} {H : Hp} {ρ : Rh} : ∀ (ks : List Str) {xs : List D} {vs : List V}, RVs K H ρ xs vs → RKs K H ρ (ks.zip xs) (ks.zip vs)
  | [], _, _, _ => rfl
  | k :: ks, [], vs, q => by rw [show vs = [] from q]; exact rfl
  | k :: ks, x :: xs, _, ⟨v, t, e, q, qs⟩ => by subst e; exact ⟨v, _, rfl, q, RKs.zipS ks qs⟩
theorem RKs.rev {κ : Type} {K : PySem.W.Frag} {H : Hp} {ρ : Rh} : ∀ {as : List (κ × D)} {us : List (κ × V)}, RKs K H ρ as us → RKs K H ρ as.reverse us.reverse
  | [], _, q => by rw [show _ = [] from q]; exact rfl
  | (j, d') :: l, _, ⟨v', t, e, q, qs⟩ => by
    subst e
    rw [List.reverse_cons, List.reverse_cons]
    exact RKs.app (as := [(j, d')]) (us := [(j, v')]) ⟨v', [], rfl, q, rfl⟩ (RKs.rev qs)
theorem cs_raise {x : Str} {e : Expr} {es : List Expr} {ns : List Str} {ms : EA} {C : Addr} {p pos pos' : Pos} {k : Nat} (hc : X.calm = true) (tk : Takes X W) (hr : Room k X.A) (hg : Gl X x) (hm : X.mg x = some (.ref C)) (hs : X.mg "super" = none) (hk : PySem.W.keepIn X.K (.ref C) = true) (hR : Raises X (.ref C))
    (mk : ∀ us : List Value, us.length = ns.length → Xn.Mks X.prog X.w X.K X.mg C us [] (ns.zip us).reverse) (ha : CA X W (e :: es) ms)
    (hdb : (x == ("__debug__" : Str)) = false := by decide) (he : starEach (e :: es) X.env = (false, eval e X.env) :: starEach es X.env := by rfl) (hpl : (backTo pos (starEach es X.env)).any (·.1) = false := by rfl) :
    CS X W (.Raise (some (.Call (.Name x p) (e :: es) [] pos)) none pos') (sRaise C ns ms) := (ps_raise hc tk (pmk_exV hr hg hm hs hk hR mk ha hdb he hpl)).imp fun D σ H ⟨ρ, σd, h, rh, rs, q⟩ =>
  ⟨ρ, σd, h, rh, rs, SQ.bind rh rs q fun ρ1 xs H1 as h1 l1 rh1 rv1 q1 => by
    split at q1
    · next hl =>
      refine ⟨by rw [← RVs.len rv1]; exact hl, fun d hd => ?_⟩
      refine q1 ρ1 σ _ (some d) (Le.new hd) (rh1.new hd) ((rs.le l1 rh).mo (mo_new rh1 hd)) ⟨d, _, rfl, upd_same, rh1.no hd, ?_⟩
      exact RKs.mo (mo_new rh1 hd) _ _ (RKs.rev (RKs.zipS ns rv1))
    · exact q1.elim⟩
theorem cs_raiseZ {x : Str} {C : Addr} {p pos pos' : Pos} (hc : X.calm = true) (tk : Takes X W) (hg : Gl X x) (hm : X.mg x = some (.ref C)) (hk : PySem.W.keepIn X.K (.ref C) = true) (hR : Raises X (.ref C)) (Z : Xn.ExZ X.K C) (hdb : (x == ("__debug__" : Str)) = false := by decide) :
    CS X W (.Raise (some (.Call (.Name x p) [] [] pos)) none pos') (sRaiseZ C) := (ps_raise hc tk (pmk_exZ hg hm hk hR Z hdb)).imp fun D σ H ⟨ρ, σd, h, rh, rs, q⟩ => q ρ σ H none .refl rh rs rfl
end
end Mi
/-! Mi13: dict comprehensions, dicts and texts that are walked. -/
namespace L2
open PySem PySem.Spec PyProof.Rows
/-- what has come is never written any more -/
def tFreeze (t : TE) : TE := fun σ H Q => t σ H fun v H1 => ∃ d u, v = .ref d ∧ H1 d = some u ∧ Mut (some u) ∧ ∀ od, Q v (upd H1 d (.frz od u))
theorem pe_freeze {X : Cx} {e : Expr} {t : TE} (h : PE X e t) : PE X e (tFreeze t) := ⟨fun pins s σ H Q I q => thn (h.run pins s σ H _ I q) fun v s1 ⟨x, H1, I1, r1, d, u, ex, hd, mu, q1⟩ => by
  obtain ⟨od, I2⟩ := I1.lock hd mu
  exact ⟨x, _, I2, r1, q1 od⟩⟩
/-- ahead of a statement the thing at d is locked for good -/
def tFrz (t : TS) : TS := fun D σ H => ∃ d u, H d = some u ∧ Mut (some u) ∧ ∀ od, t D σ (upd H d (.frz od u))
theorem ps_frz {X : Cx} {st : Stmt} {t : TS} (h : PS X st t) : PS X st (tFrz t) := ⟨fun pins s σ H D I ⟨d, u, hd, mu, q⟩ => by
  obtain ⟨od, I1⟩ := I.lock hd mu
  exact h.run pins s σ _ D I1 (q od)⟩
end L2
namespace Mi
open PySem L2
def compDM (a : D → Env → Option Env) (t : ET) (k e : E) (gd : Hd → Bool) (σ : Env) : List D → Hd → List (Key × D) → R (List (Key × D))
  | [], h, acc => if gd h then .ok acc h else .bad
  | x :: xs, h, acc => if gd h then (match a x σ with
      | none => .bad
      | some σ1 => (t σ1 h).bind fun b h1 => if b then (k σ1 h1).bind fun kd h2 => (e σ1 h2).bind fun d h3 => (match asKey kd with
          | some key => if acc.length < line then compDM a t k e gd σ xs h3 (putKD acc key d) else .bad
          | none => .bad) else compDM a t k e gd σ xs h1 acc) else .bad
def shutD (r : R (List (Key × D))) : R D := match r with
  | .ok kvs h => .ok (.dtm (kvs.map (·.1)) (kvs.map (·.2))) h
  | _ => .bad
def eDComp (it : EI) (a : D → Env → Option Env) (t : ET) (k e : E) (vs : List Nat) : E := fun σ h => (it σ h).bind fun itm h1 => shutD (compDM a t k e itm.gd (wipeD σ vs) itm.xs h1 [])
section
variable {X : Cx} {W : WX}
theorem RKs.split {K : PySem.W.Frag} {H : Hp} {ρ : Rh} : ∀ {kvs : List (Key × D)} {vs : List (Key × V)}, RKs K H ρ kvs vs → vs = (kvs.map (·.1)).zip (vs.map (·.2)) ∧ RVs K H ρ (kvs.map (·.2)) (vs.map (·.2))
  | [], _, q => by rw [show _ = [] from q]; exact ⟨rfl, rfl⟩
  | (k, d) :: r, _, ⟨v, t, e, q, qs⟩ => by
    subst e
    obtain ⟨h1, h2⟩ := RKs.split qs
    refine ⟨?_, v, _, rfl, q, h2⟩
    rw [List.map_cons, List.map_cons, List.zip_cons_cons, ← h1]
theorem ce_dcomp {kx vx tg iter : Expr} {ifs : List Expr} {scope : Scope} {own : List (Str × Nat)} {pos : Pos} {mi : EI} {g : TG} {a : D → Env → Option Env} {us : List Nat} {tt : ET} {mk me : E} (hc : X.calm = true) (hN : X.N.Nodup) (hi : CI X W tg iter mi) (ok : BlkOk X.N X.env.scope scope own)
    (hg : ∀ (s : Shared) (H : Hp) (C : Addr) (cl : List (Str × Addr)) (fp : List Addr), PG (X.blk s H scope (compEnvC scope cl C X.env) fp) tg g) (hp : Pat X.K g a us) (hus : ∀ i ∈ us, i ∈ own.map (·.2))
    (ht : ∀ (s : Shared) (H : Hp) (C : Addr) (cl : List (Str × Addr)) (fp : List Addr), CTs (X.blk s H scope (compEnvC scope cl C X.env) fp) W0 ifs tt)
    (hk : ∀ (s : Shared) (H : Hp) (C : Addr) (cl : List (Str × Addr)) (fp : List Addr), CE (X.blk s H scope (compEnvC scope cl C X.env) fp) W0 kx mk)
    (he : ∀ (s : Shared) (H : Hp) (C : Addr) (cl : List (Str × Addr)) (fp : List Addr), CE (X.blk s H scope (compEnvC scope cl C X.env) fp) W0 vx me) (hs : ∀ x, foldedSetIterable iter X.env x = pure x := by intro _; rfl) :
    CE X W (.DictComp kx vx [⟨tg, iter, ifs, 0⟩] scope pos) (eDComp mi a tt mk me (own.map (·.2))) := (pe_freeze (pe_dc (tt := tT X.K W0 tt) (tk := tE X.K W0 mk) (tv := tE X.K W0 me) hc hN hi ok hg ht hk he hs)).imp fun σ H Q ⟨ρ, σd, h, rh, rs, q⟩ => by
  refine ⟨ρ, σd, h, rh, rs, TQ.bind q fun ρ1 J H1 itm h1 l1 rh1 ri q1 => fun p hp1 => ?_⟩
  cases hr : compDM a tt mk me itm.gd (wipeD σd (own.map (·.2))) itm.xs h1 [] with
  | bad => rw [hr] at q1; exact q1.elim
  | exc C fs h2 => rw [hr] at q1; exact q1.elim
  | ok full hF =>
    rw [hr, shutD] at q1
    have hz1 : p ∉ ρ1.z := (rh1.no hp1).2
    refine ⟨fun i m H' => ∃ ρ' h' acc vs', Le ρ1 ρ' H1 (er H' p) ∧ RH X.K ρ' h' (er H' p) ∧ H' p = some (.dK vs') ∧ RKs X.K (er H' p) ρ' acc vs' ∧ i ≤ itm.xs.length ∧ m = itm.xs.length - i ∧
      compDM a tt mk me itm.gd (wipeD σd (own.map (·.2))) (itm.xs.drop i) h' acc = .ok full hF, ⟨_, ρ1, h1, [], [], by rw [er_upd hp1]; exact .refl, by rw [er_upd hp1]; exact rh1, upd_same, rfl, Nat.zero_le _, rfl, hr⟩, ?_⟩
    rintro i m H' ⟨ρ', h', acc, vs', l', rh', hp', rv', hi', rfl, hr'⟩
    have hz' : p ∉ ρ'.z := by obtain ⟨mm, rfl, _⟩ := l'.ext; exact hz1
    have rhI := rh_in hp' rh'
    have lz : Lz ρ1 (ρ'.hide p) H1 H' := by
      obtain ⟨mm, rfl, hm⟩ := l'.ext
      exact ⟨⟨mm, rfl, hm⟩, ⟨[p], rfl, fun b hb => by rw [show b = p by simpa using hb]; exact hp1⟩, fun b o hb e => (er_some (l'.fr b o hb e)).2, fun b o u e => (er_some (l'.fz b o u e)).2⟩
    have rsI : RS X.K H' (ρ'.hide p) (wipeD σd (own.map (·.2))) (wipe σ (own.map (·.2))) := (((rs.le l1 rh).le l' rh1).mo (mo_in hp')).wipe _
    cases hd : itm.xs.drop i with
    | nil =>
      rw [hd, compDM] at hr'
      have hl : itm.xs.length ≤ i := List.drop_eq_nil_iff.mp hd
      by_cases hgd : itm.gd h' = true
      · rw [if_pos hgd] at hr'
        cases hr'
        refine .inl ⟨(ri (ρ'.hide p) _ H' lz rhI hgd i).1 hl, p, _, rfl, hp', trivial, fun od => ?_⟩
        have e0 : upd H' p (.frz od (.dK vs')) = upd (er H' p) p (.frz od (.dK vs')) := by
          funext b
          by_cases e : b = p
          · rw [e, upd_same, upd_same]
          · rw [upd_ne e, upd_ne e, er_ne e]
        rw [e0]
        obtain ⟨s1, s2⟩ := RKs.split rv'
        refine q1 ρ' (.ref p) _ (l'.trans (Le.new er_same)) (rh'.new er_same) ⟨p, od, vs'.map (·.2), rfl, ?_, rh'.no er_same, by simp, RVs.mo (mo_new rh' er_same) _ _ s2⟩
        rw [upd_same, ← s1]
      · rw [if_neg hgd] at hr'
        cases hr'
    | cons x xs =>
      rw [hd, compDM] at hr'
      have hx : itm.xs[i]? = some x := by
        have := List.getElem?_drop (xs := itm.xs) (i := i) (j := 0)
        rw [hd] at this
        simpa using this.symm
      have hxs : itm.xs.drop (i + 1) = xs := by
        rw [← List.drop_drop, hd]
        rfl
      have hlt : i < itm.xs.length := (List.getElem?_eq_some_iff.mp hx).1
      by_cases hgd : itm.gd h' = true
      case neg => rw [if_neg hgd] at hr'; cases hr'
      rw [if_pos hgd] at hr'
      cases ha : a x (wipeD σd (own.map (·.2))) with
      | none => rw [ha] at hr'; cases hr'
      | some σ1 =>
        rw [ha] at hr'
        simp only at hr'
        obtain ⟨hgo, hy⟩ := (ri (ρ'.hide p) h' H' lz rhI hgd i).2 x hx
        refine .inr ⟨hgo, fun H2 => ∃ ρ2 h2 acc2 vs2, Le ρ1 ρ2 H1 (er H2 p) ∧ RH X.K ρ2 h2 (er H2 p) ∧ H2 p = some (.dK vs2) ∧ RKs X.K (er H2 p) ρ2 acc2 vs2 ∧ compDM a tt mk me itm.gd (wipeD σd (own.map (·.2))) xs h2 acc2 = .ok full hF, ?_, ?_⟩
        · rintro H2 ⟨ρ2, h2, acc2, vs2, a1, a2, a3, a4, a5⟩
          refine ⟨itm.xs.length - (i + 1), by omega, ρ2, h2, acc2, vs2, a1, a2, a3, a4, hlt, rfl, ?_⟩
          rw [hxs]
          exact a5
        · intro v H2 hyl
          obtain ⟨l2, rh2, rv2⟩ := hy v H2 hyl
          refine hp _ h' H2 _ _ x v σ1 _ rh2 (rsI.le l2 rhI) rv2 ha fun σ2 rs2 hl2 ho2 => ?_
          refine ⟨wipe_same (by rw [hl2, wipe_length]) ho2 hus (by rw [hl2]), ?_⟩
          refine ⟨_, σ1, h', rh2, rs2, ?_⟩
          have hp2 : H2 p = some (.dK vs') := l2.fr p _ (rhI.zs p List.mem_cons_self).2 hp'
          cases ht' : tt σ1 h' with
          | bad => rw [ht'] at hr'; cases hr'
          | exc C fs h3 => rw [ht'] at hr'; cases hr'
          | ok b h3 =>
            rw [ht'] at hr'
            simp only [R.bind] at hr'
            intro ρ3 b' H3 l3 rh3 hb
            cases hb
            have hp3 : H3 p = some (.dK vs') := l3.fr p _ (rh2.zs p List.mem_cons_self).2 hp2
            obtain ⟨ρ2', e2, l2'⟩ := le_out l2
            obtain ⟨ρ3', e3, l3'⟩ := le_out l3
            have e2' : ρ2' = ρ' := by
              have hc2 : (ρ'.hide p).c = (ρ2'.hide p).c := congrArg Rh.c e2
              have hc3 : (ρ'.hide p).z = (ρ2'.hide p).z := congrArg Rh.z e2
              have c2 : ρ2'.c = ρ'.c := hc2.symm
              have c3 : ρ2'.z = ρ'.z := (List.cons.inj hc3).2.symm
              cases ρ2'
              cases ρ'
              simp only at c2 c3
              rw [c2, c3]
            subst e2'
            subst e3
            have hz3 : p ∉ ρ3'.z := by obtain ⟨mm, rfl, _⟩ := l3'.ext; exact hz'
            have m2 : Mo X.K ρ2' ρ2' (er H' p) (er H2 p) := l2'.mo rh'
            have m3 : Mo X.K ρ2' ρ3' (er H2 p) (er H3 p) := l3'.mo (rh_out hp2 noT_dK rh2 hz')
            cases b with
            | false =>
              refine iteF ⟨ρ3', h3, acc, vs', (l'.trans l2').trans l3', rh_out hp3 noT_dK rh3 hz3, hp3, ?_, by simpa using hr'⟩
              exact RKs.mo m3 _ _ (RKs.mo m2 _ _ rv')
            | true =>
              simp only [if_true] at hr'
              refine iteT ⟨_, σ1, h3, rh3, rs2.le l3 rh2, ?_⟩
              cases hk' : mk σ1 h3 with
              | bad => rw [hk'] at hr'; cases hr'
              | exc C fs h4 => rw [hk'] at hr'; cases hr'
              | ok kd h4 =>
                rw [hk'] at hr'
                simp only [R.bind] at hr'
                intro ρ4 y H4 l4 rh4 rv4
                have hp4 : H4 p = some (.dK vs') := l4.fr p _ (rh3.zs p List.mem_cons_self).2 hp3
                obtain ⟨ρ4', e4, l4'⟩ := le_out l4
                subst e4
                have hz4 : p ∉ ρ4'.z := by obtain ⟨mm, rfl, _⟩ := l4'.ext; exact hz3
                have m4 : Mo X.K ρ3' ρ4' (er H3 p) (er H4 p) := l4'.mo (rh_out hp3 noT_dK rh3 hz3)
                refine ⟨_, σ1, h4, rh4, (rs2.le l3 rh2).le l4 rh3, ?_⟩
                cases he' : me σ1 h4 with
                | bad => rw [he'] at hr'; cases hr'
                | exc C fs h5 => rw [he'] at hr'; cases hr'
                | ok d h5 =>
                  rw [he'] at hr'
                  simp only at hr'
                  intro ρ5 z H5 l5 rh5 rv5
                  have hp5 : H5 p = some (.dK vs') := l5.fr p _ (rh4.zs p List.mem_cons_self).2 hp4
                  obtain ⟨ρ5', e5, l5'⟩ := le_out l5
                  subst e5
                  have hz5 : p ∉ ρ5'.z := by obtain ⟨mm, rfl, _⟩ := l5'.ext; exact hz4
                  have m5 : Mo X.K ρ4' ρ5' (er H4 p) (er H5 p) := l5'.mo (rh_out hp4 noT_dK rh4 hz4)
                  have rvA : RKs X.K (er H5 p) ρ5' acc vs' := RKs.mo m5 _ _ (RKs.mo m4 _ _ (RKs.mo m3 _ _ (RKs.mo m2 _ _ rv')))
                  cases hkey : asKey kd with
                  | none => rw [hkey] at hr'; cases hr'
                  | some key =>
                    rw [hkey] at hr'
                    simp only at hr'
                    split at hr'
                    · next hlen =>
                      refine ⟨vs', key, asKey_of hkey rv4, hp5, by rw [← RKs.len rvA]; exact hlen, ρ5', h5, putKD acc key d, _, ?_, ?_, upd_same, ?_, hr'⟩
                      · rw [er_upd']; exact (((l'.trans l2').trans l3').trans l4').trans l5'
                      · rw [er_upd']; exact rh_out hp5 noT_dK rh5 hz5
                      · rw [er_upd']; exact RKs.putK (RV.mo (mo_out hp5 noT_dK) _ _ rv5) rvA
                    · cases hr'
end
end Mi
/-! Mi14: all that is walked; own comparisons; dicts of the module. -/
namespace Mi
open PySem L2
def beqK : List (Key × D) → List (Key × D) → Bool
  | [], [] => true
  | (k, a) :: r, (j, b) :: t => decide (k = j) && D.beq a b && beqK r t
  | _, _ => false
theorem beqK_of : ∀ (a b : List (Key × D)), beqK a b = true → a = b
  | [], [], _ => rfl
  | [], _ :: _, h => by cases h
  | _ :: _, [], h => by cases h
  | (k, a) :: r, (j, b) :: t, h => by
    simp only [beqK, Bool.and_eq_true, decide_eq_true_eq] at h
    rw [h.1.1, D.beq_of _ _ h.1.2, beqK_of r t h.2]
theorem beqK_self : ∀ a : List (Key × D), beqK a a = true
  | [] => rfl
  | (k, a) :: r => by simp [beqK, D.beq_self, beqK_self r]
def staysD (n : Nat) (kvs : List (Key × D)) : Hd → Bool := fun h => match h[n]? with
  | some (.dfr l) => beqK l kvs
  | _ => false
theorem staysD_of {n : Nat} {kvs : List (Key × D)} {h : Hd} (q : staysD n kvs h = true) : h[n]? = some (.dfr kvs) := by
  unfold staysD at q
  split at q
  · next e => rw [e, beqK_of _ _ q]
  · cases q
def signsD (x : Str) : List D := x.cps.toList.map fun c => .str ⟨#[c]⟩
/-- keys of a dict, signs of a text -/
def itMore (h : Hd) (d : D) : Option Itm := match d with
  | .str x => some ⟨signsD x, always⟩
  | .dtm ks xs => if ks.length = xs.length then some ⟨ks.map kD, always⟩ else none
  | .ref n => match h[n]? with
    | some (.dfr kvs) => some ⟨kvs.map fun p => kD p.1, staysD n kvs⟩
    | _ => none
  | _ => none
def itAll (h : Hd) (d : D) : Option Itm := match itMore h d with
  | some i => some i
  | none => itOf h d
def iAll (a : E) : EI := fun σ h => (a σ h).bind fun d h1 => ofO (itAll h1 d) h1
section
variable {X : Cx} {W : WX} {e tg : Expr} {ma : E} {K : PySem.W.Frag} {ρ : Rh} {H : Hp} {h : Hd}
theorem ri_str {x : Str} : RI K H ρ ⟨signsD x, always⟩ (Its x) := fun ρ1 h1 H1 l rh1 _ i => by
  refine ⟨fun hi => show x.cps.size ≤ i by simpa [signsD] using hi, fun d hd => ?_⟩
  unfold signsD at hd
  rw [List.getElem?_map] at hd
  cases hc : x.cps.toList[i]? with
  | none => rw [hc] at hd; cases hd
  | some c =>
    rw [hc] at hd
    cases hd
    have hc' : x.cps[i]? = some c := by simpa using hc
    refine ⟨(Array.getElem?_eq_some_iff.mp hc').1, fun v H' ⟨e1, c2, e2, e3⟩ => ?_⟩
    subst e1
    rw [hc'] at e2
    cases e2
    exact ⟨.refl, rh1, e3⟩
theorem rv_key {k : Key} : RV K H ρ (kD k) (kV k) := by
  cases k with
  | inl i => rfl
  | inr x => rfl
theorem ri_dtm {a : Addr} {o : Obj} {ks : List Key} {xs : List D} {vs : List V} (rh : RH K ρ h H) (q : H a = some (.frz o (.dK (ks.zip vs)))) (n : ρ.no a) (hl : ks.length = xs.length) (rv : RVs K H ρ xs vs) : RI K H ρ ⟨ks.map kD, always⟩ (Itk a o (ks.zip vs)) := fun ρ1 h1 H1 l rh1 _ i => by
  have q1 := ((l.mo rh).dct a o _ n q).1
  have hlen : (ks.zip vs).length = ks.length := by
    rw [List.length_zip, ← RVs.len rv, ← hl]
    omega
  refine ⟨fun hi => ⟨q1, by rw [hlen]; simpa using hi⟩, fun d hd => ?_⟩
  rw [List.getElem?_map] at hd
  cases hk : ks[i]? with
  | none => rw [hk] at hd; cases hd
  | some k =>
    rw [hk] at hd
    cases hd
    have hi : i < ks.length := (List.getElem?_eq_some_iff.mp hk).1
    refine ⟨⟨q1, by rw [hlen]; exact hi⟩, fun v H' ⟨e1, k2, v2, e2, e3⟩ => ?_⟩
    subst e1
    have : k2 = k := by
      have z := List.getElem?_zip_eq_some.mp e2
      rw [hk] at z
      exact (Option.some.inj z.1).symm
    subst this
    subst e3
    exact ⟨.refl, rh1, rv_key⟩
theorem RKs.at : ∀ {kvs : List (Key × D)} {vs : List (Key × V)} {i : Nat} {k : Key} {v : V}, RKs K H ρ kvs vs → vs[i]? = some (k, v) → ∃ d, kvs[i]? = some (k, d)
  | [], _, _, _, _, q, e => by rw [show _ = [] from q] at e; cases e
  | (j, d) :: r, _, 0, k, v, ⟨w, t, e1, _, _⟩, e => by subst e1; cases e; exact ⟨d, rfl⟩
  | (j, d) :: r, _, i + 1, k, v, ⟨w, t, e1, _, qs⟩, e => by subst e1; exact RKs.at (i := i) qs e
theorem ri_dfr {a : Addr} {o : Obj} {n : Nat} {kvs : List (Key × D)} {vs : List (Key × V)} (q : H a = some (.frz o (.dK vs))) (rk : RKs K H ρ kvs vs) :
    RI K H ρ ⟨kvs.map fun p => kD p.1, staysD n kvs⟩ (Itk a o vs) := fun ρ1 h1 H1 l rh1 g i => by
  have q1 := l.fz a o _ q
  refine ⟨fun hi => ⟨q1, by rw [← RKs.len rk]; simpa using hi⟩, fun d hd => ?_⟩
  rw [List.getElem?_map] at hd
  cases hk : kvs[i]? with
  | none => rw [hk] at hd; cases hd
  | some p =>
    rw [hk] at hd
    cases hd
    have hi : i < kvs.length := (List.getElem?_eq_some_iff.mp hk).1
    refine ⟨⟨q1, by rw [← RKs.len rk]; exact hi⟩, fun v H' ⟨e1, k2, v2, e2, e3⟩ => ?_⟩
    subst e1
    obtain ⟨d2, e4⟩ := RKs.at rk e2
    rw [hk] at e4
    cases e4
    subst e3
    exact ⟨.refl, rh1, rv_key⟩
theorem ci_all (he : CE X W e ma) : CI X W tg e (iAll ma) := (((pi_str he).or (pi_keys he)).or (ci_seq he)).imp fun σ H Q ⟨ρ, σd, h, rh, rs, q⟩ => by
  cases r : ma σd h with
  | bad => unfold iAll at q; rw [r] at q; exact q.elim
  | exc C fs h1 =>
    refine .inl (.inl ⟨ρ, σd, h, rh, rs, ?_⟩)
    unfold iAll at q
    rw [r] at q ⊢
    exact q
  | ok d h1 =>
    unfold iAll at q
    rw [r] at q
    simp only [R.bind, itAll] at q
    cases hm : itMore h1 d with
    | none =>
      rw [hm] at q
      refine .inr ⟨ρ, σd, h, rh, rs, ?_⟩
      unfold iSeq
      rw [r]
      exact q
    | some itm =>
      rw [hm] at q
      unfold itMore at hm
      split at hm
      · cases hm
        refine .inl (.inl ⟨ρ, σd, h, rh, rs, ?_⟩)
        rw [r]
        intro ρ1 v H1 l1 rh1 rv1
        exact ⟨_, rv1, q ρ1 _ H1 l1 rh1 ri_str⟩
      · split at hm
        · next hl =>
          cases hm
          refine .inl (.inr ⟨ρ, σd, h, rh, rs, ?_⟩)
          rw [r]
          intro ρ1 v H1 l1 rh1 rv1
          obtain ⟨a, o, vs, e, t, n, _, rv⟩ := rv1
          exact ⟨a, o, e, .inl ⟨_, t, q ρ1 _ H1 l1 rh1 (ri_dtm rh1 t n hl rv)⟩⟩
        · cases hm
      · split at hm
        · next n kvs hn =>
          cases hm
          refine .inl (.inr ⟨ρ, σd, h, rh, rs, ?_⟩)
          rw [r]
          intro ρ1 v H1 l1 rh1 rv1
          obtain ⟨a, ea, e⟩ := rv1
          obtain ⟨vs, o, t, rk⟩ := rh1.obj _ _ _ ea hn
          exact ⟨a, o, e, .inl ⟨vs, t, q ρ1 _ H1 l1 rh1 (ri_dfr t rk)⟩⟩
        · cases hm
      · cases hm
/-! ### enumerate -/
def enumD (i : Int) : List D → List D
  | [] => []
  | x :: xs => .tup [.int i, x] :: enumD (i + 1) xs
theorem enumD_len (i : Int) : ∀ xs, (enumD i xs).length = xs.length := fun xs => by
  induction xs generalizing i with
  | nil => rfl
  | cons x xs ih => rw [enumD, List.length_cons, List.length_cons, ih]
theorem enumD_get : ∀ (xs : List D) (k : Nat) (i : Int), (enumD i xs)[k]? = xs[k]?.map fun x => .tup [.int (i + k), x]
  | [], _, _ => by simp [enumD]
  | x :: xs, 0, i => by simp [enumD]
  | x :: xs, k + 1, i => by
    rw [enumD, List.getElem?_cons_succ, List.getElem?_cons_succ, enumD_get xs k (i + 1)]
    have : i + 1 + (k : Int) = i + ((k + 1 : Nat) : Int) := by omega
    rw [this]
def itEnum (h : Hd) (d : D) : Option Itm := (itOf h d).map fun i => ⟨enumD 0 i.xs, i.gd⟩
def iEnumM (a : E) : EI := fun σ h => (a σ h).bind fun d h1 => ofO (itEnum h1 d) h1
theorem pair_new {a : D} {v : V} {k : Int} {T : Addr} (rh : RH K ρ h H) (hT : H T = none) (ra : RV K H ρ a v) : Le ρ ρ H (upd H T (.tup [.int k, v])) ∧ RH K ρ h (upd H T (.tup [.int k, v])) ∧ RV K (upd H T (.tup [.int k, v])) ρ (.tup [.int k, a]) (.ref T) :=
  ⟨Le.new hT, rh.new hT, T, _, rfl, .of upd_same, .int k, _, rfl, rfl, v, [], rfl, RV.mo (mo_new rh hT) _ _ ra, rfl⟩
theorem ri_enumT {a : Addr} {xs : List D} {vs : List V} (rh : RH K ρ h H) (q : SqT K H a vs) (rv : RVs K H ρ xs vs) : RI K H ρ ⟨enumD 0 xs, always⟩ (IteT K 0 a) := fun ρ1 h1 H1 l rh1 _ i => by
  have q1 : SqT K H1 a vs := (l.mo rh).tup a vs q
  have rv1 := RVs.mo (l.mo rh) _ _ rv
  refine ⟨fun hi => ⟨vs, q1, by rw [← RVs.len rv1]; simpa [enumD_len] using hi⟩, fun d hd => ?_⟩
  simp only [enumD_get] at hd
  cases hx : xs[i]? with
  | none => rw [hx] at hd; cases hd
  | some x =>
    rw [hx] at hd
    cases hd
    obtain ⟨v, e1, r1⟩ := RVs.get rv1 hx
    refine ⟨⟨vs, v, q1, e1⟩, fun y H' ⟨T, v', e2, hT, e3, e4⟩ => ?_⟩
    have := e4 vs q1
    rw [e1] at this
    cases this
    subst e2 e3
    exact pair_new rh1 hT r1
theorem ri_enumL {a : Addr} {xs : List D} {g : Hd → Bool} (sq : ∀ (ρ1 : Rh) (h1 : Hd) (H1 : Hp), Lz ρ ρ1 H H1 → RH K ρ1 h1 H1 → g h1 = true → ∃ vs, SqL K H1 a vs ∧ RVs K H1 ρ1 xs vs) : RI K H ρ ⟨enumD 0 xs, g⟩ (Ite K a) := fun ρ1 h1 H1 l rh1 hg i => by
  obtain ⟨vs, q1, rv1⟩ := sq ρ1 h1 H1 l rh1 hg
  refine ⟨fun hi => ⟨vs, q1, by rw [← RVs.len rv1]; simpa [enumD_len] using hi⟩, fun d hd => ?_⟩
  simp only [enumD_get] at hd
  cases hx : xs[i]? with
  | none => rw [hx] at hd; cases hd
  | some x =>
    rw [hx] at hd
    cases hd
    obtain ⟨v, e1, r1⟩ := RVs.get rv1 hx
    refine ⟨⟨vs, v, q1, e1⟩, fun y H' ⟨T, v', e2, hT, e3, e4⟩ => ?_⟩
    have := e4 vs q1
    rw [e1] at this
    cases this
    subst e2 e3
    have := pair_new (k := (i : Int)) rh1 hT r1
    rw [Int.zero_add]
    exact this
theorem ci_enum {elts : List Expr} {kk : Nat} {tpos p pos : Pos} (hg : Gl X "enumerate") (hm : X.mg "enumerate" = none) (he : CE X W e ma) (hs : starEach [e] X.env = [(false, eval e X.env)] := by rfl) : CI X W (.Tuple elts kk tpos) (.Call (.Name "enumerate" p) [e] [] pos) (iEnumM ma) :=
  ((pi_enum hg hm (pa_cons he pa_nil hs) hs).or (pi_enumT hg hm (pa_cons he pa_nil hs) hs)).imp fun σ H Q ⟨ρ, σd, h, rh, rs, q⟩ => by
  cases r : ma σd h with
  | bad => unfold iEnumM at q; rw [r] at q; exact q.elim
  | exc C fs h1 =>
    refine .inl ⟨ρ, σd, h, rh, rs, ?_⟩
    unfold iEnumM at q
    rw [r] at q ⊢
    exact q
  | ok d h1 =>
    unfold iEnumM at q
    rw [r] at q
    simp only [R.bind, itEnum] at q
    cases d with
    | tup xs =>
      refine .inr ⟨ρ, σd, h, rh, rs, ?_⟩
      rw [r]
      intro ρ1 v H1 l1 rh1 rv1
      obtain ⟨a, vs, e, t, rv⟩ := rv1
      subst e
      exact ⟨a, vs, rfl, t, q ρ1 _ H1 l1 rh1 (ri_enumT rh1 t rv)⟩
    | tmp xs =>
      refine .inl ⟨ρ, σd, h, rh, rs, ?_⟩
      rw [r]
      intro ρ1 v H1 l1 rh1 rv1
      obtain ⟨a, vs, e, t, n, rv⟩ := rv1
      subst e
      exact ⟨a, vs, rfl, .of t, q ρ1 _ H1 l1 rh1 (ri_enumL fun ρ2 h2 H2 l2 _ _ => ⟨vs, .of (l2.fr a _ n.1 t), RVs.mo (l2.mo rh1) _ _ rv⟩)⟩
    | ref n =>
      cases ea : asL h1 (.ref n) with
      | none => simp only [itOf, ea] at q; exact q.elim
      | some xs =>
        simp only [itOf, ea] at q
        refine .inl ⟨ρ, σd, h, rh, rs, ?_⟩
        rw [r]
        intro ρ1 v H1 l1 rh1 rv1
        obtain ⟨p, vs, ep, q1, rv⟩ := asL_of ea rh1 rv1
        obtain ⟨a, e1, e2⟩ := rv1
        subst ep
        cases e2
        refine ⟨p, vs, rfl, q1, q ρ1 _ H1 l1 rh1 (ri_enumL fun ρ2 h2 H2 l2 rh2 g => ?_)⟩
        obtain ⟨p', vs', ep, q2, rv2⟩ := asL_of (v := .ref p) (stays_of g) rh2 ⟨p, l2.keep e1, rfl⟩
        cases ep
        exact ⟨vs', q2, rv2⟩
    | _ => exact q.elim
end
end Mi
/-! Mi15: properties, own comparisons, keywords of built-ins, dicts of the module. -/
namespace Mi
open PySem L2
/-- a call out of which nothing is raised -/
def noX (r : R D) : R D := match r with
  | .ok d h => .ok d h
  | _ => .bad
theorem noX_tq {K : PySem.W.Frag} {ρ : Rh} {H : Hp} {W W' : Value → Option Addr → Hp → Prop} {r : R D} {Q : VK} (q : TQ (RV K) K W ρ H (noX r) Q) : TQ (RV K) K W' ρ H r Q := by
  cases r with
  | ok d h => exact q
  | exc C fs h => exact q.elim
  | bad => exact q
section
variable {X : Cx} {W : WX} {o e a b : Expr} {es : List Expr} {mo ma mb : E} {ms : EA} {pos apos cpos p0 : Pos} {C f g pr : Addr} {k : Nat} {fd : FuncData} {ps : List Str} {F : Fn}
/-- o.f, a property of the class C -/
def eProp (C : Addr) (F : Fn) (o : E) : E := fun σ h => (o σ h).bind fun x h1 => match x with
  | .ref n => match h1[n]? with
    | some (.ins C' _) => if C' = C then noX (F [.ref n] h1) else .bad
    | _ => .bad
  | _ => .bad
theorem ce_prop {nm : Str} (he : CE X W o mo) (c : Cls X.K C) (hp : PropOf X.K C nm pr g) (G : FnOk X.prog X.w X.K X.mg X.base (L2.CX X.prog X.w) k g fd ps (spD X.K F)) (hr : Room (k + 1) X.A) (hb : Binds X.K fd ps [])
    (hab : attributeBase o nm X.env (eval o X.env) = eval o X.env := by rfl) : CE X W (.Attribute o nm pos) (eProp C F mo) := (pe_prop (dvs := []) (E := E0) he c hp G hr hb .nil passL hab).imp fun σ H Q ⟨ρ, σd, h, rh, rs, q⟩ =>
  ⟨ρ, σd, h, rh, rs, TQ.bind q fun ρ1 x H1 d h1 l1 rh1 rv1 q1 => by
    cases d with
    | ref n =>
      obtain ⟨a, ea, rfl⟩ := rv1
      simp only at q1
      split at q1
      · next C' fs hn =>
        split at q1
        · next hc =>
          subst hc
          obtain ⟨dx, vs, e1, e2⟩ := rh1.obj _ _ _ ea hn
          exact ⟨a, dx, vs, rfl, e1, ρ1, [.ref n], h1, rh1, ⟨.ref a, [], rfl, ⟨a, ea, rfl⟩, rfl⟩, noX_tq q1⟩
        · exact q1.elim
      · exact q1.elim
    | _ => exact q1.elim⟩
/-! ### own comparisons: x op y, x of the class C -/
def negM (neg : Bool) (r : R D) : R D := if neg then r.bind fun d h => (match d with
  | .bl b => .ok (.bl (!b)) h
  | _ => .bad) else r
def eOwn (K : PySem.W.Frag) (cs : List Addr) (C : Addr) (F : Fn) (neg : Bool) (G : P2) (a b : E) : E := fun σ h => (a σ h).bind fun x h1 => (b σ h1).bind fun y h2 => match x with
  | .ref n => match h2[n]? with
    | some (.ins C' _) => if C' = C then (match tyD cs h2 y with
      | some tb => if PySem.W.notFirst K C tb then negM neg (noX (F [.ref n, y] h2)) else .bad
      | none => .bad) else .bad
    | _ => ofO (G h2 (.ref n) y) h2
  | x => ofO (G h2 x y) h2
def rOwn (K : PySem.W.Frag) (cs : List Addr) (C : Addr) (F : Fn) (neg : Bool) (G : P2) : R2 := fun x y H Q => ∃ ρ h a b, RH K ρ h H ∧ RV K H ρ a x ∧ RV K H ρ b y ∧ TQ (RV K) K (fun _ _ _ => False) ρ H (match a with
  | .ref n => match h[n]? with
    | some (.ins C' _) => if C' = C then (match tyD cs h b with
      | some tb => if PySem.W.notFirst K C tb then negM neg (noX (F [.ref n, b] h)) else .bad
      | none => .bad) else .bad
    | _ => ofO (G h (.ref n) b) h
  | x => ofO (G h x b) h) Q
theorem own_imp {cs : List Addr} {neg : Bool} {G : P2} {rp : R2} (hc : ∀ C ∈ cs, ClsI X.K C) {x y : V} {H : Hp} {Q : VK} (r : rOwn X.K cs C F neg G x y H Q) (hp : ∀ x y H Q, rP2 X.K G x y H Q → rp x y H Q) :
    (∃ a dx fs tb, x = .ref a ∧ H a = some (.ins C dx fs) ∧ TyX X.K H y tb ∧ PySem.W.notFirst X.K C tb = true ∧ spD X.K F [x, y] H (fun z H' => if neg then ∃ b, z = .bl b ∧ Q (.bl (!b)) H' else Q z H') E0) ∨ rp x y H Q := by
  obtain ⟨ρ, h, a, b, rh, ra, rb, q⟩ := r
  have plain : TQ (RV X.K) X.K (fun _ _ _ => False) ρ H (ofO (G h a b) h) Q → rp x y H Q := fun q => by
    cases e : G h a b with
    | none => rw [e] at q; exact q.elim
    | some d => rw [e] at q; exact hp _ _ _ _ ⟨ρ, h, a, b, d, rh, ra, rb, e, PQ.of q⟩
  split at q
  · next n =>
    split at q
    · next C' fs hn =>
      split at q
      · next hC =>
        subst hC
        split at q
        · next tb ht =>
          split at q
          · next hnf =>
            obtain ⟨p, ep, rfl⟩ := ra
            obtain ⟨dx, vs, e1, e2⟩ := rh.obj _ _ _ ep hn
            refine .inl ⟨p, dx, vs, tb, rfl, e1, tyD_of hc ht rh rb, hnf, ρ, [.ref n, b], h, rh, ⟨.ref p, [y], rfl, ⟨p, ep, rfl⟩, .one rb⟩, ?_⟩
            cases neg with
            | false => exact noX_tq q
            | true =>
              unfold negM at q
              simp only [if_true] at q
              refine TQ.bind (RR' := RV X.K) (Q := Q) (W := E0) (f := fun d h => (match d with
                | .bl b => .ok (.bl (!b)) h
                | _ => .bad : R D)) ?_ fun ρ1 z H1 d h1 l1 rh1 rv1 q1 => ?_
              · cases hF : F [.ref n, b] h with
                | ok d h' => rw [hF] at q; exact q
                | exc C fs h' => rw [hF] at q; exact q.elim
                | bad => rw [hF] at q; exact q
              · cases d with
                | bl b => exact ⟨b, rv1, q1 ρ1 _ H1 .refl rh1 rfl⟩
                | _ => exact q1.elim
          · exact q.elim
        · exact q.elim
      · exact q.elim
    · exact .inr (plain q)
  · exact .inr (plain q)
theorem op_own {op : CmpOp} {cs : List Addr} {G : P2} (hc : ∀ C ∈ cs, ClsI X.K C) (hop : ∀ a b, compareOp op a b = richCompare op a b) (hs : PySem.W.findIn X.K (.ref C) (cmpInfo op).2.1 = some (some (.ref g))) (hf : PySem.W.isFn X.K (.ref g) = true)
    (FR : FnR X.prog X.w X.K X.mg X.base (L2.CX X.prog X.w) k g (spD X.K F)) (hr : Room k X.A) (hG : OpR X (compareOp op) (rP2 X.K G)) : OpR X (compareOp op) (rOwn X.K cs C F false G) := ((op_ownI (E := E0) hop hs hf FR hr passL).or hG).imp fun x y H Q r => by
  rcases own_imp hc r fun _ _ _ _ q => q with ⟨a, dx, fs, tb, h1, h2, h3, h4, h5⟩ | h
  · exact .inl ⟨a, dx, fs, tb, h1, h2, h3, h4, by simpa using h5⟩
  · exact .inr h
theorem op_ownNeM {cs : List Addr} {G : P2} (hc : ∀ C ∈ cs, ClsI X.K C) (hs : PySem.W.findIn X.K (.ref C) "__eq__" = some (some (.ref g))) (hn0 : PySem.W.findIn X.K (.ref C) "__ne__" = some (some (.builtin "object.__ne__"))) (ho : PySem.W.subIn X.K (.ref C) (.type "object") = some true) (hf : PySem.W.isFn X.K (.ref g) = true)
    (FR : FnR X.prog X.w X.K X.mg X.base (L2.CX X.prog X.w) k g (spD X.K F)) (hr : Room (k + 1) X.A) (hG : OpR X (compareOp .NotEq) (rP2 X.K G)) : OpR X (compareOp .NotEq) (rOwn X.K cs C F true G) := ((op_ownNe (E := E0) hs hn0 ho hf FR hr passL).or hG).imp fun x y H Q r => by
  rcases own_imp hc r fun _ _ _ _ q => q with ⟨a, dx, fs, tb, h1, h2, h3, h4, h5⟩ | h
  · exact .inl ⟨a, dx, fs, tb, h1, h2, h3, h4, by simpa using h5⟩
  · exact .inr h
/-- nothing is raised there -/
theorem own_calm {cs : List Addr} {neg : Bool} {G : P2} {K : PySem.W.Frag} {h : Hd} {a b : D} {C' : Addr} {fs' : Option (List (Str × D))} {h' : Hd} : (match a with
  | .ref n => match h[n]? with
    | some (.ins C' _) => if C' = C then (match tyD cs h b with
      | some tb => if PySem.W.notFirst K C tb then negM neg (noX (F [.ref n, b] h)) else .bad
      | none => .bad) else .bad
    | _ => ofO (G h (.ref n) b) h
  | x => ofO (G h x b) h : R D) ≠ .exc C' fs' h' := fun z => by
  have ofN : ∀ (o : Option D) (h : Hd), ofO o h ≠ .exc C' fs' h' := fun o h => by cases o <;> simp [ofO]
  have nx : ∀ r : R D, noX r ≠ .exc C' fs' h' := fun r => by cases r <;> simp [noX]
  have ng : ∀ r : R D, negM neg (noX r) ≠ .exc C' fs' h' := fun r => by
    unfold negM
    split
    · cases r with
      | ok d h =>
        simp only [noX, R.bind]
        cases d <;> simp
      | exc C fs h => simp [noX, R.bind]
      | bad => simp [noX, R.bind]
    · exact nx r
  split at z
  · split at z
    · split at z
      · split at z
        · split at z
          · exact ng _ z
          · cases z
        · cases z
      · cases z
    · exact ofN _ _ z
  · exact ofN _ _ z
theorem TQ.calm {K : PySem.W.Frag} {ρ : Rh} {H : Hp} {W W' : Value → Option Addr → Hp → Prop} {r : R D} {Q : VK} (q : TQ (RV K) K W ρ H r Q) (n : ∀ C fs h, r ≠ .exc C fs h) : TQ (RV K) K W' ρ H r Q := by
  cases r with
  | ok d h => exact q
  | exc C fs h => exact absurd rfl (n C fs h)
  | bad => exact q
theorem ce_own {op : CmpOp} {cs : List Addr} {neg : Bool} {G : P2} (ho : OpR X (compareOp op) (rOwn X.K cs C F neg G)) (ha : CE X W a ma) (hb : CE X W b mb) (hm : behindInMarks op b = false) : CE X W (.Compare a [op] [b] pos) (eOwn X.K cs C F neg G ma mb) := (pe_cmpR ho ha hb hm).imp fun σ H Q ⟨ρ, σd, h, rh, rs, q⟩ =>
  ⟨ρ, σd, h, rh, rs, TQ.bind q fun ρ1 x H1 a h1 l1 rh1 rv1 q1 => ⟨ρ1, σd, h1, rh1, rs.le l1 rh, TQ.bind q1 fun ρ2 y H2 b h2 l2 rh2 rv2 q2 =>
    ⟨ρ2, h2, a, b, rh2, rv1.le l2 rh1, rv2, TQ.calm q2 fun _ _ _ => own_calm⟩⟩⟩
theorem ct_own {op : CmpOp} {cs : List Addr} {neg : Bool} {G : P2} (ho : OpR X (compareOp op) (rOwn X.K cs C F neg G)) (ha : CE X W a ma) (hb : CE X W b mb) (hm : behindInMarks op b = false) : CT X W (.Compare a [op] [b] pos) (tVal (eOwn X.K cs C F neg G ma mb)) := (pt_cmpR ho ha hb hm).imp fun σ H Q ⟨ρ, σd, h, rh, rs, q⟩ => by
  refine ⟨ρ, σd, h, rh, rs, ?_⟩
  unfold tVal eOwn at q
  rw [R.assoc] at q
  refine TQ.bind q fun ρ1 x H1 a h1 l1 rh1 rv1 q1 => ⟨ρ1, σd, h1, rh1, rs.le l1 rh, ?_⟩
  rw [R.assoc] at q1
  refine TQ.bind q1 fun ρ2 y H2 b h2 l2 rh2 rv2 q2 => ⟨ρ2, h2, a, b, rh2, rv1.le l2 rh1, rv2, ?_⟩
  refine TQ.calm (W := fun c d H' => W c d σ H') ?_ fun _ _ _ => own_calm
  refine TQ.bind q2 fun ρ3 z H3 d h3 l3 rh3 rv3 q3 => ?_
  cases d with
  | bl k => exact ⟨k, rv3, q3 ρ3 _ H3 .refl rh3 rfl⟩
  | _ => exact q3.elim
/-! ### str(x), len(x) by own defs -/
def isIns (C : Addr) (h : Hd) (d : D) : Bool := match d with
  | .ref n => match h[n]? with
    | some (.ins C' _) => decide (C' = C)
    | _ => false
  | _ => false
/-- f(x), x of the class C: F; else G -/
def eOwnC (C : Addr) (F : Fn) (ok : D → Bool) (G : PN) (a : EA) : E := fun σ h => (a σ h).bind fun as h1 => match as with
  | [x] => if isIns C h1 x then (noX (F [x] h1)).bind fun d h2 => if ok d then .ok d h2 else .bad else ofO (G h1 [x]) h1
  | _ => .bad
def okStr : D → Bool
  | .str _ => true
  | _ => false
def okLen : D → Bool
  | .int i => decide (0 ≤ i) && decide (i < 9223372036854775808)
  | _ => false
theorem isIns_of {K : PySem.W.Frag} {ρ : Rh} {h : Hd} {H : Hp} {d : D} {v : V} (e : isIns C h d = true) (rh : RH K ρ h H) (rv : RV K H ρ d v) : ∃ a dx fs, v = .ref a ∧ H a = some (.ins C dx fs) := by
  cases d with
  | ref n =>
    obtain ⟨a, ea, rfl⟩ := rv
    unfold isIns at e
    simp only at e
    split at e
    · next C' fs hn =>
      have : C' = C := of_decide_eq_true e
      subst this
      obtain ⟨dx, vs, e1, _⟩ := rh.obj _ _ _ ea hn
      exact ⟨a, dx, vs, rfl, e1⟩
    · cases e
  | _ => cases e
def rOwnC (K : PySem.W.Frag) (C : Addr) (F : Fn) (ok : D → Bool) (G : PN) : List V → Hp → VK → Prop := fun xs H Q => ∃ ρ h as, RH K ρ h H ∧ RVs K H ρ as xs ∧ TQ (RV K) K (fun _ _ _ => False) ρ H (match as with
  | [x] => if isIns C h x then (noX (F [x] h)).bind fun d h2 => if ok d then .ok d h2 else .bad else ofO (G h [x]) h
  | _ => .bad) Q
theorem ownC_imp {K : PySem.W.Frag} {ok : D → Bool} {G : PN} {xs : List V} {H : Hp} {Q : VK} (r : rOwnC K C F ok G xs H Q) :
    (∃ a dx fs, xs = [V.ref a] ∧ H a = some (.ins C dx fs) ∧ spD K F [.ref a] H (fun z H' => (∃ d ρ', ok d = true ∧ RV K H' ρ' d z) ∧ Q z H') E0) ∨ rPN K G xs H Q := by
  obtain ⟨ρ, h, as, rh, ra, q⟩ := r
  split at q
  · next x =>
    obtain ⟨v, rfl, rv⟩ := rvs1 ra
    split at q
    · next hi =>
      obtain ⟨a, dx, fs, rfl, ha⟩ := isIns_of hi rh rv
      refine .inl ⟨a, dx, fs, rfl, ha, ρ, [x], h, rh, ra, ?_⟩
      refine TQ.bind (RR' := RV K) (Q := Q) (W := E0) (f := fun d h2 => (if ok d then .ok d h2 else .bad : R D)) ?_ fun ρ1 z H1 d h1 l1 rh1 rv1 q1 => ?_
      · cases hF : F [x] h with
        | ok d h' => rw [hF] at q; simp only [noX, R.bind] at q; simp only [R.bind]; split at q <;> rename_i hk <;> simp only [hk] <;> exact q
        | exc C fs h' => rw [hF] at q; exact q.elim
        | bad => rw [hF] at q; exact q
      · by_cases hk : ok d = true
        · rw [if_pos hk] at q1; exact ⟨⟨d, ρ1, hk, rv1⟩, q1 ρ1 _ H1 .refl rh1 rv1⟩
        · rw [if_neg hk] at q1; exact q1.elim
    · cases e : G h [x] with
      | none => rw [e] at q; exact q.elim
      | some d => rw [e] at q; exact .inr ⟨ρ, h, [x], d, rh, ra, e, PQ.of q⟩
  · exact q.elim
end
end Mi
/-! Mi16: str, len of own instances; max with keywords; dicts. -/
namespace Mi
open PySem L2
section
variable {X : Cx} {W : WX} {o e a b c : Expr} {es : List Expr} {mo ma mb mc : E} {ms : EA} {pos apos cpos p : Pos} {C g : Addr} {k : Nat} {F : Fn} {x : Str} {id T : String}
theorem call_strOwnM {G : PN} (hs : PySem.W.findIn X.K (.ref C) "__str__" = some (some (.ref g))) (hf : PySem.W.isFn X.K (.ref g) = true) (FR : FnR X.prog X.w X.K X.mg X.base (L2.CX X.prog X.w) k g (spD X.K F)) (hr : Room (k + 2) X.A) (hG : CallR X (.type "str") (rPN X.K G)) :
    CallR X (.type "str") (rOwnC X.K C F okStr G) := ((call_strOwn (E := E0) hs hf FR hr passL).or hG).imp fun xs H Q r => by
  rcases ownC_imp r with ⟨a, dx, fs, h1, h2, ρ, ds, h, h3, h4, h5⟩ | h
  · refine .inl ⟨a, dx, fs, h1, h2, ρ, ds, h, h3, h4, ?_⟩
    cases hF : F ds h with
    | ok d h' =>
      rw [hF] at h5
      intro ρ' v H' l rh rv
      obtain ⟨⟨d', ρ'', hk, rv'⟩, q⟩ := h5 ρ' v H' l rh rv
      cases d' with
      | str t => exact ⟨t, rv', q⟩
      | _ => cases hk
    | exc C fs h' => rw [hF] at h5; exact h5
    | bad => rw [hF] at h5; exact h5
  · exact .inr h
theorem call_lenOwnM {G : PN} (hs : PySem.W.findIn X.K (.ref C) "__len__" = some (some (.ref g))) (hf : PySem.W.isFn X.K (.ref g) = true) (FR : FnR X.prog X.w X.K X.mg X.base (L2.CX X.prog X.w) k g (spD X.K F)) (hr : Room (k + 1) X.A) (hG : CallR X (.builtin "len") (rPN X.K G)) :
    CallR X (.builtin "len") (rOwnC X.K C F okLen G) := ((call_lenOwn (E := E0) hs hf FR hr passL).or hG).imp fun xs H Q r => by
  rcases ownC_imp r with ⟨a, dx, fs, h1, h2, ρ, ds, h, h3, h4, h5⟩ | h
  · refine .inl ⟨a, dx, fs, h1, h2, ρ, ds, h, h3, h4, ?_⟩
    cases hF : F ds h with
    | ok d h' =>
      rw [hF] at h5
      intro ρ' v H' l rh rv
      obtain ⟨⟨d', ρ'', hk, rv'⟩, q⟩ := h5 ρ' v H' l rh rv
      cases d' with
      | int i =>
        simp only [okLen, Bool.and_eq_true, decide_eq_true_eq] at hk
        exact ⟨i, rv', hk.1, hk.2, q⟩
      | _ => cases hk
    | exc C fs h' => rw [hF] at h5; exact h5
    | bad => rw [hF] at h5; exact h5
  · exact .inr h
theorem ownC_calm {ok : D → Bool} {G : PN} {h : Hd} {as : List D} {C' : Addr} {fs' : Option (List (Str × D))} {h' : Hd} : (match as with
  | [x] => if isIns C h x then (noX (F [x] h)).bind fun d h2 => if ok d then .ok d h2 else .bad else ofO (G h [x]) h
  | _ => .bad : R D) ≠ .exc C' fs' h' := fun z => by
  split at z
  · next x =>
    split at z
    · cases hF : F [x] h with
      | ok d h2 =>
        rw [hF] at z
        simp only [noX, R.bind] at z
        split at z <;> cases z
      | exc C fs h2 => rw [hF] at z; cases z
      | bad => rw [hF] at z; cases z
    · cases hG : G h [x] with
      | none => rw [hG] at z; cases z
      | some d => rw [hG] at z; cases z
  · cases z
theorem ce_ownTy {ok : D → Bool} {G : PN} (hc : CallR X (.type T) (rOwnC X.K C F ok G)) (hg : Gl X x) (hm : X.mg x = none) (hv : bootBuiltins x = some (.type T)) (ha : CA X W (e :: es) ms) (hn : x ≠ "__name__" := by decide) (hdb : (x == ("__debug__" : Str)) = false := by decide)
    (he : starEach (e :: es) X.env = (false, eval e X.env) :: starEach es X.env := by rfl) (hpl : (backTo pos (starEach es X.env)).any (·.1) = false := by rfl) : CE X W (.Call (.Name x p) (e :: es) [] pos) (eOwnC C F ok G ms) :=
  (pe_callTy hc hg hm hv ha hn hdb he hpl).imp fun σ H Q ⟨ρ, σd, h, rh, rs, q⟩ => ⟨ρ, σd, h, rh, rs, TQ.bind q fun ρ1 xs H1 as h1 l1 rh1 rv1 q1 => ⟨ρ1, h1, as, rh1, rv1, TQ.calm q1 fun _ _ _ => ownC_calm⟩⟩
theorem ce_ownB {ok : D → Bool} {G : PN} (hc : CallR X (.builtin id) (rOwnC X.K C F ok G)) (hg : Gl X x) (hm : X.mg x = none) (hv : bootBuiltins x = some (.builtin id)) (ha : CA X W (e :: es) ms) (hn : x ≠ "__name__" := by decide) (hdb : (x == ("__debug__" : Str)) = false := by decide)
    (he : starEach (e :: es) X.env = (false, eval e X.env) :: starEach es X.env := by rfl) (hpl : (backTo pos (starEach es X.env)).any (·.1) = false := by rfl) : CE X W (.Call (.Name x p) (e :: es) [] pos) (eOwnC C F ok G ms) :=
  (pe_callB hc hg hm hv ha hn hdb he hpl).imp fun σ H Q ⟨ρ, σd, h, rh, rs, q⟩ => ⟨ρ, σd, h, rh, rs, TQ.bind q fun ρ1 xs H1 as h1 l1 rh1 rv1 q1 => ⟨ρ1, h1, as, rh1, rv1, TQ.calm q1 fun _ _ _ => ownC_calm⟩⟩
/-! ### max with keywords -/
def intsOf : List D → Option (List Int)
  | [] => some []
  | .int b :: r => (intsOf r).map (b :: ·)
  | _ => none
theorem intsOf_of {K : PySem.W.Frag} {H : Hp} {ρ : Rh} : ∀ {xs : List D} {vs : List V} {bs : List Int}, intsOf xs = some bs → RVs K H ρ xs vs → vs = bs.map V.int
  | [], vs, bs, e, q => by cases e; exact q
  | .int b :: r, _, bs, e, ⟨v, t, e1, q, qs⟩ => by
    rw [intsOf] at e
    cases h : intsOf r with
    | none => rw [h] at e; cases e
    | some cs =>
      rw [h] at e
      cases e
      cases q
      rw [e1, intsOf_of h qs]
      rfl
  | .non :: _, _, _, e, _ => by cases e
  | .bl _ :: _, _, _, e, _ => by cases e
  | .str _ :: _, _, _, e, _ => by cases e
  | .byt _ :: _, _, _, e, _ => by cases e
  | .ty _ :: _, _, _, e, _ => by cases e
  | .adr _ :: _, _, _, e, _ => by cases e
  | .ref _ :: _, _, _, e, _ => by cases e
  | .tup _ :: _, _, _, e, _ => by cases e
  | .tmp _ :: _, _, _, e, _ => by cases e
  | .dtm _ _ :: _, _, _, e, _ => by cases e
abbrev CK (X : Cx) (W : WX) (kws : List Keyword) (m : EA) : Prop := PK X kws (tA X.K W m)
theorem _root_.L2.PK.imp {kws : List Keyword} {t t' : TA} (h : PK X kws t) (i : ∀ σ H Q, t' σ H Q → t σ H Q) : PK X kws t' := ⟨fun pos pins s σ H Q I q => h.run pos pins s σ H Q I (i σ H Q q)⟩
theorem ck_nil : CK X W [] eNil := pk_nil.imp fun σ H Q ⟨ρ, σd, h, rh, rs, q⟩ => q ρ [] H .refl rh rfl
theorem ck_cons {nm : Option Str} {kpos : Pos} {kws : List Keyword} (ha : CE X W e ma) (hr : CK X W kws ms) : CK X W (⟨nm, e, kpos⟩ :: kws) (eCons ma ms) := (pk_cons ha hr).imp fun σ H Q ⟨ρ, σd, h, rh, rs, q⟩ =>
  ⟨ρ, σd, h, rh, rs, TQ.bind q fun ρ1 x H1 a h1 l1 rh1 rv1 q1 => ⟨ρ1, σd, h1, rh1, rs.le l1 rh, TQ.bind q1 fun ρ2 y H2 b h2 l2 rh2 rv2 q2 => q2 ρ2 (x :: y) H2 .refl rh2 ⟨x, y, rfl, rv1.le l2 rh1, rv2⟩⟩⟩
def ePK (F : Hd → List D → List D → Option D) (a k : EA) : E := fun σ h => (a σ h).bind fun xs h1 => (k σ h1).bind fun zs h2 => ofO (F h2 xs zs) h2
def rPK (K : PySem.W.Frag) (F : Hd → List D → List D → Option D) : List V → List V → Hp → VK → Prop := fun xs zs H Q => ∃ ρ h as cs d, RH K ρ h H ∧ RVs K H ρ as xs ∧ RVs K H ρ cs zs ∧ F h as cs = some d ∧ PQ K ρ h H d Q
theorem _root_.L2.CallRK.imp {f : Value} {ks : List Str} {r r' : List V → List V → Hp → VK → Prop} (h : CallRK X f ks r) (i : ∀ x z H Q, r' x z H Q → r x z H Q) : CallRK X f ks r' := fun pins s σ H xs zs us ws Q I rx rz q => h pins s σ H xs zs us ws Q I rx rz (i _ _ _ _ q)
theorem ce_callBK {F : Hd → List D → List D → Option D} {ks : List Str} {kws : List Keyword} {mk : EA} (hc : CallRK X (.builtin id) ks (rPK X.K F)) (hg : Gl X x) (hm : X.mg x = none) (hv : bootBuiltins x = some (.builtin id)) (ha : CA X W (e :: es) ms) (hk : CK X W kws mk) (hn : x ≠ "__name__" := by decide) (hdb : (x == ("__debug__" : Str)) = false := by decide)
    (he : backTo pos (starEach (e :: es) X.env) = (false, eval e X.env) :: backTo pos (starEach es X.env) := by rfl) (hpl : (backTo pos (starEach (e :: es) X.env)).any (·.1) = false := by rfl)
    (hall : (backToKw pos (keywordEach kws X.env)).all (·.1.isSome) = true := by rfl) (hnone : (backToKw pos (keywordEach kws X.env)).any (·.1.isNone) = false := by rfl) (hks : (backToKw pos (keywordEach kws X.env)).filterMap (·.1) = ks := by rfl) :
    CE X W (.Call (.Name x p) (e :: es) kws pos) (ePK F ms mk) := (pe_callBK hc hg hm hv ha hk hn hdb he hpl hall hnone hks).imp fun σ H Q ⟨ρ, σd, h, rh, rs, q⟩ =>
  ⟨ρ, σd, h, rh, rs, TQ.bind q fun ρ1 xs H1 as h1 l1 rh1 rv1 q1 => ⟨ρ1, σd, h1, rh1, rs.le l1 rh, TQ.bind q1 fun ρ2 zs H2 cs h2 l2 rh2 rv2 q2 => by
    cases e : F h2 as cs with
    | none => rw [e] at q2; exact q2.elim
    | some d => rw [e] at q2; exact ⟨ρ2, h2, as, cs, d, rh2, rv1.le l2 rh1, rv2, e, PQ.of q2⟩⟩⟩
def maxDM (h : Hd) (as cs : List D) : Option D := match as, cs with
  | [a], [.int d] => ((asL h a).bind intsOf).map fun ns => .int (maxOr ns d)
  | _, _ => none
theorem call_maxDM (hc : X.calm = true) (hu : X.A.units + 64 < cLine) : CallRK X (.builtin "max") ["default"] (rPK X.K maxDM) := (call_maxD hc hu).imp fun xs zs H Q ⟨ρ, h, as, cs, d, rh, ra, rc, e, q⟩ => by
  unfold maxDM at e
  split at e
  · next a d' =>
    obtain ⟨v, rfl, rv⟩ := rvs1 ra
    obtain ⟨u, rfl, ru⟩ := rvs1 rc
    cases ru
    cases h1 : asL h a with
    | none => rw [h1] at e; cases e
    | some xs =>
      rw [h1] at e
      simp only [Option.bind_some] at e
      cases h2 : intsOf xs with
      | none => rw [h2] at e; cases e
      | some ns =>
        rw [h2] at e
        cases e
        obtain ⟨p, vs, rfl, hs, r⟩ := asL_of h1 rh rv
        rw [intsOf_of h2 r] at hs
        exact ⟨p, ns, d', rfl, rfl, hs, q.here rh rfl⟩
  · cases e
def maxKM (_ : Hd) (as cs : List D) : Option D := match as, cs with
  | [.int i, .int j], [.ty n] => if n = "int" then some (.int (if j > i then j else i)) else none
  | _, _ => none
theorem call_maxKM (hc : X.calm = true) : CallRK X (.builtin "max") ["key"] (rPK X.K maxKM) := (call_maxK hc).imp fun xs zs H Q ⟨ρ, h, as, cs, d, rh, ra, rc, e, q⟩ => by
  unfold maxKM at e
  split at e
  · split at e
    · next hn =>
      cases e
      obtain ⟨v, w, rfl, rv, rw'⟩ := rvs2 ra
      obtain ⟨u, rfl, ru⟩ := rvs1 rc
      cases rv; cases rw'
      subst hn
      cases ru
      exact ⟨_, _, rfl, rfl, q.here rh rfl⟩
    · cases e
  · cases e
/-! ### dicts -/
/-- {}: a new cell -/
def eDNew : E := fun _ h => .ok (.ref h.length) (h ++ [.dct []])
theorem ce_dnew : CE X W (.Dict [] [] pos) eDNew := pe_dnewK.imp fun σ H Q ⟨ρ, σd, h, rh, rs, q⟩ => fun p hp => by
  refine q (ρ.add p) (.ref p) _ (le_push rh hp) (rh.push (o := .dct []) hp (mo_push rh hp) ⟨[], upd_same, rfl⟩) ⟨p, ?_, rfl⟩
  show (ρ.c ++ [p])[h.length]? = some p
  rw [← rh.len]
  simp
/-- from here on the dict of the slot i is read alone -/
def sFrz (i : Nat) (s : S) : S := fun σ h => match σ[i]? with
  | some (some (.ref n)) => match h[n]? with
    | some (.dct kvs) => s σ (h.set n (.dfr kvs))
    | _ => .bad
  | _ => .bad
theorem SQ.lz : True := trivial
end
end Mi
/-! Mi17: more statements. -/
namespace Mi
open PySem L2
section
variable {X : Cx} {W : WX} {e a b c : Expr} {st : Stmt} {ma mb mc : E} {ms : S} {pos : Pos}
theorem cs_frz {i : Nat} (h : CS X W st ms) : CS X W st (sFrz i ms) := (ps_frz h).imp fun D σ H ⟨ρ, σd, h, rh, rs, q⟩ => by
  unfold sFrz at q
  split at q
  · next n hn =>
    split at q
    · next kvs hk =>
      obtain ⟨v, _, p, ep, rfl⟩ := rs.get i _ hn
      obtain ⟨vs, hp, rk⟩ := rh.obj _ _ _ ep hk
      refine ⟨p, _, hp, trivial, fun od => ?_⟩
      have mo := mo_upd (u := .frz od (.dK vs)) rh ep
      exact ⟨ρ, σd, _, rh.upd (o := .dfr kvs) ep ⟨vs, od, upd_same, RKs.mo mo _ _ rk⟩, rs.mo mo, SQ.le (le_upd ep (by rw [hp]; simp)) q⟩
    · exact q.elim
  · exact q.elim
/-- x = [..]: a comprehension on one line -/
theorem cs_setLc {i : Nat} {y : Str} {py : Pos} {elt tg iter : Expr} {ifs : List Expr} {scope : Scope} {own : List (Str × Nat)} {spos : Pos} {mi : EI} {g : TG} {a : D → Env → Option Env} {us : List Nat} {tt : ET} {me : E} (hc : X.calm = true) (hN : X.N.Nodup) (hy : X.N[i]? = some y) (hyl : X.env.scope.names.lookup y = some .local)
    (hsw : swapsWith (.ListComp elt [⟨tg, iter, ifs, 0⟩] scope pos) (some (.Name y py)) spos.line X.env = pure true) (hi : CI X W tg iter mi) (ok : BlkOk X.N X.env.scope scope own)
    (hg : ∀ (s : Shared) (H : Hp) (C : Addr) (cl : List (Str × Addr)) (fp : List Addr), PG (X.blk s H scope (compEnvC scope cl C X.env) fp) tg g) (hp : Pat X.K g a us) (hus : ∀ i ∈ us, i ∈ own.map (·.2))
    (ht : ∀ (s : Shared) (H : Hp) (C : Addr) (cl : List (Str × Addr)) (fp : List Addr), CTs (X.blk s H scope (compEnvC scope cl C X.env) fp) W0 ifs tt)
    (he : ∀ (s : Shared) (H : Hp) (C : Addr) (cl : List (Str × Addr)) (fp : List Addr), CE (X.blk s H scope (compEnvC scope cl C X.env) fp) W0 elt me) (hs : ∀ x, foldedSetIterable iter X.env x = pure x := by intro _; rfl) :
    CS X W (.Assign [.Name y py] (.ListComp elt [⟨tg, iter, ifs, 0⟩] scope pos) spos) (sSet i (eTmp (lComp mi a tt me (own.map (·.2))))) := (ps_setLc (tt := tT X.K W0 tt) (te := tE X.K W0 me) hc hN hy hyl hsw hi ok hg ht he hs).imp fun D σ H ⟨ρ, σd, h, rh, rs, q⟩ =>
  lc_read hp hus (tmp_read ⟨ρ, σd, h, rh, rs, SQ.bind rh rs q fun ρ1 x H1 a h1 l1 rh1 rv1 q1 => q1 ρ1 _ H1 .refl rh1 ((rs.le l1 rh).set i rv1)⟩)
theorem cs_setLcN {i : Nat} {y : Str} {py : Pos} {elt tg iter : Expr} {ifs : List Expr} {scope : Scope} {own : List (Str × Nat)} {spos : Pos} {mi : EI} {g : TG} {a : D → Env → Option Env} {us : List Nat} {tt : ET} {me : E} (hc : X.calm = true) (hN : X.N.Nodup) (hy : X.N[i]? = some y) (hyl : X.env.scope.names.lookup y = some .local)
    (hsw : swapsWith (.ListComp elt [⟨tg, iter, ifs, 0⟩] scope pos) (some (.Name y py)) spos.line X.env = pure true) (hi : CI X W tg iter mi) (ok : BlkOk X.N X.env.scope scope own)
    (hg : ∀ (s : Shared) (H : Hp) (C : Addr) (cl : List (Str × Addr)) (fp : List Addr), PG (X.blk s H scope (compEnvC scope cl C X.env) fp) tg g) (hp : Pat X.K g a us) (hus : ∀ i ∈ us, i ∈ own.map (·.2))
    (ht : ∀ (s : Shared) (H : Hp) (C : Addr) (cl : List (Str × Addr)) (fp : List Addr), CTs (X.blk s H scope (compEnvC scope cl C X.env) fp) W0 ifs tt)
    (he : ∀ (s : Shared) (H : Hp) (C : Addr) (cl : List (Str × Addr)) (fp : List Addr), CE (X.blk s H scope (compEnvC scope cl C X.env) fp) W0 elt me) (hs : ∀ x, foldedSetIterable iter X.env x = pure x := by intro _; rfl) :
    CS X W (.Assign [.Name y py] (.ListComp elt [⟨tg, iter, ifs, 0⟩] scope pos) spos) (sSet i (eNew (lComp mi a tt me (own.map (·.2))))) := (ps_setLc (tt := tT X.K W0 tt) (te := tE X.K W0 me) hc hN hy hyl hsw hi ok hg ht he hs).imp fun D σ H ⟨ρ, σd, h, rh, rs, q⟩ =>
  lc_read hp hus (new_read ⟨ρ, σd, h, rh, rs, SQ.bind rh rs q fun ρ1 x H1 a h1 l1 rh1 rv1 q1 => q1 ρ1 _ H1 .refl rh1 ((rs.le l1 rh).set i rv1)⟩)
/-- x, y = a, b of plain names -/
def sPar2 (i j : Nat) (a b : E) : S := fun σ h => bindS (a σ h) σ fun x h1 => bindS (b σ h1) σ fun y h2 => .nx ((σ.set i (some x)).set j (some y)) h2
def sPar3 (i j k : Nat) (a b c : E) : S := fun σ h => bindS (a σ h) σ fun x h1 => bindS (b σ h1) σ fun y h2 => bindS (c σ h2) σ fun z h3 => .nx (((σ.set i (some x)).set j (some y)).set k (some z)) h3
theorem cs_par2 {i j : Nat} {x y : Str} {px py pt : Pos} {kt k2 pt2} (hc : X.calm = true) (hN : X.N.Nodup) (hi : X.N[i]? = some x) (hj : X.N[j]? = some y) (hij : i ≠ j)
    (hx : X.env.scope.names.lookup x = some .local) (hy : X.env.scope.names.lookup y = some .local) (ha : CE X W a ma) (hb : CE X W b mb)
    (hw : swappedStores [.Tuple [.Name x px, .Name y py] kt pt] (.Tuple [a, b] k2 pt2) X.env = pure (some [x, y]))
    (hs : swapsWithSole [.Tuple [.Name x px, .Name y py] kt pt] (.Tuple [a, b] k2 pt2) pos.line X.env = pure false := by rfl) (h1 : starEach [a, b] X.env = (false, eval a X.env) :: starEach [b] X.env := by rfl) (h2 : starEach [b] X.env = (false, eval b X.env) :: starEach [] X.env := by rfl) :
    CS X W (.Assign [.Tuple [.Name x px, .Name y py] kt pt] (.Tuple [a, b] k2 pt2) pos) (sPar2 i j ma mb) := (ps_par hc hN hi hj hij hx hy (pa_cons ha (pa_cons hb pa_nil h2) h1) hw hs).imp fun D σ H ⟨ρ, σd, h, rh, rs, q⟩ =>
  ⟨ρ, σd, h, rh, rs, SQ.bind rh rs q fun ρ1 x H1 a h1 l1 rh1 rv1 q1 => ⟨ρ1, σd, h1, rh1, rs.le l1 rh, SQ.bind rh1 (rs.le l1 rh) q1 fun ρ2 y H2 b h2 l2 rh2 rv2 q2 => ⟨x, y, rfl, q2 ρ2 _ H2 .refl rh2 ((((rs.le l1 rh).le l2 rh1).set i (rv1.le l2 rh1)).set j rv2)⟩⟩⟩
theorem cs_par3 {i j l : Nat} {x y z : Str} {px py pz pt : Pos} {kt k2 pt2} (hc : X.calm = true) (hN : X.N.Nodup) (hi : X.N[i]? = some x) (hj : X.N[j]? = some y) (hl : X.N[l]? = some z) (hij : i ≠ j) (hil : i ≠ l) (hjl : j ≠ l)
    (hx : X.env.scope.names.lookup x = some .local) (hy : X.env.scope.names.lookup y = some .local) (hz : X.env.scope.names.lookup z = some .local) (ha : CE X W a ma) (hb : CE X W b mb) (hcc : CE X W c mc)
    (hw : swappedStores [.Tuple [.Name x px, .Name y py, .Name z pz] kt pt] (.Tuple [a, b, c] k2 pt2) X.env = pure (some [x, y, z]))
    (hs : swapsWithSole [.Tuple [.Name x px, .Name y py, .Name z pz] kt pt] (.Tuple [a, b, c] k2 pt2) pos.line X.env = pure false := by rfl) (h1 : starEach [a, b, c] X.env = (false, eval a X.env) :: starEach [b, c] X.env := by rfl) (h2 : starEach [b, c] X.env = (false, eval b X.env) :: starEach [c] X.env := by rfl) (h3 : starEach [c] X.env = (false, eval c X.env) :: starEach [] X.env := by rfl) :
    CS X W (.Assign [.Tuple [.Name x px, .Name y py, .Name z pz] kt pt] (.Tuple [a, b, c] k2 pt2) pos) (sPar3 i j l ma mb mc) := (ps_par3 hc hN hi hj hl hij hil hjl hx hy hz (pa_cons ha (pa_cons hb (pa_cons hcc pa_nil h3) h2) h1) hw hs).imp fun D σ H ⟨ρ, σd, h, rh, rs, q⟩ =>
  ⟨ρ, σd, h, rh, rs, SQ.bind rh rs q fun ρ1 x H1 a h1 l1 rh1 rv1 q1 => ⟨ρ1, σd, h1, rh1, rs.le l1 rh, SQ.bind rh1 (rs.le l1 rh) q1 fun ρ2 y H2 b h2 l2 rh2 rv2 q2 => ⟨ρ2, σd, h2, rh2, (rs.le l1 rh).le l2 rh1, SQ.bind rh2 ((rs.le l1 rh).le l2 rh1) q2 fun ρ3 z H3 c h3 l3 rh3 rv3 q3 =>
    ⟨x, y, z, rfl, q3 ρ3 _ H3 .refl rh3 ((((((rs.le l1 rh).le l2 rh1).le l3 rh2).set i ((rv1.le l2 rh1).le l3 rh2)).set j (rv2.le l3 rh2)).set l rv3)⟩⟩⟩⟩
end
end Mi
/-! Mi18: a def with all that its callers ask; constants of the module. -/
namespace Mi
open PySem L2 PySem.Spec PyProof.Rows
theorem u64 {k : Nat} {A : Around} (r : Room k A) : A.units + 64 < cLine := by have := r.un; omega
theorem u65 {k : Nat} {A : Around} (r : Room k A) : A.units + 65 < cLine := by have := r.un; omega
theorem u1 {k : Nat} {A : Around} (r : Room k A) : A.units + 1 < cLine := by have := r.un; omega
/-- a def of the text, whatever its defaults -/
structure FunG (K : PySem.W.Frag) (x qual : Str) (st : Stmt) (dvs : List V) (f : Addr) : Prop where
  ex : ∃ (oc : Value) (od : Option Addr) (dV kV doc pm : Value) (an : Option Addr) (cdv ct : Value) (osl : Array (Option Value)),
    K.lookup f = some ⟨oc, od, .func (PySem.W.fnOf x qual (defArgs st) (defBody st) (defScope st) dV kV doc pm an cdv ct), osl⟩ ∧ PySem.W.codeIn K cdv qual = true ∧ DflV K dV dvs
  kp : PySem.W.keepIn K (.ref f) = true
/-- a def that keeps to F -/
structure FnG (P : Program) (w : World) (K : PySem.W.Frag) (mg : Str → Option Value) (base : Heap) (k : Nat) (f : Addr) (ps : List Str) (F : Fn) : Prop where
  ex : ∃ fd, FnOk P w K mg base (L2.CX P w) k f fd ps (spD K F) ∧ L2.Binds K fd ps []
  kp : PySem.W.keepIn K (.ref f) = true
  all : ∀ (oc : Value) (od : Option Addr) (fd : FuncData) (osl : Array (Option Value)), K.lookup f = some ⟨oc, od, .func fd, osl⟩ → FnOk P w K mg base (L2.CX P w) k f fd ps (spD K F)
section
variable {P : Program} {w : World} {K : PySem.W.Frag} {mg : Str → Option Value} {base : Heap}
theorem fnG_run {N ps : List Str} {k : Nat} {m : S} {qual : Str} {st : Stmt} {f : Addr} {name : Str} {params : Arguments} {body : List Stmt} {dV kV doc pm cdv ct oc : Value} {an od : Option Addr} {osl : Array (Option Value)} (lk : K.lookup f = some ⟨oc, od, .func (PySem.W.fnOf name qual params body (defScope st) dV kV doc pm an cdv ct), osl⟩) (hcd : PySem.W.codeIn K cdv qual = true) (S : FnScope N ps (defScope st))
    (hb : ∀ (cdv : Value) (A : Around) (outer : List PySem.Env) (s : Shared) (H : Hp) (E : XK), Room k (A.deeper (envOfC qual (defScope st) s.heap.objs.size f cdv)) → CSs (cxOf (L2.CX P w) P w K mg base N qual (defScope st) f cdv A outer s H E) (WF E) body m) :
    FnOk P w K mg base (L2.CX P w) (k + 1) f (PySem.W.fnOf name qual params body (defScope st) dV kV doc pm an cdv ct) ps (spD K (runFn ps.length N.length m)) := by
  refine fn_of lk hcd S spD_len fun A outer s H vs Q E hr hsp => ⟨_, hb cdv A outer s H E hr, ?_⟩
  have hl := spD_len vs H Q E hsp
  obtain ⟨ρ, ds, hh, rh, rv, q⟩ := hsp
  have hd : ds.length = ps.length := by rw [RVs.len rv]; exact hl
  unfold runFn at q
  rw [if_pos hd] at q
  refine ⟨ρ, ds.map some ++ List.replicate (N.length - ps.length) none, hh, rh, ?_, ?_⟩
  · have := RS.start (n := N.length - vs.length) rv
    rw [hl] at this
    show RS _ _ _ _ (vs.map some ++ List.replicate (N.length - vs.length) none)
    rw [hl]
    exact this
  · cases r : m (ds.map some ++ List.replicate (N.length - ps.length) none) hh with
    | ret d h' => rw [r] at q; exact q
    | nx σ h' => rw [r] at q; exact fun ρ' σ' H' l rh' _ => q ρ' .non H' l rh' rfl
    | exc C fs σ h' => rw [r] at q; exact fun ρ' σ' H' d l rh' _ rx => q ρ' H' d l rh' rx
    | brk σ h' => rw [r] at q; exact q.elim
    | ct σ h' => rw [r] at q; exact q.elim
    | bad => rw [r] at q; exact q.elim
theorem fnG_mk {x qual : Str} {st : Stmt} {f : Addr} {N ps : List Str} {k : Nat} {m : S} (h : FunG K x qual st [] f) (S : FnScope N ps (defScope st))
    (hbd : ∀ (kV doc pm : Value) (an : Option Addr) (cdv ct : Value) (us : List Value), us.length = ps.length → bindArgs (PySem.W.fnOf x qual (defArgs st) (defBody st) (defScope st) .none kV doc pm an cdv ct) ⟨us, []⟩ = pure (ps.zip us))
    (hb : ∀ (cdv : Value) (A : Around) (outer : List PySem.Env) (s : Shared) (H : Hp) (E : XK), Room k (A.deeper (envOfC qual (defScope st) s.heap.objs.size f cdv)) → CSs (cxOf (L2.CX P w) P w K mg base N qual (defScope st) f cdv A outer s H E) (WF E) (defBody st) m) :
    FnG P w K mg base (k + 1) f ps (runFn ps.length N.length m) := by
  obtain ⟨oc, od, dV, kV, doc, pm, an, cdv, ct, osl, lk, hcd, dd⟩ := h.ex
  rcases dd with ⟨_, rfl⟩ | ⟨z, _⟩
  · refine ⟨⟨_, fnG_run lk hcd S hb, .all (hbd kV doc pm an cdv ct)⟩, h.kp, fun oc' od' fd' osl' lk' => ?_⟩
    rw [lk] at lk'
    cases lk'
    exact fnG_run lk hcd S hb
  · exact absurd rfl z
/-- with defaults, all given -/
theorem fnG_mkD {x qual : Str} {st : Stmt} {f : Addr} {dvs : List V} {N ps : List Str} {k : Nat} {m : S} (h : FunG K x qual st dvs f) (hd : dvs ≠ []) (S : FnScope N ps (defScope st))
    (hbd : ∀ (T : Addr) (kV doc pm : Value) (an : Option Addr) (cdv ct : Value) (us its : List Value), us.length = ps.length → its.length = dvs.length →
      ∃ k, bindArgs (PySem.W.fnOf x qual (defArgs st) (defBody st) (defScope st) (.ref T) kV doc pm an cdv ct) ⟨us, []⟩ = seqItems? (.ref T) >>= k ∧ k (some its.toArray) = pure (ps.zip us))
    (hb : ∀ (cdv : Value) (A : Around) (outer : List PySem.Env) (s : Shared) (H : Hp) (E : XK), Room k (A.deeper (envOfC qual (defScope st) s.heap.objs.size f cdv)) → CSs (cxOf (L2.CX P w) P w K mg base N qual (defScope st) f cdv A outer s H E) (WF E) (defBody st) m) :
    FnG P w K mg base (k + 1) f ps (runFn ps.length N.length m) := by
  obtain ⟨oc, od, dV, kV, doc, pm, an, cdv, ct, osl, lk, hcd, dd⟩ := h.ex
  rcases dd with ⟨z, _⟩ | ⟨_, T, o, its, n, rfl, lT, oT, rT⟩
  · exact absurd z hd
  · refine ⟨⟨_, fnG_run lk hcd S hb, fun s us X hlen => ?_⟩, h.kp, fun oc' od' fd' osl' lk' => by rw [lk] at lk'; cases lk'; exact fnG_run lk hcd S hb⟩
    rw [List.append_nil] at hlen ⊢
    obtain ⟨k', e1, e2⟩ := hbd T kV doc pm an cdv ct us its hlen rT.length.symm
    refine BindsTo.of_looks fun M => ?_
    rw [e1]
    exact looks_items X lT oT (.of_pure e2)
theorem tkF {N : List Str} {qual : Str} {scope : Scope} {f : Addr} {cd : Value} {A : Around} {outer : List PySem.Env} {s : Shared} {H : Hp} {E : XK} : Takes (cxOf (L2.CX P w) P w K mg base N qual scope f cd A outer s H E) (WF E) := takes_of rfl rfl rfl rfl
theorem hpF {N : List Str} {qual : Str} {scope : Scope} {f : Addr} {cd : Value} {A : Around} {outer : List PySem.Env} {s : Shared} {H : Hp} {E : XK} : PassesOwn (model P w) (cxOf (L2.CX P w) P w K mg base N qual scope f cd A outer s H E).A (cxOf (L2.CX P w) P w K mg base N qual scope f cd A outer s H E).env (cxOf (L2.CX P w) P w K mg base N qual scope f cd A outer s H E).xe := passes_of rfl
theorem FnG.r {k : Nat} {f : Addr} {ps : List Str} {F : Fn} (G : FnG P w K mg base k f ps F) : FnR P w K mg base (L2.CX P w) k f (spD K F) := by
  obtain ⟨fd, g, b⟩ := G.ex
  intro A outer s H us vs Q E hr e0 r hsp
  have hl : us.length = ps.length := by rw [← r.length]; exact g.len _ _ _ _ hsp
  have hb := b s us (e0.mod.kin.keeps fun b o e => (e0.bs b o e).1) (by rw [List.append_nil]; exact hl)
  rw [List.append_nil] at hb
  exact g.run A outer s H ⟨us, []⟩ us vs Q E hr e0 hb r hsp
/-- another function, of which the old one tells -/
theorem FnG.imp {k : Nat} {f : Addr} {ps : List Str} {F F' : Fn} (G : FnG P w K mg base k f ps F) (h : ∀ vs H Q E, spD K F' vs H Q E → spD K F vs H Q E) : FnG P w K mg base k f ps F' := by
  obtain ⟨fd, g, b⟩ := G.ex
  exact ⟨⟨fd, g.imp h, b⟩, G.kp, fun oc od fd osl lk => (G.all oc od fd osl lk).imp h⟩
end
section
variable {X : Cx} {W : WX} {k : Nat} {f C pr : Addr} {ps : List Str} {F : Fn} {x nm : Str} {p pos apos cpos : Pos} {e o : Expr} {es : List Expr} {ms : EA} {mo ma mb : E}
theorem ce_callG (G : FnG X.prog X.w X.K X.mg X.base k f ps F) (hr : Room k X.A) (hg : Gl X x) (hm : X.mg x = some (.ref f)) (tk : Takes X W)
    (ha : CA X W (e :: es) ms) (hdb : (x == ("__debug__" : Str)) = false := by decide) (he : starEach (e :: es) X.env = (false, eval e X.env) :: starEach es X.env := by rfl) (hpl : (backTo pos (starEach es X.env)).any (·.1) = false := by rfl) :
    CE X W (.Call (.Name x p) (e :: es) [] pos) (eCall F [] ms) := by
  obtain ⟨fd, g, b⟩ := G.ex
  exact ce_call g hr hg hm G.kp b .nil (fun _ _ => rfl) tk ha hdb he hpl
theorem ce_callG0 (G : FnG X.prog X.w X.K X.mg X.base k f ps F) (hr : Room k X.A) (hg : Gl X x) (hm : X.mg x = some (.ref f)) (tk : Takes X W) (hdb : (x == ("__debug__" : Str)) = false := by decide) : CE X W (.Call (.Name x p) [] [] pos) (eCall F [] eNil) := by
  obtain ⟨fd, g, b⟩ := G.ex
  exact ce_call0 g hr hg hm G.kp b .nil (fun _ _ => rfl) tk hdb
theorem ce_makeG (M : Mk X.K C f) (G : FnG X.prog X.w X.K X.mg X.base k f ps F) (hr : Room (k + 1) X.A) (hg : Gl X x) (hm : X.mg x = some (.ref C)) (tk : Takes X W)
    (ha : CA X W (e :: es) ms) (hdb : (x == ("__debug__" : Str)) = false := by decide) (he : starEach (e :: es) X.env = (false, eval e X.env) :: starEach es X.env := by rfl) (hpl : (backTo pos (starEach es X.env)).any (·.1) = false := by rfl) :
    CE X W (.Call (.Name x p) (e :: es) [] pos) (eMake C F [] ms) := by
  obtain ⟨fd, g, b⟩ := G.ex
  exact ce_make M g hr hg hm b .nil (fun _ _ => rfl) tk ha hdb he hpl
theorem ce_propG (he : CE X W o mo) (c : Cls X.K C) (hp : PropOf X.K C nm pr f) (G : FnG X.prog X.w X.K X.mg X.base k f ps F) (hr : Room (k + 1) X.A) (hab : attributeBase o nm X.env (eval o X.env) = eval o X.env := by rfl) : CE X W (.Attribute o nm pos) (eProp C F mo) := by
  obtain ⟨fd, g, b⟩ := G.ex
  exact ce_prop he c hp g hr b hab
/-- d.get(k, x) of a dict of the module -/
def eKGet (kvs : List (Str × D)) (a b : E) : E := fun σ h => (a σ h).bind fun x h1 => (b σ h1).bind fun y h2 => match x with
  | .str k => .ok ((kvs.lookup k).getD y) h2
  | _ => .bad
theorem ce_kget {d : Addr} {kvs : List (Str × D)} {e2 : Expr} (hd : ∃ es n, KDict X.K X.w d es n)
    (ht : ∀ k : Str, ∃ r, PySem.W.nsIn X.K d k = some r ∧ ((kvs.lookup k = none ∧ r = none) ∨ ∃ u v dd, kvs.lookup k = some dd ∧ r = some u ∧ RelV v u ∧ ∀ H ρ, RV X.K H ρ dd v)) (hm : X.mg x = some (.ref d)) (hg : Gl X x) (ha : CE X W e ma) (hb : CE X W e2 mb) (m : M2 X (.Name x p) "get" apos e e2 cpos)
    (hdb : (x == ("__debug__" : Str)) = false := by decide) : CE X W (.Call (.Attribute (.Name x p) "get" apos) [e, e2] [] cpos) (eKGet kvs ma mb) := (pe_kget2 (pe_glob (v := .ref d) hg hm rfl hdb) ha hb m).imp fun σ H Q ⟨ρ, σd, h, rh, rs, q⟩ =>
  let ⟨es, n, hd⟩ := hd; ⟨d, es, n, rfl, hd, ρ, σd, h, rh, rs, TQ.bind q fun ρ1 y H1 a h1 l1 rh1 rv1 q1 => ⟨ρ1, σd, h1, rh1, rs.le l1 rh, TQ.bind q1 fun ρ2 z H2 b h2 l2 rh2 rv2 q2 => by
    cases a with
    | str k =>
      obtain ⟨r, h1, h3⟩ := ht k
      refine ⟨k, r, rv1, h1, ?_⟩
      rcases h3 with ⟨h3, h4⟩ | ⟨u, v, dd, h3, h4, h5, h6⟩
      · refine .inl ⟨h4, q2 ρ2 z H2 .refl rh2 ?_⟩
        rw [h3]
        exact rv2
      · refine .inr ⟨u, v, h4, h5, q2 ρ2 v H2 .refl rh2 ?_⟩
        rw [h3]
        exact h6 H2 ρ2
    | _ => exact q2.elim⟩⟩
end
/-! ### a constant of the module -/
mutual
/-- the value u of the written part is d -/
def okC (K : PySem.W.Frag) : D → Value → Bool
  | .non, .none => true
  | .bl a, .bool b => a == b
  | .int a, .int b _ => a == b
  | .str a, .str b _ => decide (a = b)
  | .tup xs, .ref a => match K.lookup a with
    | some ⟨.type "tuple", _, .seq its _, _⟩ => decide (its.size ≤ 1000) && okCs K xs its.toList
    | _ => false
  | _, _ => false
def okCs (K : PySem.W.Frag) : List D → List Value → Bool
  | [], [] => true
  | d :: ds, u :: us => okC K d u && okCs K ds us
  | _, _ => false
end
mutual
theorem okC_of {K : PySem.W.Frag} : ∀ (d : D) (u : Value), okC K d u = true → ∃ v, RelV v u ∧ ∀ H ρ, RV K H ρ d v
  | .non, u, h => by cases u <;> first | (cases h; done) | exact ⟨.non, rfl, fun _ _ => rfl⟩
  | .bl a, u, h => by
    cases u <;> first | (cases h; done) | skip
    simp [okC] at h
    exact ⟨.bl a, by rw [h]; rfl, fun _ _ => rfl⟩
  | .int a, u, h => by
    cases u <;> first | (cases h; done) | skip
    simp [okC] at h
    exact ⟨.int a, ⟨_, by rw [h]⟩, fun _ _ => rfl⟩
  | .str a, u, h => by
    cases u <;> first | (cases h; done) | skip
    simp [okC] at h
    exact ⟨.str a, ⟨_, by rw [h]⟩, fun _ _ => rfl⟩
  | .tup xs, u, h => by
    cases u <;> first | (cases h; done) | skip
    next a =>
      rw [okC] at h
      split at h
      · next its n _ lk =>
        simp only [Bool.and_eq_true, decide_eq_true_eq] at h
        obtain ⟨vs, h1, h2⟩ := okCs_of xs _ h.2
        exact ⟨.ref a, rfl, fun H ρ => ⟨a, vs, rfl, .inr ⟨_, _, _, lk, rfl, rfl, Nat.le_trans h.1 (by decide), h1⟩, h2 H ρ⟩⟩
      · cases h
  | .byt _, _, h => by cases h
  | .ty _, _, h => by cases h
  | .adr _, _, h => by cases h
  | .ref _, _, h => by cases h
  | .tmp _, _, h => by cases h
  | .dtm _ _, _, h => by cases h
  | .xcp _ _ _ _ _, _, h => by cases h
theorem okCs_of {K : PySem.W.Frag} : ∀ (ds : List D) (us : List Value), okCs K ds us = true → ∃ vs, Vals vs us ∧ ∀ H ρ, RVs K H ρ ds vs
  | [], us, h => by cases us <;> first | (cases h; done) | exact ⟨[], .nil, fun _ _ => rfl⟩
  | d :: ds, us, h => by
    cases us with
    | nil => cases h
    | cons u us =>
      rw [okCs, Bool.and_eq_true] at h
      obtain ⟨v, h1, h2⟩ := okC_of d u h.1
      obtain ⟨vs, h3, h4⟩ := okCs_of ds us h.2
      exact ⟨v :: vs, .cons h1 h3, fun H ρ => ⟨v, vs, rfl, h2 H ρ, h4 H ρ⟩⟩
end
theorem okC_ref {K : PySem.W.Frag} {d : D} {a : Addr} (h : okC K d (.ref a) = true) : ∀ H ρ, RV K H ρ d (.ref a) := by
  obtain ⟨v, h1, h2⟩ := okC_of d (.ref a) h
  have : v = .ref a := by
    cases v with
    | ref b => cases h1; rfl
    | non => cases h1
    | bl _ => cases h1
    | int _ => obtain ⟨_, e⟩ := h1; cases e
    | str _ => obtain ⟨_, e⟩ := h1; cases e
    | byt _ => obtain ⟨_, e⟩ := h1; cases e
    | flt _ => obtain ⟨_, e⟩ := h1; cases e
    | ty _ => cases h1
  rw [← this]
  exact h2
end Mi
/-! Mi19: sum, lists backwards, dict of pairs, classes by a name of the def, classmethods, defaults, try with a name. -/
namespace Mi
open PySem L2 PySem.Spec PyProof.Rows
section
variable {X : Cx} {W : WX} {e : Expr} {ma : E}
/-- sum of a list of numbers -/
def sumP : PN := fun h as => match as with
  | [a] => (asL h a).bind fun xs => (intsOf xs).map fun ns => .int ns.sum
  | _ => none
theorem call_sumP (hc : X.calm = true) : CallR X (.builtin "sum") (rPN X.K sumP) := (cr_sum hc).imp fun xs H Q ⟨ρ, h, as, d, rh, ra, e, q⟩ => by
  unfold sumP at e
  split at e
  · next a =>
    obtain ⟨x, rfl, rv⟩ := rvs1 ra
    cases h1 : asL h a with
    | none => rw [h1] at e; cases e
    | some ys =>
      rw [h1] at e
      simp only [Option.bind_some] at e
      cases h2 : intsOf ys with
      | none => rw [h2] at e; cases e
      | some ns =>
        rw [h2] at e
        cases e
        obtain ⟨p, vs, rfl, hs, r⟩ := asL_of h1 rh rv
        rw [intsOf_of h2 r] at hs
        exact ⟨p, ns, rfl, hs, q.here rh rfl⟩
  · cases e
/-- a list backwards -/
def lRev (a : E) : EL := fun σ h => (a σ h).bind fun x h1 => ofO ((asL h1 x).map List.reverse) h1
theorem RVs.rev {K : PySem.W.Frag} {H : Hp} {ρ : Rh} : ∀ {ds : List D} {vs : List V}, RVs K H ρ ds vs → RVs K H ρ ds.reverse vs.reverse
  | [], _, q => by rw [show _ = [] from q]; exact rfl
  | d :: ds, _, ⟨v, t, e, q, qs⟩ => by
    subst e
    rw [List.reverse_cons, List.reverse_cons]
    exact RVs.app (RVs.rev qs) ⟨v, [], rfl, q, rfl⟩
theorem cl_rev {k : Nat} {p1 p2 p3 pos : Pos} (he : CE X W e ma) : CL X W (.Subscript e (.Slice none none (some (.UnaryOp .USub (.Constant (.int 1) k p1) p2)) p3) pos) (lRev ma) := (pe_revL he).imp fun σ H Q ⟨ρ, σd, h, rh, rs, q⟩ =>
  ⟨ρ, σd, h, rh, rs, LQ.bind q fun ρ1 x H1 d h1 l1 rh1 rv1 q1 => by
    cases h2 : asL h1 d with
    | none => rw [h2] at q1; exact q1.elim
    | some ys =>
      rw [h2] at q1
      obtain ⟨p, vs, rfl, hs, r⟩ := asL_of h2 rh1 rv1
      exact ⟨p, vs, rfl, hs, fun l hl => q1 ρ1 l vs.reverse H1 .refl rh1 (RVs.rev r) hl⟩⟩
/-- dict of a list of pairs, which nothing changes -/
def pairsOf : List D → Option (List (Key × D))
  | [] => some []
  | .tup [k, v] :: r => (asKey k).bind fun key => (pairsOf r).map ((key, v) :: ·)
  | _ => none
def mergeD (kvs : List (Key × D)) : List (Key × D) := kvs.foldl (fun acc kv => putKD acc kv.1 kv.2) []
def eDict (a : EA) : E := fun σ h => (a σ h).bind fun xs h1 => match xs with
  | [x] => (match (asL h1 x).bind pairsOf with
    | some kvs => .ok (.dtm ((mergeD kvs).map (·.1)) ((mergeD kvs).map (·.2))) h1
    | none => .bad)
  | _ => .bad
theorem pairsOf_of {K : PySem.W.Frag} {H : Hp} {ρ : Rh} : ∀ {xs : List D} {vs : List V} {kvs : List (Key × D)}, pairsOf xs = some kvs → RVs K H ρ xs vs →
    ∃ (ps : List Addr) (us : List (Key × V)), vs = ps.map V.ref ∧ RKs K H ρ kvs us ∧ Paired (fun p kv => SqT K H p [kV kv.1, kv.2]) ps us
  | [], vs, kvs, e, q => by cases e; rw [show vs = [] from q]; exact ⟨[], [], rfl, rfl, .nil⟩
  | x :: r, _, kvs, e, ⟨v, t, e1, q, qs⟩ => by
    unfold pairsOf at e
    split at e
    · next h => cases h
    · next k d r' h =>
      cases h
      cases h1 : asKey k with
      | none => rw [h1] at e; cases e
      | some key =>
        rw [h1] at e
        simp only [Option.bind_some] at e
        cases h2 : pairsOf r with
        | none => rw [h2] at e; cases e
        | some kvs' =>
          rw [h2] at e
          cases e
          obtain ⟨a, ws, rfl, ht, kv, t1, rfl, q1, dv, t2, rfl, q2, q3⟩ := q
          cases (show t2 = [] from q3)
          obtain ⟨ps, us, rfl, i2, i3⟩ := pairsOf_of h2 qs
          refine ⟨a :: ps, (key, dv) :: us, by rw [e1]; rfl, ⟨dv, us, rfl, q2, i2⟩, .cons ?_ i3⟩
          rw [asKey_of h1 q1] at ht
          exact ht
    · cases e
theorem mergeD_of {K : PySem.W.Frag} {H : Hp} {ρ : Rh} : ∀ {kvs : List (Key × D)} {us : List (Key × V)} {acc : List (Key × D)} {ac : List (Key × V)}, RKs K H ρ acc ac → RKs K H ρ kvs us →
    RKs K H ρ (kvs.foldl (fun acc kv => putKD acc kv.1 kv.2) acc) (us.foldl (fun acc kv => L2.putK acc kv.1 kv.2) ac)
  | [], us, acc, ac, qa, q => by rw [show us = [] from q]; exact qa
  | (k, d) :: r, _, acc, ac, qa, ⟨v, t, e, q, qs⟩ => by
    subst e
    rw [List.foldl_cons, List.foldl_cons]
    exact mergeD_of (RKs.putK (k := k) q qa) qs
theorem ce_dict {m : EA} {p pos : Pos} (hc : X.calm = true) (hg : Gl X "dict") (hm : X.mg "dict" = none) (ha : CA X W [e] m) (hs : starEach [e] X.env = (false, eval e X.env) :: starEach [] X.env := by rfl) (hpl : (backTo pos (starEach [] X.env)).any (·.1) = false := by rfl) :
    CE X W (.Call (.Name "dict" p) [e] [] pos) (eDict m) := (pe_freeze (pe_callTy (T := "dict") (call_dictP hc) hg hm (by decide +kernel) ha (by decide) (by decide) hs hpl)).imp fun σ H Q ⟨ρ, σd, h, rh, rs, q⟩ =>
  ⟨ρ, σd, h, rh, rs, TQ.bind q fun ρ1 xs H1 as h1 l1 rh1 rv1 q1 => by
    split at q1
    · next x =>
      obtain ⟨v, rfl, rv⟩ := rvs1 rv1
      cases h2 : asL h1 x with
      | none => rw [h2] at q1; exact q1.elim
      | some ys =>
        rw [h2] at q1
        simp only [Option.bind_some] at q1
        cases h3 : pairsOf ys with
        | none => rw [h3] at q1; exact q1.elim
        | some kvs =>
          rw [h3] at q1
          obtain ⟨a, vs, rfl, hsq, r⟩ := asL_of h2 rh1 rv
          obtain ⟨ps, us, rfl, i2, i3⟩ := pairsOf_of h3 r
          refine ⟨a, ps, us, rfl, hsq, i3, fun p hp => ⟨p, _, rfl, upd_same, trivial, fun od => ?_⟩⟩
          have e0 : upd (upd H1 p (.dK (mergeK [] us))) p (.frz od (.dK (mergeK [] us))) = upd H1 p (.frz od (.dK (mergeK [] us))) := by
            funext b
            by_cases e : b = p
            · rw [e, upd_same, upd_same]
            · rw [upd_ne e, upd_ne e, upd_ne e]
          rw [e0]
          obtain ⟨s1, s2⟩ := RKs.split (mergeD_of (acc := []) (ac := []) rfl i2)
          refine q1 ρ1 (.ref p) _ (Le.new hp) (rh1.new hp) ⟨p, od, (mergeK [] us).map (fun kv : Key × V => kv.2), rfl, ?_, rh1.no hp, by simp, RVs.mo (mo_new rh1 hp) _ _ s2⟩
          rw [upd_same]
          exact congrArg (fun z => some (HO.frz od (HO.dK z))) s1
    · exact q1.elim⟩
end
/-! ### classes by a name of the def; classmethods; defaults -/
/-- what is bound where the last arguments are left out -/
structure DfG (K : PySem.W.Frag) (f : Addr) (ps : List Str) (dvs : List V) : Prop where
  ex : ∃ (oc : Value) (od : Option Addr) (fd : FuncData) (osl : Array (Option Value)) (ds : List Value), K.lookup f = some ⟨oc, od, .func fd, osl⟩ ∧ L2.Binds K fd ps ds ∧ Vals dvs ds
theorem DfG.none {P : Program} {w : World} {K : PySem.W.Frag} {mg : Str → Option Value} {base : Heap} {k : Nat} {f : Addr} {ps : List Str} {F : Fn} (G : FnG P w K mg base k f ps F) : True := trivial
theorem vals_drop : ∀ {vs : List V} {us : List Value} (n : Nat), Vals vs us → Vals (vs.drop n) (us.drop n)
  | _, _, 0, h => h
  | _, _, n + 1, .nil => .nil
  | _, _, n + 1, .cons _ t => vals_drop n t
/-- the last dvs.length - n parameters by their defaults -/
theorem dfG_mk {K : PySem.W.Frag} {x qual : Str} {st : Stmt} {f : Addr} {dvs : List V} {ps : List Str} (n : Nat) (h : FunG K x qual st dvs f) (hd : dvs ≠ [])
    (hbd : ∀ (T : Addr) (kV doc pm : Value) (an : Option Addr) (cdv ct : Value) (us its : List Value), us.length = ps.length - (dvs.length - n) → its.length = dvs.length →
      ∃ k, bindArgs (PySem.W.fnOf x qual (defArgs st) (defBody st) (defScope st) (.ref T) kV doc pm an cdv ct) ⟨us, []⟩ = seqItems? (.ref T) >>= k ∧ k (some its.toArray) = pure (ps.zip (us ++ its.drop n))) : DfG K f ps (dvs.drop n) := by
  obtain ⟨oc, od, dV, kV, doc, pm, an, cdv, ct, osl, lk, hcd, dd⟩ := h.ex
  rcases dd with ⟨z, _⟩ | ⟨_, T, o, its, m, rfl, lT, oT, rT⟩
  · exact absurd z hd
  · refine ⟨oc, od, _, osl, its.drop n, lk, fun s us X hlen => ?_, vals_drop n rT⟩
    have hl2 : us.length = ps.length - (dvs.length - n) := by
      rw [List.length_append, List.length_drop, ← rT.length] at hlen
      omega
    obtain ⟨k', e1, e2⟩ := hbd T kV doc pm an cdv ct us its hl2 rT.length.symm
    refine BindsTo.of_looks fun M => ?_
    rw [e1]
    exact looks_items X lT oT (.of_pure e2)
section
variable {X : Cx} {W : WX} {k : Nat} {f C : Addr} {ps : List Str} {F : Fn} {dvs : List V} {dds : List D} {x : Str} {p pos : Pos} {e : Expr} {es : List Expr} {ms : EA}
theorem ce_makeD (M : Mk X.K C f) (G : FnG X.prog X.w X.K X.mg X.base k f ps F) (B : DfG X.K f ps dvs) (hdd : ∀ H ρ, RVs X.K H ρ dds dvs) (hr : Room (k + 1) X.A) (hg : Gl X x) (hm : X.mg x = some (.ref C)) (tk : Takes X W)
    (ha : CA X W (e :: es) ms) (hdb : (x == ("__debug__" : Str)) = false := by decide) (he : starEach (e :: es) X.env = (false, eval e X.env) :: starEach es X.env := by rfl) (hpl : (backTo pos (starEach es X.env)).any (·.1) = false := by rfl) :
    CE X W (.Call (.Name x p) (e :: es) [] pos) (eMake C F dds ms) := by
  obtain ⟨oc, od, fd, osl, ds, lk, b, hv⟩ := B.ex
  exact ce_make M (G.all _ _ _ _ lk) hr hg hm b hv hdd tk ha hdb he hpl
theorem ce_makeD0 (M : Mk X.K C f) (G : FnG X.prog X.w X.K X.mg X.base k f ps F) (B : DfG X.K f ps dvs) (hdd : ∀ H ρ, RVs X.K H ρ dds dvs) (hr : Room (k + 1) X.A) (hg : Gl X x) (hm : X.mg x = some (.ref C)) (tk : Takes X W)
    (hdb : (x == ("__debug__" : Str)) = false := by decide) : CE X W (.Call (.Name x p) [] [] pos) (eMake C F dds eNil) := by
  obtain ⟨oc, od, fd, osl, ds, lk, b, hv⟩ := B.ex
  exact ce_make0 M (G.all _ _ _ _ lk) hr hg hm b hv hdd tk hdb
/-- C(..), C by a name of the def -/
def eMakeV (i : Nat) (C : Addr) (F : Fn) (dds : List D) (a : EA) : E := fun σ h => match σ[i]? with
  | some (some (.adr C')) => if C' = C then eMake C F dds a σ h else .bad
  | _ => .bad
theorem makeV_var {K : PySem.W.Frag} {H : Hp} {ρ : Rh} {σd : Env} {σ : L2.St} {i : Nat} {h : Hd} {a : EA} {Q : VK} {WW : Value → Option Addr → Hp → Prop} (rs : RS K H ρ σd σ) (q : TQ (RV K) K WW ρ H (eMakeV i C F dds a σd h) Q) : σ[i]? = some (some (.ref C)) ∧ TQ (RV K) K WW ρ H (eMake C F dds a σd h) Q := by
  unfold eMakeV at q
  split at q
  · next C' hi =>
    split at q
    · next hc =>
      subst hc
      obtain ⟨v, e1, rv⟩ := rs.get i _ hi
      cases rv
      exact ⟨e1, q⟩
    · exact q.elim
  · exact q.elim
theorem ce_makeV (i : Nat) (M : Mk X.K C f) (G : FnG X.prog X.w X.K X.mg X.base k f ps F) (hr : Room (k + 1) X.A) (tk : Takes X W) (ha : CA X W (e :: es) ms)
    (hN : X.N[i]? = some x := by rfl) (hv : Vis X.env.scope x := by first | exact Or.inl rfl | exact Or.inr (Or.inl rfl) | exact Or.inr (Or.inr rfl)) (hdb : (x == ("__debug__" : Str)) = false := by decide)
    (hcd : (x == ("__classdict__" : Str)) = false := by decide) (he : starEach (e :: es) X.env = (false, eval e X.env) :: starEach es X.env := by rfl) (hpl : (backTo pos (starEach es X.env)).any (·.1) = false := by rfl) :
    CE X W (.Call (.Name x p) (e :: es) [] pos) (eMakeV i C F [] ms) := ⟨fun pins s σ H Q I ⟨ρ, σd, h, rh, rs, q⟩ => by
  obtain ⟨fd, g, b⟩ := G.ex
  obtain ⟨hs, q⟩ := makeV_var rs q
  refine wpAny_Call_Name_kw (thn ((pe_var hN hv hdb hcd).run pins s σ H (fun v H1 => v = .ref C ∧ H1 = H) I ⟨_, hs, rfl, rfl⟩) fun u s1 ⟨v, H1, I1, rx, ev, eH⟩ => ?_)
  subst ev
  subst eH
  cases (show u = Value.ref C from rx)
  refine PySem.W.callWith_K (h₀ := X.base) I1.ok.mod.kin M.kp (thn (ha.run pos pins s1 σ H1 (fun vs H1 => ∀ x dx, H1 x = none → H1 dx = none → dx ≠ x → spD X.K F (.ref x :: (vs ++ [])) (upd (upd H1 dx (.own x)) x (.ins C dx [])) (fun v H2 => v = .non ∧ Q (.ref x) H2) (WE W σ)) I1
    ⟨ρ, σd, h, rh, rs, TQ.bind q fun ρ1 xs H1 as h1 l1 rh1 rv1 q1 => mk_sp rh1 (RVs.app rv1 (show RVs X.K H1 ρ1 [] [] from rfl)) q1⟩) fun us s1 ⟨vs, H1, I1, r, q⟩ => ⟨I1.kIn, ?_⟩) he hpl
  exact run_makeSD (E := WE W) M g hr b .nil (passAt tk σ) I1 r q⟩
theorem ce_makeV0 (i : Nat) (M : Mk X.K C f) (G : FnG X.prog X.w X.K X.mg X.base k f ps F) (B : DfG X.K f ps dvs) (hdd : ∀ H ρ, RVs X.K H ρ dds dvs) (hr : Room (k + 1) X.A) (tk : Takes X W)
    (hN : X.N[i]? = some x := by rfl) (hv : Vis X.env.scope x := by first | exact Or.inl rfl | exact Or.inr (Or.inl rfl) | exact Or.inr (Or.inr rfl)) (hdb : (x == ("__debug__" : Str)) = false := by decide)
    (hcd : (x == ("__classdict__" : Str)) = false := by decide) :
    CE X W (.Call (.Name x p) [] [] pos) (eMakeV i C F dds eNil) := ⟨fun pins s σ H Q I ⟨ρ, σd, h, rh, rs, q⟩ => by
  obtain ⟨oc, od, fd, osl, ds, lk, b, hv'⟩ := B.ex
  obtain ⟨hs, q⟩ := makeV_var rs q
  refine wpAny_Call_Name_kw (thn ((pe_var hN hv hdb hcd).run pins s σ H (fun v H1 => v = .ref C ∧ H1 = H) I ⟨_, hs, rfl, rfl⟩) fun u s1 ⟨v, H1, I1, rx, ev, eH⟩ => ?_)
  subst ev
  subst eH
  cases (show u = Value.ref C from rx)
  exact PySem.W.callWith_K0 I1.kIn M.kp (run_makeSD (us := []) (vs := []) (E := WE W) M (G.all _ _ _ _ lk) hr b hv' (passAt tk σ) I1 .nil (mk_sp (as := dds) rh (hdd H1 ρ) q))⟩
/-- C.m(..), a classmethod -/
def eCMeth (C : Addr) (F : Fn) (o : E) (a : EA) : E := fun σ h => (o σ h).bind fun x h1 => match x with
  | .adr C' => if C' = C then (a σ h1).bind fun ds h2 => F (.adr C :: ds) h2 else .bad
  | _ => .bad
theorem run_fnRS {CX : CXT} {sp : Sp} {E : L2.St → XK} {pins : List (Addr × Obj)} {σ : L2.St} {H : Hp} {s : Shared} {Q : VK} {us : List Value} {vs : List V} (R : FnR X.prog X.w X.K X.mg X.base CX k f sp) (hr : Room k X.A) (hx : PassesAt CX X σ (E σ)) (I : Inv X pins σ H s) (r : Vals vs us) (h : sp vs H Q (E σ)) :
    codeAny (model X.prog X.w) X.A (.call (.ref f) ⟨us, []⟩) (fun r s' => match r with
      | .ok (.ret v) => EP X pins σ Q v s'
      | .ok _ => False
      | .error e => X.xe e s') s := by
  refine codeAny_mono (R X.A X.stack s H us vs Q (E σ) hr I.env0 r h) fun r s' hq => ?_
  cases r with
  | error e => exact hx pins H s e s' I hq
  | ok fl =>
    cases fl with
    | ret u => exact I.after hq
    | next => exact hq
    | brk => exact hq
    | cont => exact hq
theorem ce_cmethG {o : Expr} {mo : E} {m : Str} {apos : Pos} {g pr : Addr} {mc : Value} {pl : Sem Bool} (he : CE X W o mo) (r : ClX.CRead X.K C mc) (c : ClX.CMet X.K C mc m pr g) (G : FnG X.prog X.w X.K X.mg X.base k g ps F) (hr : Room k X.A) (tk : Takes X W) (ha : CA X W (e :: es) ms)
    (hst : starEach (e :: es) X.env = (false, eval e X.env) :: starEach es X.env := by rfl) (hpl : (backTo pos (starEach es X.env)).any (·.1) = false := by rfl)
    (ht : eval (.Call (.Attribute o m apos) (e :: es) [] pos) X.env = (do
      let ov ← eval o X.env
      standAt apos.atName
      let (f, first) ← holding [ov] (getMethod ov m pl)
      callWith pos f first (backTo pos (starEach (e :: es) X.env)) (backToKw pos (keywordEach [] X.env))) := by rfl) :
    CE X W (.Call (.Attribute o m apos) (e :: es) [] pos) (eCMeth C F mo ms) := ⟨fun pins s σ H Q I ⟨ρ, σd, h, rh, rs, q⟩ => by
  refine PySem.W.methodCall_KW (pl := pl) (thn (he.run pins s σ H (fun x H1 => x = .ref C ∧ tA X.K W ms σ H1 fun vs H2 => spD X.K F (.ref C :: vs) H2 Q (WE W σ)) I
    ⟨ρ, σd, h, rh, rs, TQ.bind q fun ρ1 x H1 d h1 l1 rh1 rv1 q1 => ?_⟩) fun u s1 ⟨x, H1, I1, rx, ex, q⟩ => ?_) ht
  · cases d with
    | adr C' =>
      simp only at q1
      split at q1
      · next hc =>
        subst hc
        cases rv1
        exact ⟨rfl, ρ1, σd, h1, rh1, rs.le l1 rh, TQ.bind q1 fun ρ2 xs H2 as h2 l2 rh2 rv2 q2 => ⟨ρ2, .adr C' :: as, h2, rh2, ⟨.ref C', xs, rfl, rfl, rv2⟩, q2⟩⟩
      · exact q1.elim
    | _ => exact q1.elim
  · subst ex
    cases (show u = Value.ref C from rx)
    refine ClX.getmethcm_ok I1 r c fun s2 I2 => ClX.callwith_cm I2 (ClX.base_none I1 (Nat.le_refl _)) c.fi (thn (ha.run pos _ s2 σ H1 _ I2 q) fun us s3 ⟨vs, H2, I3, rv, q2⟩ => ⟨⟨ClX.pin_at I3, I3.kIn⟩, ?_⟩) hst hpl
    exact thn (wpAny_call (PySem.W.method_call (ClX.pin_at I3) (run_fnRS (E := WE W) (vs := .ref C :: vs) G.r hr (passAt tk σ) I3 (.cons rfl rv) q2))) fun _ _ y => ClX.unpinE y⟩
end
end Mi
/-! Mi20: try with one handler that has a name. -/
namespace Mi
open PySem L2 PySem.Spec PyProof.Rows
/-- the name is gone behind the handler; nothing may be raised in it -/
def dropI (i : Nat) : SR → SR
  | .nx σ h => .nx (σ.set i none) h
  | .brk σ h => .brk (σ.set i none) h
  | .ct σ h => .ct (σ.set i none) h
  | .ret d h => .ret d h
  | .exc _ _ _ _ => .bad
  | .bad => .bad
def sTry (K : PySem.W.Frag) (C : Addr) (i : Nat) (b : S) (su : List (Str × D) → S) : S := fun σ h => match b σ h with
  | .exc C' fs σ1 h1 => if C' = C then (match fs with
      | some fs => if i < σ1.length then dropI i (su fs (σ1.set i none) h1) else .bad
      | none => .bad) else (if PySem.W.exmOne K (.ref C') (.ref C) = some false then .exc C' fs σ1 h1 else .bad)
  | r => r
/-- an attribute of what is caught -/
def eXf (a C dd : Addr) (i : Nat) (f : Str) : E := fun σ h => match σ[i]? with
  | some (some (.xcp a' C' dd' ns xs)) => if a' = a ∧ C' = C ∧ dd' = dd then ofO ((ns.zip xs).lookup f) h else .bad
  | _ => .bad
def eXat (fs : List (Str × D)) (f : Str) : E := fun _ h => ofO (fs.lookup f) h
abbrev W0s : WX := fun _ _ _ _ => False
section
variable {K : PySem.W.Frag} {ρ : Rh} {H : Hp} {W : WX}
theorem RS.setNone {σd : Env} {σ : L2.St} (rs : RS K H ρ σd σ) (i : Nat) (u : Option V) : RS K H ρ (σd.set i none) (σ.set i u) := by
  refine ⟨by simp [rs.len], fun j e he => ?_⟩
  by_cases hj : i = j
  · subst hj
    have hi : i < σd.length := by
      have := (List.getElem?_eq_some_iff.mp he).1
      simpa using this
    rw [List.getElem?_set_self hi] at he
    cases he
  · rw [List.getElem?_set_ne hj] at he
    rw [List.getElem?_set_ne hj]
    exact rs.get j e he
theorem SQ.dropI {i : Nat} {r : SR} {E : Ends} (q : SQ K W ρ H (dropI i r) E) : SQ K W0s ρ H r ⟨fun σ' H' => E.nx (σ'.set i none) H', E.rt, fun σ' H' => E.bk (σ'.set i none) H', fun σ' H' => E.ct (σ'.set i none) H'⟩ := by
  cases r with
  | nx σ h => exact fun ρ' σ H' l rh rs => q ρ' _ H' l rh (rs.setNone i none)
  | brk σ h => exact fun ρ' σ H' l rh rs => q ρ' _ H' l rh (rs.setNone i none)
  | ct σ h => exact fun ρ' σ H' l rh rs => q ρ' _ H' l rh (rs.setNone i none)
  | ret d h => exact fun ρ' v H' l rh rv => q ρ' v H' l rh rv
  | exc C fs σ h => exact q.elim
  | bad => exact q.elim
theorem RKs.splitS : ∀ {kvs : List (Str × D)} {vs : List (Str × V)}, RKs K H ρ kvs vs → vs = (kvs.map (·.1)).zip (vs.map (·.2)) ∧ RVs K H ρ (kvs.map (·.2)) (vs.map (·.2))
  | [], _, q => by rw [show _ = [] from q]; exact ⟨rfl, rfl⟩
  | (k, d) :: r, _, ⟨v, t, e, q, qs⟩ => by
    subst e
    obtain ⟨h1, h2⟩ := RKs.splitS qs
    refine ⟨?_, v, _, rfl, q, h2⟩
    rw [List.map_cons, List.map_cons, List.zip_cons_cons, ← h1]
theorem zip_lookup : ∀ {ns : List Str} {xs : List D} {vs : List V} {f : Str} {d : D}, RVs K H ρ xs vs → (ns.zip xs).lookup f = some d → ∃ v, (ns.zip vs).lookup f = some v ∧ RV K H ρ d v
  | [], _, _, _, _, _, e => by simp at e
  | _ :: _, [], _, _, _, _, e => by simp at e
  | n :: ns, x :: xs, _, f, d, ⟨v, t, e1, q, qs⟩, e => by
    subst e1
    rw [List.zip_cons_cons, List.lookup] at e
    rw [List.zip_cons_cons, List.lookup]
    split at e
    · cases e
      exact ⟨v, rfl, q⟩
    · exact zip_lookup qs e
end
section
variable {X : Cx} {W : WX}
theorem ce_xf {a C dd : Addr} {oe : Obj} {pn : List (Addr × Obj)} {n f : Str} {i : Nat} {p pos : Pos} (T : XfC X.K C) (hno : PySem.W.findIn X.K (.ref C) f = some none) (hz : Zc (.ref C) (some dd) oe) (hf : ∃ vs, oe.data = .fields vs)
    (hN : X.N[i]? = some n := by rfl) (hv : Vis X.env.scope n := by first | exact Or.inl rfl | exact Or.inr (Or.inl rfl) | exact Or.inr (Or.inr rfl)) (hdb : (n == ("__debug__" : Str)) = false := by decide)
    (hcd : (n == ("__classdict__" : Str)) = false := by decide) (hb : attributeBase (.Name n p) f X.env (eval (.Name n p) X.env) = eval (.Name n p) X.env := by rfl) :
    CE (X.suite a ((a, oe) :: pn)) W (.Attribute (.Name n p) f pos) (eXf a C dd i f) :=
  (pe_xf T hno hz hf (pe_var (X := X.suite a ((a, oe) :: pn)) hN hv hdb hcd) hb).imp fun σ H Q ⟨ρ, σd, h, rh, rs, q⟩ => by
    unfold eXf at q
    split at q
    · next a' C' dd' ns xs hi =>
      split at q
      · next hc =>
        obtain ⟨rfl, rfl, rfl⟩ := hc
        obtain ⟨v, e1, rfl, vs, hd, hn, hl, rv⟩ := rs.get i _ hi
        cases e2 : (ns.zip xs).lookup f with
        | none => rw [e2] at q; exact q.elim
        | some d =>
          rw [e2] at q
          obtain ⟨u, e3, ru⟩ := zip_lookup rv e2
          exact ⟨_, e1, rfl, rfl, dd', _, u, rfl, hd, e3, q ρ u H .refl rh ru⟩
      · exact q.elim
    · exact q.elim
theorem cs_try {x n : Str} {C : Addr} {i : Nat} {body suite : List Stmt} {b₀ : Stmt} {np pos pos' : Pos} {mb : S} {mS : Addr → Addr → S} {su : List (Str × D) → S} (hs : X.stack = X.env :: X.outer) (hf : X.env.frame = some X.env.locals) (hN : X.N.Nodup) (hi : X.N[i]? = some n) (hln : X.env.kindOf n = some .local) (hg : Gl X x) (hm : X.mg x = some (.ref C)) (hE : PySem.W.exmOne X.K (.ref C) (.ref C) = some true) (tk : Takes X W)
    (hb : ∀ (W : WX) (pn : List (Addr × Obj)) (xe : Value → Shared → Prop), Takes (X.tr pn xe) W → PassesOwn (model X.prog X.w) X.A X.env xe → CSs (X.tr pn xe) W body mb)
    (hsu : ∀ (a dd : Addr) (oe : Obj) (pn : List (Addr × Obj)), Zc (.ref C) (some dd) oe → (∃ vs, oe.data = .fields vs) → CSs (X.suite a ((a, oe) :: pn)) W0s (b₀ :: suite) (mS a dd))
    (hpar : ∀ (a dd : Addr) (fs : List (Str × D)) (σ : Env) (h : Hd), i < σ.length → dropI i (mS a dd (σ.set i (some (.xcp a C dd (fs.map (·.1)) (fs.map (·.2))))) h) = dropI i (su fs (σ.set i none) h))
    (hdb : (x == ("__debug__" : Str)) = false := by decide) :
    CS X W (.Try body [.ExceptHandler (some (.Name x np)) (some n) (b₀ :: suite) pos'] [] [] pos) (sTry X.K C i mb su) := by
  refine (ps_try_as (c := .ref C) (i := i) (tb := fun W => tS X.K W mb) (ts := fun a cls d D σ H => ∃ dd, cls = .ref C ∧ d = some dd ∧ tS X.K W0s (mS a dd) D σ H) (Wout := W) hs hf hN hi hln ⟨hg, hdb, .inl hm⟩ tk hb ?_).imp ?_
  · intro a oe cls d pn hz hfs
    refine ⟨fun pins s σ H D I ⟨dd, e1, e2, q⟩ => ?_⟩
    subst e1
    subst e2
    exact (hsu a dd oe pn hz hfs).run pins s σ H D I q
  · rintro D σ H ⟨ρ, σd, h, rh, rs, q⟩
    refine ⟨ρ, σd, h, rh, rs, ?_⟩
    unfold sTry at q
    cases r : mb σd h with
    | nx σ1 h1 => rw [r] at q; exact q
    | brk σ1 h1 => rw [r] at q; exact q
    | ct σ1 h1 => rw [r] at q; exact q
    | ret d h1 => rw [r] at q; exact q
    | bad => rw [r] at q; exact q
    | exc C' fs σ1 h1 =>
      rw [r] at q
      simp only at q
      intro ρ' σ' H' d l rh' rs' rx
      split at q
      · next hc =>
        subst hc
        cases fs with
        | none => exact q.elim
        | some fs =>
          simp only at q
          split at q
          · next hil =>
            obtain ⟨dd, vs, rfl, hd, hno, rk⟩ := rx
            refine ⟨true, hE, fun _ a ha => ⟨dd, rfl, rfl, ρ', σ1.set i (some (.xcp a C' dd (fs.map (·.1)) (fs.map (·.2)))), h1, rh', rs'.set i ?_, ?_⟩, fun z => by cases z⟩
            · obtain ⟨s1, s2⟩ := RKs.splitS rk
              exact ⟨rfl, vs.map (·.2), by rw [← s1]; exact hd, hno, by simp, s2⟩
            · have q' := SQ.le l q
              rw [← hpar a dd fs σ1 h1 hil] at q'
              exact SQ.dropI q'
          · exact q.elim
      · split at q
        · next hc =>
          exact ⟨false, hc, fun z => (by cases z), fun _ => q ρ' σ' H' d l rh' rs' rx⟩
        · exact q.elim
end
/-! ### the handler, without the address -/
/-- what reads alike -/
def Px {α : Type} (i : Nat) (Xv : Option D) (m m' : Env → Hd → R α) : Prop := ∀ (σ : Env) (h : Hd), i < σ.length → m (σ.set i Xv) h = m' (σ.set i none) h
inductive Rx (i : Nat) (Xv : Option D) : SR → SR → Prop
  | nx (σ : Env) (h : Hd) (hi : i < σ.length) : Rx i Xv (.nx (σ.set i Xv) h) (.nx (σ.set i none) h)
  | brk (σ : Env) (h : Hd) (hi : i < σ.length) : Rx i Xv (.brk (σ.set i Xv) h) (.brk (σ.set i none) h)
  | ct (σ : Env) (h : Hd) (hi : i < σ.length) : Rx i Xv (.ct (σ.set i Xv) h) (.ct (σ.set i none) h)
  | ret (d : D) (h : Hd) : Rx i Xv (.ret d h) (.ret d h)
  | exc (C C' : Addr) (fs fs' : Option (List (Str × D))) (σ σ' : Env) (h h' : Hd) : Rx i Xv (.exc C fs σ h) (.exc C' fs' σ' h')
  | bad : Rx i Xv .bad .bad
def Sx (i : Nat) (Xv : Option D) (m m' : S) : Prop := ∀ (σ : Env) (h : Hd), i < σ.length → Rx i Xv (m (σ.set i Xv) h) (m' (σ.set i none) h)
section
variable {i j : Nat} {Xv : Option D} {a a' b b' : E} {as as' : EA} {t t' t2 t2' : ET} {s s' s2 s2' : S}
theorem Sx.drop (q : Sx i Xv s s') : ∀ (σ : Env) (h : Hd), i < σ.length → dropI i (s (σ.set i Xv) h) = dropI i (s' (σ.set i none) h) := fun σ h hi => by
  have z := q σ h hi
  revert z
  generalize s (σ.set i Xv) h = r
  generalize s' (σ.set i none) h = r'
  intro z
  cases z with
  | nx => simp [dropI]
  | brk => simp [dropI]
  | ct => simp [dropI]
  | ret => rfl
  | exc => rfl
  | bad => rfl
theorem px_var (h : i ≠ j) : Px i Xv (eVar j) (eVar j) := fun σ hh hi => by
  unfold eVar
  rw [List.getElem?_set_ne h, List.getElem?_set_ne h]
theorem px_c {d : D} : Px i Xv (eC d) (eC d) := fun σ h hi => rfl
theorem px_xf {a C dd : Addr} {fs : List (Str × D)} {f : Str} : Px i (some (.xcp a C dd (fs.map (·.1)) (fs.map (·.2)))) (eXf a C dd i f) (eXat fs f) := fun σ h hi => by
  unfold eXf eXat
  rw [List.getElem?_set_self hi]
  have e : (fs.map (·.1)).zip (fs.map (·.2)) = fs := by
    clear hi
    induction fs with
    | nil => rfl
    | cons p r ih => rw [List.map_cons, List.map_cons, List.zip_cons_cons, ih]
  simp [e]
theorem px_nil : Px i Xv eNil eNil := fun σ h hi => rfl
theorem px_cons (h1 : Px i Xv a a') (h2 : Px i Xv as as') : Px i Xv (eCons a as) (eCons a' as') := fun σ h hi => by
  unfold eCons
  rw [h1 σ h hi]
  congr 1
  funext x h1
  rw [h2 σ h1 hi]
theorem px_tup (h1 : Px i Xv as as') : Px i Xv (eTup as) (eTup as') := fun σ h hi => by
  unfold eTup
  rw [h1 σ h hi]
theorem px_pn {F : PN} (h1 : Px i Xv as as') : Px i Xv (ePN F as) (ePN F as') := fun σ h hi => by
  unfold ePN
  rw [h1 σ h hi]
theorem px_call {F : Fn} {ds : List D} (h1 : Px i Xv as as') : Px i Xv (eCall F ds as) (eCall F ds as') := fun σ h hi => by
  unfold eCall
  rw [h1 σ h hi]
theorem px_and (h1 : Px i Xv a a') (h2 : Px i Xv b b') : Px i Xv (eAnd a b) (eAnd a' b') := fun σ h hi => by
  unfold eAnd
  rw [h1 σ h hi]
  congr 1
  funext x h1
  rw [h2 σ h1 hi]
theorem px_or (h1 : Px i Xv a a') (h2 : Px i Xv b b') : Px i Xv (eOr a b) (eOr a' b') := fun σ h hi => by
  unfold eOr
  rw [h1 σ h hi]
  congr 1
  funext x h1
  rw [h2 σ h1 hi]
theorem px_not (h1 : Px i Xv a a') : Px i Xv (eNot a) (eNot a') := fun σ h hi => by
  unfold eNot
  rw [h1 σ h hi]
theorem px_val (h1 : Px i Xv a a') : Px i Xv (tVal a) (tVal a') := fun σ h hi => by
  unfold tVal
  rw [h1 σ h hi]
theorem px_if (h1 : Px i Xv t t') (h2 : Px i Xv a a') (h3 : Px i Xv b b') : Px i Xv (eIf t a b) (eIf t' a' b') := fun σ h hi => by
  unfold eIf
  rw [h1 σ h hi]
  congr 1
  funext x h1
  rw [h2 σ h1 hi, h3 σ h1 hi]
theorem sx_set (h : i ≠ j) (h1 : Px i Xv a a') : Sx i Xv (sSet j a) (sSet j a') := fun σ hh hi => by
  unfold sSet
  rw [h1 σ hh hi]
  cases a' (σ.set i none) hh with
  | ok d h1 =>
    simp only [bindS]
    rw [List.set_comm _ _ h, List.set_comm _ _ h]
    exact .nx _ _ (by simpa using hi)
  | exc C fs h1 => exact .exc _ _ _ _ _ _ _ _
  | bad => exact .bad
theorem sx_seq (h1 : Sx i Xv s s') (h2 : Sx i Xv s2 s2') : Sx i Xv (sSeq s s2) (sSeq s' s2') := fun σ h hi => by
  unfold sSeq
  have z := h1 σ h hi
  revert z
  generalize s (σ.set i Xv) h = r
  generalize s' (σ.set i none) h = r'
  intro z
  cases z with
  | nx σ1 h1 hi1 => exact h2 σ1 h1 hi1
  | brk σ1 h1 hi1 => exact .brk _ _ hi1
  | ct σ1 h1 hi1 => exact .ct _ _ hi1
  | ret d h1 => exact .ret _ _
  | exc => exact .exc _ _ _ _ _ _ _ _
  | bad => exact .bad
end
end Mi
/-! Mi21: pop, clear, methods of instances, list(zip(..)), instances by keywords, own operators. -/
namespace Mi
open PySem L2
section
variable {X : Cx} {W : WX} {o e a b : Expr} {es : List Expr} {mo ma mb : E} {ms : EA} {pos apos cpos p0 : Pos} {C f g pr : Addr} {k : Nat} {fd : FuncData} {ps : List Str} {F : Fn} {name : Str} {T id : String}
/-! ### methods of lists without arguments -/
def eBmM0 (F : Hd → D → List D → Option (D × Hd)) (tc : Hd → D → Bool) (o : E) : E := fun σ h => (o σ h).bind fun x h1 => if tc h1 x then (match F h1 x [] with
  | some (d, h3) => .ok d h3
  | none => .bad) else .bad
theorem ce_bmM0 {F : Hd → D → List D → Option (D × Hd)} {tc : Hd → D → Bool} (pa : PySem.PlainAttrs T) (slot : PySem.Slot T name id) (hty : typeOf (.builtin id) = pure (.type "method_descriptor")) (hm : MtR X id (rMM X.K F)) (ht : TcOk X.K T tc) (ho : CE X W o mo)
    (hbase : attributeBase o name X.env (eval o X.env) = eval o X.env := by rfl) (hline : (apos.endLine == cpos.line) = true := by rfl) :
    CE X W (.Call (.Attribute o name apos) [] [] cpos) (eBmM0 F tc mo) := (pe_bm0 pa slot hty hm ho hbase hline).imp fun σ H Q ⟨ρ, σd, h, rh, rs, q⟩ =>
  ⟨ρ, σd, h, rh, rs, TQ.bind q fun ρ1 x H1 a h1 l1 rh1 rv1 q1 => by
    by_cases htc : tc h1 a = true
    · rw [if_pos htc] at q1
      refine ⟨ht ρ1 h1 H1 a x rh1 rv1 htc, ?_⟩
      cases e : F h1 a [] with
      | none => rw [e] at q1; exact q1.elim
      | some p => obtain ⟨d, h3⟩ := p; rw [e] at q1; exact ⟨ρ1, h1, a, [], d, h3, rh1, rv1, rfl, e, q1⟩
    · rw [if_neg htc] at q1
      exact q1.elim⟩
def popM : Hd → D → List D → Option (D × Hd) := fun h a as => match as with
  | [] => (asLm h a).bind fun p => (p.2[p.2.length - 1]?).map fun y => (y, h.set p.1 (.lst p.2.dropLast))
  | _ => none
theorem mt_popM : MtR X "list.pop" (rMM X.K popM) := (show MtR X "list.pop" rPop from mt_pop).imp fun x vs H Q ⟨ρ, h, a, as, d, h', rh, ra, ras, e, q⟩ => by
  unfold popM at e
  split at e
  · cases (show vs = [] from ras)
    cases h1 : asLm h a with
    | none => rw [h1] at e; cases e
    | some p =>
      obtain ⟨n, xs⟩ := p
      rw [h1] at e
      simp only [Option.bind_some] at e
      cases h2 : xs[xs.length - 1]? with
      | none => rw [h2] at e; cases e
      | some y =>
        rw [h2] at e
        cases e
        obtain ⟨p, ws, ep, rfl, hp, rw'⟩ := asLm_of h1 rh ra
        obtain ⟨v, hv, rv⟩ := RVs.get rw' h2
        have rd : RVs X.K H ρ xs.dropLast ws.dropLast := by
          rw [List.dropLast_eq_take, List.dropLast_eq_take, ← RVs.len rw']
          exact RVs.take _ rw'
        obtain ⟨l, r, m⟩ := lst_put rh ep hp rd
        refine ⟨p, ws, v, rfl, rfl, hp, by rw [← RVs.len rw']; exact hv, q ρ v _ l r (RV.mo m _ _ rv)⟩
  · cases e
def clearM : Hd → D → List D → Option (D × Hd) := fun h a as => match as with
  | [] => (asLm h a).map fun p => (.non, h.set p.1 (.lst []))
  | _ => none
theorem mt_clearM : MtR X "list.clear" (rMM X.K clearM) := (show MtR X "list.clear" rClear from mt_clear).imp fun x vs H Q ⟨ρ, h, a, as, d, h', rh, ra, ras, e, q⟩ => by
  unfold clearM at e
  split at e
  · cases (show vs = [] from ras)
    cases h1 : asLm h a with
    | none => rw [h1] at e; cases e
    | some p =>
      obtain ⟨n, xs⟩ := p
      rw [h1] at e
      cases e
      obtain ⟨p, ws, ep, rfl, hp, rw'⟩ := asLm_of h1 rh ra
      obtain ⟨l, r, m⟩ := lst_put (ys := []) (us := []) rh ep hp rfl
      exact ⟨p, ws, rfl, rfl, hp, q ρ .non _ l r rfl⟩
  · cases e
/-! ### methods of instances -/
theorem ce_methG {m : Str} {pl : Sem Bool} (he : CE X W o mo) (c : Cls X.K C) (hm : Meth X.K C m f) (G : FnG X.prog X.w X.K X.mg X.base k f ps F) (hr : Room k X.A) (tk : Takes X W) (ha : CA X W (e :: es) ms)
    (hst : starEach (e :: es) X.env = (false, eval e X.env) :: starEach es X.env := by rfl) (hpl : (backTo pos (starEach es X.env)).any (·.1) = false := by rfl)
    (ht : eval (.Call (.Attribute o m apos) (e :: es) [] pos) X.env = (do
      let ov ← eval o X.env
      standAt apos.atName
      let (f, first) ← holding [ov] (getMethod ov m pl)
      callWith pos f first (backTo pos (starEach (e :: es) X.env)) (backToKw pos (keywordEach [] X.env))) := by rfl) :
    CE X W (.Call (.Attribute o m apos) (e :: es) [] pos) (eMeth C m F [] mo ms) := by
  obtain ⟨fd, g, b⟩ := G.ex
  exact ce_meth (pl := pl) he c hm g hr b .nil (fun _ _ => rfl) tk ha hst hpl ht
theorem ce_methG0 {m : Str} {pl : Sem Bool} (he : CE X W o mo) (c : Cls X.K C) (hm : Meth X.K C m f) (G : FnG X.prog X.w X.K X.mg X.base k f ps F) (hr : Room k X.A) (tk : Takes X W)
    (ht : eval (.Call (.Attribute o m apos) [] [] pos) X.env = (do
      let ov ← eval o X.env
      standAt apos.atName
      let (f, first) ← holding [ov] (getMethod ov m pl)
      callWith pos f first (backTo pos (starEach [] X.env)) (backToKw pos (keywordEach [] X.env))) := by rfl) :
    CE X W (.Call (.Attribute o m apos) [] [] pos) (eMeth C m F [] mo eNil) := by
  obtain ⟨fd, g, b⟩ := G.ex
  exact ce_meth0 (pl := pl) he c hm g hr b .nil (fun _ _ => rfl) tk ht
end
/-! ### list(zip(a, b)), both of one length -/
section
variable {K : PySem.W.Frag} {ρ : Rh} {h : Hd} {H H' : Hp}
theorem Le.grow (kk : ∀ c o, H c = some o → H' c = some o) : Le ρ ρ H H' := ⟨⟨[], by simp⟩, fun b u _ e => kk b u e, fun b _ _ e => kk b _ e⟩
theorem RH.grow (r : RH K ρ h H) (kk : ∀ c o, H c = some o → H' c = some o) : RH K ρ h H' :=
  ⟨r.len, r.nd, fun a ha => ⟨by
    cases q : H a with
    | none => exact absurd q (r.zs a ha).1
    | some o => rw [kk a o q]; simp, (r.zs a ha).2⟩, fun n a u e1 e2 => (r.obj n a u e1 e2).mo ((Le.grow kk).mo r) (by
    cases q : H a with
    | none => exact absurd q (r.ne (List.mem_of_getElem? e1))
    | some o => rw [kk a o q])⟩
end
def zipD (xs ys : List D) : List D := List.zipWith (fun x y => .tup [x, y]) xs ys
def zipL (h : Hd) (as : List D) : Option (List D) := match as with
  | [.tup xs, .tup ys] => if ys.length = xs.length then some (zipD xs ys) else none
  | [x, y] => (asL h x).bind fun xs => (asL h y).bind fun ys => if ys.length = xs.length then some (zipD xs ys) else none
  | _ => none
def lZip (a : EA) : EL := lPN zipL a
theorem zip_rvs {K : PySem.W.Frag} {ρ : Rh} {H H' : Hp} {h : Hd} (rh : RH K ρ h H) (l : Le ρ ρ H H') : ∀ {xs ys : List D} {vs us : List V} {ts : List Addr}, RVs K H ρ xs vs → RVs K H ρ ys us → ys.length = xs.length → ts.length = xs.length →
    (∀ (j : Nat) (t : Addr) (x y : V), ts[j]? = some t → vs[j]? = some x → us[j]? = some y → H' t = some (.tup [x, y])) → RVs K H' ρ (zipD xs ys) (ts.map V.ref)
  | [], _, _, _, [], _, _, _, _, _ => rfl
  | [], _, _, _, _ :: _, _, _, _, l, _ => by cases l
  | _ :: _, [], _, _, _, _, _, l, _, _ => by cases l
  | _ :: _, _ :: _, _, _, [], _, _, _, l, _ => by cases l
  | x :: xs, y :: ys, _, _, t :: ts, ⟨v, vs, rfl, rv, rvs⟩, ⟨u, us, rfl, ru, rus⟩, l1, l2, hh => by
    refine ⟨.ref t, ts.map V.ref, rfl, ⟨t, [v, u], rfl, .inl (.inl (hh 0 t v u rfl rfl rfl)), v, [u], rfl, rv.le l rh, u, [], rfl, ru.le l rh, rfl⟩, ?_⟩
    exact zip_rvs rh l rvs rus (by simpa using l1) (by simpa using l2) fun j t x y e1 e2 e3 => hh (j + 1) t x y (by simpa using e1) (by simpa using e2) (by simpa using e3)
section
variable {X : Cx} {W : WX} {e e2 : Expr} {ms : EA} {p p2 q pos : Pos}
theorem cl_zip (hc : X.calm = true) (hg : Gl X "list") (hm : X.mg "list" = none) (hg2 : Gl X "zip") (hm2 : X.mg "zip" = none) (ha : CA X W [e, e2] ms)
    (hs : starEach [.Call (.Name "zip" p2) [e, e2] [] q] X.env = (false, eval (.Call (.Name "zip" p2) [e, e2] [] q) X.env) :: starEach [] X.env := by rfl)
    (hs2 : starEach [e, e2] X.env = (false, eval e X.env) :: starEach [e2] X.env := by rfl) (hpl : (backTo q (starEach [e2] X.env)).any (·.1) = false := by rfl) :
    CL X W (.Call (.Name "list" p) [.Call (.Name "zip" p2) [e, e2] [] q] [] pos) (lZip ms) := (Zl.pe_listZip hc hg hm hg2 hm2 ha hs hs2 hpl).imp fun σ H Q ⟨ρ, σd, h, rh, rs, qq⟩ =>
  ⟨ρ, σd, h, rh, rs, by
    unfold lZip lPN at qq
    refine LQ.bind qq fun ρ1 vs H1 as h1 l1 rh1 rv1 q1 => ?_
    have go : ∀ (x y : V) (xs ys : List D) (ws us : List V) (a b : Addr), vs = [.ref a, .ref b] → ((SqL X.K H1 a ws ∧ SqL X.K H1 b us) ∨ (SqT X.K H1 a ws ∧ SqT X.K H1 b us)) → RVs X.K H1 ρ1 xs ws → RVs X.K H1 ρ1 ys us → ys.length = xs.length → LQ X.K (fun c d H' => W c d σ H') ρ1 H1 (.ok (zipD xs ys) h1) Q →
        ∃ (a b : Addr) (xs ys : List V), vs = [.ref a, .ref b] ∧ ((SqL X.K H1 a xs ∧ SqL X.K H1 b ys) ∨ (SqT X.K H1 a xs ∧ SqT X.K H1 b ys)) ∧ ys.length = xs.length ∧
          ∀ (H' : Hp) (l : Addr) (ts : List Addr), (∀ c o, H1 c = some o → H' c = some o) → H1 l = none → (∀ t ∈ ts, H1 t = none) → l ∉ ts → ts.length = xs.length → H' l = some (.lst (ts.map V.ref)) →
            (∀ (j : Nat) (t : Addr) (x y : V), ts[j]? = some t → xs[j]? = some x → ys[j]? = some y → H' t = some (.tup [x, y])) → Q (.ref l) H' := by
      intro _ _ xs ys ws us a b ev hq rx ry hl q2
      refine ⟨a, b, ws, us, ev, hq, by rw [← RVs.len rx, ← RVs.len ry]; exact hl, fun H' l ts k1 k2 k3 k4 k5 k6 k7 => ?_⟩
      have kk : ∀ c o, H1 c = some o → (fun c => if c = l then none else H' c) c = some o := fun c o z => by
        have : c ≠ l := fun w => by rw [w, k2] at z; cases z
        simp only [this, if_false]
        exact k1 c o z
      have e0 : upd (fun c => if c = l then none else H' c) l (.lst (ts.map V.ref)) = H' := by
        funext c
        by_cases w : c = l
        · rw [w, upd_same, k6]
        · rw [upd_ne w]
          simp only [w, if_false]
      have := q2 ρ1 l (ts.map V.ref) (fun c => if c = l then none else H' c) (Le.grow kk) (rh1.grow kk) (zip_rvs rh1 (Le.grow kk) rx ry hl (by rw [k5, ← RVs.len rx]) fun j t x y e1 e2 e3 => by
        have tl : t ≠ l := fun w => k4 (w ▸ List.mem_of_getElem? e1)
        simp only [tl, if_false]
        exact k7 j t x y e1 e2 e3) (by simp)
      rw [e0] at this
      exact this
    cases hz : zipL h1 as with
    | none => rw [hz] at q1; exact q1.elim
    | some zs =>
      rw [hz] at q1
      unfold zipL at hz
      split at hz
      · next xs ys =>
        split at hz
        · next hl =>
          cases hz
          obtain ⟨v, r, rfl, ⟨a, ws, rfl, t1, r1⟩, u, r', rfl, ⟨b, us, rfl, t2, r2⟩, rfl⟩ := rv1
          exact go .non .non xs ys ws us a b rfl (.inr ⟨t1, t2⟩) r1 r2 hl q1
        · cases hz
      · next x y _ =>
        cases e1 : asL h1 x with
        | none => rw [e1] at hz; cases hz
        | some xs =>
          rw [e1] at hz
          simp only [Option.bind_some] at hz
          cases e2 : asL h1 y with
          | none => rw [e2] at hz; cases hz
          | some ys =>
            rw [e2] at hz
            simp only [Option.bind_some] at hz
            split at hz
            · next hl =>
              cases hz
              obtain ⟨v, r, rfl, rx, u, r', rfl, ry, rfl⟩ := rv1
              obtain ⟨a, ws, rfl, t1, r1⟩ := asL_of e1 rh1 rx
              obtain ⟨b, us, rfl, t2, r2⟩ := asL_of e2 rh1 ry
              exact go .non .non xs ys ws us a b rfl (.inl ⟨t1, t2⟩) r1 r2 hl q1
            · cases hz
      · cases hz⟩
end
end Mi
/-! Mi22: instances by keywords, own operators. -/
namespace Mi
open PySem L2
/-! ### keywords -/
def pick {α : Type} (ix : List Nat) (ws : List α) : List α := ix.filterMap fun i => ws[i]?
theorem vals_get : ∀ {vs : List V} {us : List Value} (i : Nat), Vals vs us → (vs[i]? = none ∧ us[i]? = none) ∨ ∃ v u, vs[i]? = some v ∧ us[i]? = some u ∧ RelV v u
  | _, _, i, .nil => .inl (by simp)
  | _, _, 0, .cons r t => .inr ⟨_, _, rfl, rfl, r⟩
  | _, _, i + 1, .cons r t => by simpa using vals_get i t
theorem vals_pick {vs : List V} {us : List Value} (r : Vals vs us) : ∀ ix : List Nat, Vals (pick ix vs) (pick ix us)
  | [] => .nil
  | i :: ix => by
    unfold pick
    rw [List.filterMap_cons, List.filterMap_cons]
    rcases vals_get i r with ⟨e1, e2⟩ | ⟨v, u, e1, e2, rr⟩
    · rw [e1, e2]; exact vals_pick r ix
    · rw [e1, e2]; exact .cons rr (vals_pick r ix)
theorem rvs_pick {K : PySem.W.Frag} {H : Hp} {ρ : Rh} {ds : List D} {vs : List V} (r : RVs K H ρ ds vs) : ∀ ix : List Nat, RVs K H ρ (pick ix ds) (pick ix vs)
  | [] => rfl
  | i :: ix => by
    unfold pick
    rw [List.filterMap_cons, List.filterMap_cons]
    cases e : ds[i]? with
    | none =>
      have : vs[i]? = none := by
        rw [List.getElem?_eq_none_iff] at e ⊢
        rw [← RVs.len r]
        exact e
      rw [this]
      exact rvs_pick r ix
    | some d =>
      obtain ⟨v, e1, rv⟩ := RVs.get r e
      rw [e1]
      exact ⟨v, _, rfl, rv, rvs_pick r ix⟩
/-- what is bound where arguments are given by names: n by position, the others by the names ks; ix: the places of the names among the parameters behind -/
structure KwG (K : PySem.W.Frag) (f : Addr) (ps : List Str) (n : Nat) (ks : List Str) (ix : List Nat) : Prop where
  ex : ∃ (oc : Value) (od : Option Addr) (fd : FuncData) (osl : Array (Option Value)), K.lookup f = some ⟨oc, od, .func fd, osl⟩ ∧ KBn K fd ps n ks (fun us ws => us ++ pick ix ws) (fun vs zs => vs ++ pick ix zs)
theorem kwG_mkD {K : PySem.W.Frag} {x qual : Str} {st : Stmt} {f : Addr} {dvs : List V} {ps ks : List Str} {n : Nat} {ix : List Nat} (h : FunG K x qual st dvs f) (hd : dvs ≠ [])
    (hbd : ∀ (T : Addr) (kV doc pm : Value) (an : Option Addr) (cdv ct : Value) (us its ws : List Value), us.length = n → its.length = dvs.length → ws.length = ks.length →
      ∃ k, bindArgs (PySem.W.fnOf x qual (defArgs st) (defBody st) (defScope st) (.ref T) kV doc pm an cdv ct) ⟨us, ks.zip ws⟩ = seqItems? (.ref T) >>= k ∧ k (some its.toArray) = pure (ps.zip (us ++ pick ix ws))) : KwG K f ps n ks ix := by
  obtain ⟨oc, od, dV, kV, doc, pm, an, cdv, ct, osl, lk, hcd, dd⟩ := h.ex
  rcases dd with ⟨z, _⟩ | ⟨_, T, o, its, m, rfl, lT, oT, rT⟩
  · exact absurd z hd
  · refine ⟨oc, od, _, osl, lk, fun s us ws X l1 l2 => ?_, fun r1 r2 => r1.append (vals_pick r2 ix)⟩
    obtain ⟨k', e1, e2⟩ := hbd T kV doc pm an cdv ct us its ws l1 rT.length.symm l2
    refine BindsTo.of_looks fun M => ?_
    rw [e1]
    exact looks_items X lT oT (.of_pure e2)
theorem kwG_mk {K : PySem.W.Frag} {x qual : Str} {st : Stmt} {f : Addr} {ps ks : List Str} {n : Nat} {ix : List Nat} (h : FunG K x qual st [] f)
    (hbd : ∀ (kV doc pm : Value) (an : Option Addr) (cdv ct : Value) (us ws : List Value), us.length = n → ws.length = ks.length →
      bindArgs (PySem.W.fnOf x qual (defArgs st) (defBody st) (defScope st) .none kV doc pm an cdv ct) ⟨us, ks.zip ws⟩ = pure (ps.zip (us ++ pick ix ws))) : KwG K f ps n ks ix := by
  obtain ⟨oc, od, dV, kV, doc, pm, an, cdv, ct, osl, lk, hcd, dd⟩ := h.ex
  rcases dd with ⟨_, rfl⟩ | ⟨z, _⟩
  · exact ⟨oc, od, _, osl, lk, fun s us ws X l1 l2 => .of_eq (hbd kV doc pm an cdv ct us ws l1 l2), fun r1 r2 => r1.append (vals_pick r2 ix)⟩
  · exact absurd rfl z
section
variable {X : Cx} {W : WX} {k n : Nat} {f C : Addr} {ps ks : List Str} {ix : List Nat} {F : Fn} {x : Str} {p pos : Pos} {e : Expr} {es : List Expr} {kws : List Keyword} {ms mk : EA}
def eMakeK (C : Addr) (F : Fn) (n m : Nat) (ix : List Nat) (a kw : EA) : E := fun σ h => (a σ h).bind fun ds h1 => (kw σ h1).bind fun zs h2 => if ds.length = n ∧ zs.length = m then (F (.ref h2.length :: (ds ++ pick ix zs)) (h2 ++ [.ins C []])).bind fun d h3 => (match d with
  | .non => .ok (.ref h2.length) h3
  | _ => .bad) else .bad
theorem run_makeKS {E : L2.St → XK} {sp : Sp} {CX : CXT} {fd : FuncData} {pins : List (Addr × Obj)} {σ : L2.St} {H : Hp} {s : Shared} {Q : VK} {us ws : List Value} {vs zs : List V} (M : Mk X.K C f) (F : FnOk X.prog X.w X.K X.mg X.base CX k f fd ps sp) (hr : Room (k + 1) X.A)
    (hb : KBn X.K fd ps (n + 1) ks (fun us ws => us ++ pick ix ws) (fun vs zs => vs ++ pick ix zs)) (hx : PassesAt CX X σ (E σ)) (I : Inv X pins σ H s) (r : Vals vs us) (rz : Vals zs ws) (l1 : vs.length = n) (l2 : zs.length = ks.length)
    (h : ∀ x dx, H x = none → H dx = none → dx ≠ x → sp (.ref x :: (vs ++ pick ix zs)) (upd (upd H dx (.own x)) x (.ins C dx [])) (fun v H2 => v = .non ∧ Q (.ref x) H2) (E σ)) :
    wpAny (model X.prog X.w) X.A (call (.ref C) us (ks.zip ws)) (EP X pins σ Q) X.xe s := by
  have hq := h (s.heap.objs.size + 1) s.heap.objs.size (I.hok.fresh (Nat.le_succ _)) (I.hok.fresh (Nat.le_refl _)) (Nat.ne_of_lt (Nat.lt_succ_self _))
  have I2 := Inv.made (C := C) I
  have r1 : Vals (V.ref (s.heap.objs.size + 1) :: vs) (Value.ref (s.heap.objs.size + 1) :: us) := .cons rfl r
  have r2 := hb.rel r1 rz
  have e1 : (Value.ref (s.heap.objs.size + 1) :: us).length = n + 1 := r1.length.symm.trans (congrArg Nat.succ l1)
  have e2 : ws.length = ks.length := rz.length.symm.trans l2
  refine wpAny_call (make_map (f := f) I.kIn M.makes M.init (beq_iff_eq.mp M.fn) (codeAny_mono (F.run _ X.stack _ _ ⟨Value.ref (s.heap.objs.size + 1) :: us, ks.zip ws⟩ (Value.ref (s.heap.objs.size + 1) :: us ++ pick ix ws) _ _ (E σ) (hr.make C us (ks.zip ws))
    (I2.env0.make C us (ks.zip ws)) (hb.to _ (Value.ref (s.heap.objs.size + 1) :: us) ws I2.kIn e1 e2) r2 hq) fun r s' hq' => ?_))
  cases r with
  | error e => exact hx pins _ _ e s' I2 hq'
  | ok fl =>
    cases fl with
    | ret u =>
      obtain ⟨v, H', I3, rv, ev, q3⟩ := I2.after hq'
      subst ev
      exact ⟨rv, ⟨V.ref (s.heap.objs.size + 1), H', I3, rfl, q3⟩⟩
    | next => exact False.elim hq'
    | brk => exact False.elim hq'
    | cont => exact False.elim hq'
/-- C(k = v, ..) -/
theorem ce_makeK0 (M : Mk X.K C f) (G : FnG X.prog X.w X.K X.mg X.base k f ps F) (B : KwG X.K f ps 1 ks ix) (hr : Room (k + 1) X.A) (hg : Gl X x) (hm : X.mg x = some (.ref C)) (tk : Takes X W) (hkw : CK X W kws mk)
    (hall : (backToKw pos (keywordEach kws X.env)).all (·.1.isSome) = true := by rfl) (hks : (backToKw pos (keywordEach kws X.env)).filterMap (·.1) = ks := by rfl) (hdb : (x == ("__debug__" : Str)) = false := by decide)
    (hpl : ((backTo pos (starEach [] X.env)).any (·.1) || (backToKw pos (keywordEach kws X.env)).any (·.1.isNone)) = false := by rfl) :
    CE X W (.Call (.Name x p) [] kws pos) (eMakeK C F 0 ks.length ix eNil mk) := ⟨fun pins s σ H Q I ⟨ρ, σd, h, rh, rs, q⟩ => by
  obtain ⟨oc, od, fd, osl, lk, B⟩ := B.ex
  refine wpAny_Call_Name_kw (ld_glob I hg hm ?_ hdb)
  refine PySem.W.callWith_KW0 (h₀ := X.base) I.ok.mod.kin M.kp hall ?_ hpl
  have q' : TQ (RV X.K) X.K (fun c d H' => W c d σ H') ρ H ((mk σd h).bind fun zs h2 => if ([] : List D).length = 0 ∧ zs.length = ks.length then (F (.ref h2.length :: ([] ++ pick ix zs)) (h2 ++ [.ins C []])).bind fun d h3 => (match d with
      | .non => .ok (.ref h2.length) h3
      | _ => .bad) else .bad) Q := q
  refine thn (hkw.run pos pins s σ H (fun zs H1 => zs.length = ks.length ∧ ∀ x dx, H1 x = none → H1 dx = none → dx ≠ x → spD X.K F (.ref x :: ([] ++ pick ix zs)) (upd (upd H1 dx (.own x)) x (.ins C dx [])) (fun v H2 => v = .non ∧ Q (.ref x) H2) (WE W σ)) I
    ⟨ρ, σd, h, rh, rs, TQ.bind q' fun ρ1 xs H1 as h1 l1 rh1 rv1 q1 => ?_⟩) fun ws s2 ⟨zs, H2, I2, rz, l2, q2⟩ => ⟨I2.kIn, ?_⟩
  · split at q1
    · next hl => exact ⟨by rw [← RVs.len rv1]; exact hl.2, mk_sp rh1 (rvs_pick rv1 ix) q1⟩
    · exact q1.elim
  · rw [hks]
    exact run_makeKS (E := WE W) (us := []) (vs := []) M (G.all _ _ _ _ lk) hr B (passAt tk σ) I2 .nil rz rfl l2 q2⟩
end
/-! ### own operators -/
theorem binop_T {prog : Program} {w : World} {A : Around} {E : Value → Shared → Prop} {s : Shared} {K : PySem.W.Frag} {x C L f : Addr} {h₀ : Heap} {m : Str → Option Value} {ox : Obj} {od : Option Obj} {op : Operator} {b tb : Value} {Q : Value → Shared → Prop} (F : PyProof.Rows.Fr h₀ L s.heap m) (X₀ : K.In h₀) (I : PySem.W.InstAt s.heap x ox C od)
    (hb : PySem.W.Looks (model prog w) s.heap (typeOf b) tb) (hne : (Value.ref C == tb) = false) (hfr : fillsNumberSlot tb op.info.2 = pure false) (hc : PySem.W.selfFirst K C = true)
    (hs : PySem.W.findIn K (.ref C) (PySem.dunder op.info.2) = some (some (.ref f))) (hf : PySem.W.isFn K (.ref f) = true)
    (h : wpAny (model prog w) A (call (.ref f) [.ref x, b]) (PySem.W.CmpBack Q) E s) : wpAny (model prog w) A (binaryOp op (.ref x) b) Q E s := by
  have X := X₀.keeps F.keep
  obtain ⟨cd, hcd, hm⟩ := PySem.W.any_some hc
  obtain ⟨rest, hm⟩ : ∃ rest, cd.mro = .ref C :: rest := by
    cases q : cd.mro with
    | nil => rw [q] at hm; cases hm
    | cons a r => rw [q] at hm; exact ⟨r, by rw [List.head?_cons] at hm; cases (beq_iff_eq.mp hm); rfl⟩
  unfold binaryOp
  refine wpAny_holding (wpAny_bind ?_)
  unfold binaryOp1
  refine wpAny_bind (I.type.here (wpAny_bind (hb.here (wpAny_bind ((PySem.W.fills_K X hcd hm hs).here ?_)))))
  simp only [hne, Bool.false_eq_true, if_false]
  refine wpAny_bind (wpAny_of_eq hfr ?_)
  simp only [Bool.and_false, Bool.false_eq_true, if_false, Bool.false_and]
  refine wpAny_bind (wpAny_pure ?_)
  simp only [Bool.false_eq_true, if_false]
  refine wpAny_bind (m := tryMethod (.ref x) _ b) ?_
  unfold tryMethod
  refine wpAny_bind (PySem.W.special_fn X I hs (beq_iff_eq.mp hf) (wpAny_mono h (fun v s' hv => ?_) fun _ _ e => e))
  cases v <;> first | exact hv.elim | exact wpAny_pure (wpAny_pure (wpAny_pure hv))
section
variable {X : Cx} {W : WX} {k : Nat} {f C : Addr} {ps : List Str} {F : Fn} {pos : Pos} {a b : Expr} {ma mb : E}
/-- a op b, a of the class C -/
def eOwnB (cs : List Addr) (C : Addr) (F : Fn) (rt : Value → Bool) (G : P2) (a b : E) : E := fun σ h => (a σ h).bind fun x h1 => (b σ h1).bind fun y h2 => match x with
  | .ref n => match h2[n]? with
    | some (.ins C' _) => if C' = C then (match tyD cs h2 y with
      | some tb => if tb = .ref C ∨ rt tb = true then F [.ref n, y] h2 else .bad
      | none => .bad) else .bad
    | _ => ofO (G h2 (.ref n) y) h2
  | x => ofO (G h2 x y) h2
theorem ce_ownBin {op : Operator} {cs : List Addr} {rt : Value → Bool} {G : P2} (hc : ∀ C ∈ cs, ClsI X.K C) (hsf : PySem.W.selfFirst X.K C = true) (hs : PySem.W.findIn X.K (.ref C) (PySem.dunder op.info.2) = some (some (.ref f))) (hf : PySem.W.isFn X.K (.ref f) = true)
    (hrt : ∀ tb, rt tb = true → (Value.ref C == tb) = false ∧ fillsNumberSlot tb op.info.2 = pure false)
    (FR : FnG X.prog X.w X.K X.mg X.base k f ps F) (hr : Room k X.A) (tk : Takes X W) (hG : OpR X (binaryOp op) (rP2 X.K G)) (ha : CE X W a ma) (hb : CE X W b mb) : CE X W (.BinOp a op b pos) (eOwnB cs C F rt G ma mb) := ⟨fun pins s σ H Q I ⟨ρ, σd, h, rh, rs, q⟩ => by
  refine wpAny_BinOp (binT ha hb I (R := fun x y H2 => (∃ a dx fs tb, x = .ref a ∧ H2 a = some (.ins C dx fs) ∧ TyX X.K H2 y tb ∧ (tb = .ref C ∨ rt tb = true) ∧ spD X.K F [x, y] H2 Q (WE W σ)) ∨ rP2 X.K G x y H2 Q)
    ⟨ρ, σd, h, rh, rs, TQ.bind q fun ρ1 x H1 d h1 l1 rh1 rv1 q1 => ⟨ρ1, σd, h1, rh1, rs.le l1 rh, TQ.bind q1 fun ρ2 y H2 b h2 l2 rh2 rv2 q2 => ?_⟩⟩ fun v u s2 x y H2 I2 rx ry hR => ?_)
  · have rv := rv1.le l2 rh1
    have plain : TQ (RV X.K) X.K (fun c d H' => W c d σ H') ρ2 H2 (ofO (G h2 d b) h2) Q → rP2 X.K G x y H2 Q := fun q => by
      cases e : G h2 d b with
      | none => rw [e] at q; exact q.elim
      | some z => rw [e] at q; exact ⟨ρ2, h2, d, b, z, rh2, rv, rv2, e, PQ.of q⟩
    split at q2
    · next n =>
      split at q2
      · next C' fs hn =>
        split at q2
        · next hC =>
          subst hC
          split at q2
          · next tb ht =>
            split at q2
            · next ho =>
              obtain ⟨p, ep, rfl⟩ := rv
              obtain ⟨dx, vs, e1, e2⟩ := rh2.obj _ _ _ ep hn
              exact .inl ⟨p, dx, vs, tb, rfl, e1, tyD_of hc ht rh2 rv2, ho, ρ2, [.ref n, b], h2, rh2, ⟨.ref p, [y], rfl, ⟨p, ep, rfl⟩, .one rv2⟩, q2⟩
            · exact q2.elim
          · exact q2.elim
        · exact q2.elim
      · exact .inr (plain q2)
    · exact .inr (plain q2)
  · rcases hR with ⟨a, dx, fs, tb, rfl, ea, ty, ho, q⟩ | h
    · cases (show v = Value.ref a from rx)
      obtain ⟨mA, O, _⟩ := ins_get I2.hok ea
      obtain ⟨od, J, _⟩ := O.look
      obtain ⟨m, hF⟩ := I2.fr
      have fin : wpAny (model X.prog X.w) X.A (call (.ref f) [.ref a, u]) (PySem.W.CmpBack (EP X pins σ Q)) X.xe s2 := by
        refine wpAny_mono (wpAny_call (run_fnRS (E := WE W) (us := [.ref a, u]) (vs := [.ref a, y]) FR.r hr (passAt tk σ) I2 (.cons rfl (.cons ry .nil)) q)) (fun w s' z => ?_) fun _ _ x => x
        obtain ⟨z', H', I', rz, qz⟩ := z
        exact SlX.cmpback rz ⟨z', H', I', rz, qz⟩
      rcases ho with rfl | ho
      · exact PySem.W.binop_K hF I2.ok.mod.kin J (ty_looks I2 ry ty) hsf hs hf fin
      · obtain ⟨h1, h2⟩ := hrt tb ho
        exact binop_T hF I2.ok.mod.kin J (ty_looks I2 ry ty) h1 h2 hsf hs hf fin
    · exact hG pins s2 σ H2 x y v u Q I2 rx ry h⟩
def rtTup (v : Value) : Bool := v == .type "tuple"
theorem rt_add {C : Addr} (tb : Value) (h : rtTup tb = true) : (Value.ref C == tb) = false ∧ fillsNumberSlot tb Operator.Add.info.2 = pure false := by
  cases (beq_iff_eq.mp h)
  exact ⟨by simp, noFill_tuple_add⟩
end
end Mi
/-! Mi23: defs called where an exception is handled; nothing is raised in them. -/
namespace Mi
open PySem L2 PySem.Spec PyProof.Rows PySem.Calls
theorem u64H {k : Nat} {A : Around} (r : L2H.RoomH k A) : A.units + 64 < cLine := by have := r.un; omega
theorem u65H {k : Nat} {A : Around} (r : L2H.RoomH k A) : A.units + 65 < cLine := by have := r.un; omega
theorem u1H {k : Nat} {A : Around} (r : L2H.RoomH k A) : A.units + 1 < cLine := by have := r.un; omega
section
variable {P : Program} {w : World} {K : PySem.W.Frag} {mg : Str → Option Value} {base : Heap}
/-- a def that keeps to F there -/
structure FnC (P : Program) (w : World) (K : PySem.W.Frag) (mg : Str → Option Value) (base : Heap) (k : Nat) (f : Addr) (ps : List Str) (F : Fn) : Prop where
  kp : PySem.W.keepIn K (.ref f) = true
  run : ∀ (A : Around) (outer : List PySem.Env) (s : Shared) (H : Hp) (us : List Value) (vs : List V) (Q : VK) (p : Addr × Obj), L2H.RoomH k A → L2H.PinOk outer H s p → Env0 P w K mg base A outer s H → Vals vs us → spD K F vs H Q E0 →
    codeAny (model P w) A (.call (.ref f) ⟨us, []⟩) (CR (L2.CX P w) outer P w H s Q E0) s
abbrev cxC (P : Program) (w : World) (K : PySem.W.Frag) (mg : Str → Option Value) (base : Heap) (N : List Str) (qual : Str) (scope : Scope) (f : Addr) (cd : Value) (A : Around) (outer : List PySem.Env) (s : Shared) (H : Hp) (p : Addr × Obj) : Cx :=
  L2H.cxH (L2.CX P w) P w K mg base N qual scope f cd A outer s H E0 p
theorem hpC {N : List Str} {qual : Str} {scope : Scope} {f : Addr} {cd : Value} {A : Around} {outer : List PySem.Env} {s : Shared} {H : Hp} {p : Addr × Obj} : PassesOwn (model P w) (cxC P w K mg base N qual scope f cd A outer s H p).A (cxC P w K mg base N qual scope f cd A outer s H p).env (cxC P w K mg base N qual scope f cd A outer s H p).xe :=
  passes_of (X := cxC P w K mg base N qual scope f cd A outer s H p) rfl
theorem fnC_mk {x qual : Str} {st : Stmt} {f : Addr} {N ps : List Str} {k : Nat} {m : S} (h : FunG K x qual st [] f) (S : FnScope N ps (defScope st))
    (hbd : ∀ (kV doc pm : Value) (an : Option Addr) (cdv ct : Value) (us : List Value), us.length = ps.length → bindArgs (PySem.W.fnOf x qual (defArgs st) (defBody st) (defScope st) .none kV doc pm an cdv ct) ⟨us, []⟩ = pure (ps.zip us))
    (hb : ∀ (cdv : Value) (A : Around) (outer : List PySem.Env) (s : Shared) (H : Hp) (p : Addr × Obj), L2H.RoomH k (A.deeper (envOfC qual (defScope st) s.heap.objs.size f cdv)) → CSs (cxC P w K mg base N qual (defScope st) f cdv A outer s H p) W0s (defBody st) m) :
    FnC P w K mg base (k + 1) f ps (runFn ps.length N.length m) := by
  obtain ⟨oc, od, dV, kV, doc, pm, an, cdv, ct, osl, lk, hcd, dd⟩ := h.ex
  rcases dd with ⟨_, rfl⟩ | ⟨z, _⟩
  case inr => exact absurd rfl z
  refine ⟨h.kp, fun A outer s H us vs Q p room pin e0 rel hsp => ?_⟩
  have lv : vs.length = ps.length := spD_len vs H Q E0 hsp
  have inn : K.In s.heap := e0.mod.kin.keeps fun b o e => (e0.bs b o e).1
  refine codeAny_call_function room.depth (inn _ _ lk) rfl S.co S.gen rfl (PySem.W.codeRec_of inn hcd) (BindsTo.of_eq (hbd kV doc pm an cdv ct us (rel.length.symm.trans lv)) _ _ _ _ ?_)
  refine wpAny_newFunctionEnv_cells S.kind (fun y hy => (S.par y.1 (List.of_mem_zip hy).1).imp id fun q => ⟨q, PySem.W.cellsFrom_some _ _ _ (.inl q)⟩) ?_
  rintro _ rfl s1 x
  refine ⟨(e0.mod.nolimit.keeps fun b o e => (e0.bs b o e).1).keeps x.toInCall.keep, codeAny_func ?_⟩
  have start : tS K W0s m { nx := fun _ H' => Q .non H', rt := Q } (L2.start N vs) H := by
    obtain ⟨ρ, ds, hh, rh, rv, q⟩ := hsp
    have ld : ds.length = ps.length := (RVs.len rv).trans lv
    unfold runFn at q
    rw [if_pos ld] at q
    refine ⟨ρ, ds.map some ++ List.replicate (N.length - ps.length) none, hh, rh, ?_, ?_⟩
    · show RS _ _ _ _ (vs.map some ++ List.replicate (N.length - vs.length) none)
      rw [lv]
      exact RS.start rv
    · generalize m (ds.map some ++ List.replicate (N.length - ps.length) none) hh = r at q
      cases r with
      | ret d h' => exact q
      | nx σ h' => exact fun ρ' σ' H' l rh' _ => q ρ' .non H' l rh' rfl
      | exc C fs σ h' => exact fun ρ' σ' H' d l rh' _ rx => q ρ' H' d l rh' rx
      | brk σ h' => exact q.elim
      | ct σ h' => exact q.elim
      | bad => exact q.elim
  refine wpAny_mono ((hb cdv A outer s H p (room.deeper _)).run [] s1 (L2.start N vs) H _ (L2H.inv_startH S pin e0 lv rel x) start) (fun fl s' got => ?_) fun e s' bad => bad
  match fl, got with
  | .ret u, ⟨v, σ', H', J, rv, q⟩ => exact ⟨v, H', J.os, J.bare, J.base, J.hok, rv, q⟩
  | .next, ⟨σ', H', J, q⟩ => exact ⟨.non, H', J.os, J.bare, J.base, J.hok, rfl, q⟩
  | .brk, ⟨_, _, _, q⟩ => exact q.elim
  | .cont, ⟨_, _, _, q⟩ => exact q.elim
end
section
variable {X : Cx} {k : Nat} {f a : Addr} {oe : Obj} {pn : List (Addr × Obj)} {ps : List Str} {F : Fn} {x : Str} {p pos : Pos} {e : Expr} {es : List Expr} {ms : EA}
theorem ce_callC (G : FnC X.prog X.w X.K X.mg X.base k f ps F) (hr : Room k X.A) (hg : Gl X x) (hm : X.mg x = some (.ref f))
    (ha : CA (X.suite a ((a, oe) :: pn)) W0s (e :: es) ms) (hdb : (x == ("__debug__" : Str)) = false := by decide) (he : starEach (e :: es) X.env = (false, eval e X.env) :: starEach es X.env := by rfl) (hpl : (backTo pos (starEach es X.env)).any (·.1) = false := by rfl) :
    CE (X.suite a ((a, oe) :: pn)) W0s (.Call (.Name x p) (e :: es) [] pos) (eCall F [] ms) := ⟨fun pins s σ H Q I ⟨ρ, σd, h, rh, rs, q⟩ => by
  refine wpAny_Call_Name_kw (ld_glob I hg hm ?_ hdb)
  refine PySem.W.callWith_K (h₀ := X.base) I.ok.mod.kin G.kp (thn (ha.run pos pins s σ H (fun vs H1 => spD X.K F vs H1 Q E0) I
    ⟨ρ, σd, h, rh, rs, TQ.bind q fun ρ1 xs H1 as h1 l1 rh1 rv1 q1 => ⟨ρ1, as, h1, rh1, rv1, by rw [List.append_nil] at q1; exact q1⟩⟩) fun us s1 ⟨vs, H1, I1, r, q⟩ => ⟨I1.kIn, ?_⟩) he hpl
  have P1 := I1.pin (a, oe) (List.mem_append_left _ (List.mem_cons_self ..))
  refine wpAny_call (codeAny_mono (G.run _ _ s1 H1 us vs Q (a, oe) ⟨hr.dp, hr.un⟩ ⟨P1.1, P1.2.1, fun z => (List.mem_cons.mp (I1.stkSub a z)).elim P1.2.2.1 P1.2.2.2.1, P1.2.2.2.2⟩ I1.env0 r q) fun res s2 got => ?_)
  match res, got with
  | .error e, got => exact passL pins σ H1 s1 e s2 I1 got
  | .ok (.ret u), got => exact I1.after got
  | .ok .next, got => exact got.elim
  | .ok .brk, got => exact got.elim
  | .ok .cont, got => exact got.elim⟩
end
end Mi
/-! Mi24: isinstance of what is caught, pop(i), insert, upper, own in. -/
namespace Mi
open PySem L2
/-! ### isinstance(e, C), e caught -/
def eXit (K : PySem.W.Frag) (C : Addr) (as : EA) : E := fun σ h => (as σ h).bind fun cs h1 => match cs with
  | [c] => ofO ((clsD c).bind fun u => (PySem.W.kitOne K (.ref C) u).map .bl) h1
  | _ => .bad
def eXis (K : PySem.W.Frag) (a C dd : Addr) (i : Nat) (as : EA) : E := fun σ h => match σ[i]? with
  | some (some (.xcp a' C' dd' ns xs)) => if a' = a ∧ C' = C ∧ dd' = dd then eXit K C as σ h else .bad
  | _ => .bad
def rIsS (K : PySem.W.Frag) (C a dd : Addr) : List V → Hp → VK → Prop := fun xs H Q => ∃ (c : V) (u : Value) (b : Bool) (fs : List (Str × V)), xs = [.ref a, c] ∧ ClsV c u ∧ H dd = some (.xd fs) ∧ PySem.W.kitOne K (.ref C) u = some b ∧ Q (.bl b) H
theorem call_isS {X : Cx} {a C dd : Addr} {oe : Obj} {pn : List (Addr × Obj)} (cc : ExcC X.K C) (hz : Zc (.ref C) (some dd) oe) (hf : ∃ vs, oe.data = .fields vs) : CallR (X.suite a ((a, oe) :: pn)) (.builtin "isinstance") (rIsS X.K C a dd) := by
  intro pins s σ H xs us Q I r h
  obtain ⟨c, u, b, fs, rfl, k, hd, e, q⟩ := h
  obtain ⟨u1, u2, rfl, r1, r2⟩ := vals2 r
  have e2 := k.eq r2
  subst e2
  cases (show u1 = Value.ref a from r1)
  obtain ⟨vs, hv⟩ := hf
  obtain ⟨mA, hns, _⟩ := show ObjOk X.prog X.w H s.heap dd (.xd fs) from I.hok dd _ hd
  obtain ⟨od, ho, _⟩ := lookIn_ns hns
  have J : PySem.W.InstAt s.heap a oe C (some od) := ⟨(I.pin (a, oe) (List.mem_append_left _ (List.mem_cons_self ..))).1, hz.1, by unfold PySem.W.notCls; rw [hv], by rw [hz.2]; exact ho⟩
  exact PySem.W.kia_one (PySem.W.kitx_exc (exc_cls cc) cc.hg cc.hk cc.hs cc.ha cc.hn cc.ht cc.hm) I.kIn J e (fun z => nomatch z) fun tk => ⟨.bl b, H, I.tok tk, rfl, q⟩
theorem ce_xis {X : Cx} {W : WX} {a C dd : Addr} {oe : Obj} {pn : List (Addr × Obj)} {n : Str} {i : Nat} {p p0 pos : Pos} {e : Expr} {ms : EA} (T : ExcC X.K C) (hz : Zc (.ref C) (some dd) oe) (hf : ∃ vs, oe.data = .fields vs) (hg : Gl X "isinstance") (hm : X.mg "isinstance" = none) (ha : CA (X.suite a ((a, oe) :: pn)) W [e] ms)
    (hN : X.N[i]? = some n := by rfl) (hv : Vis X.env.scope n := by first | exact Or.inl rfl | exact Or.inr (Or.inl rfl) | exact Or.inr (Or.inr rfl)) (hdb : (n == ("__debug__" : Str)) = false := by decide)
    (hcd : (n == ("__classdict__" : Str)) = false := by decide) (hs : starEach [.Name n p, e] X.env = (false, eval (.Name n p) X.env) :: starEach [e] X.env := by rfl) (hpl : (backTo pos (starEach [e] X.env)).any (·.1) = false := by rfl) :
    CE (X.suite a ((a, oe) :: pn)) W (.Call (.Name "isinstance" p0) [.Name n p, e] [] pos) (eXis X.K a C dd i ms) :=
  (pe_callB (call_isS T hz hf) hg hm (by decide +kernel) (pa_cons (pe_var (X := X.suite a ((a, oe) :: pn)) hN hv hdb hcd) ha hs) (by decide) (by decide) hs hpl).imp fun σ H Q ⟨ρ, σd, h, rh, rs, q⟩ => by
    unfold eXis at q
    split at q
    · next a' C' dd' ns xs hi =>
      split at q
      · next hc =>
        obtain ⟨rfl, rfl, rfl⟩ := hc
        obtain ⟨v, e1, rfl, vs, hd, hn, hl, rv⟩ := rs.get i _ hi
        refine ⟨_, e1, ρ, σd, h, rh, rs, TQ.bind (show TQ _ _ _ _ _ (eXit X.K C' ms σd h) Q from q) fun ρ1 ys H1 cs h1 l1 rh1 rv1 q1 => ?_⟩
        split at q1
        · next c =>
          obtain ⟨v, r', rfl, rc, rfl⟩ := rv1
          cases e2 : clsD c with
          | none => rw [e2] at q1; exact q1.elim
          | some u =>
            rw [e2] at q1
            simp only [Option.bind_some] at q1
            cases e3 : PySem.W.kitOne X.K (.ref C') u with
            | none => rw [e3] at q1; exact q1.elim
            | some b =>
              rw [e3] at q1
              exact ⟨v, u, b, _, rfl, clsD_of e2 rc, l1.fr _ _ hn.1 hd, e3, q1 ρ1 (.bl b) H1 .refl rh1 rfl⟩
        · exact q1.elim
      · exact q.elim
    · exact q.elim
theorem px_xis {K : PySem.W.Frag} {i : Nat} {a C dd : Addr} {fs : List (Str × D)} {as as' : EA} (h1 : Px i (some (.xcp a C dd (fs.map (·.1)) (fs.map (·.2)))) as as') : Px i (some (.xcp a C dd (fs.map (·.1)) (fs.map (·.2)))) (eXis K a C dd i as) (eXit K C as') := fun σ h hi => by
  unfold eXis eXit
  rw [List.getElem?_set_self hi]
  simp only [true_and, if_true, and_self]
  rw [h1 σ h hi]
/-! ### lists, texts -/
section
variable {X : Cx} {W : WX} {o e a b : Expr} {mo ma mb : E} {pos apos cpos : Pos} {name : Str} {T id : String}
def popAtM : Hd → D → List D → Option (D × Hd) := fun h a as => match as with
  | [.int i] => (asLm h a).bind fun p => if 0 ≤ i ∧ i < 1000000 then (p.2[i.toNat]?).map fun y => (y, h.set p.1 (.lst (p.2.eraseIdx i.toNat))) else none
  | _ => none
theorem RVs.erase {K : PySem.W.Frag} {H : Hp} {ρ : Rh} : ∀ {ds : List D} {vs : List V} (n : Nat), RVs K H ρ ds vs → RVs K H ρ (ds.eraseIdx n) (vs.eraseIdx n)
  | [], _, n, q => by rw [show _ = [] from q]; exact rfl
  | d :: ds, _, 0, ⟨v, r, e, q, qs⟩ => by subst e; exact qs
  | d :: ds, _, n + 1, ⟨v, r, e, q, qs⟩ => by subst e; exact ⟨v, _, rfl, q, RVs.erase n qs⟩
theorem mt_popAtM : MtR X "list.pop" (rMM X.K popAtM) := (show MtR X "list.pop" rPopAt from mt_popAt).imp fun x vs H Q ⟨ρ, h, a, as, d, h', rh, ra, ras, e, q⟩ => by
  unfold popAtM at e
  split at e
  · next i =>
    obtain ⟨u, rfl, ru⟩ := rvs1 ras
    cases ru
    cases h1 : asLm h a with
    | none => rw [h1] at e; cases e
    | some p =>
      obtain ⟨n, xs⟩ := p
      rw [h1] at e
      simp only [Option.bind_some] at e
      split at e
      · next hi =>
        cases h2 : xs[i.toNat]? with
        | none => rw [h2] at e; cases e
        | some y =>
          rw [h2] at e
          cases e
          obtain ⟨p, ws, ep, rfl, hp, rw'⟩ := asLm_of h1 rh ra
          obtain ⟨v, hv, rv⟩ := RVs.get rw' h2
          have hl : i.toNat < ws.length := (List.getElem?_eq_some_iff.mp hv).1
          obtain ⟨l, r, m⟩ := lst_put rh ep hp (RVs.erase i.toNat rw')
          refine ⟨p, ws, i, i.toNat, v, rfl, rfl, hp, by omega, by omega, ?_, hv, q ρ v _ l r (RV.mo m _ _ rv)⟩
          exact (ixN_seq (show ixN ws.length i = some i.toNat by unfold ixN; rw [if_pos hi.1, if_pos (by omega)])).1
      · cases e
  · cases e
def insertM : Hd → D → List D → Option (D × Hd) := fun h a as => match as with
  | [.int i, y] => (asLm h a).bind fun p => if 0 ≤ i ∧ i < 1000000 ∧ p.2.length < line then some (.non, h.set p.1 (.lst (p.2.take i.toNat ++ [y] ++ p.2.drop i.toNat))) else none
  | _ => none
theorem mt_insertM : MtR X "list.insert" (rMM X.K insertM) := mt_insert.imp fun x vs H Q ⟨ρ, h, a, as, d, h', rh, ra, ras, e, q⟩ => by
  unfold insertM at e
  split at e
  · next i y =>
    obtain ⟨v1, r1, rfl, rv1, v2, r2, rfl, rv2, rfl⟩ := ras
    cases rv1
    cases h1 : asLm h a with
    | none => rw [h1] at e; cases e
    | some p =>
      obtain ⟨n, xs⟩ := p
      rw [h1] at e
      simp only [Option.bind_some] at e
      split at e
      · next hi =>
        cases e
        obtain ⟨p, ws, ep, rfl, hp, rw'⟩ := asLm_of h1 rh ra
        obtain ⟨l, r, m⟩ := lst_put rh ep hp (RVs.app (RVs.app (RVs.take i.toNat rw') (.one rv2)) (RVs.drop i.toNat rw'))
        exact ⟨p, ws, i, v2, rfl, rfl, hp, by rw [← RVs.len rw']; exact hi.2.2, hi.1, by omega, q ρ .non _ l r rfl⟩
      · cases e
  · cases e
/-- methods of texts without arguments -/
def eBm0 (F : Hd → D → List D → Option D) (tc : Hd → D → Bool) (o : E) : E := fun σ h => (o σ h).bind fun x h1 => if tc h1 x then ofO (F h1 x []) h1 else .bad
theorem ce_bm0 {F : Hd → D → List D → Option D} {tc : Hd → D → Bool} (pa : PySem.PlainAttrs T) (slot : PySem.Slot T name id) (hty : typeOf (.builtin id) = pure (.type "method_descriptor")) (hm : MtR X id (rPM X.K F)) (ht : TcOk X.K T tc) (ho : CE X W o mo)
    (hbase : attributeBase o name X.env (eval o X.env) = eval o X.env := by rfl) (hline : (apos.endLine == cpos.line) = true := by rfl) :
    CE X W (.Call (.Attribute o name apos) [] [] cpos) (eBm0 F tc mo) := (pe_bm0 pa slot hty hm ho hbase hline).imp fun σ H Q ⟨ρ, σd, h, rh, rs, q⟩ =>
  ⟨ρ, σd, h, rh, rs, TQ.bind q fun ρ1 x H1 a h1 l1 rh1 rv1 q1 => by
    by_cases htc : tc h1 a = true
    · rw [if_pos htc] at q1
      refine ⟨ht ρ1 h1 H1 a x rh1 rv1 htc, ?_⟩
      cases e : F h1 a [] with
      | none => rw [e] at q1; exact q1.elim
      | some d => rw [e] at q1; exact ⟨ρ1, h1, a, [], d, rh1, rv1, rfl, e, PQ.of q1⟩
    · rw [if_neg htc] at q1
      exact q1.elim⟩
def upperP : Hd → D → List D → Option D := fun _ a as => match a, as with
  | .str x, [] => if x.length ≤ 5592405 then some (.str (Txt.upper x)) else none
  | _, _ => none
theorem mt_upperP : MtR X "str.upper" (rPM X.K upperP) := mt_upper.imp fun x vs H Q ⟨ρ, h, a, as, d, rh, ra, ras, e, q⟩ => by
  unfold upperP at e
  split at e
  · split at e
    · next hl =>
      cases e
      cases ra
      cases (show vs = [] from ras)
      exact ⟨_, rfl, rfl, hl, q.here rh rfl⟩
    · cases e
  · cases e
end
/-! ### a in o, o of the class C -/
section
variable {X : Cx} {W : WX} {a b : Expr} {ma mb : E} {pos : Pos} {C g : Addr} {k : Nat} {F : Fn} {G : P2}
def ownI (C : Addr) (F : Fn) (G : P2) (x y : D) (h2 : Hd) : R D := match y with
  | .ref n => match h2[n]? with
    | some (.ins C' _) => if C' = C then (noX (F [.ref n, x] h2)).bind fun d h3 => (match d with
      | .bl b => .ok (.bl b) h3
      | _ => .bad) else .bad
    | _ => ofO (G h2 x (.ref n)) h2
  | y => ofO (G h2 x y) h2
def eOwnI (C : Addr) (F : Fn) (G : P2) (a b : E) : E := fun σ h => (a σ h).bind fun x h1 => (b σ h1).bind fun y h2 => ownI C F G x y h2
def rOwnIn (K : PySem.W.Frag) (C : Addr) (F : Fn) (G : P2) : R2 := fun x y H Q => (∃ a dx fs, y = .ref a ∧ H a = some (.ins C dx fs) ∧ spD K F [y, x] H (fun z H' => ∃ b, z = .bl b ∧ Q (.bl b) H') E0) ∨ rP2 K G x y H Q
theorem op_ownIn (hs : PySem.W.findIn X.K (.ref C) "__contains__" = some (some (.ref g))) (hf : PySem.W.isFn X.K (.ref g) = true) (FR : FnR X.prog X.w X.K X.mg X.base (L2.CX X.prog X.w) k g (spD X.K F)) (hr : Room k X.A) (hG : OpR X (compareOp .In) (rP2 X.K G)) : OpR X (compareOp .In) (rOwnIn X.K C F G) := by
  intro pins s σ H x y v u Q I rx ry h
  rcases h with ⟨a, dx, fs, rfl, ha, q⟩ | h
  · cases (show u = Value.ref a from ry)
    obtain ⟨mA, O, _⟩ := ins_get I.hok ha
    obtain ⟨od, J, _⟩ := O.look
    obtain ⟨m, hF⟩ := I.fr
    refine PySem.W.in_K hF I.ok.mod.kin J hs hf ?_
    refine wpAny_mono (wpAny_call (run_fnR (us := [.ref a, v]) (vs := [.ref a, x]) FR hr passL I (.cons rfl (.cons rx .nil)) q)) (fun w s' z => ?_) fun _ _ x => x
    obtain ⟨z', H', I', rz, b, ez, qz⟩ := z
    subst ez
    cases (show w = Value.bool b from rz)
    exact wpAny_truthy_bool ⟨.bl b, H', I', rfl, qz⟩
  · exact hG pins s σ H x y v u Q I rx ry h
theorem ownI_core {K : PySem.W.Frag} {ρ : Rh} {h : Hd} {H : Hp} {W' : Value → Option Addr → Hp → Prop} {d b : D} {x y : V} {Q : VK} (rh : RH K ρ h H) (rv : RV K H ρ d x) (rv2 : RV K H ρ b y) (q : TQ (RV K) K W' ρ H (ownI C F G d b h) Q) : rOwnIn K C F G x y H Q := by
  have plain : TQ (RV K) K W' ρ H (ofO (G h d b) h) Q → rP2 K G x y H Q := fun q => by
    cases e : G h d b with
    | none => rw [e] at q; exact q.elim
    | some z => rw [e] at q; exact ⟨ρ, h, d, b, z, rh, rv, rv2, e, PQ.of q⟩
  unfold ownI at q
  split at q
  · next n =>
    split at q
    · next C' fs hn =>
      split at q
      · next hC =>
        subst hC
        obtain ⟨p, ep, rfl⟩ := rv2
        obtain ⟨dx, vs, e1, e2⟩ := rh.obj _ _ _ ep hn
        refine .inl ⟨p, dx, vs, rfl, e1, ρ, [.ref n, d], h, rh, ⟨.ref p, [x], rfl, ⟨p, ep, rfl⟩, .one rv⟩, ?_⟩
        cases hF : F [.ref n, d] h with
        | ok z h' =>
          rw [hF] at q
          intro ρ3 v H3 l3 rh3 rv3
          cases z with
          | bl b =>
            refine ⟨b, rv3, ?_⟩
            have q3 : TQ (RV K) K W' ρ H (.ok (.bl b) h') Q := q
            exact q3 ρ3 (.bl b) H3 l3 rh3 rfl
          | _ => exact q.elim
        | exc C fs h' => rw [hF] at q; exact q.elim
        | bad => rw [hF] at q; exact q.elim
      · exact q.elim
    · exact .inr (plain q)
  · exact .inr (plain q)
theorem ce_ownIn (ho : OpR X (compareOp .In) (rOwnIn X.K C F G)) (ha : CE X W a ma) (hb : CE X W b mb) (hm : behindInMarks .In b = false) : CE X W (.Compare a [.In] [b] pos) (eOwnI C F G ma mb) := (pe_cmpR ho ha hb hm).imp fun σ H Q ⟨ρ, σd, h, rh, rs, q⟩ =>
  ⟨ρ, σd, h, rh, rs, TQ.bind q fun ρ1 x H1 d h1 l1 rh1 rv1 q1 => ⟨ρ1, σd, h1, rh1, rs.le l1 rh, TQ.bind q1 fun ρ2 y H2 b h2 l2 rh2 rv2 q2 => ownI_core rh2 (rv1.le l2 rh1) rv2 q2⟩⟩
theorem ct_ownIn (ho : OpR X (compareOp .In) (rOwnIn X.K C F G)) (ha : CE X W a ma) (hb : CE X W b mb) (hm : behindInMarks .In b = false) : CT X W (.Compare a [.In] [b] pos) (tVal (eOwnI C F G ma mb)) := (pt_cmpR ho ha hb hm).imp fun σ H Q ⟨ρ, σd, h, rh, rs, q⟩ => by
  refine ⟨ρ, σd, h, rh, rs, ?_⟩
  unfold tVal eOwnI at q
  rw [R.assoc] at q
  refine TQ.bind q fun ρ1 x H1 a h1 l1 rh1 rv1 q1 => ⟨ρ1, σd, h1, rh1, rs.le l1 rh, ?_⟩
  rw [R.assoc] at q1
  refine TQ.bind q1 fun ρ2 y H2 b h2 l2 rh2 rv2 q2 => ?_
  refine ownI_core (W' := fun c d H' => W c d σ H') rh2 (rv1.le l2 rh1) rv2 (TQ.bind q2 fun ρ3 z H3 d h3 l3 rh3 rv3 q3 => ?_)
  cases d with
  | bl k => exact ⟨k, rv3, q3 ρ3 _ H3 .refl rh3 rfl⟩
  | _ => exact q3.elim
end
end Mi
/-! QG: the mirror world without a program: boxes, walks, sorted rows, texts. -/
namespace QG
open PySem L2 Mi
theorem bind_ok {α β : Type} {a : α} {h : Hd} {f : α → Hd → R β} : (R.ok a h).bind f = f a h := rfl
theorem bind_bad {α β : Type} {f : α → Hd → R β} : R.bind .bad f = .bad := rfl
theorem bind_exc {α β : Type} {C : Addr} {fs : Option (List (Str × D))} {h : Hd} {f : α → Hd → R β} : R.bind (.exc C fs h) f = .exc C fs h := rfl
theorem bindS_ok {α : Type} {a : α} {h : Hd} {σ : Mi.Env} {f : α → Hd → SR} : bindS (R.ok a h) σ f = f a h := rfl
theorem ofO_some {α : Type} {a : α} {h : Hd} : ofO (some a) h = .ok a h := rfl
theorem ofO_none {α : Type} {h : Hd} : (ofO none h : R α) = .bad := rfl
theorem eqB_int {h : Hd} {x y : Int} : eqB h (.int x) (.int y) = some (x == y) := rfl
theorem eqB_str {h : Hd} {x y : Str} : eqB h (.str x) (.str y) = some (x == y) := rfl
theorem eqB_is {h : Hd} {x : Int} {y : Str} : eqB h (.int x) (.str y) = some false := rfl
theorem eqB_si {h : Hd} {x : Str} {y : Int} : eqB h (.str x) (.int y) = some false := rfl
theorem ltB_int {h : Hd} {x y : Int} : ltB h (.int x) (.int y) = some (decide (x < y)) := rfl
theorem ltB_str {h : Hd} {x y : Str} : ltB h (.str x) (.str y) = some (strLt x y) := rfl
theorem get_set {h : Hd} {n : Nat} {o o' : O} (e : h[n]? = some o) : (h.set n o')[n]? = some o' := by
  rw [List.getElem?_set_self (List.getElem?_eq_some_iff.mp e).1]
theorem get_lt {h : Hd} {n : Nat} {o : O} (e : h[n]? = some o) : n < h.length := (List.getElem?_eq_some_iff.mp e).1
def bx (x s c : Int) : O := .lst [.int x, .int s, .int c]
def BoxAt (n : Nat) (h : Hd) : Prop := ∃ x s c, h[n]? = some (bx x s c)
/-- the box moved on, more cells came -/
def Up (n : Nat) (h h' : Hd) : Prop := ∃ x s c j, h' = h.set n (bx x s c) ++ j
theorem Up.box {n : Nat} {h h' : Hd} (hb : BoxAt n h) (u : Up n h h') : BoxAt n h' := by
  obtain ⟨x, s, c, e⟩ := hb
  obtain ⟨x', s', c', j, rfl⟩ := u
  refine ⟨x', s', c', ?_⟩
  have : n < (h.set n (bx x' s' c')).length := by rw [List.length_set]; exact get_lt e
  rw [List.getElem?_append_left this]
  exact get_set e
theorem Up.refl {n : Nat} {h : Hd} (hb : BoxAt n h) : Up n h h := by
  obtain ⟨x, s, c, e⟩ := hb
  refine ⟨x, s, c, [], ?_⟩
  rw [List.append_nil, ← List.getElem_eq_iff (get_lt e) |>.mpr e, List.set_getElem_self]
theorem Up.trans {n : Nat} {h h1 h2 : Hd} (hb : BoxAt n h) (a : Up n h h1) (b : Up n h1 h2) : Up n h h2 := by
  obtain ⟨x, s, c, e⟩ := hb
  obtain ⟨x1, s1, c1, j, rfl⟩ := a
  obtain ⟨x2, s2, c2, j2, rfl⟩ := b
  refine ⟨x2, s2, c2, j ++ j2, ?_⟩
  have : n < (h.set n (bx x1 s1 c1)).length := by rw [List.length_set]; exact get_lt e
  rw [List.set_append_left _ _ this, List.set_set, List.append_assoc]
theorem Up.push {n : Nat} {h h1 : Hd} (a : Up n h h1) (j : Hd) : Up n h (h1 ++ j) := by
  obtain ⟨x1, s1, c1, k, rfl⟩ := a
  exact ⟨x1, s1, c1, k ++ j, by rw [List.append_assoc]⟩
theorem Up.len {n : Nat} {h h1 : Hd} (a : Up n h h1) : h.length ≤ h1.length := by
  obtain ⟨x1, s1, c1, k, rfl⟩ := a
  simp
theorem Up.set {n p : Nat} {h h1 : Hd} {o : O} (a : Up n h h1) (hp : h.length ≤ p) : Up n h (h1.set p o) := by
  obtain ⟨x1, s1, c1, k, rfl⟩ := a
  exact ⟨x1, s1, c1, k.set (p - h.length) o, by rw [List.set_append_right _ _ (by simpa using hp), List.length_set]⟩
theorem Up.get {n i : Nat} {h h1 : Hd} {o : O} (a : Up n h h1) (hi : i ≠ n) (e : h[i]? = some o) : h1[i]? = some o := by
  obtain ⟨x1, s1, c1, k, rfl⟩ := a
  have : i < (h.set n (bx x1 s1 c1)).length := by rw [List.length_set]; exact get_lt e
  rw [List.getElem?_append_left this, List.getElem?_set_ne (by omega), e]
theorem BoxAt.lt {n : Nat} {h : Hd} (b : BoxAt n h) : n < h.length := by
  obtain ⟨x, s, c, e⟩ := b
  exact get_lt e
theorem BoxAt.push {n : Nat} {h : Hd} (b : BoxAt n h) (j : Hd) : BoxAt n (h ++ j) := by
  obtain ⟨x, s, c, e⟩ := b
  exact ⟨x, s, c, by rw [List.getElem?_append_left (get_lt e), e]⟩
theorem BoxAt.set {n p : Nat} {h : Hd} {o : O} (b : BoxAt n h) (hp : p ≠ n) : BoxAt n (h.set p o) := by
  obtain ⟨x, s, c, e⟩ := b
  exact ⟨x, s, c, by rw [List.getElem?_set_ne hp, e]⟩
/-! ### walks -/
theorem for_inv {g : G} {b : S} {gd : Hd → Bool} (I : Nat → Mi.Env → Hd → Prop) : ∀ (xs : List D) (i : Nat) (σ : Mi.Env) (h : Hd),
    (∀ (j : Nat) (x : D) (σ : Mi.Env) (h : Hd), xs[j]? = some x → I (i + j) σ h → ∃ σ1 h1 σ2 h2, gd h = true ∧ g x σ h = .ok σ1 h1 ∧ b σ1 h1 = .nx σ2 h2 ∧ I (i + j + 1) σ2 h2) →
    (∀ σ h, I (i + xs.length) σ h → gd h = true) → I i σ h → ∃ σ' h', Mi.forM g b gd xs σ h = .nx σ' h' ∧ I (i + xs.length) σ' h'
  | [], i, σ, h, _, hg, hi => ⟨σ, h, by rw [Mi.forM, hg σ h hi]; rfl, hi⟩
  | x :: xs, i, σ, h, hs, hg, hi => by
    obtain ⟨σ1, h1, σ2, h2, e0, e1, e2, e3⟩ := hs 0 x σ h rfl hi
    obtain ⟨σ', h', e4, e5⟩ := for_inv I xs (i + 1) σ2 h2 (fun j y σ h ej q => by
      have := hs (j + 1) y σ h (by simpa using ej) (by rw [show i + (j + 1) = i + 1 + j by omega]; exact q)
      rw [show i + (j + 1) + 1 = i + 1 + j + 1 by omega] at this
      exact this) (fun σ h q => hg σ h (by rw [List.length_cons, show i + (xs.length + 1) = i + 1 + xs.length by omega]; exact q)) e3
    refine ⟨σ', h', ?_, by rw [List.length_cons, show i + (xs.length + 1) = i + 1 + xs.length by omega]; exact e5⟩
    rw [Mi.forM, e0]
    simp only [if_true, e1, bindS, e2]
    exact e4
theorem rangeD_get (i : Int) : ∀ (n j : Nat) (x : D), (rangeD i n)[j]? = some x → x = .int (i + j) ∧ j < n
  | 0, _, _, e => by simp [rangeD] at e
  | n + 1, 0, x, e => by simp [rangeD] at e; exact ⟨by rw [← e]; simp, by omega⟩
  | n + 1, j + 1, x, e => by
    rw [rangeD, List.getElem?_cons_succ] at e
    obtain ⟨e1, e2⟩ := rangeD_get (i + 1) n j x e
    exact ⟨by rw [e1]; congr 1; omega, by omega⟩
theorem comp_inv {a : D → Mi.Env → Option Mi.Env} {e : E} {gd : Hd → Bool} {σ : Mi.Env} (I : Nat → List D → Hd → Prop) : ∀ (xs : List D) (i : Nat) (acc : List D) (h : Hd),
    (∀ (j : Nat) (x : D) (acc : List D) (h : Hd), xs[j]? = some x → I (i + j) acc h → ∃ σ1 d h2, gd h = true ∧ a x σ = some σ1 ∧ e σ1 h = .ok d h2 ∧ I (i + j + 1) (acc ++ [d]) h2) →
    (∀ acc h, I (i + xs.length) acc h → gd h = true) → I i acc h → ∃ ds h', compM a tYesM e gd σ xs h = .ok ds h' ∧ I (i + xs.length) (acc ++ ds) h'
  | [], i, acc, h, _, hg, hi => ⟨[], h, by rw [compM, hg acc h hi]; rfl, by rw [List.append_nil]; exact hi⟩
  | x :: xs, i, acc, h, hs, hg, hi => by
    obtain ⟨σ1, d, h2, e0, e1, e2, e3⟩ := hs 0 x acc h rfl hi
    obtain ⟨ds, h', e4, e5⟩ := comp_inv I xs (i + 1) (acc ++ [d]) h2 (fun j y acc h ej q => by
      have := hs (j + 1) y acc h (by simpa using ej) (by rw [show i + (j + 1) = i + 1 + j by omega]; exact q)
      rw [show i + (j + 1) + 1 = i + 1 + j + 1 by omega] at this
      exact this) (fun acc h q => hg acc h (by rw [List.length_cons, show i + (xs.length + 1) = i + 1 + xs.length by omega]; exact q)) e3
    refine ⟨d :: ds, h', ?_, by rw [List.length_cons, show i + (xs.length + 1) = i + 1 + xs.length by omega]; simpa using e5⟩
    rw [compM, e0]
    simp only [if_true, e1, tYesM, R.bind, e2, e4]
theorem comp_len {a : D → Mi.Env → Option Mi.Env} {e : E} {gd : Hd → Bool} {σ : Mi.Env} : ∀ (xs ds : List D) (h h' : Hd), compM a tYesM e gd σ xs h = .ok ds h' → ds.length = xs.length
  | [], ds, h, h', q => by
    rw [compM] at q
    split at q
    · cases q; rfl
    · cases q
  | x :: xs, ds, h, h', q => by
    rw [compM] at q
    split at q
    · split at q
      · cases q
      · next σ1 _ =>
        simp only [tYesM, R.bind, if_true] at q
        split at q
        · next d h2 _ =>
          simp only at q
          split at q
          · next r h3 e3 => cases q; rw [List.length_cons, List.length_cons, comp_len xs r _ _ e3]
          · cases q
          · cases q
        · cases q
        · cases q
    · cases q
/-- a comprehension that leaves the cells -/
theorem comp_map {a : D → Mi.Env → Option Mi.Env} {e : E} {gd : Hd → Bool} {σ : Mi.Env} {h : Hd} (F : D → D) (hg : gd h = true) : ∀ (xs : List D),
    (∀ x ∈ xs, ∃ σ1, a x σ = some σ1 ∧ e σ1 h = .ok (F x) h) → compM a tYesM e gd σ xs h = .ok (xs.map F) h
  | [], _ => by rw [compM, hg]; rfl
  | x :: xs, hs => by
    obtain ⟨σ1, e1, e2⟩ := hs x (List.mem_cons_self ..)
    rw [compM, hg]
    simp only [if_true, e1, tYesM, R.bind, e2, comp_map F hg xs (fun y hy => hs y (List.mem_cons_of_mem _ hy))]
    rfl
theorem range1_ok {a : E} {σ : Mi.Env} {h h1 : Hd} {k : Nat} (e : a σ h = .ok (.int k) h1) (hk : k ≤ 1000000) : iRange1 a σ h = .ok ⟨rangeD 0 k, always⟩ h1 := by
  have : itRange1 (.int (k : Int)) = some ⟨rangeD 0 k, always⟩ := by
    unfold itRange1
    simp only
    rw [if_pos (by omega)]
    rw [show ((k : Int)).toNat = k by omega]
  unfold iRange1
  rw [e, bind_ok, this, ofO_some]
theorem lComp_ok {it : EI} {a : D → Mi.Env → Option Mi.Env} {t : ET} {e : E} {vs : List Nat} {σ : Mi.Env} {h h1 h2 : Hd} {itm : Itm} {ds : List D} (e1 : it σ h = .ok itm h1) (e2 : compM a t e itm.gd (wipeD σ vs) itm.xs h1 = .ok ds h2) (hl : ds.length ≤ 1000000) : lComp it a t e vs σ h = .ok ds h2 := by
  unfold lComp
  rw [e1, bind_ok, e2]
  unfold shut
  simp only
  rw [if_pos (by unfold line; omega)]
theorem sFor_ok {it : EI} {g : G} {b : S} {σ : Mi.Env} {h h1 : Hd} {itm : Itm} {r : SR} (e1 : it σ h = .ok itm h1) (e2 : Mi.forM g b itm.gd itm.xs σ h1 = r) : sFor it g b σ h = r := by
  unfold sFor
  rw [e1, bindS_ok, e2]
theorem sSeq_nx {a b : S} {σ σ' : Mi.Env} {h h' : Hd} (e : a σ h = .nx σ' h') : sSeq a b σ h = b σ' h' := by
  unfold sSeq
  rw [e]
theorem sRet_ok {e : E} {σ : Mi.Env} {h h' : Hd} {d : D} (q : e σ h = .ok d h') : sRet e σ h = .ret d h' := by
  unfold sRet
  rw [q, bindS_ok]
theorem sSet_ok {i : Nat} {e : E} {σ : Mi.Env} {h h' : Hd} {d : D} (q : e σ h = .ok d h') : sSet i e σ h = .nx (σ.set i (some d)) h' := by
  unfold sSet
  rw [q, bindS_ok]
theorem eTmp_ok {e : EL} {σ : Mi.Env} {h h' : Hd} {d : List D} (q : e σ h = .ok d h') : eTmp e σ h = .ok (.tmp d) h' := by
  unfold eTmp
  rw [q, bind_ok]
theorem run_ret {np n : Nat} {m : S} {ds : List D} {h h' : Hd} {d : D} (hl : ds.length = np) (e : m (ds.map some ++ List.replicate (n - np) none) h = .ret d h') : runFn np n m ds h = .ok d h' := by
  unfold runFn
  rw [if_pos hl, e]
theorem mul_small {h : Hd} {i j : Int} (h0 : -1000000 ≤ j) (h1 : j ≤ 1000000) : mulP h (.int i) (.int j) = some (.int (i * j)) := by
  have : (Mi.small64 i || Mi.small64 j) = true := by
    rw [Bool.or_eq_true]
    refine .inr ?_
    unfold Mi.small64
    rw [Bool.and_eq_true, decide_eq_true_eq, decide_eq_true_eq]
    omega
  unfold mulP
  simp only
  rw [if_pos this]
theorem eOp_ok {F : P2} {a b : E} {σ : Mi.Env} {h h1 h2 : Hd} {x y d : D} (e1 : a σ h = .ok x h1) (e2 : b σ h1 = .ok y h2) (e3 : F h2 x y = some d) : eOp F a b σ h = .ok d h2 := by
  unfold eOp
  rw [e1, bind_ok, e2, bind_ok, e3, ofO_some]
theorem eCons_ok {a : E} {r : EA} {σ : Mi.Env} {h h1 h2 : Hd} {x : D} {xs : List D} (e1 : a σ h = .ok x h1) (e2 : r σ h1 = .ok xs h2) : eCons a r σ h = .ok (x :: xs) h2 := by
  unfold eCons
  rw [e1, bind_ok, e2, bind_ok]
theorem eCall_ok {F : Fn} {dds : List D} {a : EA} {σ : Mi.Env} {h h1 h2 : Hd} {d : D} {xs : List D} (e1 : a σ h = .ok xs h1) (e2 : F (xs ++ dds) h1 = .ok d h2) : eCall F dds a σ h = .ok d h2 := by
  unfold eCall
  rw [e1, bind_ok, e2]
theorem ePN_ok {F : PN} {a : EA} {σ : Mi.Env} {h h1 : Hd} {d : D} {xs : List D} (e1 : a σ h = .ok xs h1) (e2 : F h1 xs = some d) : ePN F a σ h = .ok d h1 := by
  unfold ePN
  rw [e1, bind_ok, e2, ofO_some]
theorem eTup_ok {a : EA} {σ : Mi.Env} {h h1 : Hd} {xs : List D} (e1 : a σ h = .ok xs h1) (hl : xs.length ≤ 1000000) : eTup a σ h = .ok (.tup xs) h1 := by
  unfold eTup
  rw [e1, bind_ok]
  rw [if_pos (by unfold line; omega)]
theorem sDrop_ok {e : E} {σ : Mi.Env} {h h' : Hd} {d : D} (q : e σ h = .ok d h') : sDrop e σ h = .nx σ h' := by
  unfold sDrop
  rw [q, bindS_ok]
theorem eqNil {h : Hd} {xs : List D} {ps : List PyData} (e : toP0s xs = some ps) : eqB h (.tup xs) (.tup []) = some xs.isEmpty := by
  have e2 : ps.isEmpty = xs.isEmpty := by
    cases xs with
    | nil => cases e; rfl
    | cons x xs =>
      rw [toP0s] at e
      split at e
      · cases e; rfl
      · cases e
  have e3 : PyData.eqv (.tuple ps) (.tuple []) = xs.isEmpty := by
    rw [← e2]
    cases ps with
    | nil => simp [PyData.eqv, PyData.eqvAll]
    | cons p ps => simp [PyData.eqv, PyData.eqvAll]
  have e4 : min (PyData.tuple ps).depth (PyData.tuple []).depth ≤ 64 := by
    have : (PyData.tuple []).depth = 1 := by simp [PyData.depth, PyData.depthAll]
    omega
  unfold eqB
  simp only [toP, toP0, e, Option.map_some, toP0s]
  rw [if_pos e4, e3]
theorem any_strs (m : Str) : ∀ l : List Str, ((l.map D.str).any fun y => eqF y (.str m)) = l.contains m
  | [] => rfl
  | x :: l => by
    rw [List.map_cons, List.any_cons, any_strs m l, List.contains_cons]
    congr 1
    show (x == m) = (m == x)
    rw [Bool.eq_iff_iff, beq_iff_eq, beq_iff_eq]
    exact eq_comm
theorem inB_strs {h : Hd} {m : Str} (l : List Str) : inB h (.str m) (.tup (l.map .str)) = some (l.contains m) := by
  have e : (l.map D.str).all flatD = true := by
    rw [List.all_eq_true]
    intro x hx
    obtain ⟨y, _, rfl⟩ := List.mem_map.mp hx
    rfl
  show seqIn h (.str m) (l.map .str) = _
  unfold seqIn
  rw [e, if_pos (by rfl), any_strs]
theorem in_strs {h : Hd} {m : Str} (l : List Str) : inP h (.str m) (.tup (l.map .str)) = some (.bl (l.contains m)) := by
  unfold inP
  rw [inB_strs]
  rfl
theorem notIn_strs {h : Hd} {m : Str} (l : List Str) : notInP h (.str m) (.tup (l.map .str)) = some (.bl (!l.contains m)) := by
  unfold notInP
  rw [inB_strs]
  rfl
theorem app_len (a b : Str) : (a ++ b).length = a.length + b.length := by
  show (a.cps ++ b.cps).size = _
  rw [Array.size_append]
  rfl
theorem iAll_ok {a : E} {σ : Mi.Env} {h h1 : Hd} {d : D} {itm : Itm} (e1 : a σ h = .ok d h1) (e2 : itAll h1 d = some itm) : iAll a σ h = .ok itm h1 := by
  unfold iAll
  rw [e1, bind_ok, e2, ofO_some]
/-- the script: a cell that is read alone, or a written list -/
def ScAt (h : Hd) (sd : D) (xs : List Int) : Prop := (∃ q, sd = .ref q ∧ h[q]? = some (.fro (xs.map .int))) ∨ sd = .kls (xs.map .int)
theorem ScAt.push {h j : Hd} {sd : D} {xs : List Int} (e : ScAt h sd xs) : ScAt (h ++ j) sd xs := by
  rcases e with ⟨q, rfl, e⟩ | rfl
  · exact .inl ⟨q, rfl, by rw [List.getElem?_append_left (get_lt e), e]⟩
  · exact .inr rfl
theorem ScAt.up {n : Nat} {h h' : Hd} {sd : D} {xs : List Int} (e : ScAt h sd xs) (b : BoxAt n h) (u : Up n h h') : ScAt h' sd xs := by
  rcases e with ⟨q, rfl, e⟩ | rfl
  · refine .inl ⟨q, rfl, u.get (fun z => ?_) e⟩
    obtain ⟨x, s, c, f⟩ := b
    rw [← z, e] at f
    cases f
  · exact .inr rfl
theorem ScAt.set {c : Nat} {h : Hd} {sd : D} {xs : List Int} {ds : List D} {o : O} (e : ScAt h sd xs) (b : h[c]? = some (.lst ds)) : ScAt (h.set c o) sd xs := by
  rcases e with ⟨q, rfl, e⟩ | rfl
  · refine .inl ⟨q, rfl, ?_⟩
    rw [List.getElem?_set_ne (fun z => ?_), e]
    rw [z, e] at b
    cases b
  · exact .inr rfl
theorem inB_strsL {h : Hd} {m : Str} (l : List Str) : inB h (.str m) (.tmp (l.map .str)) = some (l.contains m) := by
  have e : (l.map D.str).all flatD = true := by
    rw [List.all_eq_true]
    intro x hx
    obtain ⟨y, _, rfl⟩ := List.mem_map.mp hx
    rfl
  show seqIn h (.str m) (l.map .str) = _
  unfold seqIn
  rw [e, if_pos (by rfl), any_strs]
theorem in_strsL {h : Hd} {m : Str} (l : List Str) : inP h (.str m) (.tmp (l.map .str)) = some (.bl (l.contains m)) := by
  unfold inP
  rw [inB_strsL]
  rfl
theorem strs_map {α : Type} (f : α → Str) : ∀ l : List α, strsOf (l.map fun p => .str (f p)) = some (l.map f)
  | [] => rfl
  | p :: l => by
    rw [List.map_cons, strsOf, strs_map f l]
    rfl
theorem strs_id (l : List Str) : strsOf (l.map .str) = some l := by
  have := strs_map id l
  simpa using this
/-! ### the order of texts -/
theorem strLt_irrefl (a : Str) : strLt a a = false := by
  unfold strLt
  rw [decide_eq_false_iff_not]
  exact List.lt_irrefl _
theorem strLt_trans {a b c : Str} (h1 : strLt a b = true) (h2 : strLt b c = true) : strLt a c = true := by
  unfold strLt at *
  rw [decide_eq_true_eq] at *
  exact List.lt_trans h1 h2
theorem cps_inj {a b : Str} (h : a.cps.toList = b.cps.toList) : a = b := PySem.W.str_of_cps h
theorem strLt_tri {a b : Str} (h1 : strLt a b = false) (h2 : strLt b a = false) : a = b := by
  unfold strLt at *
  rw [decide_eq_false_iff_not] at *
  exact cps_inj (List.le_antisymm (List.not_lt.mp h2) (List.not_lt.mp h1))
/-! ### rows in order, each once -/
section
variable {α : Type} [DecidableEq α]
def insP (lt : α → α → Bool) (x : α) : List α → List α
  | [] => [x]
  | y :: ys => if lt y x then y :: insP lt x ys else x :: y :: ys
def sortP (lt : α → α → Bool) : List α → List α
  | [] => []
  | x :: xs => insP lt x (sortP lt xs)
theorem insP_mem {lt : α → α → Bool} {x z : α} : ∀ {l : List α}, z ∈ insP lt x l ↔ z = x ∨ z ∈ l
  | [] => by simp [insP]
  | y :: ys => by
    unfold insP
    split
    · rw [List.mem_cons, insP_mem, List.mem_cons]
      constructor
      · rintro (h | h | h)
        · exact .inr (.inl h)
        · exact .inl h
        · exact .inr (.inr h)
      · rintro (h | h | h)
        · exact .inr (.inl h)
        · exact .inl h
        · exact .inr (.inr h)
    · simp
theorem sortP_mem {lt : α → α → Bool} {z : α} : ∀ {l : List α}, z ∈ sortP lt l ↔ z ∈ l
  | [] => Iff.rfl
  | y :: ys => by rw [sortP, insP_mem, sortP_mem, List.mem_cons]
theorem insP_len {lt : α → α → Bool} {x : α} : ∀ {l : List α}, (insP lt x l).length = l.length + 1
  | [] => rfl
  | y :: ys => by
    unfold insP
    split
    · rw [List.length_cons, insP_len, List.length_cons]
    · rfl
theorem sortP_len {lt : α → α → Bool} : ∀ {l : List α}, (sortP lt l).length = l.length
  | [] => rfl
  | y :: ys => by rw [sortP, insP_len, sortP_len, List.length_cons]
theorem insS_map (key : α → Str) (x : α) : ∀ l : List α, insS (key x) (l.map key) = (insP (fun a b => strLt (key a) (key b)) x l).map key
  | [] => rfl
  | y :: ys => by
    unfold insP
    rw [List.map_cons, insS]
    split
    · rw [insS_map key x ys, List.map_cons]
    · rfl
theorem sortS_map (key : α → Str) : ∀ l : List α, sortS (l.map key) = (sortP (fun a b => strLt (key a) (key b)) l).map key
  | [] => rfl
  | y :: ys => by rw [List.map_cons, sortS, sortS_map key ys, insS_map, sortP]
/-- each one once, where it first came -/
def addD (acc : List α) (p : α) : List α := if p ∈ acc then acc else acc ++ [p]
def dd (l : List α) : List α := l.foldl addD []
theorem addD_mem {acc : List α} {p z : α} : z ∈ addD acc p ↔ z ∈ acc ∨ z = p := by
  unfold addD
  split
  · next h =>
    constructor
    · exact .inl
    · rintro (h' | rfl)
      · exact h'
      · exact h
  · simp
theorem foldl_mem {z : α} : ∀ (l acc : List α), z ∈ l.foldl addD acc ↔ z ∈ acc ∨ z ∈ l
  | [], acc => by simp
  | p :: l, acc => by
    rw [List.foldl_cons, foldl_mem l, addD_mem, List.mem_cons]
    constructor
    · rintro ((h | h) | h)
      · exact .inl h
      · exact .inr (.inl h)
      · exact .inr (.inr h)
    · rintro (h | h | h)
      · exact .inl (.inl h)
      · exact .inl (.inr h)
      · exact .inr h
theorem dd_mem {l : List α} {z : α} : z ∈ dd l ↔ z ∈ l := by
  unfold dd
  rw [foldl_mem]
  simp
theorem foldl_len : ∀ (l acc : List α), (l.foldl addD acc).length ≤ acc.length + l.length
  | [], acc => Nat.le_refl _
  | p :: l, acc => by
    have := foldl_len l (addD acc p)
    have h2 : (addD acc p).length ≤ acc.length + 1 := by unfold addD; split <;> simp
    rw [List.foldl_cons, List.length_cons]
    omega
theorem dd_len (l : List α) : (dd l).length ≤ l.length := by
  have := foldl_len l []
  simpa [dd] using this
theorem foldl_nodup : ∀ (l acc : List α), acc.Nodup → (l.foldl addD acc).Nodup
  | [], acc, h => h
  | p :: l, acc, h => by
    rw [List.foldl_cons]
    refine foldl_nodup l _ ?_
    unfold addD
    split
    · exact h
    · next hn =>
      rw [List.nodup_append]
      refine ⟨h, by simp, ?_⟩
      intro a ha b hb
      have : b = p := by simpa using hb
      subst this
      exact fun e => hn (e ▸ ha)
theorem dd_nodup (l : List α) : (dd l).Nodup := foldl_nodup l [] List.nodup_nil
def ord (key : α → Str) (l : List α) : List α := sortP (fun a b => strLt (key a) (key b)) (dd l)
theorem ord_mem {key : α → Str} {l : List α} {z : α} : z ∈ ord key l ↔ z ∈ l := by
  unfold ord
  rw [sortP_mem, dd_mem]
theorem ord_len (key : α → Str) (l : List α) : (ord key l).length ≤ l.length := by
  unfold ord
  rw [sortP_len]
  exact dd_len l
def Srt (key : α → Str) (l : List α) : Prop := l.Pairwise fun a b => strLt (key a) (key b) = true
theorem insP_srt {key : α → Str} {x : α} : ∀ {l : List α}, (∀ y ∈ l, key y ≠ key x) → Srt key l → Srt key (insP (fun a b => strLt (key a) (key b)) x l)
  | [], _, _ => by simp [insP, Srt]
  | y :: ys, hn, h => by
    unfold Srt at h
    rw [List.pairwise_cons] at h
    unfold insP
    split
    · next hlt =>
      unfold Srt
      rw [List.pairwise_cons]
      refine ⟨fun z hz => ?_, insP_srt (fun z hz => hn z (List.mem_cons_of_mem _ hz)) h.2⟩
      rcases insP_mem.mp hz with rfl | hz
      · exact hlt
      · exact h.1 z hz
    · next hlt =>
      have hlt : strLt (key y) (key x) = false := by simpa using hlt
      have hxy : strLt (key x) (key y) = true := by
        cases q : strLt (key x) (key y) with
        | true => rfl
        | false => exact absurd (strLt_tri hlt q) (hn y (List.mem_cons_self ..))
      unfold Srt
      rw [List.pairwise_cons, List.pairwise_cons]
      refine ⟨fun z hz => ?_, h⟩
      rcases List.mem_cons.mp hz with rfl | hz
      · exact hxy
      · exact strLt_trans hxy (h.1 z hz)
theorem sortP_srt {key : α → Str} : ∀ {l : List α}, l.Nodup → (∀ x ∈ l, ∀ y ∈ l, key x = key y → x = y) → Srt key (sortP (fun a b => strLt (key a) (key b)) l)
  | [], _, _ => List.Pairwise.nil
  | x :: l, hd, inj => by
    rw [List.nodup_cons] at hd
    rw [sortP]
    refine insP_srt (fun y hy e => ?_) (sortP_srt hd.2 fun a ha b hb => inj a (List.mem_cons_of_mem _ ha) b (List.mem_cons_of_mem _ hb))
    have hy := sortP_mem.mp hy
    exact hd.1 (inj y (List.mem_cons_of_mem _ hy) x (List.mem_cons_self ..) e ▸ hy)
theorem ord_srt {key : α → Str} {l : List α} (inj : ∀ x ∈ l, ∀ y ∈ l, key x = key y → x = y) : Srt key (ord key l) :=
  sortP_srt (dd_nodup l) fun x hx y hy => inj x (dd_mem.mp hx) y (dd_mem.mp hy)
theorem srt_uniq {key : α → Str} : ∀ {l m : List α}, Srt key l → Srt key m → (∀ z, z ∈ l ↔ z ∈ m) → l = m
  | [], [], _, _, _ => rfl
  | [], y :: m, _, _, h => absurd ((h y).mpr (List.mem_cons_self ..)) (by simp)
  | x :: l, [], _, _, h => absurd ((h x).mp (List.mem_cons_self ..)) (by simp)
  | x :: l, y :: m, h1, h2, h => by
    unfold Srt at h1 h2
    rw [List.pairwise_cons] at h1 h2
    have e : x = y := by
      rcases List.mem_cons.mp ((h x).mp (List.mem_cons_self ..)) with e | hx
      · exact e
      · rcases List.mem_cons.mp ((h y).mpr (List.mem_cons_self ..)) with e | hy
        · exact e.symm
        · have a := h2.1 x hx
          have b := h1.1 y hy
          have c := strLt_trans a b
          rw [strLt_irrefl] at c
          cases c
    subst e
    congr 1
    refine srt_uniq h1.2 h2.2 fun z => ?_
    have hz := h z
    have n1 : x ∉ l := fun q => by have := h1.1 x q; rw [strLt_irrefl] at this; cases this
    have n2 : x ∉ m := fun q => by have := h2.1 x q; rw [strLt_irrefl] at this; cases this
    by_cases e : z = x
    · subst e
      exact ⟨fun q => absurd q n1, fun q => absurd q n2⟩
    · rw [List.mem_cons, List.mem_cons] at hz
      constructor
      · intro q
        rcases hz.mp (.inr q) with q | q
        · exact absurd q e
        · exact q
      · intro q
        rcases hz.mpr (.inr q) with q | q
        · exact absurd q e
        · exact q
/-- the row in order hangs on what is in it alone -/
theorem ord_eq {key : α → Str} {l m : List α} (inj : ∀ x ∈ l, ∀ y ∈ l, key x = key y → x = y) (h : ∀ z, z ∈ l ↔ z ∈ m) : ord key l = ord key m :=
  srt_uniq (ord_srt inj) (ord_srt fun x hx y hy => inj x ((h x).mpr hx) y ((h y).mpr hy)) fun z => by rw [ord_mem, ord_mem, h z]
theorem ord_ord {key : α → Str} {l : List α} (inj : ∀ x ∈ l, ∀ y ∈ l, key x = key y → x = y) : ord key (ord key l) = ord key l :=
  (ord_eq inj fun z => ord_mem.symm).symm
/-! dicts by keys -/
variable {dat : α → D}
def entry (key : α → Str) (dat : α → D) (p : α) : Key × D := (.inr (key p), dat p)
theorem put_entry {key : α → Str} {acc : List α} {p : α} (inj : ∀ q ∈ acc, key q = key p → q = p) : putKD (acc.map (entry key dat)) (.inr (key p)) (dat p) = (addD acc p).map (entry key dat) := by
  unfold putKD addD
  by_cases z : p ∈ acc
  · rw [if_pos z, if_pos (by rw [List.any_eq_true]; exact ⟨entry key dat p, List.mem_map_of_mem z, by simp [entry]⟩)]
    rw [List.map_map]
    refine List.map_congr_left fun q hq => ?_
    simp only [Function.comp, entry]
    by_cases e1 : key q = key p
    · have e2 := inj q hq e1
      subst e2
      simp
    · simp [e1]
  · rw [if_neg z, if_neg (by
      rw [List.any_eq_true]
      rintro ⟨x, hx, e⟩
      obtain ⟨q, hq, rfl⟩ := List.mem_map.mp hx
      have e1 : key q = key p := Sum.inr.inj (of_decide_eq_true e)
      rw [inj q hq e1] at hq
      exact z hq)]
    rw [List.map_append]
    rfl
theorem val_entry {key : α → Str} : ∀ {acc : List α} {p : α}, p ∈ acc → (∀ q ∈ acc, key q = key p → q = p) → valD (acc.map (entry key dat)) (.inr (key p)) = some (dat p)
  | [], _, h, _ => by cases h
  | q :: acc, p, h, inj => by
    rw [List.map_cons, entry, valD]
    split
    · next e =>
      have e1 : key q = key p := Sum.inr.inj e
      rw [inj q (List.mem_cons_self ..) e1]
    · next e =>
      rcases List.mem_cons.mp h with rfl | h
      · exact absurd rfl e
      · exact val_entry h fun q hq => inj q (List.mem_cons_of_mem _ hq)
theorem zip_entry (key : α → Str) (l : List α) : ((l.map (entry key dat)).map (·.1)).zip ((l.map (entry key dat)).map (·.2)) = l.map (entry key dat) := by
  induction l with
  | nil => rfl
  | cons p l ih => rw [List.map_cons, List.map_cons, List.map_cons, List.zip_cons_cons, ih]
/-- sorted keys, each looked up -/
theorem sorted_tail {gd : Hd → Bool} {h : Hd} {key : α → Str} {l : List α} {σ : Mi.Env} {x : D} (j : Nat) (hj : j ≠ 1) (hn : l.length ≤ 63) (inj : ∀ p ∈ l, ∀ q ∈ l, key q = key p → q = p) (e1 : σ[1]? = some (some x)) (l4 : j < σ.length)
    (hi : itAll h x = some ⟨l.map fun p => .str (key p), gd⟩) (hg : gd h = true) (hd : asDct h x = some (l.map (entry key dat))) :
    ePN tupP (eCons (eTmp (lComp (iAll (eTmp (lPN sortL (eCons (eTmp (lComp (iAll (eVar 1)) (aNm j) tYesM (ePN strP (eCons (eVar j) eNil)) [j])) eNil)))) (aNm j) tYesM (eOp itemP (eVar 1) (eVar j)) [j])) eNil) σ h = .ok (.tup ((sortP (fun a b => strLt (key a) (key b)) l).map dat)) h := by
  have wv : wipeD σ [j] = σ.set j none := rfl
  have c1 := comp_map (a := aNm j) (e := ePN strP (eCons (eVar j) eNil)) (gd := gd) (σ := wipeD σ [j]) (h := h) id hg (l.map fun p => .str (key p)) (fun y hy => by
    obtain ⟨p, _, rfl⟩ := List.mem_map.mp hy
    refine ⟨_, rfl, ePN_ok (h1 := h) (xs := [.str (key p)]) (eCons_ok (h1 := h) (x := .str (key p)) ?_ rfl) rfl⟩
    unfold eVar
    rw [wv, List.set_set, List.getElem?_set_self l4])
  rw [List.map_id] at c1
  have s1 : lPN sortL (eCons (eTmp (lComp (iAll (eVar 1)) (aNm j) tYesM (ePN strP (eCons (eVar j) eNil)) [j])) eNil) σ h = .ok ((sortP (fun a b => strLt (key a) (key b)) l).map fun p => .str (key p)) h := by
    have i1 : iAll (eVar 1) σ h = .ok ⟨l.map fun p => .str (key p), gd⟩ h := by
      unfold iAll eVar
      rw [e1]
      simp only [bind_ok]
      rw [hi, ofO_some]
    unfold lPN
    rw [eCons_ok (eTmp_ok (lComp_ok i1 c1 (by rw [List.length_map]; omega))) rfl, bind_ok]
    unfold sortL
    simp only [asL, Option.bind_some]
    rw [strs_map, Option.bind_some, if_pos (by rw [List.length_map]; omega), ofO_some, sortS_map, List.map_map]
    rfl
  have c2 := comp_map (a := aNm j) (e := eOp itemP (eVar 1) (eVar j)) (gd := always) (σ := wipeD σ [j]) (h := h) (fun y => (match asKey y with | some k => (valD (l.map (entry key dat)) k).getD .non | none => .non)) rfl ((sortP (fun a b => strLt (key a) (key b)) l).map fun p => .str (key p)) (fun y hy => by
    obtain ⟨p, hp, rfl⟩ := List.mem_map.mp hy
    have hp' := sortP_mem.mp hp
    have v := val_entry (dat := dat) hp' (fun q hq e => inj p hp' q hq e)
    refine ⟨_, rfl, eOp_ok (h1 := h) (h2 := h) (x := x) (y := .str (key p)) ?_ ?_ ?_⟩
    · unfold eVar
      rw [wv, List.set_set, List.getElem?_set_ne hj, e1]
    · unfold eVar
      rw [wv, List.set_set, List.getElem?_set_self l4]
    · unfold itemP
      rw [hd]
      simp only [asKey, Option.bind_some, v, Option.getD_some])
  have m2 : (((sortP (fun a b => strLt (key a) (key b)) l).map fun p => D.str (key p)).map fun y => (match asKey y with | some k => (valD (l.map (entry key dat)) k).getD .non | none => .non)) = (sortP (fun a b => strLt (key a) (key b)) l).map dat := by
    rw [List.map_map]
    refine List.map_congr_left fun p hp => ?_
    have hp' := sortP_mem.mp hp
    have v := val_entry (dat := dat) hp' (fun q hq e => inj p hp' q hq e)
    simp only [Function.comp, asKey, v, Option.getD_some]
  rw [m2] at c2
  have lx : (sortP (fun a b => strLt (key a) (key b)) l).length ≤ 63 := by rw [sortP_len]; exact hn
  refine ePN_ok (eCons_ok (eTmp_ok (lComp_ok (itm := ⟨_, always⟩) (h1 := h) ?_ c2 (by rw [List.length_map]; omega))) rfl) rfl
  exact iAll_ok (eTmp_ok s1) rfl
end
/-! ### tests and statements, one by one -/
section
variable {a b : E} {t u : ET} {s1 s2 : S} {σ σ' : Mi.Env} {h h1 h2 : Hd} {d x : D} {c : Bool} {r : SR}
theorem tVal_ok (e : a σ h = .ok (.bl c) h1) : tVal a σ h = .ok c h1 := by unfold tVal; rw [e, bind_ok]
theorem tOpT_ok {F : P2} (e : eOp F a b σ h = .ok (.bl c) h1) : tOpT F a b σ h = .ok c h1 := tVal_ok e
theorem tNot_ok (e : t σ h = .ok c h1) : tNotM t σ h = .ok (!c) h1 := by unfold tNotM; rw [e, bind_ok]
theorem tOr_t (e : t σ h = .ok true h1) : tOrM t u σ h = .ok true h1 := by unfold tOrM; rw [e, bind_ok, if_pos rfl]
theorem tOr_f (e : t σ h = .ok false h1) : tOrM t u σ h = u σ h1 := by unfold tOrM; rw [e, bind_ok, if_neg (by simp)]
theorem tAnd_t (e : t σ h = .ok true h1) : tAndM t u σ h = u σ h1 := by unfold tAndM; rw [e, bind_ok, if_pos rfl]
theorem tAnd_f (e : t σ h = .ok false h1) : tAndM t u σ h = .ok false h1 := by unfold tAndM; rw [e, bind_ok, if_neg (by simp)]
theorem sIf_t (e : t σ h = .ok true h1) : sIf t s1 s2 σ h = s1 σ h1 := by unfold sIf; rw [e, bindS_ok, if_pos rfl]
theorem sIf_f (e : t σ h = .ok false h1) : sIf t s1 s2 σ h = s2 σ h1 := by unfold sIf; rw [e, bindS_ok, if_neg (by simp)]
theorem eIf_t (e : t σ h = .ok true h1) : eIf t a b σ h = a σ h1 := by unfold eIf; rw [e, bind_ok, if_pos rfl]
theorem eIf_f (e : t σ h = .ok false h1) : eIf t a b σ h = b σ h1 := by unfold eIf; rw [e, bind_ok, if_neg (by simp)]
theorem eAnd_t (e : a σ h = .ok (.bl true) h1) : eAnd a b σ h = b σ h1 := by unfold eAnd; rw [e, bind_ok]
theorem eAnd_f (e : a σ h = .ok (.bl false) h1) : eAnd a b σ h = .ok (.bl false) h1 := by unfold eAnd; rw [e, bind_ok]
theorem eOr_t (e : a σ h = .ok (.bl true) h1) : eOr a b σ h = .ok (.bl true) h1 := by unfold eOr; rw [e, bind_ok]
theorem eOr_f (e : a σ h = .ok (.bl false) h1) : eOr a b σ h = b σ h1 := by unfold eOr; rw [e, bind_ok]
theorem eNot_ok (e : a σ h = .ok (.bl c) h1) : eNot a σ h = .ok (.bl (!c)) h1 := by unfold eNot; rw [e, bind_ok]
theorem sSeq_exc {C : Addr} {fs : Option (List (Str × D))} (e : s1 σ h = .exc C fs σ' h1) : sSeq s1 s2 σ h = .exc C fs σ' h1 := by unfold sSeq; rw [e]
theorem sSeq_ret (e : s1 σ h = .ret d h1) : sSeq s1 s2 σ h = .ret d h1 := by unfold sSeq; rw [e]
theorem run_exc {np n : Nat} {m : S} {ds : List D} {C : Addr} {fs : Option (List (Str × D))} (hl : ds.length = np) (e : m (ds.map some ++ List.replicate (n - np) none) h = .exc C fs σ' h1) : runFn np n m ds h = .exc C fs h1 := by
  unfold runFn
  rw [if_pos hl, e]
theorem run_nx {np n : Nat} {m : S} {ds : List D} (hl : ds.length = np) (e : m (ds.map some ++ List.replicate (n - np) none) h = .nx σ' h1) : runFn np n m ds h = .ok .non h1 := by
  unfold runFn
  rw [if_pos hl, e]
theorem eBm_ok {F : Hd → D → List D → Option D} {tc : Hd → D → Bool} {o : E} {a : EA} {as : List D} (e1 : o σ h = .ok x h1) (et : tc h1 x = true) (e2 : a σ h1 = .ok as h2) (e3 : F h2 x as = some d) : eBm F tc o a σ h = .ok d h2 := by
  unfold eBm
  rw [e1, bind_ok, if_pos et, e2, bind_ok, e3, ofO_some]
theorem lBm_ok {F : Hd → D → List D → Option (List D)} {tc : Hd → D → Bool} {o : E} {a : EA} {as ds : List D} (e1 : o σ h = .ok x h1) (et : tc h1 x = true) (e2 : a σ h1 = .ok as h2) (e3 : F h2 x as = some ds) : lBm F tc o a σ h = .ok ds h2 := by
  unfold lBm
  rw [e1, bind_ok, if_pos et, e2, bind_ok, e3, ofO_some]
theorem eNew_ok {m : EL} {ds : List D} (q : m σ h = .ok ds h1) : eNew m σ h = .ok (.ref h1.length) (h1 ++ [.lst ds]) := by
  unfold eNew
  rw [q, bind_ok]
theorem sPar2_ok {i j : Nat} {x y : D} (e1 : a σ h = .ok x h1) (e2 : b σ h1 = .ok y h2) : sPar2 i j a b σ h = .nx ((σ.set i (some x)).set j (some y)) h2 := by
  unfold sPar2
  rw [e1, bindS_ok, e2, bindS_ok]
theorem append_ok {o : E} {a : EA} {acc : List D} {y : D} (e1 : o σ (h ++ [.lst acc]) = .ok (.ref h.length) (h ++ [.lst acc])) (e2 : a σ (h ++ [.lst acc]) = .ok [y] (h ++ [.lst acc])) (hl : acc.length ≤ 1000) : eBmM appendM isL o a σ (h ++ [.lst acc]) = .ok .non (h ++ [.lst (acc ++ [y])]) := by
  have e : (h ++ [O.lst acc])[h.length]? = some (.lst acc) := by simp
  unfold eBmM
  rw [e1, bind_ok]
  have : isL (h ++ [.lst acc]) (.ref h.length) = true := by
    unfold isL asL
    simp only [e]
    rfl
  rw [if_pos this, e2, bind_ok]
  unfold appendM asLm
  simp only [e, Option.bind_some]
  rw [if_pos (by unfold line; omega)]
  simp
end
end QG
/-! Zh: what the head of a law has to tell, as Bools and lookups; the end. -/
namespace Xn
open PySem PySem.W PySem.Calls PyProof.Rows
def scIb (sc : Scope) (ns : List Str) : Bool := (match sc.kind with | .function => true | _ => false) && !sc.isCoroutine && !sc.isGenerator && decide (sc.names.lookup ("super" : Str) = some .globalImplicit) && decide (sc.names.lookup ("__class__" : Str) = some .free) &&
  ((("self" : Str) :: ns).all fun n => decide (sc.names.lookup n = some .local)) && sc.names.all fun y => decide (y.2 ≠ .cell)
theorem scI_of {sc : Scope} {ns : List Str} (h : scIb sc ns = true) : ScI sc ns := by
  unfold scIb at h
  simp only [Bool.and_eq_true, List.all_eq_true, decide_eq_true_eq, Bool.not_eq_true'] at h
  obtain ⟨⟨⟨⟨⟨⟨h1, h2⟩, h3⟩, h4⟩, h5⟩, h6⟩, h7⟩ := h
  refine ⟨?_, h2, h3, h4, h5, h6, h7⟩
  split at h1
  · assumption
  · cases h1
def okZ (K : Frag) (C : Addr) : Bool := okCls K C bmV "ValueError.__new__" && (findIn K (.ref C) "__init__" == some (some (.builtin "ValueError.__init__")))
theorem okZ_of {K : Frag} {C : Addr} (q : okZ K C = true) : ExZ K C := by
  unfold okZ at q
  simp only [Bool.and_eq_true, beq_iff_eq] at q
  obtain ⟨nm, qn, N, bs, bm, sn, sub, ab, col, dd, k0, k1, k2, k3, k5, h1, h2⟩ := okCls_of q.1
  exact ⟨⟨nm, qn, N, bs, bm, true, sn, sub, ab, col, dd, k0, k1, k2, k3, k5, h1, h2⟩, q.2⟩
section
variable {P : Program} {w : World} {K : PySem.W.Frag} {mg : Str → Option Value} {C fI cc cda : Addr} {B i B0 newId : String} {bmB : List Value} {qual x n k : Str} {fd : FuncData} {p0 p1 p2 p3 p4 q1 q2 r0 r1 r2 r3 y0 y1 y2 y3 : Pos}
theorem sz1 : ([] : List Value).length ≤ sizeLine ∧ ∀ v u : Value, [v].length ≤ sizeLine ∧ [v, u].length ≤ sizeLine := ⟨Nat.zero_le _, fun _ _ => ⟨Rd.sz (by exact Nat.le_of_ble_eq_true rfl), Rd.sz (by exact Nat.le_of_ble_eq_true rfl)⟩⟩
/-- an own exception of one field, of two -/
theorem mp1 (NF : NewF B0 newId bmB) (FI : IniF B i) (KF : PySem.W.KxsFacts B i) (SF : StoreFacts B bmB "object.__setattr__" "object") (t : okT K C B i newId bmB = true)
    (hf : ∃ oc od osl, K.lookup fI = some ⟨oc, od, .func fd, osl⟩) (sh : fd.globals = mainGlobals ∧ fd.builtins = builtinsNs ∧ fd.closure = [((("__class__" : Str)), cc)] ∧ fd.code = .ref cda ∧ fd.qualname = qual) (o : okI P K C fI cc cda qual [n] = true)
    (par : ∃ ar, (fd.params.posonlyargs ++ fd.params.args).head? = some ar ∧ ar.arg = "self") (S : ScI fd.scope [n]) (hbody : fd.body = .stmts [supX [.Name n q1] p0 p1 p2 p3 p4, keepX n r0 r1 r2 r3]) (hev : EvOk fd fI [.Name n q1] p0 p1 p2 p3)
    (hne : n ≠ "self") (hd : (n == ("__debug__" : Str)) = false) (b1 : ∀ (s : Shared) (x v : Value), BindsTo s fd ⟨[x, v], []⟩ [("self", x), (n, v)]) (us : List Value) (hl : us.length = [n].length) : Mks P w K mg C us [] ([n].zip us).reverse := by
  obtain ⟨I, j1, j2, j3⟩ := okI_of o hf sh
  have X : ExC P K C fI cc cda B i B0 newId bmB qual fd := ⟨NF, FI, KF, SF, okT_of t, I, par, j1, j2⟩
  have hn := j3 n (by simp)
  match us, hl with
  | [v], _ => exact mks1 X S hbody hev hne hd hn (sz1.2 v v).1 (fun s x => b1 s x v)
theorem mp2 (NF : NewF B0 newId bmB) (FI : IniF B i) (KF : PySem.W.KxsFacts B i) (SF : StoreFacts B bmB "object.__setattr__" "object") (t : okT K C B i newId bmB = true)
    (hf : ∃ oc od osl, K.lookup fI = some ⟨oc, od, .func fd, osl⟩) (sh : fd.globals = mainGlobals ∧ fd.builtins = builtinsNs ∧ fd.closure = [((("__class__" : Str)), cc)] ∧ fd.code = .ref cda ∧ fd.qualname = qual) (o : okI P K C fI cc cda qual [n, k] = true)
    (par : ∃ ar, (fd.params.posonlyargs ++ fd.params.args).head? = some ar ∧ ar.arg = "self") (S : ScI fd.scope [n, k]) (hbody : fd.body = .stmts [supX [.Name n q1, .Name k q2] p0 p1 p2 p3 p4, keepX n r0 r1 r2 r3, keepX k y0 y1 y2 y3]) (hev : EvOk fd fI [.Name n q1, .Name k q2] p0 p1 p2 p3)
    (hne : n ≠ "self") (hke : k ≠ "self") (hnk : n ≠ k) (hd : (n == ("__debug__" : Str)) = false) (hd2 : (k == ("__debug__" : Str)) = false)
    (b1 : ∀ (s : Shared) (x v u : Value), BindsTo s fd ⟨[x, v, u], []⟩ [("self", x), (n, v), (k, u)]) (us : List Value) (hl : us.length = [n, k].length) : Mks P w K mg C us [] ([n, k].zip us).reverse := by
  obtain ⟨I, j1, j2, j3⟩ := okI_of o hf sh
  have X : ExC P K C fI cc cda B i B0 newId bmB qual fd := ⟨NF, FI, KF, SF, okT_of t, I, par, j1, j2⟩
  have hn := j3 n (by simp)
  have hk := j3 k (by simp)
  match us, hl with
  | [v, u], _ => exact mks2 X S hbody hev hne hke hnk hd hd2 hn hk (sz1.2 v u).2 (fun s x => b1 s x v u)
end
end Xn
namespace Mi
open PySem L2
/-- an own class with fields -/
def okOwn (K : PySem.W.Frag) (C f : Addr) (ns : List Str) : Bool :=
  PySem.W.plainGet K C Str.empty && PySem.W.hasDictIn K C && PySem.W.plainOver K C && (PySem.W.findIn K (.ref C) "__setattr__" == some (some (.builtin "object.__setattr__"))) &&
  (PySem.W.findIn K (.ref C) "__class__" == some (some (.builtin "object.__class__"))) && (PySem.W.specialIn K (.builtin "object.__class__") "__get__" == some (some (.builtin "getset_descriptor.__get__"))) && (PySem.W.takesIn K (.builtin "object.__class__") == some true) && (PySem.W.mroIn K C (.type "object") == some true) &&
  PySem.W.makesIn K C && (PySem.W.findIn K (.ref C) "__init__" == some (some (.ref f))) && PySem.W.isFn K (.ref f) && PySem.W.keepIn K (.ref C) && ns.all fun n => PySem.W.findIn K (.ref C) n == some none
theorem okOwn_of {K : PySem.W.Frag} {C f : Addr} {ns : List Str} (h : okOwn K C f ns = true) : Cls K C ∧ ClsI K C ∧ Mk K C f ∧ ∀ n ∈ ns, NoAttr K C n := by
  unfold okOwn at h
  simp only [Bool.and_eq_true, beq_iff_eq, List.all_eq_true] at h
  obtain ⟨⟨⟨⟨⟨⟨⟨⟨⟨⟨⟨⟨h1, h2⟩, h3⟩, h4⟩, h5⟩, h6⟩, h7⟩, h8⟩, h9⟩, h10⟩, h11⟩, h12⟩, h13⟩ := h
  exact ⟨⟨h1, h2, h3, h4⟩, ⟨⟨h1, h2, h3, h4⟩, h5, h6, h7, h8⟩, ⟨h9, h10, h11, h12⟩, h13⟩
/-- a property -/
def okProp (K : PySem.W.Frag) (C : Addr) (n : Str) (p g : Addr) : Bool :=
  (PySem.W.findIn K (.ref C) n == some (some (.ref p))) && (PySem.W.specialIn K (.ref p) "__get__" == some (some (.builtin "property.__get__"))) && (PySem.W.takesIn K (.ref p) == some true) && (match PySem.W.recIn K p "property" with | some (.ref g' :: _) => g' == g | _ => false)
theorem okProp_of {K : PySem.W.Frag} {C : Addr} {n : Str} {p g : Addr} (h : okProp K C n p g = true) : PropOf K C n p g := by
  unfold okProp at h
  simp only [Bool.and_eq_true, beq_iff_eq] at h
  obtain ⟨⟨⟨h1, h2⟩, h3⟩, h4⟩ := h
  refine ⟨h1, h2, h3, ?_⟩
  split at h4
  · next g' r e => rw [beq_iff_eq.mp h4] at e; exact ⟨r, e⟩
  · cases h4
/-- own comparisons and the like -/
def okMeth (K : PySem.W.Frag) (C : Addr) (n : Str) (f : Addr) : Bool := (PySem.W.findIn K (.ref C) n == some (some (.ref f))) && PySem.W.isFn K (.ref f)
theorem okMeth_of {K : PySem.W.Frag} {C : Addr} {n : Str} {f : Addr} (h : okMeth K C n f = true) : PySem.W.findIn K (.ref C) n = some (some (.ref f)) ∧ PySem.W.isFn K (.ref f) = true := by
  unfold okMeth at h
  simp only [Bool.and_eq_true, beq_iff_eq] at h
  exact h
def okNe (K : PySem.W.Frag) (C : Addr) : Bool := (PySem.W.findIn K (.ref C) "__ne__" == some (some (.builtin "object.__ne__"))) && (PySem.W.subIn K (.ref C) (.type "object") == some true)
theorem okNe_of {K : PySem.W.Frag} {C : Addr} (h : okNe K C = true) : PySem.W.findIn K (.ref C) "__ne__" = some (some (.builtin "object.__ne__")) ∧ PySem.W.subIn K (.ref C) (.type "object") = some true := by
  unfold okNe at h
  simp only [Bool.and_eq_true, beq_iff_eq] at h
  exact h
/-- an exception class -/
def okX (K : PySem.W.Frag) (C : Addr) : Bool := PySem.W.keepIn K (.ref C) && (PySem.W.subIn K (.ref C) (.type "BaseException") == some true) && (PySem.W.typeIn K (.ref C) == some (.type "type"))
theorem okX_of {K : PySem.W.Frag} {C : Addr} (h : okX K C = true) : PySem.W.keepIn K (.ref C) = true ∧ PySem.W.subIn K (.ref C) (.type "BaseException") = some true ∧ PySem.W.typeIn K (.ref C) = some (.type "type") := by
  unfold okX at h
  simp only [Bool.and_eq_true, beq_iff_eq] at h
  exact ⟨h.1.1, h.1.2, h.2⟩
/-- a dict of the module -/
def okKD (K : PySem.W.Frag) : List (Str × D) → List DictEntry → Bool
  | [], [] => true
  | p :: r, e :: es => (match e.key with | .str x _ => x == p.1 | _ => false) && okC K p.2 e.val && okKD K r es
  | _, _ => false
theorem okKD_of {K : PySem.W.Frag} : ∀ {kvs : List (Str × D)} {es : List DictEntry}, okKD K kvs es = true → (es.any fun x => x.refKey) = false ∧ ∀ k : Str, (kvs.lookup k = none ∧ es.find? (fun x => x.key.isStr k) = none) ∨ ∃ e v dd, kvs.lookup k = some dd ∧ es.find? (fun x => x.key.isStr k) = some e ∧ RelV v e.val ∧ ∀ H ρ, RV K H ρ dd v
  | [], [], _ => ⟨rfl, fun k => .inl ⟨rfl, rfl⟩⟩
  | p :: r, e :: es, h => by
    unfold okKD at h
    simp only [Bool.and_eq_true] at h
    obtain ⟨⟨h1, h2⟩, h3⟩ := h
    obtain ⟨i1, i2⟩ := okKD_of h3
    obtain ⟨hash, key, val⟩ := e
    dsimp only at h1 h2
    split at h1
    · next x t =>
      have hx := beq_iff_eq.mp h1
      subst hx
      refine ⟨?_, fun k => ?_⟩
      · rw [List.any_cons, i1]; rfl
      · by_cases z : p.1 = k
        · refine .inr ?_
          obtain ⟨v, r1, r2⟩ := okC_of _ _ h2
          refine ⟨_, v, p.2, ?_, List.find?_cons_of_pos (by simp [Value.isStr, z]), r1, r2⟩
          obtain ⟨a, b⟩ := p
          cases z
          simp [List.lookup]
        · have e1 : (List.lookup k (p :: r)) = List.lookup k r := by
            obtain ⟨a, b⟩ := p
            rw [List.lookup]
            rw [show (k == a) = false from beq_eq_false_iff_ne.mpr fun q => z q.symm]
          rw [e1, List.find?_cons_of_neg (by simp [Value.isStr, z])]
          exact i2 k
    · cases h1
  | [], _ :: _, h => by cases h
  | _ :: _, [], h => by cases h
theorem kt_of {K : PySem.W.Frag} {d : Addr} {es : Array DictEntry} {n : Nat} {kvs : List (Str × D)} (h : K.lookup d = some { cls := .type "dict", data := .dict es n }) (ok : okKD K kvs es.toList = true) :
    ∀ k : Str, ∃ r, PySem.W.nsIn K d k = some r ∧ ((kvs.lookup k = none ∧ r = none) ∨ ∃ u v dd, kvs.lookup k = some dd ∧ r = some u ∧ RelV v u ∧ ∀ H ρ, RV K H ρ dd v) := by
  intro k
  obtain ⟨i1, i2⟩ := okKD_of ok
  unfold PySem.W.nsIn
  rw [h]
  dsimp only
  rcases i2 k with ⟨e1, e2⟩ | ⟨e, v, dd, e1, e2, e3, e4⟩
  · rw [e2]
    dsimp only
    rw [i1]
    exact ⟨none, rfl, .inl ⟨e1, rfl⟩⟩
  · rw [e2]
    exact ⟨some e.val, rfl, .inr ⟨e.val, v, dd, e1, rfl, e3, e4⟩⟩
/-- a def of the text -/
theorem funG_mk {K : PySem.W.Frag} {x qual : Str} {st : Stmt} {f : Addr} {oc kV doc pm cdv ct : Value} {od an : Option Addr} {osl : Array (Option Value)} (lk : K.lookup f = some ⟨oc, od, .func (PySem.W.fnOf x qual (defArgs st) (defBody st) (defScope st) .none kV doc pm an cdv ct), osl⟩)
    (hc : PySem.W.codeIn K cdv qual = true) (kp : PySem.W.keepIn K (.ref f) = true) : FunG K x qual st [] f := ⟨⟨oc, od, .none, kV, doc, pm, an, cdv, ct, osl, lk, hc, .inl ⟨rfl, rfl⟩⟩, kp⟩
theorem funG_mkD {K : PySem.W.Frag} {x qual : Str} {st : Stmt} {f T : Addr} {oc kV doc pm cdv ct : Value} {od an : Option Addr} {osl : Array (Option Value)} {dvs : List V} {o : Obj} {its : List Value} {n : Nat} (lk : K.lookup f = some ⟨oc, od, .func (PySem.W.fnOf x qual (defArgs st) (defBody st) (defScope st) (.ref T) kV doc pm an cdv ct), osl⟩)
    (hc : PySem.W.codeIn K cdv qual = true) (kp : PySem.W.keepIn K (.ref f) = true) (lT : K.lookup T = some o) (oT : o.data = .seq its.toArray n) (hd : dvs ≠ []) (r : Vals dvs its) : FunG K x qual st dvs f := ⟨⟨oc, od, .ref T, kV, doc, pm, an, cdv, ct, osl, lk, hc, .inr ⟨hd, T, o, its, n, rfl, lT, oT, r⟩⟩, kp⟩
theorem asks_false {P : Program} {w : World} {H : Hp} {s : Shared} {e : Value} {s' : Shared} (h : L2.CX P w [] H s (fun _ _ _ => False) e s') : False := by
  obtain ⟨_, _, _, _, _, _, _, _, _, _, _, _, q⟩ := h
  exact q
/-- the script, as the mirror has it -/
theorem script_of {K : PySem.W.Frag} {H : Hp} {a : Addr} {ns : List Int} (o : Only H) (h : SqL K H a (ns.map V.int)) :
    ∃ ρ sd hh, RH K ρ hh H ∧ RV K H ρ sd (.ref a) ∧ ((∃ q, sd = .ref q ∧ hh[q]? = some (.fro (ns.map .int))) ∨ sd = .kls (ns.map .int)) := by
  have rv : ∀ ρ, RVs K H ρ (ns.map .int) (ns.map V.int) := by
    intro ρ
    clear h
    induction ns with
    | nil => rfl
    | cons n r ih => exact ⟨_, _, rfl, rfl, ih⟩
  rcases h with h | h
  · rcases h with h | ⟨ob, h⟩
    · exfalso
      rcases o a with q | ⟨_, _, q⟩ <;> rw [q] at h <;> cases h
    · refine ⟨⟨[a], []⟩, .ref 0, [.fro (ns.map .int)], ⟨rfl, by simp, by simp, fun n b o e1 e2 => ?_⟩, ⟨a, rfl, rfl⟩, .inl ⟨0, rfl, rfl⟩⟩
      match n with
      | 0 =>
        cases e1
        cases e2
        exact ⟨_, ob, h, rv _⟩
      | n + 1 => simp at e1
  · refine ⟨⟨[], []⟩, .kls (ns.map .int), [], ⟨rfl, by simp, by simp, fun n b o e1 e2 => by simp at e1⟩, ⟨a, _, rfl, h, rv _⟩, .inr rfl⟩
/-- the end: a law that returns true in the mirror -/
theorem spD_true {K : PySem.W.Frag} {F : Fn} {H : Hp} {a : Addr} {ns : List Int} (o : Only H) (h : SqL K H a (ns.map V.int))
    (q : ∀ (hh : Hd) (sd : D), ((∃ q, sd = .ref q ∧ hh[q]? = some (.fro (ns.map .int))) ∨ sd = .kls (ns.map .int)) → ∃ h', F [sd] hh = .ok (.bl true) h') : spD K F [V.ref a] H (fun v _ => v = V.bl true) (fun _ _ _ => False) := by
  obtain ⟨ρ, sd, hh, rh, rv, hs⟩ := script_of o h
  obtain ⟨h', e⟩ := q hh sd hs
  refine ⟨ρ, [sd], hh, rh, ⟨_, _, rfl, rv, rfl⟩, ?_⟩
  rw [e]
  exact fun ρ' v H' l rh' rv => rv
/-- a law's def: true for every script -/
def spT (K : PySem.W.Frag) : Sp := fun vs H Q E => ∃ (a : Addr) (ns : List Int), vs = [.ref a] ∧ ns.length ≤ 63 ∧ Only H ∧ SqL K H a (ns.map V.int) ∧ ∀ H', Q (.bl true) H'
theorem FnG.law {P : Program} {w : World} {K : PySem.W.Frag} {mg : Str → Option Value} {base : Heap} {f : Addr} {k : Nat} {F : Fn} {fd : FuncData} {oc : Value} {od : Option Addr} {osl : Array (Option Value)} (G : FnG P w K mg base k f ["_law_script"] F) (lk : K.lookup f = some ⟨oc, od, .func fd, osl⟩)
    (q : ∀ (ns : List Int) (hh : Hd) (sd : D), ns.length ≤ 63 → ((∃ q, sd = .ref q ∧ hh[q]? = some (.fro (ns.map .int))) ∨ sd = .kls (ns.map .int)) → ∃ h', F [sd] hh = .ok (.bl true) h') : FnOk P w K mg base (L2.CX P w) k f fd ["_law_script"] (spT K) := by
  refine (G.all _ _ _ _ lk).imp fun vs H Q E ⟨a, ns, e, hl, o, hS, hq⟩ => ?_
  subst e
  obtain ⟨ρ, sd, hh, rh, rv, hs⟩ := script_of o hS
  obtain ⟨h', e⟩ := q ns hh sd hl hs
  refine ⟨ρ, [sd], hh, rh, ⟨_, _, rfl, rv, rfl⟩, ?_⟩
  rw [e]
  intro ρ' v H' l rh' rv
  cases (show v = .bl true from rv)
  exact hq H'
theorem walkM {l : PySem.W.OpenLaw} {q : Program} {loose : List Str} {XP : (Str → Option Value) → Heap → Prop} {YP : World → Heap → Prop} {d : DefRec} {K : Params → PySem.W.Frag} {kk : Nat} (hn : l.most = some 63) (hdf : d.params.defaults = []) (hr : Room kk callerA)
    (hY : ∀ (w : World) (h : Heap), YP w h → (K w.params).In h)
    (F : ∀ (w : World) (mg : Str → Option Value) (fa : Addr) (h : Heap), (K w.params).In h → h.Ns mainGlobals mg → mg d.name = some (.ref fa) →
      ∃ fd : FuncData, (∀ (s : Shared) (u : Value), BindsTo s fd ⟨[u], []⟩ [("_law_script", u)]) ∧ ∀ base : Heap, (K w.params).In base → base.Ns mainGlobals mg → FnOk l.prog w (K w.params) mg base (L2.CX l.prog w) kk fa fd ["_law_script"] (spT (K w.params))) :
    PySem.W.WalkO q loose XP YP l.row.toRowW d [] (fun f vs => PySem.call f vs) :=
  L2.walk_of (n := 63) (k := kk) (x := "_law_script") (CX := fun w => L2.CX l.prog w) (sp := fun w => spT (K w.params)) hn (by decide) hdf hr hY F (fun w H a ns hl o hS => ⟨a, ns, rfl, hl, o, hS, fun _ => rfl⟩) fun _ _ _ _ _ z => asks_false z
end Mi
/-! Zh2: more of what the head tells: methods, classmethods. -/
namespace Mi
open PySem L2
def okMethF (K : PySem.W.Frag) (C : Addr) (n : Str) (f : Addr) : Bool := (PySem.W.findIn K (.ref C) n == some (some (.ref f))) && PySem.W.isFn K (.ref f) && PySem.W.keepIn K (.ref f)
theorem okMethF_of {K : PySem.W.Frag} {C : Addr} {n : Str} {f : Addr} (h : okMethF K C n f = true) : Meth K C n f := by
  unfold okMethF at h
  simp only [Bool.and_eq_true, beq_iff_eq] at h
  exact ⟨h.1.1, h.1.2, h.2⟩
def okExcC (K : PySem.W.Frag) (D : Addr) : Bool :=
  (PySem.W.findIn K (.ref D) "__getattribute__" == some (some (.builtin "BaseException.__getattribute__"))) && (PySem.W.findIn K (.ref D) "__getattr__" == some none) && (PySem.W.subIn K (.ref D) (.type "BaseException") == some true) && PySem.W.hasDictIn K D &&
  (PySem.W.findIn K (.ref D) "__class__" == some (some (.builtin "object.__class__"))) && (PySem.W.specialIn K (.builtin "object.__class__") "__get__" == some (some (.builtin "getset_descriptor.__get__"))) && (PySem.W.takesIn K (.builtin "object.__class__") == some true) && (PySem.W.mroIn K D (.type "object") == some true)
theorem okExcC_of {K : PySem.W.Frag} {D : Addr} (h : okExcC K D = true) : ExcC K D := by
  unfold okExcC at h
  simp only [Bool.and_eq_true, beq_iff_eq] at h
  obtain ⟨⟨⟨⟨⟨⟨⟨h1, h2⟩, h3⟩, h4⟩, h5⟩, h6⟩, h7⟩, h8⟩ := h
  exact ⟨h1, h2, h3, h4, h5, h6, h7, h8⟩
def okCR (K : PySem.W.Frag) (C : Addr) : Bool := PySem.W.readsIn K C (.type "type") && (PySem.W.specialIn K (.ref C) "__getattribute__" == some (some (.builtin "type.__getattribute__")))
theorem okCR_of {K : PySem.W.Frag} {C : Addr} (h : okCR K C = true) : ClX.CRead K C (.type "type") := by
  unfold okCR at h
  simp only [Bool.and_eq_true, beq_iff_eq] at h
  exact ⟨h.1, h.2⟩
def okCM (K : PySem.W.Frag) (C : Addr) (m : Str) (p g : Addr) : Bool := (match PySem.W.findCls K (.ref C) (.type "type") m with | some (.get (.builtin i) (.ref p') .none (.ref C')) => i == "classmethod.__get__" && p' == p && C' == C | _ => false) && (match PySem.W.recIn K p "classmethod" with | some (.ref g' :: _) => g' == g | _ => false) && PySem.W.fnIn K g
theorem okCM_of {K : PySem.W.Frag} {C : Addr} {m : Str} {p g : Addr} (h : okCM K C m p g = true) : ClX.CMet K C (.type "type") m p g := by
  unfold okCM at h
  simp only [Bool.and_eq_true] at h
  obtain ⟨⟨h1, h2⟩, h3⟩ := h
  refine ⟨?_, ?_, h3⟩
  · split at h1
    · next i p' C' e =>
      simp only [Bool.and_eq_true, beq_iff_eq] at h1
      obtain ⟨⟨rfl, rfl⟩, rfl⟩ := h1
      exact e
    · cases h1
  · split at h2
    · next g' r e => rw [beq_iff_eq.mp h2] at e; exact ⟨r, e⟩
    · cases h2
end Mi
namespace PM
open PySem L2 Mi
def top (i : Nat) : Stmt := PySem.Challenge.pw_pieceasks_k49_promises_looked_at.main.body.getD i (.Pass ⟨0, 0, 0, 0⟩)
abbrev st_first_words : Stmt := top 8
abbrev st_is_promise : Stmt := top 15
abbrev st_goes_against : Stmt := top 16
abbrev st_in_order : Stmt := top 17
abbrev st_checked_pairs : Stmt := top 18
abbrev st_Promises___init__ : Stmt := inClass (top 19) 0
abbrev st_Promises_read : Stmt := inClass (top 19) 1
abbrev st_Promises___str__ : Stmt := inClass (top 19) 5
abbrev st_Promises___len__ : Stmt := inClass (top 19) 6
abbrev st_Promises___contains__ : Stmt := inClass (top 19) 7
abbrev st_Promises___eq__ : Stmt := inClass (top 19) 9
abbrev st__law_box : Stmt := top 23
abbrev st__law_take : Stmt := top 24
abbrev st__law_pick : Stmt := top 25
abbrev st__law_mixed : Stmt := top 26
abbrev st__law_methods : Stmt := top 27
abbrev st__law_lets : Stmt := top 28
abbrev st__law_is_promise : Stmt := top 29
abbrev st__law_bars : Stmt := top 30
abbrev st__law_wrong : Stmt := top 31
abbrev st__law_due : Stmt := top 32
abbrev st__law_pair : Stmt := top 33
abbrev st__law_odd : Stmt := top 34
abbrev st__law_pairs : Stmt := top 35
abbrev st__law_told : Stmt := top 36
abbrev st__law_set_right : Stmt := top 37
abbrev st_law : Stmt := top 38
structure Ad where
  c_Promises : Addr
  c_InvalidPromise : Addr
  c_AskError : Addr
  c_Misfit : Addr
  a_ARITHMETIC : Addr
  a_COMPARING : Addr
  a_TRUTH_TELLING : Addr
  a_QUIET : Addr
  a_EVERY_METHOD : Addr
  a_WORDS : Addr
  a_FIRST_WORDS : Addr
  f_first_words : Addr
  f_is_promise : Addr
  f_goes_against : Addr
  f_in_order : Addr
  f_checked_pairs : Addr
  f_Promises___init__ : Addr
  f_Promises_read : Addr
  f_Promises___str__ : Addr
  f_Promises___len__ : Addr
  f_Promises___contains__ : Addr
  f_Promises___eq__ : Addr
  f__law_box : Addr
  f__law_take : Addr
  f__law_pick : Addr
  f__law_mixed : Addr
  f__law_methods : Addr
  f__law_lets : Addr
  f__law_is_promise : Addr
  f__law_bars : Addr
  f__law_wrong : Addr
  f__law_due : Addr
  f__law_pair : Addr
  f__law_odd : Addr
  f__law_pairs : Addr
  f__law_told : Addr
  f__law_set_right : Addr
  f_law : Addr
  p_Promises_read : Addr
  x_Promises___init___0 : Addr
def d_ARITHMETIC : D := .tup [.str "add", .str "iadd", .str "imul", .str "isub", .str "mul", .str "radd", .str "rmul", .str "rsub", .str "sub"]
def d_COMPARING : D := .tup [.str "eq", .str "ge", .str "gt", .str "le", .str "lt", .str "ne"]
def d_TRUTH_TELLING : D := .tup [.str "contains", .str "eq", .str "exit", .str "ge", .str "gt", .str "le", .str "lt", .str "ne"]
def d_QUIET : D := .tup [.str "delattr", .str "delitem", .str "setattr", .str "setitem"]
def d_EVERY_METHOD : D := .tup [.str "add", .str "bool", .str "call", .str "contains", .str "delattr", .str "delitem", .str "enter", .str "eq", .str "exit", .str "ge", .str "getattr", .str "getitem", .str "gt", .str "iadd", .str "imul", .str "isub", .str "iter", .str "le", .str "len", .str "lt", .str "mul", .str "ne", .str "neg", .str "next", .str "radd", .str "rmul", .str "rsub", .str "setattr", .str "setitem", .str "sub"]
def d_WORDS : D := .tup [.str "bare", .str "calm", .str "has", .str "itself", .str "takes", .str "truth"]
def k_FIRST_WORDS : List (Str × D) := [("bool", .tup [.str "no", .str "raises", .str "yes"]), ("len", .tup [.str "empty", .str "raises", .str "some"]), ("next", .tup [.str "raises", .str "stop", .str "tells"])]
def csOf (A : Ad) : List Addr := [A.c_Promises]
structure Tx (P : Program) (w : World) (K : PySem.W.Frag) (mg : Str → Option Value) (A : Ad) : Prop where
  n_ValueError : mg "ValueError" = none
  n_all : mg "all" = none
  n_any : mg "any" = none
  n_bool : mg "bool" = none
  n_dict : mg "dict" = none
  n_enumerate : mg "enumerate" = none
  n_int : mg "int" = none
  n_isinstance : mg "isinstance" = none
  n_len : mg "len" = none
  n_list : mg "list" = none
  n_max : mg "max" = none
  n_min : mg "min" = none
  n_range : mg "range" = none
  n_sorted : mg "sorted" = none
  n_str : mg "str" = none
  n_sum : mg "sum" = none
  n_super : mg "super" = none
  n_tuple : mg "tuple" = none
  dig : PySem.W.nsIn K cStatics "sys.int_max_str_digits" = some none
  g_ARITHMETIC : mg "ARITHMETIC" = some (.ref A.a_ARITHMETIC)
  r_ARITHMETIC : ∀ H ρ, RV K H ρ d_ARITHMETIC (.ref A.a_ARITHMETIC)
  g_COMPARING : mg "COMPARING" = some (.ref A.a_COMPARING)
  r_COMPARING : ∀ H ρ, RV K H ρ d_COMPARING (.ref A.a_COMPARING)
  g_TRUTH_TELLING : mg "TRUTH_TELLING" = some (.ref A.a_TRUTH_TELLING)
  r_TRUTH_TELLING : ∀ H ρ, RV K H ρ d_TRUTH_TELLING (.ref A.a_TRUTH_TELLING)
  g_QUIET : mg "QUIET" = some (.ref A.a_QUIET)
  r_QUIET : ∀ H ρ, RV K H ρ d_QUIET (.ref A.a_QUIET)
  g_EVERY_METHOD : mg "EVERY_METHOD" = some (.ref A.a_EVERY_METHOD)
  r_EVERY_METHOD : ∀ H ρ, RV K H ρ d_EVERY_METHOD (.ref A.a_EVERY_METHOD)
  g_WORDS : mg "WORDS" = some (.ref A.a_WORDS)
  r_WORDS : ∀ H ρ, RV K H ρ d_WORDS (.ref A.a_WORDS)
  g_FIRST_WORDS : mg "FIRST_WORDS" = some (.ref A.a_FIRST_WORDS)
  kd_FIRST_WORDS : ∃ es n, KDict K w A.a_FIRST_WORDS es n
  kt_FIRST_WORDS : ∀ k : Str, ∃ r, PySem.W.nsIn K A.a_FIRST_WORDS k = some r ∧ ((k_FIRST_WORDS.lookup k = none ∧ r = none) ∨ ∃ u v dd, k_FIRST_WORDS.lookup k = some dd ∧ r = some u ∧ RelV v u ∧ ∀ H ρ, RV K H ρ dd v)
  g_Promises : mg "Promises" = some (.ref A.c_Promises)
  cl_Promises : Cls K A.c_Promises
  mkc_Promises : Mk K A.c_Promises A.f_Promises___init__
  na_Promises_pairs : NoAttr K A.c_Promises "pairs"
  ci : ∀ C ∈ csOf A, ClsI K C
  g_InvalidPromise : mg "InvalidPromise" = some (.ref A.c_InvalidPromise)
  kp_InvalidPromise : PySem.W.keepIn K (.ref A.c_InvalidPromise) = true
  sb_InvalidPromise : PySem.W.subIn K (.ref A.c_InvalidPromise) (.type "BaseException") = some true
  ty_InvalidPromise : PySem.W.typeIn K (.ref A.c_InvalidPromise) = some (.type "type")
  mk_InvalidPromise : ∀ us : List Value, us.length = (["at"] : List Str).length → Xn.Mks P w K mg A.c_InvalidPromise us [] ((["at"] : List Str).zip us).reverse
  g_AskError : mg "AskError" = some (.ref A.c_AskError)
  g_Misfit : mg "Misfit" = some (.ref A.c_Misfit)
  xf_InvalidPromise : XfC K A.c_InvalidPromise
  xc_InvalidPromise : ExcC K A.c_InvalidPromise
  ex_InvalidPromise : PySem.W.exmOne K (.ref A.c_InvalidPromise) (.ref A.c_InvalidPromise) = some true
  no_InvalidPromise_at : PySem.W.findIn K (.ref A.c_InvalidPromise) "at" = some none
  cr_Promises : ClX.CRead K A.c_Promises (.type "type")
  cm_Promises_read : ClX.CMet K A.c_Promises (.type "type") "read" A.p_Promises_read A.f_Promises_read
  dv_Promises___init___0 : ∀ H ρ, RV K H ρ (.tup []) (.ref A.x_Promises___init___0)
  F_first_words : FunG K "first_words" "first_words" st_first_words [] A.f_first_words
  g_first_words : mg "first_words" = some (.ref A.f_first_words)
  F_is_promise : FunG K "is_promise" "is_promise" st_is_promise [] A.f_is_promise
  g_is_promise : mg "is_promise" = some (.ref A.f_is_promise)
  F_goes_against : FunG K "goes_against" "goes_against" st_goes_against [] A.f_goes_against
  g_goes_against : mg "goes_against" = some (.ref A.f_goes_against)
  F_in_order : FunG K "in_order" "in_order" st_in_order [] A.f_in_order
  g_in_order : mg "in_order" = some (.ref A.f_in_order)
  F_checked_pairs : FunG K "checked_pairs" "checked_pairs" st_checked_pairs [] A.f_checked_pairs
  g_checked_pairs : mg "checked_pairs" = some (.ref A.f_checked_pairs)
  F_Promises___init__ : FunG K "__init__" "Promises.__init__" st_Promises___init__ [.ref A.x_Promises___init___0] A.f_Promises___init__
  F_Promises_read : FunG K "read" "Promises.read" st_Promises_read [] A.f_Promises_read
  F_Promises___str__ : FunG K "__str__" "Promises.__str__" st_Promises___str__ [] A.f_Promises___str__
  F_Promises___len__ : FunG K "__len__" "Promises.__len__" st_Promises___len__ [] A.f_Promises___len__
  F_Promises___contains__ : FunG K "__contains__" "Promises.__contains__" st_Promises___contains__ [] A.f_Promises___contains__
  F_Promises___eq__ : FunG K "__eq__" "Promises.__eq__" st_Promises___eq__ [] A.f_Promises___eq__
  F__law_box : FunG K "_law_box" "_law_box" st__law_box [] A.f__law_box
  g__law_box : mg "_law_box" = some (.ref A.f__law_box)
  F__law_take : FunG K "_law_take" "_law_take" st__law_take [] A.f__law_take
  g__law_take : mg "_law_take" = some (.ref A.f__law_take)
  F__law_pick : FunG K "_law_pick" "_law_pick" st__law_pick [] A.f__law_pick
  g__law_pick : mg "_law_pick" = some (.ref A.f__law_pick)
  F__law_mixed : FunG K "_law_mixed" "_law_mixed" st__law_mixed [] A.f__law_mixed
  g__law_mixed : mg "_law_mixed" = some (.ref A.f__law_mixed)
  F__law_methods : FunG K "_law_methods" "_law_methods" st__law_methods [] A.f__law_methods
  g__law_methods : mg "_law_methods" = some (.ref A.f__law_methods)
  F__law_lets : FunG K "_law_lets" "_law_lets" st__law_lets [] A.f__law_lets
  g__law_lets : mg "_law_lets" = some (.ref A.f__law_lets)
  F__law_is_promise : FunG K "_law_is_promise" "_law_is_promise" st__law_is_promise [] A.f__law_is_promise
  g__law_is_promise : mg "_law_is_promise" = some (.ref A.f__law_is_promise)
  F__law_bars : FunG K "_law_bars" "_law_bars" st__law_bars [] A.f__law_bars
  g__law_bars : mg "_law_bars" = some (.ref A.f__law_bars)
  F__law_wrong : FunG K "_law_wrong" "_law_wrong" st__law_wrong [] A.f__law_wrong
  g__law_wrong : mg "_law_wrong" = some (.ref A.f__law_wrong)
  F__law_due : FunG K "_law_due" "_law_due" st__law_due [] A.f__law_due
  g__law_due : mg "_law_due" = some (.ref A.f__law_due)
  F__law_pair : FunG K "_law_pair" "_law_pair" st__law_pair [] A.f__law_pair
  g__law_pair : mg "_law_pair" = some (.ref A.f__law_pair)
  F__law_odd : FunG K "_law_odd" "_law_odd" st__law_odd [] A.f__law_odd
  g__law_odd : mg "_law_odd" = some (.ref A.f__law_odd)
  F__law_pairs : FunG K "_law_pairs" "_law_pairs" st__law_pairs [] A.f__law_pairs
  g__law_pairs : mg "_law_pairs" = some (.ref A.f__law_pairs)
  F__law_told : FunG K "_law_told" "_law_told" st__law_told [] A.f__law_told
  g__law_told : mg "_law_told" = some (.ref A.f__law_told)
  F__law_set_right : FunG K "_law_set_right" "_law_set_right" st__law_set_right [] A.f__law_set_right
  g__law_set_right : mg "_law_set_right" = some (.ref A.f__law_set_right)
  F_law : FunG K "law" "law" st_law [] A.f_law
  g_law : mg "law" = some (.ref A.f_law)
  own_Promises___eq__ : PySem.W.findIn K (.ref A.c_Promises) "__eq__" = some (some (.ref A.f_Promises___eq__))
  fn_Promises___eq__ : PySem.W.isFn K (.ref A.f_Promises___eq__) = true
  own_Promises___str__ : PySem.W.findIn K (.ref A.c_Promises) "__str__" = some (some (.ref A.f_Promises___str__))
  fn_Promises___str__ : PySem.W.isFn K (.ref A.f_Promises___str__) = true
  own_Promises___len__ : PySem.W.findIn K (.ref A.c_Promises) "__len__" = some (some (.ref A.f_Promises___len__))
  fn_Promises___len__ : PySem.W.isFn K (.ref A.f_Promises___len__) = true
  own_Promises___contains__ : PySem.W.findIn K (.ref A.c_Promises) "__contains__" = some (some (.ref A.f_Promises___contains__))
  fn_Promises___contains__ : PySem.W.isFn K (.ref A.f_Promises___contains__) = true
  ne_Promises : PySem.W.findIn K (.ref A.c_Promises) "__ne__" = some (some (.builtin "object.__ne__"))
  ob_Promises : PySem.W.subIn K (.ref A.c_Promises) (.type "object") = some true
end PM
namespace PM
open PySem L2 Mi
section
variable {P : Program} {w : World} {K : PySem.W.Frag} {mg : Str → Option Value} {base : Heap} {A : Ad}
def N_first_words : List Str := ["method"]
theorem sc_first_words : FnScope N_first_words ["method"] (defScope st_first_words) :=
  ⟨rfl, rfl, rfl, by decide +kernel, rfl, by decide +kernel, by decide +kernel⟩
abbrev m_first_words (K : PySem.W.Frag) (A : Ad) : S := (sSeq (sIf (tOrM (tOpT inP (eVar 0) (eC d_ARITHMETIC)) (tOpT inP (eVar 0) (eC d_COMPARING))) (sRet (eTup (eCons (eC (.str "declines")) (eCons (eC (.str "raises")) (eCons (eC (.str "tells")) eNil))))) sNext)
  (sSeq (sIf (tOpT inP (eVar 0) (eC d_QUIET)) (sRet (eTup (eCons (eC (.str "done")) (eCons (eC (.str "raises")) eNil)))) sNext)
  (sRet (eKGet k_FIRST_WORDS (eVar 0) (eTup (eCons (eC (.str "raises")) (eCons (eC (.str "tells")) eNil)))))))
def f_first_words (K : PySem.W.Frag) (A : Ad) : Fn := runFn 1 1 (m_first_words K A)
theorem ok_first_words (T : Tx P w K mg A) : FnG P w K mg base 1 A.f_first_words ["method"] (f_first_words K A) :=
  fnG_mk (k := 0) T.F_first_words sc_first_words (fun _ _ _ _ _ _ us hl => match us, hl with | [_], _ => rfl) fun cdv A' outer s H E hr => by
  have S := sc_first_words
  have tk := tkF (P := P) (w := w) (K := K) (mg := mg) (base := base) (N := N_first_words) (qual := "first_words") (scope := defScope st_first_words) (f := A.f_first_words) (cd := cdv) (A := A') (outer := outer) (s := s) (H := H) (E := E)
  have hp := hpF (P := P) (w := w) (K := K) (mg := mg) (base := base) (N := N_first_words) (qual := "first_words") (scope := defScope st_first_words) (f := A.f_first_words) (cd := cdv) (A := A') (outer := outer) (s := s) (H := H) (E := E)
  exact (css_cons (cs_if (CW.t (cw_or (ct_cmp (op_inP (u65 hr)) (ce_var 0) (ce_c (pe_glob (v := .ref A.a_ARITHMETIC) rfl T.g_ARITHMETIC rfl) T.r_ARITHMETIC) (by rfl)) (cw_or1 (ct_cmp (op_inP (u65 hr)) (ce_var 0) (ce_c (pe_glob (v := .ref A.a_COMPARING) rfl T.g_COMPARING rfl) T.r_COMPARING) (by rfl))))) (css_one (cs_ret (ce_tup (ca_cons ce_str (ca_cons ce_str (ca_cons ce_str ca_nil)))))) css_nil)
  (css_cons (cs_if (ct_cmp (op_inP (u65 hr)) (ce_var 0) (ce_c (pe_glob (v := .ref A.a_QUIET) rfl T.g_QUIET rfl) T.r_QUIET) (by rfl)) (css_one (cs_ret (ce_tup (ca_cons ce_str (ca_cons ce_str ca_nil))))) css_nil)
  (css_one (cs_ret (ce_kget T.kd_FIRST_WORDS T.kt_FIRST_WORDS T.g_FIRST_WORDS rfl (ce_var 0) (ce_tup (ca_cons ce_str (ca_cons ce_str ca_nil))) ⟨rfl, rfl, rfl, rfl⟩)))))
def N_is_promise : List Str := ["value", "word", "method", "one"]
theorem sc_is_promise : FnScope N_is_promise ["value"] (defScope st_is_promise) :=
  ⟨rfl, rfl, rfl, by decide +kernel, rfl, by decide +kernel, by decide +kernel⟩
abbrev m_is_promise (K : PySem.W.Frag) (A : Ad) : S := (sSeq (sIf (tOrM (tNotM (tVal (ePN (isiP K (csOf A)) (eCons (eVar 0) (eCons (eC (.ty "tuple")) eNil))))) (tOrM (tOpT neP (ePN lenP (eCons (eVar 0) eNil)) (eC (.int 2))) (tNotM (tVal (ePN allP (eCons (eTmp (lComp (iAll (eVar 0)) (aNm 3) tYesM (ePN (isiP K (csOf A)) (eCons (eVar 3) (eCons (eC (.ty "str")) eNil))) [3])) eNil)))))) (sRet (eC (.bl false))) sNext)
  (sSeq (sAsg (eVar 0) (gPat (aTup (aCons (aNm 1) (aCons (aNm 2) aNil)))))
  (sSeq (sIf (tOrM (tOpT notInP (eVar 1) (eC d_WORDS)) (tOpT notInP (eVar 2) (eC d_EVERY_METHOD))) (sRet (eC (.bl false))) sNext)
  (sSeq (sIf (tOpT eqP (eVar 1) (eC (.str "takes"))) (sRet (eOr (eOp inP (eVar 2) (eC d_ARITHMETIC)) (eOp inP (eVar 2) (eC d_COMPARING)))) sNext)
  (sSeq (sIf (tOpT eqP (eVar 1) (eC (.str "truth"))) (sRet (eOp inP (eVar 2) (eC d_TRUTH_TELLING))) sNext)
  (sRet (eOr (eOp neP (eVar 1) (eC (.str "itself"))) (eAnd (eOp inP (eC (.str "tells")) (eCall (f_first_words K A) [] (eCons (eVar 2) eNil))) (eOp neP (eVar 2) (eC (.str "next")))))))))))
def f_is_promise (K : PySem.W.Frag) (A : Ad) : Fn := runFn 1 4 (m_is_promise K A)
theorem ok_is_promise (T : Tx P w K mg A) : FnG P w K mg base 2 A.f_is_promise ["value"] (f_is_promise K A) :=
  fnG_mk (k := 1) T.F_is_promise sc_is_promise (fun _ _ _ _ _ _ us hl => match us, hl with | [_], _ => rfl) fun cdv A' outer s H E hr => by
  have S := sc_is_promise
  have tk := tkF (P := P) (w := w) (K := K) (mg := mg) (base := base) (N := N_is_promise) (qual := "is_promise") (scope := defScope st_is_promise) (f := A.f_is_promise) (cd := cdv) (A := A') (outer := outer) (s := s) (H := H) (E := E)
  have hp := hpF (P := P) (w := w) (K := K) (mg := mg) (base := base) (N := N_is_promise) (qual := "is_promise") (scope := defScope st_is_promise) (f := A.f_is_promise) (cd := cdv) (A := A') (outer := outer) (s := s) (H := H) (E := E)
  exact (css_cons (cs_if (CW.t (cw_or (ct_not (ct_val (ce_callB (call_isiP T.ci) rfl T.n_isinstance (by decide +kernel) (ca_cons (ce_var 0) (ca_cons (ce_c (pe_bltn (v := .ty "tuple") rfl T.n_tuple (by decide +kernel) rfl) fun _ _ => rfl) ca_nil))))) (cw_or (ct_cmp (op_neP (u64 hr)) (ce_callB call_lenP rfl T.n_len (by decide +kernel) (ca_cons (ce_var 0) ca_nil)) ce_int (nomark _)) (cw_or1 (ct_not (ct_val (ce_callB (call_allP rfl) rfl T.n_all (by decide +kernel) (ca_cons (ce_tmp (cl_comp (own := [("one", 3)]) rfl S.nd (ci_all (ce_var 0)) (blkOk_by (N := N_is_promise) (sc := defScope st_is_promise) (by decide +kernel)) (fun _ _ _ _ _ => (pg_name (i := 3) S.nd rfl (by first | exact Or.inl rfl | exact Or.inr rfl))) (pat_nm 3) (by decide) (fun _ _ _ _ _ => cts_nil) (fun _ _ _ _ _ => (ce_callB (call_isiP T.ci) rfl T.n_isinstance (by decide +kernel) (ca_cons (ce_var 3) (ca_cons (ce_c (pe_bltn (v := .ty "str") rfl T.n_str (by decide +kernel) rfl) fun _ _ => rfl) ca_nil)))))) ca_nil)))))))) (css_one (cs_ret ce_bl)) css_nil)
  (css_cons (cs_asg (ce_var 0) (cg_pat (pg_tup rfl (pgs_cons (pg_name (i := 1) S.nd rfl (by first | exact Or.inl rfl | exact Or.inr rfl)) (pgs_cons (pg_name (i := 2) S.nd rfl (by first | exact Or.inl rfl | exact Or.inr rfl)) pgs_nil))) (pat_tup (pats_cons (pat_nm 1) (pats_cons (pat_nm 2) pats_nil)) (aCons_len (aCons_len aNil_len)))))
  (css_cons (cs_if (CW.t (cw_or (ct_cmp (op_notInP (u65 hr)) (ce_var 1) (ce_c (pe_glob (v := .ref A.a_WORDS) rfl T.g_WORDS rfl) T.r_WORDS) (by rfl)) (cw_or1 (ct_cmp (op_notInP (u65 hr)) (ce_var 2) (ce_c (pe_glob (v := .ref A.a_EVERY_METHOD) rfl T.g_EVERY_METHOD rfl) T.r_EVERY_METHOD) (by rfl))))) (css_one (cs_ret ce_bl)) css_nil)
  (css_cons (cs_if (ct_cmp (op_eqP (u64 hr)) (ce_var 1) ce_str (nomark _)) (css_one (cs_ret (ce_or (ce_cmp (op_inP (u65 hr)) (ce_var 2) (ce_c (pe_glob (v := .ref A.a_ARITHMETIC) rfl T.g_ARITHMETIC rfl) T.r_ARITHMETIC) (by rfl)) (ce_one (ce_cmp (op_inP (u65 hr)) (ce_var 2) (ce_c (pe_glob (v := .ref A.a_COMPARING) rfl T.g_COMPARING rfl) T.r_COMPARING) (by rfl)))))) css_nil)
  (css_cons (cs_if (ct_cmp (op_eqP (u64 hr)) (ce_var 1) ce_str (nomark _)) (css_one (cs_ret (ce_cmp (op_inP (u65 hr)) (ce_var 2) (ce_c (pe_glob (v := .ref A.a_TRUTH_TELLING) rfl T.g_TRUTH_TELLING rfl) T.r_TRUTH_TELLING) (by rfl)))) css_nil)
  (css_one (cs_ret (ce_or (ce_cmp (op_neP (u64 hr)) (ce_var 1) ce_str (nomark _)) (ce_one (ce_and (ce_cmp (op_inP (u65 hr)) ce_str (ce_callG (ok_first_words T) (hr.mono (by decide)) rfl T.g_first_words tk (ca_cons (ce_var 2) ca_nil)) (by rfl)) (ce_one (ce_cmp (op_neP (u64 hr)) (ce_var 2) ce_str (nomark _)))))))))))))
def N_goes_against : List Str := ["one", "other", "words"]
theorem sc_goes_against : FnScope N_goes_against ["one", "other"] (defScope st_goes_against) :=
  ⟨rfl, rfl, rfl, by decide +kernel, rfl, by decide +kernel, by decide +kernel⟩
abbrev m_goes_against (K : PySem.W.Frag) (A : Ad) : S := (sSeq (sIf (tOrM (tOpT neP (eOp itemP (eVar 0) (eC (.int 1))) (eOp itemP (eVar 1) (eC (.int 1)))) (tOpT eqP (eVar 0) (eVar 1))) (sRet (eC (.bl false))) sNext)
  (sSeq (sSet 2 (eTup (eCons (eOp itemP (eVar 0) (eC (.int 0))) (eCons (eOp itemP (eVar 1) (eC (.int 0))) eNil))))
  (sRet (eOr (eOp inP (eC (.str "bare")) (eVar 2)) (eAnd (eOp inP (eC (.str "itself")) (eVar 2)) (eOp inP (eC (.str "truth")) (eVar 2)))))))
def f_goes_against (K : PySem.W.Frag) (A : Ad) : Fn := runFn 2 3 (m_goes_against K A)
theorem ok_goes_against (T : Tx P w K mg A) : FnG P w K mg base 1 A.f_goes_against ["one", "other"] (f_goes_against K A) :=
  fnG_mk (k := 0) T.F_goes_against sc_goes_against (fun _ _ _ _ _ _ us hl => match us, hl with | [_, _], _ => rfl) fun cdv A' outer s H E hr => by
  have S := sc_goes_against
  have tk := tkF (P := P) (w := w) (K := K) (mg := mg) (base := base) (N := N_goes_against) (qual := "goes_against") (scope := defScope st_goes_against) (f := A.f_goes_against) (cd := cdv) (A := A') (outer := outer) (s := s) (H := H) (E := E)
  have hp := hpF (P := P) (w := w) (K := K) (mg := mg) (base := base) (N := N_goes_against) (qual := "goes_against") (scope := defScope st_goes_against) (f := A.f_goes_against) (cd := cdv) (A := A') (outer := outer) (s := s) (H := H) (E := E)
  exact (css_cons (cs_if (CW.t (cw_or (ct_cmp (op_neP (u64 hr)) (ce_ix (ix_item (u1 hr)) (ce_var 0) ce_int (fun _ _ => rfl)) (ce_ix (ix_item (u1 hr)) (ce_var 1) ce_int (fun _ _ => rfl)) (nomark _)) (cw_or1 (ct_cmp (op_eqP (u64 hr)) (ce_var 0) (ce_var 1) (nomark _))))) (css_one (cs_ret ce_bl)) css_nil)
  (css_cons (cs_set (i := 2) S.nd rfl (by first | exact Or.inl rfl | exact Or.inr rfl) (ce_tup (ca_cons (ce_ix (ix_item (u1 hr)) (ce_var 0) ce_int (fun _ _ => rfl)) (ca_cons (ce_ix (ix_item (u1 hr)) (ce_var 1) ce_int (fun _ _ => rfl)) ca_nil))))
  (css_one (cs_ret (ce_or (ce_cmp (op_inP (u65 hr)) ce_str (ce_var 2) (by rfl)) (ce_one (ce_and (ce_cmp (op_inP (u65 hr)) ce_str (ce_var 2) (by rfl)) (ce_one (ce_cmp (op_inP (u65 hr)) ce_str (ce_var 2) (by rfl))))))))))
def N_in_order : List Str := ["pairs", "found", "pair", "key"]
theorem sc_in_order : FnScope N_in_order ["pairs"] (defScope st_in_order) :=
  ⟨rfl, rfl, rfl, by decide +kernel, rfl, by decide +kernel, by decide +kernel⟩
abbrev m_in_order (K : PySem.W.Frag) (A : Ad) : S := (sSeq (sSet 1 (eDComp (iAll (eVar 0)) (aNm 2) tYesM (eBm joinP isS (eC (.str " ")) (eCons (eVar 2) eNil)) (eVar 2) [2]))
  (sRet (ePN tupP (eCons (eTmp (lComp (iAll (eTmp (lPN sortL (eCons (eTmp (lComp (iAll (eVar 1)) (aNm 3) tYesM (ePN strP (eCons (eVar 3) eNil)) [3])) eNil)))) (aNm 3) tYesM (eOp itemP (eVar 1) (eVar 3)) [3])) eNil))))
def f_in_order (K : PySem.W.Frag) (A : Ad) : Fn := runFn 1 4 (m_in_order K A)
theorem ok_in_order (T : Tx P w K mg A) : FnG P w K mg base 1 A.f_in_order ["pairs"] (f_in_order K A) :=
  fnG_mk (k := 0) T.F_in_order sc_in_order (fun _ _ _ _ _ _ us hl => match us, hl with | [_], _ => rfl) fun cdv A' outer s H E hr => by
  have S := sc_in_order
  have tk := tkF (P := P) (w := w) (K := K) (mg := mg) (base := base) (N := N_in_order) (qual := "in_order") (scope := defScope st_in_order) (f := A.f_in_order) (cd := cdv) (A := A') (outer := outer) (s := s) (H := H) (E := E)
  have hp := hpF (P := P) (w := w) (K := K) (mg := mg) (base := base) (N := N_in_order) (qual := "in_order") (scope := defScope st_in_order) (f := A.f_in_order) (cd := cdv) (A := A') (outer := outer) (s := s) (H := H) (E := E)
  exact (css_cons (cs_set (i := 1) S.nd rfl (by first | exact Or.inl rfl | exact Or.inr rfl) (ce_dcomp (own := [("pair", 2)]) rfl S.nd (ci_all (ce_var 0)) (blkOk_by (N := N_in_order) (sc := defScope st_in_order) (by decide +kernel)) (fun _ _ _ _ _ => (pg_name (i := 2) S.nd rfl (by first | exact Or.inl rfl | exact Or.inr rfl))) (pat_nm 2) (by decide) (fun _ _ _ _ _ => cts_nil) (fun _ _ _ _ _ => (ce_bm PySem.F.plainAttrs_str PySem.F.slot_str_join PySem.F.type_str_join mt_joinP tc_str ce_str (ca_cons (ce_var 2) ca_nil))) (fun _ _ _ _ _ => (ce_var 2))))
  (css_one (cs_ret (ce_callTy call_tupP rfl T.n_tuple (by decide +kernel) (ca_cons (ce_tmp (cl_comp (own := [("key", 3)]) rfl S.nd (ci_all (ce_tmp (cl_sorted rfl T.n_sorted (ca_cons (ce_tmp (cl_comp (own := [("key", 3)]) rfl S.nd (ci_all (ce_var 1)) (blkOk_by (N := N_in_order) (sc := defScope st_in_order) (by decide +kernel)) (fun _ _ _ _ _ => (pg_name (i := 3) S.nd rfl (by first | exact Or.inl rfl | exact Or.inr rfl))) (pat_nm 3) (by decide) (fun _ _ _ _ _ => cts_nil) (fun _ _ _ _ _ => (ce_callTy call_strP rfl T.n_str (by decide +kernel) (ca_cons (ce_var 3) ca_nil))))) ca_nil)))) (blkOk_by (N := N_in_order) (sc := defScope st_in_order) (by decide +kernel)) (fun _ _ _ _ _ => (pg_name (i := 3) S.nd rfl (by first | exact Or.inl rfl | exact Or.inr rfl))) (pat_nm 3) (by decide) (fun _ _ _ _ _ => cts_nil) (fun _ _ _ _ _ => (ce_ix (ix_item (u1 hr)) (ce_var 1) (ce_var 3) (fun _ _ => rfl))))) ca_nil)))))
def N_checked_pairs : List Str := ["pairs", "found", "at", "pair", "other"]
theorem sc_checked_pairs : FnScope N_checked_pairs ["pairs"] (defScope st_checked_pairs) :=
  ⟨rfl, rfl, rfl, by decide +kernel, rfl, by decide +kernel, by decide +kernel⟩
abbrev m_checked_pairs (K : PySem.W.Frag) (A : Ad) : S := (sSeq (sSet 1 (eNew (lLst eNil)))
  (sSeq (sFor (iEnumM (eVar 0)) (gPat (aTup (aCons (aNm 2) (aCons (aNm 3) aNil)))) (sSeq (sIf (tOrM (tNotM (tVal (eCall (f_is_promise K A) [] (eCons (eVar 3) eNil)))) (tVal (ePN anyP (eCons (eTmp (lComp (iAll (eVar 1)) (aNm 4) tYesM (eCall (f_goes_against K A) [] (eCons (eVar 3) (eCons (eVar 4) eNil))) [4])) eNil)))) (sRaise A.c_InvalidPromise ["at"] (eCons (eVar 2) eNil)) sNext)
  (sDrop (eBmM appendM isL (eVar 1) (eCons (eVar 3) eNil)))))
  (sRet (eCall (f_in_order K A) [] (eCons (eVar 1) eNil)))))
def f_checked_pairs (K : PySem.W.Frag) (A : Ad) : Fn := runFn 1 5 (m_checked_pairs K A)
theorem ok_checked_pairs (T : Tx P w K mg A) : FnG P w K mg base 3 A.f_checked_pairs ["pairs"] (f_checked_pairs K A) :=
  fnG_mk (k := 2) T.F_checked_pairs sc_checked_pairs (fun _ _ _ _ _ _ us hl => match us, hl with | [_], _ => rfl) fun cdv A' outer s H E hr => by
  have S := sc_checked_pairs
  have tk := tkF (P := P) (w := w) (K := K) (mg := mg) (base := base) (N := N_checked_pairs) (qual := "checked_pairs") (scope := defScope st_checked_pairs) (f := A.f_checked_pairs) (cd := cdv) (A := A') (outer := outer) (s := s) (H := H) (E := E)
  have hp := hpF (P := P) (w := w) (K := K) (mg := mg) (base := base) (N := N_checked_pairs) (qual := "checked_pairs") (scope := defScope st_checked_pairs) (f := A.f_checked_pairs) (cd := cdv) (A := A') (outer := outer) (s := s) (H := H) (E := E)
  exact (css_cons (cs_set (i := 1) S.nd rfl (by first | exact Or.inl rfl | exact Or.inr rfl) (ce_new (cl_lst ca_nil)))
  (css_cons (cs_for hp rfl (ci_enum rfl T.n_enumerate (ce_var 0)) (cg_pat (pg_tup rfl (pgs_cons (pg_name (i := 2) S.nd rfl (by first | exact Or.inl rfl | exact Or.inr rfl)) (pgs_cons (pg_name (i := 3) S.nd rfl (by first | exact Or.inl rfl | exact Or.inr rfl)) pgs_nil))) (pat_tup (pats_cons (pat_nm 2) (pats_cons (pat_nm 3) pats_nil)) (aCons_len (aCons_len aNil_len)))) (css_cons (cs_if (CW.t (cw_or (ct_not (ct_val (ce_callG (ok_is_promise T) (hr.mono (by decide)) rfl T.g_is_promise tk (ca_cons (ce_var 3) ca_nil)))) (cw_or1 (ct_val (ce_callB (call_anyP rfl) rfl T.n_any (by decide +kernel) (ca_cons (ce_tmp (cl_comp (own := [("other", 4)]) rfl S.nd (ci_all (ce_var 1)) (blkOk_by (N := N_checked_pairs) (sc := defScope st_checked_pairs) (by decide +kernel)) (fun _ _ _ _ _ => (pg_name (i := 4) S.nd rfl (by first | exact Or.inl rfl | exact Or.inr rfl))) (pat_nm 4) (by decide) (fun _ _ _ _ _ => cts_nil) (fun _ _ _ _ _ => (ce_callG (ok_goes_against T) (hr.mono (by decide)) rfl T.g_goes_against takes0 (ca_cons (ce_var 3) (ca_cons (ce_var 4) ca_nil)))))) ca_nil)))))) (css_one (cs_raise (ns := ["at"]) rfl tk hr rfl T.g_InvalidPromise T.n_super T.kp_InvalidPromise (raises_own T.sb_InvalidPromise T.ty_InvalidPromise) T.mk_InvalidPromise (ca_cons (ce_var 2) ca_nil))) css_nil)
  (css_one (cs_expr (ce_bmM PySem.F.plainAttrs_list PySem.F.slot_list_append PySem.F.type_list_append mt_appendM tc_list (ce_var 1) (ca_cons (ce_var 3) ca_nil))))))
  (css_one (cs_ret (ce_callG (ok_in_order T) (hr.mono (by decide)) rfl T.g_in_order tk (ca_cons (ce_var 1) ca_nil))))))
def N_Promises___init__ : List Str := ["self", "pairs"]
theorem sc_Promises___init__ : FnScope N_Promises___init__ ["self", "pairs"] (defScope st_Promises___init__) :=
  ⟨rfl, rfl, rfl, by decide +kernel, rfl, by decide +kernel, by decide +kernel⟩
abbrev m_Promises___init__ (K : PySem.W.Frag) (A : Ad) : S := (sFldM A.c_Promises "pairs" (eVar 0) (eCall (f_checked_pairs K A) [] (eCons (eVar 1) eNil)))
def f_Promises___init__ (K : PySem.W.Frag) (A : Ad) : Fn := runFn 2 2 (m_Promises___init__ K A)
theorem ok_Promises___init__ (T : Tx P w K mg A) : FnG P w K mg base 4 A.f_Promises___init__ ["self", "pairs"] (f_Promises___init__ K A) :=
  fnG_mkD (k := 3) T.F_Promises___init__ (by simp) sc_Promises___init__ (fun _ _ _ _ _ _ _ us its hl hi => match us, hl, its, hi with | [_, _], _, [_], _ => ⟨_, rfl, rfl⟩) fun cdv A' outer s H E hr => by
  have S := sc_Promises___init__
  have tk := tkF (P := P) (w := w) (K := K) (mg := mg) (base := base) (N := N_Promises___init__) (qual := "Promises.__init__") (scope := defScope st_Promises___init__) (f := A.f_Promises___init__) (cd := cdv) (A := A') (outer := outer) (s := s) (H := H) (E := E)
  have hp := hpF (P := P) (w := w) (K := K) (mg := mg) (base := base) (N := N_Promises___init__) (qual := "Promises.__init__") (scope := defScope st_Promises___init__) (f := A.f_Promises___init__) (cd := cdv) (A := A') (outer := outer) (s := s) (H := H) (E := E)
  exact (css_one (cs_fld (g := "pairs") (ce_var 0) (ce_callG (ok_checked_pairs T) (hr.mono (by decide)) rfl T.g_checked_pairs tk (ca_cons (ce_var 1) ca_nil)) T.cl_Promises T.na_Promises_pairs))
theorem df_Promises___init___1 (T : Tx P w K mg A) : DfG K A.f_Promises___init__ ["self", "pairs"] [.ref A.x_Promises___init___0] := dfG_mk 0 T.F_Promises___init__ (by simp) (fun _ _ _ _ _ _ _ us its hl hi => match its, hi, us, hl with | [_], _, [_], _ => ⟨_, rfl, rfl⟩)
theorem kw_Promises___init___pairs (T : Tx P w K mg A) : KwG K A.f_Promises___init__ ["self", "pairs"] 1 ["pairs"] [0] := kwG_mkD (n := 1) (ks := ["pairs"]) (ix := [0]) T.F_Promises___init__ (by simp) (fun _ _ _ _ _ _ _ us its ws h1 h2 h3 => match us, h1, its, h2, ws, h3 with | [_], _, [_], _, [_], _ => ⟨_, rfl, rfl⟩)
end
end PM
namespace PM
open PySem L2 Mi
section
variable {P : Program} {w : World} {K : PySem.W.Frag} {mg : Str → Option Value} {base : Heap} {A : Ad}
def N_Promises_read : List Str := ["cls", "text", "part"]
theorem sc_Promises_read : FnScope N_Promises_read ["cls", "text"] (defScope st_Promises_read) :=
  ⟨rfl, rfl, rfl, by decide +kernel, rfl, by decide +kernel, by decide +kernel⟩
abbrev m_Promises_read (K : PySem.W.Frag) (A : Ad) : S := (sSeq (sIf (tOpT eqP (eVar 1) (eC (.str ""))) (sRet (eMakeV 0 A.c_Promises (f_Promises___init__ K A) [.tup []] eNil)) sNext)
  (sRet (eMakeV 0 A.c_Promises (f_Promises___init__ K A) [] (eCons (eTmp (lComp (iAll (eTmp (lBm splitL isS (eVar 1) (eCons (eC (.str ", ")) eNil)))) (aNm 2) tYesM (ePN tupP (eCons (eTmp (lBm splitL isS (eVar 2) (eCons (eC (.str " ")) eNil))) eNil)) [2])) eNil))))
def f_Promises_read (K : PySem.W.Frag) (A : Ad) : Fn := runFn 2 3 (m_Promises_read K A)
theorem ok_Promises_read (T : Tx P w K mg A) : FnG P w K mg base 6 A.f_Promises_read ["cls", "text"] (f_Promises_read K A) :=
  fnG_mk (k := 5) T.F_Promises_read sc_Promises_read (fun _ _ _ _ _ _ us hl => match us, hl with | [_, _], _ => rfl) fun cdv A' outer s H E hr => by
  have S := sc_Promises_read
  have tk := tkF (P := P) (w := w) (K := K) (mg := mg) (base := base) (N := N_Promises_read) (qual := "Promises.read") (scope := defScope st_Promises_read) (f := A.f_Promises_read) (cd := cdv) (A := A') (outer := outer) (s := s) (H := H) (E := E)
  have hp := hpF (P := P) (w := w) (K := K) (mg := mg) (base := base) (N := N_Promises_read) (qual := "Promises.read") (scope := defScope st_Promises_read) (f := A.f_Promises_read) (cd := cdv) (A := A') (outer := outer) (s := s) (H := H) (E := E)
  exact (css_cons (cs_if (ct_cmp (op_eqP (u64 hr)) (ce_var 1) ce_str (nomark _)) (css_one (cs_ret (ce_makeV0 0 T.mkc_Promises (ok_Promises___init__ T) (df_Promises___init___1 T) (fun H ρ => ⟨_, _, rfl, T.dv_Promises___init___0 H ρ, rfl⟩) (hr.mono (by decide)) tk))) css_nil)
  (css_one (cs_ret (ce_makeV 0 T.mkc_Promises (ok_Promises___init__ T) (hr.mono (by decide)) tk (ca_cons (ce_tmp (cl_comp (own := [("part", 2)]) rfl S.nd (ci_all (ce_tmp (cl_split (ce_var 1) (ca_cons ce_str ca_nil)))) (blkOk_by (N := N_Promises_read) (sc := defScope st_Promises_read) (by decide +kernel)) (fun _ _ _ _ _ => (pg_name (i := 2) S.nd rfl (by first | exact Or.inl rfl | exact Or.inr rfl))) (pat_nm 2) (by decide) (fun _ _ _ _ _ => cts_nil) (fun _ _ _ _ _ => (ce_callTy call_tupP rfl T.n_tuple (by decide +kernel) (ca_cons (ce_tmp (cl_split (ce_var 2) (ca_cons ce_str ca_nil))) ca_nil))))) ca_nil)))))
def N_Promises___str__ : List Str := ["self", "pair"]
theorem sc_Promises___str__ : FnScope N_Promises___str__ ["self"] (defScope st_Promises___str__) :=
  ⟨rfl, rfl, rfl, by decide +kernel, rfl, by decide +kernel, by decide +kernel⟩
abbrev m_Promises___str__ (K : PySem.W.Frag) (A : Ad) : S := (sRet (eBm joinP isS (eC (.str ", ")) (eCons (eTmp (lComp (iAll (eFld A.c_Promises "pairs" (eVar 0))) (aNm 1) tYesM (eBm joinP isS (eC (.str " ")) (eCons (eVar 1) eNil)) [1])) eNil)))
def f_Promises___str__ (K : PySem.W.Frag) (A : Ad) : Fn := runFn 1 2 (m_Promises___str__ K A)
theorem ok_Promises___str__ (T : Tx P w K mg A) : FnG P w K mg base 1 A.f_Promises___str__ ["self"] (f_Promises___str__ K A) :=
  fnG_mk (k := 0) T.F_Promises___str__ sc_Promises___str__ (fun _ _ _ _ _ _ us hl => match us, hl with | [_], _ => rfl) fun cdv A' outer s H E hr => by
  have S := sc_Promises___str__
  have tk := tkF (P := P) (w := w) (K := K) (mg := mg) (base := base) (N := N_Promises___str__) (qual := "Promises.__str__") (scope := defScope st_Promises___str__) (f := A.f_Promises___str__) (cd := cdv) (A := A') (outer := outer) (s := s) (H := H) (E := E)
  have hp := hpF (P := P) (w := w) (K := K) (mg := mg) (base := base) (N := N_Promises___str__) (qual := "Promises.__str__") (scope := defScope st_Promises___str__) (f := A.f_Promises___str__) (cd := cdv) (A := A') (outer := outer) (s := s) (H := H) (E := E)
  exact (css_one (cs_ret (ce_bm PySem.F.plainAttrs_str PySem.F.slot_str_join PySem.F.type_str_join mt_joinP tc_str ce_str (ca_cons (ce_tmp (cl_comp (own := [("pair", 1)]) rfl S.nd (ci_all (ce_fld (g := "pairs") (ce_var 0) T.cl_Promises T.na_Promises_pairs)) (blkOk_by (N := N_Promises___str__) (sc := defScope st_Promises___str__) (by decide +kernel)) (fun _ _ _ _ _ => (pg_name (i := 1) S.nd rfl (by first | exact Or.inl rfl | exact Or.inr rfl))) (pat_nm 1) (by decide) (fun _ _ _ _ _ => cts_nil) (fun _ _ _ _ _ => (ce_bm PySem.F.plainAttrs_str PySem.F.slot_str_join PySem.F.type_str_join mt_joinP tc_str ce_str (ca_cons (ce_var 1) ca_nil))))) ca_nil))))
def N_Promises___len__ : List Str := ["self"]
theorem sc_Promises___len__ : FnScope N_Promises___len__ ["self"] (defScope st_Promises___len__) :=
  ⟨rfl, rfl, rfl, by decide +kernel, rfl, by decide +kernel, by decide +kernel⟩
abbrev m_Promises___len__ (K : PySem.W.Frag) (A : Ad) : S := (sRet (ePN lenP (eCons (eFld A.c_Promises "pairs" (eVar 0)) eNil)))
def f_Promises___len__ (K : PySem.W.Frag) (A : Ad) : Fn := runFn 1 1 (m_Promises___len__ K A)
theorem ok_Promises___len__ (T : Tx P w K mg A) : FnG P w K mg base 1 A.f_Promises___len__ ["self"] (f_Promises___len__ K A) :=
  fnG_mk (k := 0) T.F_Promises___len__ sc_Promises___len__ (fun _ _ _ _ _ _ us hl => match us, hl with | [_], _ => rfl) fun cdv A' outer s H E hr => by
  have S := sc_Promises___len__
  have tk := tkF (P := P) (w := w) (K := K) (mg := mg) (base := base) (N := N_Promises___len__) (qual := "Promises.__len__") (scope := defScope st_Promises___len__) (f := A.f_Promises___len__) (cd := cdv) (A := A') (outer := outer) (s := s) (H := H) (E := E)
  have hp := hpF (P := P) (w := w) (K := K) (mg := mg) (base := base) (N := N_Promises___len__) (qual := "Promises.__len__") (scope := defScope st_Promises___len__) (f := A.f_Promises___len__) (cd := cdv) (A := A') (outer := outer) (s := s) (H := H) (E := E)
  exact (css_one (cs_ret (ce_callB call_lenP rfl T.n_len (by decide +kernel) (ca_cons (ce_fld (g := "pairs") (ce_var 0) T.cl_Promises T.na_Promises_pairs) ca_nil))))
def N_Promises___contains__ : List Str := ["self", "value"]
theorem sc_Promises___contains__ : FnScope N_Promises___contains__ ["self", "value"] (defScope st_Promises___contains__) :=
  ⟨rfl, rfl, rfl, by decide +kernel, rfl, by decide +kernel, by decide +kernel⟩
abbrev m_Promises___contains__ (K : PySem.W.Frag) (A : Ad) : S := (sRet (eOp inP (eVar 1) (eFld A.c_Promises "pairs" (eVar 0))))
def f_Promises___contains__ (K : PySem.W.Frag) (A : Ad) : Fn := runFn 2 2 (m_Promises___contains__ K A)
theorem ok_Promises___contains__ (T : Tx P w K mg A) : FnG P w K mg base 1 A.f_Promises___contains__ ["self", "value"] (f_Promises___contains__ K A) :=
  fnG_mk (k := 0) T.F_Promises___contains__ sc_Promises___contains__ (fun _ _ _ _ _ _ us hl => match us, hl with | [_, _], _ => rfl) fun cdv A' outer s H E hr => by
  have S := sc_Promises___contains__
  have tk := tkF (P := P) (w := w) (K := K) (mg := mg) (base := base) (N := N_Promises___contains__) (qual := "Promises.__contains__") (scope := defScope st_Promises___contains__) (f := A.f_Promises___contains__) (cd := cdv) (A := A') (outer := outer) (s := s) (H := H) (E := E)
  have hp := hpF (P := P) (w := w) (K := K) (mg := mg) (base := base) (N := N_Promises___contains__) (qual := "Promises.__contains__") (scope := defScope st_Promises___contains__) (f := A.f_Promises___contains__) (cd := cdv) (A := A') (outer := outer) (s := s) (H := H) (E := E)
  exact (css_one (cs_ret (ce_cmp (op_inP (u65 hr)) (ce_var 1) (ce_fld (g := "pairs") (ce_var 0) T.cl_Promises T.na_Promises_pairs) (by rfl))))
def N_Promises___eq__ : List Str := ["self", "other"]
theorem sc_Promises___eq__ : FnScope N_Promises___eq__ ["self", "other"] (defScope st_Promises___eq__) :=
  ⟨rfl, rfl, rfl, by decide +kernel, rfl, by decide +kernel, by decide +kernel⟩
abbrev m_Promises___eq__ (K : PySem.W.Frag) (A : Ad) : S := (sRet (eAnd (ePN (isiP K (csOf A)) (eCons (eVar 1) (eCons (eC (.adr A.c_Promises)) eNil))) (eOp eqP (eFld A.c_Promises "pairs" (eVar 0)) (eFld A.c_Promises "pairs" (eVar 1)))))
def f_Promises___eq__ (K : PySem.W.Frag) (A : Ad) : Fn := runFn 2 2 (m_Promises___eq__ K A)
theorem ok_Promises___eq__ (T : Tx P w K mg A) : FnG P w K mg base 1 A.f_Promises___eq__ ["self", "other"] (f_Promises___eq__ K A) :=
  fnG_mk (k := 0) T.F_Promises___eq__ sc_Promises___eq__ (fun _ _ _ _ _ _ us hl => match us, hl with | [_, _], _ => rfl) fun cdv A' outer s H E hr => by
  have S := sc_Promises___eq__
  have tk := tkF (P := P) (w := w) (K := K) (mg := mg) (base := base) (N := N_Promises___eq__) (qual := "Promises.__eq__") (scope := defScope st_Promises___eq__) (f := A.f_Promises___eq__) (cd := cdv) (A := A') (outer := outer) (s := s) (H := H) (E := E)
  have hp := hpF (P := P) (w := w) (K := K) (mg := mg) (base := base) (N := N_Promises___eq__) (qual := "Promises.__eq__") (scope := defScope st_Promises___eq__) (f := A.f_Promises___eq__) (cd := cdv) (A := A') (outer := outer) (s := s) (H := H) (E := E)
  exact (css_one (cs_ret (ce_and (ce_callB (call_isiP T.ci) rfl T.n_isinstance (by decide +kernel) (ca_cons (ce_var 1) (ca_cons (ce_c (pe_glob (v := .ref A.c_Promises) rfl T.g_Promises rfl) fun _ _ => rfl) ca_nil))) (ce_one (ce_cmp (op_eqP (u64 hr)) (ce_fld (g := "pairs") (ce_var 0) T.cl_Promises T.na_Promises_pairs) (ce_fld (g := "pairs") (ce_var 1) T.cl_Promises T.na_Promises_pairs) (nomark _))))))
def N__law_box : List Str := ["_law_script", "_law_k", "_law_more", "_law_cell", "_law_seed"]
theorem sc__law_box : FnScope N__law_box ["_law_script", "_law_k"] (defScope st__law_box) :=
  ⟨rfl, rfl, rfl, by decide +kernel, rfl, by decide +kernel, by decide +kernel⟩
abbrev m__law_box (K : PySem.W.Frag) (A : Ad) : S := (sSeq (sSet 2 (eOp mulP (eOp modP (ePN intP (eCons (ePN sumP (eCons (eSl (eSl (eVar 0) (oSome (eOp modP (ePN intP (eCons (eVar 1) eNil)) (ePN maxP (eCons (eC (.int 1)) (eCons (ePN lenP (eCons (eVar 0) eNil)) eNil))))) oNone) oNone (oSome (eC (.int 1)))) eNil)) eNil)) (eC (.int 2147483629))) (eC (.int 69623))))
  (sSeq (sSet 3 (eIf (tOpT ltP (eVar 1) (ePN lenP (eCons (eVar 0) eNil))) (eOp itemP (eVar 0) (eVar 1)) (eOp addP (eOp addP (eOp mulP (eC (.int 6841)) (eVar 1)) (eC (.int 37))) (eVar 2))))
  (sSeq (sSet 4 (eOp addP (eOp modP (ePN intP (eCons (eOp addP (eOp mulP (eOp modP (ePN intP (eCons (eVar 3) eNil)) (eC (.int 2147483629))) (eC (.int 48271))) (eOp mulP (eC (.int 40692)) (eVar 1))) eNil)) (eC (.int 2147483629))) (eC (.int 1))))
  (sRet (eNew (lLst (eCons (eOp itemP (eTmp (lLst (eCons (eC (.int 0)) (eCons (eVar 3) eNil)))) (ePN intP (eCons (eOp geP (eVar 3) (eOp powP (eC (.int 10)) (eC (.int 18)))) eNil))) (eCons (eVar 4) (eCons (eC (.int 0)) eNil)))))))))
def f__law_box (K : PySem.W.Frag) (A : Ad) : Fn := runFn 2 5 (m__law_box K A)
theorem ok__law_box (T : Tx P w K mg A) : FnG P w K mg base 1 A.f__law_box ["_law_script", "_law_k"] (f__law_box K A) :=
  fnG_mk (k := 0) T.F__law_box sc__law_box (fun _ _ _ _ _ _ us hl => match us, hl with | [_, _], _ => rfl) fun cdv A' outer s H E hr => by
  have S := sc__law_box
  have tk := tkF (P := P) (w := w) (K := K) (mg := mg) (base := base) (N := N__law_box) (qual := "_law_box") (scope := defScope st__law_box) (f := A.f__law_box) (cd := cdv) (A := A') (outer := outer) (s := s) (H := H) (E := E)
  have hp := hpF (P := P) (w := w) (K := K) (mg := mg) (base := base) (N := N__law_box) (qual := "_law_box") (scope := defScope st__law_box) (f := A.f__law_box) (cd := cdv) (A := A') (outer := outer) (s := s) (H := H) (E := E)
  exact (css_cons (cs_set (i := 2) S.nd rfl (by first | exact Or.inl rfl | exact Or.inr rfl) (ce_op op_mulP (ce_op op_modP (ce_callTy call_intP rfl T.n_int (by decide +kernel) (ca_cons (ce_callB (call_sumP rfl) rfl T.n_sum (by decide +kernel) (ca_cons (ce_sl (ce_sl (ce_var 0) (co_some (ce_op op_modP (ce_callTy call_intP rfl T.n_int (by decide +kernel) (ca_cons (ce_var 1) ca_nil)) (ce_callB (call_maxP rfl) rfl T.n_max (by decide +kernel) (ca_cons ce_int (ca_cons (ce_callB call_lenP rfl T.n_len (by decide +kernel) (ca_cons (ce_var 0) ca_nil)) ca_nil))))) co_none) co_none (co_some ce_int)) ca_nil)) ca_nil)) ce_int) ce_int))
  (css_cons (cs_set (i := 3) S.nd rfl (by first | exact Or.inl rfl | exact Or.inr rfl) (ce_if (ct_cmp (op_ltP (u64 hr)) (ce_var 1) (ce_callB call_lenP rfl T.n_len (by decide +kernel) (ca_cons (ce_var 0) ca_nil)) (nomark _)) (ce_ix (ix_item (u1 hr)) (ce_var 0) (ce_var 1) (fun _ _ => rfl)) (ce_op op_addP (ce_op op_addP (ce_op op_mulP ce_int (ce_var 1)) ce_int) (ce_var 2))))
  (css_cons (cs_set (i := 4) S.nd rfl (by first | exact Or.inl rfl | exact Or.inr rfl) (ce_op op_addP (ce_op op_modP (ce_callTy call_intP rfl T.n_int (by decide +kernel) (ca_cons (ce_op op_addP (ce_op op_mulP (ce_op op_modP (ce_callTy call_intP rfl T.n_int (by decide +kernel) (ca_cons (ce_var 3) ca_nil)) ce_int) ce_int) (ce_op op_mulP ce_int (ce_var 1))) ca_nil)) ce_int) ce_int))
  (css_one (cs_ret (ce_new (cl_lst (ca_cons (ce_ix (ix_item (u1 hr)) (ce_tmp (cl_lst (ca_cons ce_int (ca_cons (ce_var 3) ca_nil)))) (ce_callTy call_intP rfl T.n_int (by decide +kernel) (ca_cons (ce_cmp (op_geP (u64 hr)) (ce_var 3) (ce_op op_powP ce_int ce_int) (nomark _)) ca_nil)) (fun _ _ => rfl)) (ca_cons (ce_var 4) (ca_cons ce_int ca_nil))))))))))
end
end PM
namespace PM
open PySem L2 Mi
section
variable {P : Program} {w : World} {K : PySem.W.Frag} {mg : Str → Option Value} {base : Heap} {A : Ad}
def N__law_take : List Str := ["_law_box_here", "_law_many", "_law_one", "_law_digit"]
theorem sc__law_take : FnScope N__law_take ["_law_box_here", "_law_many"] (defScope st__law_take) :=
  ⟨rfl, rfl, rfl, by decide +kernel, rfl, by decide +kernel, by decide +kernel⟩
abbrev m__law_take (K : PySem.W.Frag) (A : Ad) : S := (sSeq (sIf (tOpT gtP (eOp itemP (eVar 0) (eC (.int 0))) (eC (.int 0))) (sSeq (sSet 3 (eOp modP (ePN intP (eCons (eOp itemP (eVar 0) (eC (.int 0))) eNil)) (eVar 1)))
  (sSeq (sAsg (eOp fdivP (eOp itemP (eVar 0) (eC (.int 0))) (eVar 1)) (gSubM setM (eVar 0) (eC (.int 0))))
  (sRet (eVar 3)))) sNext)
  (sSeq (sAsg (eOp addP (eOp itemP (eVar 0) (eC (.int 2))) (eC (.int 1))) (gSubM setM (eVar 0) (eC (.int 2))))
  (sSeq (sSet 2 (eOp modP (ePN intP (eCons (eOp mulP (eOp addP (eOp itemP (eVar 0) (eC (.int 1))) (eOp mulP (eC (.int 104729)) (eOp itemP (eVar 0) (eC (.int 2))))) (eC (.int 69623))) eNil)) (eC (.int 2147483647))))
  (sSeq (sAsg (eOp addP (eOp modP (ePN intP (eCons (eOp addP (eOp mulP (eVar 2) (eC (.int 48271))) (eC (.int 30103))) eNil)) (eC (.int 2147483629))) (eC (.int 1))) (gSubM setM (eVar 0) (eC (.int 1))))
  (sRet (eOp modP (ePN intP (eCons (eOp fdivP (eOp addP (eOp mulP (eVar 2) (eC (.int 2147483647))) (eOp itemP (eVar 0) (eC (.int 1)))) (eC (.int 8191))) eNil)) (eVar 1)))))))
def f__law_take (K : PySem.W.Frag) (A : Ad) : Fn := runFn 2 4 (m__law_take K A)
theorem ok__law_take (T : Tx P w K mg A) : FnG P w K mg base 1 A.f__law_take ["_law_box_here", "_law_many"] (f__law_take K A) :=
  fnG_mk (k := 0) T.F__law_take sc__law_take (fun _ _ _ _ _ _ us hl => match us, hl with | [_, _], _ => rfl) fun cdv A' outer s H E hr => by
  have S := sc__law_take
  have tk := tkF (P := P) (w := w) (K := K) (mg := mg) (base := base) (N := N__law_take) (qual := "_law_take") (scope := defScope st__law_take) (f := A.f__law_take) (cd := cdv) (A := A') (outer := outer) (s := s) (H := H) (E := E)
  have hp := hpF (P := P) (w := w) (K := K) (mg := mg) (base := base) (N := N__law_take) (qual := "_law_take") (scope := defScope st__law_take) (f := A.f__law_take) (cd := cdv) (A := A') (outer := outer) (s := s) (H := H) (E := E)
  exact (css_cons (cs_if (ct_cmp (op_gtP (u64 hr)) (ce_ix (ix_item (u1 hr)) (ce_var 0) ce_int (fun _ _ => rfl)) ce_int (nomark _)) (css_cons (cs_set (i := 3) S.nd rfl (by first | exact Or.inl rfl | exact Or.inr rfl) (ce_op op_modP (ce_callTy call_intP rfl T.n_int (by decide +kernel) (ca_cons (ce_ix (ix_item (u1 hr)) (ce_var 0) ce_int (fun _ _ => rfl)) ca_nil)) (ce_var 1)))
  (css_cons (cs_asg (ce_op op_fdivP (ce_ix (ix_item (u1 hr)) (ce_var 0) ce_int (fun _ _ => rfl)) (ce_var 1)) (cg_sub (u1 hr) (ce_var 0) ce_int))
  (css_one (cs_ret (ce_var 3))))) css_nil)
  (css_cons (cs_asg (ce_op op_addP (ce_ix (ix_item (u1 hr)) (ce_var 0) ce_int (fun _ _ => rfl)) ce_int) (cg_sub (u1 hr) (ce_var 0) ce_int))
  (css_cons (cs_set (i := 2) S.nd rfl (by first | exact Or.inl rfl | exact Or.inr rfl) (ce_op op_modP (ce_callTy call_intP rfl T.n_int (by decide +kernel) (ca_cons (ce_op op_mulP (ce_op op_addP (ce_ix (ix_item (u1 hr)) (ce_var 0) ce_int (fun _ _ => rfl)) (ce_op op_mulP ce_int (ce_ix (ix_item (u1 hr)) (ce_var 0) ce_int (fun _ _ => rfl)))) ce_int) ca_nil)) ce_int))
  (css_cons (cs_asg (ce_op op_addP (ce_op op_modP (ce_callTy call_intP rfl T.n_int (by decide +kernel) (ca_cons (ce_op op_addP (ce_op op_mulP (ce_var 2) ce_int) ce_int) ca_nil)) ce_int) ce_int) (cg_sub (u1 hr) (ce_var 0) ce_int))
  (css_one (cs_ret (ce_op op_modP (ce_callTy call_intP rfl T.n_int (by decide +kernel) (ca_cons (ce_op op_fdivP (ce_op op_addP (ce_op op_mulP (ce_var 2) ce_int) (ce_ix (ix_item (u1 hr)) (ce_var 0) ce_int (fun _ _ => rfl))) ce_int) ca_nil)) (ce_var 1))))))))
def N__law_pick : List Str := ["_law_box_here", "_law_things"]
theorem sc__law_pick : FnScope N__law_pick ["_law_box_here", "_law_things"] (defScope st__law_pick) :=
  ⟨rfl, rfl, rfl, by decide +kernel, rfl, by decide +kernel, by decide +kernel⟩
abbrev m__law_pick (K : PySem.W.Frag) (A : Ad) : S := (sRet (eOp itemP (eVar 1) (eCall (f__law_take K A) [] (eCons (eVar 0) (eCons (ePN lenP (eCons (eVar 1) eNil)) eNil)))))
def f__law_pick (K : PySem.W.Frag) (A : Ad) : Fn := runFn 2 2 (m__law_pick K A)
theorem ok__law_pick (T : Tx P w K mg A) : FnG P w K mg base 2 A.f__law_pick ["_law_box_here", "_law_things"] (f__law_pick K A) :=
  fnG_mk (k := 1) T.F__law_pick sc__law_pick (fun _ _ _ _ _ _ us hl => match us, hl with | [_, _], _ => rfl) fun cdv A' outer s H E hr => by
  have S := sc__law_pick
  have tk := tkF (P := P) (w := w) (K := K) (mg := mg) (base := base) (N := N__law_pick) (qual := "_law_pick") (scope := defScope st__law_pick) (f := A.f__law_pick) (cd := cdv) (A := A') (outer := outer) (s := s) (H := H) (E := E)
  have hp := hpF (P := P) (w := w) (K := K) (mg := mg) (base := base) (N := N__law_pick) (qual := "_law_pick") (scope := defScope st__law_pick) (f := A.f__law_pick) (cd := cdv) (A := A') (outer := outer) (s := s) (H := H) (E := E)
  exact (css_one (cs_ret (ce_ix (ix_item (u1 hr)) (ce_var 1) (ce_callG (ok__law_take T) (hr.mono (by decide)) rfl T.g__law_take tk (ca_cons (ce_var 0) (ca_cons (ce_callB call_lenP rfl T.n_len (by decide +kernel) (ca_cons (ce_var 1) ca_nil)) ca_nil))) (fun _ _ => rfl))))
def N__law_mixed : List Str := ["_law_box_here", "_law_things", "_law_left", "_law_found"]
theorem sc__law_mixed : FnScope N__law_mixed ["_law_box_here", "_law_things"] (defScope st__law_mixed) :=
  ⟨rfl, rfl, rfl, by decide +kernel, rfl, by decide +kernel, by decide +kernel⟩
abbrev m__law_mixed (K : PySem.W.Frag) (A : Ad) : S := (sSeq (sPar2 2 3 (eNew (lPN listL (eCons (eVar 1) eNil))) (eNew (lLst eNil)))
  (sSeq (sWhile 100000 (tOpT neP (eVar 2) (eTmp (lLst eNil))) (sDrop (eBmM appendM isL (eVar 3) (eCons (eBmM popAtM isL (eVar 2) (eCons (eCall (f__law_take K A) [] (eCons (eVar 0) (eCons (ePN lenP (eCons (eVar 2) eNil)) eNil))) eNil)) eNil))))
  (sRet (eVar 3))))
def f__law_mixed (K : PySem.W.Frag) (A : Ad) : Fn := runFn 2 4 (m__law_mixed K A)
theorem ok__law_mixed (T : Tx P w K mg A) : FnG P w K mg base 2 A.f__law_mixed ["_law_box_here", "_law_things"] (f__law_mixed K A) :=
  fnG_mk (k := 1) T.F__law_mixed sc__law_mixed (fun _ _ _ _ _ _ us hl => match us, hl with | [_, _], _ => rfl) fun cdv A' outer s H E hr => by
  have S := sc__law_mixed
  have tk := tkF (P := P) (w := w) (K := K) (mg := mg) (base := base) (N := N__law_mixed) (qual := "_law_mixed") (scope := defScope st__law_mixed) (f := A.f__law_mixed) (cd := cdv) (A := A') (outer := outer) (s := s) (H := H) (E := E)
  have hp := hpF (P := P) (w := w) (K := K) (mg := mg) (base := base) (N := N__law_mixed) (qual := "_law_mixed") (scope := defScope st__law_mixed) (f := A.f__law_mixed) (cd := cdv) (A := A') (outer := outer) (s := s) (H := H) (E := E)
  exact (css_cons (cs_par2 (i := 2) (j := 3) rfl S.nd rfl rfl (by decide) rfl rfl (ce_new (cl_list rfl T.n_list (ca_cons (ce_var 1) ca_nil))) (ce_new (cl_lst ca_nil)) rfl)
  (css_cons (cs_while 100000 hp (ct_cmp (op_neP (u64 hr)) (ce_var 2) (ce_tmp (cl_lst ca_nil)) (nomark _)) (css_one (cs_expr (ce_bmM PySem.F.plainAttrs_list PySem.F.slot_list_append PySem.F.type_list_append mt_appendM tc_list (ce_var 3) (ca_cons (ce_bmM PySem.F.plainAttrs_list PySem.F.slot_list_pop PySem.F.type_list_pop mt_popAtM tc_list (ce_var 2) (ca_cons (ce_callG (ok__law_take T) (hr.mono (by decide)) rfl T.g__law_take tk (ca_cons (ce_var 0) (ca_cons (ce_callB call_lenP rfl T.n_len (by decide +kernel) (ca_cons (ce_var 2) ca_nil)) ca_nil))) ca_nil)) ca_nil)))))
  (css_one (cs_ret (ce_var 3)))))
def N__law_methods : List Str := ["_law_found"]
theorem sc__law_methods : FnScope N__law_methods [] (defScope st__law_methods) :=
  ⟨rfl, rfl, rfl, by decide +kernel, rfl, by decide +kernel, by decide +kernel⟩
abbrev m__law_methods (K : PySem.W.Frag) (A : Ad) : S := (sSeq (sSet 0 (eC (.str "add sub mul radd rsub rmul iadd isub imul eq ne lt le gt ge neg iter enter contains getitem exit call")))
  (sRet (eTmp (lBm splitL isS (eOp addP (eVar 0) (eC (.str " getattr next bool len delitem setitem delattr setattr"))) (eCons (eC (.str " ")) eNil)))))
def f__law_methods (K : PySem.W.Frag) (A : Ad) : Fn := runFn 0 1 (m__law_methods K A)
theorem ok__law_methods (T : Tx P w K mg A) : FnG P w K mg base 1 A.f__law_methods [] (f__law_methods K A) :=
  fnG_mk (k := 0) T.F__law_methods sc__law_methods (fun _ _ _ _ _ _ us hl => match us, hl with | [], _ => rfl) fun cdv A' outer s H E hr => by
  have S := sc__law_methods
  have tk := tkF (P := P) (w := w) (K := K) (mg := mg) (base := base) (N := N__law_methods) (qual := "_law_methods") (scope := defScope st__law_methods) (f := A.f__law_methods) (cd := cdv) (A := A') (outer := outer) (s := s) (H := H) (E := E)
  have hp := hpF (P := P) (w := w) (K := K) (mg := mg) (base := base) (N := N__law_methods) (qual := "_law_methods") (scope := defScope st__law_methods) (f := A.f__law_methods) (cd := cdv) (A := A') (outer := outer) (s := s) (H := H) (E := E)
  exact (css_cons (cs_set (i := 0) S.nd rfl (by first | exact Or.inl rfl | exact Or.inr rfl) ce_str)
  (css_one (cs_ret (ce_tmp (cl_split (ce_op op_addP (ce_var 0) ce_str) (ca_cons ce_str ca_nil))))))
def N__law_lets : List Str := ["_law_word", "_law_every"]
theorem sc__law_lets : FnScope N__law_lets ["_law_word"] (defScope st__law_lets) :=
  ⟨rfl, rfl, rfl, by decide +kernel, rfl, by decide +kernel, by decide +kernel⟩
abbrev m__law_lets (K : PySem.W.Frag) (A : Ad) : S := (sSeq (sSet 1 (eCall (f__law_methods K A) [] eNil))
  (sSeq (sIf (tOpT eqP (eVar 0) (eC (.str "takes"))) (sRet (eSl (eVar 1) oNone (oSome (eC (.int 15))))) sNext)
  (sSeq (sIf (tOpT eqP (eVar 0) (eC (.str "itself"))) (sRet (eSl (eVar 1) oNone (oSome (eC (.int 23))))) sNext)
  (sSeq (sIf (tOpT eqP (eVar 0) (eC (.str "truth"))) (sRet (eOp addP (eSl (eVar 1) (oSome (eC (.int 9))) (oSome (eC (.int 15)))) (eTmp (lLst (eCons (eC (.str "contains")) (eCons (eC (.str "exit")) eNil)))))) sNext)
  (sRet (eIf (tOpT inP (eVar 0) (eTup (eCons (eC (.str "bare")) (eCons (eC (.str "has")) (eCons (eC (.str "calm")) eNil))))) (eVar 1) (eTmp (lLst eNil))))))))
def f__law_lets (K : PySem.W.Frag) (A : Ad) : Fn := runFn 1 2 (m__law_lets K A)
theorem ok__law_lets (T : Tx P w K mg A) : FnG P w K mg base 2 A.f__law_lets ["_law_word"] (f__law_lets K A) :=
  fnG_mk (k := 1) T.F__law_lets sc__law_lets (fun _ _ _ _ _ _ us hl => match us, hl with | [_], _ => rfl) fun cdv A' outer s H E hr => by
  have S := sc__law_lets
  have tk := tkF (P := P) (w := w) (K := K) (mg := mg) (base := base) (N := N__law_lets) (qual := "_law_lets") (scope := defScope st__law_lets) (f := A.f__law_lets) (cd := cdv) (A := A') (outer := outer) (s := s) (H := H) (E := E)
  have hp := hpF (P := P) (w := w) (K := K) (mg := mg) (base := base) (N := N__law_lets) (qual := "_law_lets") (scope := defScope st__law_lets) (f := A.f__law_lets) (cd := cdv) (A := A') (outer := outer) (s := s) (H := H) (E := E)
  exact (css_cons (cs_set (i := 1) S.nd rfl (by first | exact Or.inl rfl | exact Or.inr rfl) (ce_callG0 (ok__law_methods T) (hr.mono (by decide)) rfl T.g__law_methods tk))
  (css_cons (cs_if (ct_cmp (op_eqP (u64 hr)) (ce_var 0) ce_str (nomark _)) (css_one (cs_ret (ce_sl (ce_var 1) co_none (co_some ce_int)))) css_nil)
  (css_cons (cs_if (ct_cmp (op_eqP (u64 hr)) (ce_var 0) ce_str (nomark _)) (css_one (cs_ret (ce_sl (ce_var 1) co_none (co_some ce_int)))) css_nil)
  (css_cons (cs_if (ct_cmp (op_eqP (u64 hr)) (ce_var 0) ce_str (nomark _)) (css_one (cs_ret (ce_op op_addP (ce_sl (ce_var 1) (co_some ce_int) (co_some ce_int)) (ce_tmp (cl_lst (ca_cons ce_str (ca_cons ce_str ca_nil))))))) css_nil)
  (css_one (cs_ret (ce_if (ct_cmp (op_inP (u65 hr)) (ce_var 0) (ce_tup (ca_cons ce_str (ca_cons ce_str (ca_cons ce_str ca_nil)))) (by rfl)) (ce_var 1) (ce_tmp (cl_lst ca_nil)))))))))
def N__law_is_promise : List Str := ["_law_value"]
theorem sc__law_is_promise : FnScope N__law_is_promise ["_law_value"] (defScope st__law_is_promise) :=
  ⟨rfl, rfl, rfl, by decide +kernel, rfl, by decide +kernel, by decide +kernel⟩
abbrev m__law_is_promise (K : PySem.W.Frag) (A : Ad) : S := (sSeq (sIf (tOrM (tNotM (tVal (ePN (isiP K (csOf A)) (eCons (eVar 0) (eCons (eC (.ty "tuple")) eNil))))) (tOrM (tOpT neP (ePN lenP (eCons (eVar 0) eNil)) (eC (.int 2))) (tNotM (tVal (ePN (isiP K (csOf A)) (eCons (eOp itemP (eVar 0) (eC (.int 0))) (eCons (eC (.ty "str")) eNil))))))) (sRet (eC (.bl false))) sNext)
  (sRet (eAnd (ePN (isiP K (csOf A)) (eCons (eOp itemP (eVar 0) (eC (.int 1))) (eCons (eC (.ty "str")) eNil))) (eOp inP (eOp itemP (eVar 0) (eC (.int 1))) (eCall (f__law_lets K A) [] (eCons (eOp itemP (eVar 0) (eC (.int 0))) eNil))))))
def f__law_is_promise (K : PySem.W.Frag) (A : Ad) : Fn := runFn 1 1 (m__law_is_promise K A)
theorem ok__law_is_promise (T : Tx P w K mg A) : FnG P w K mg base 3 A.f__law_is_promise ["_law_value"] (f__law_is_promise K A) :=
  fnG_mk (k := 2) T.F__law_is_promise sc__law_is_promise (fun _ _ _ _ _ _ us hl => match us, hl with | [_], _ => rfl) fun cdv A' outer s H E hr => by
  have S := sc__law_is_promise
  have tk := tkF (P := P) (w := w) (K := K) (mg := mg) (base := base) (N := N__law_is_promise) (qual := "_law_is_promise") (scope := defScope st__law_is_promise) (f := A.f__law_is_promise) (cd := cdv) (A := A') (outer := outer) (s := s) (H := H) (E := E)
  have hp := hpF (P := P) (w := w) (K := K) (mg := mg) (base := base) (N := N__law_is_promise) (qual := "_law_is_promise") (scope := defScope st__law_is_promise) (f := A.f__law_is_promise) (cd := cdv) (A := A') (outer := outer) (s := s) (H := H) (E := E)
  exact (css_cons (cs_if (CW.t (cw_or (ct_not (ct_val (ce_callB (call_isiP T.ci) rfl T.n_isinstance (by decide +kernel) (ca_cons (ce_var 0) (ca_cons (ce_c (pe_bltn (v := .ty "tuple") rfl T.n_tuple (by decide +kernel) rfl) fun _ _ => rfl) ca_nil))))) (cw_or (ct_cmp (op_neP (u64 hr)) (ce_callB call_lenP rfl T.n_len (by decide +kernel) (ca_cons (ce_var 0) ca_nil)) ce_int (nomark _)) (cw_or1 (ct_not (ct_val (ce_callB (call_isiP T.ci) rfl T.n_isinstance (by decide +kernel) (ca_cons (ce_ix (ix_item (u1 hr)) (ce_var 0) ce_int (fun _ _ => rfl)) (ca_cons (ce_c (pe_bltn (v := .ty "str") rfl T.n_str (by decide +kernel) rfl) fun _ _ => rfl) ca_nil))))))))) (css_one (cs_ret ce_bl)) css_nil)
  (css_one (cs_ret (ce_and (ce_callB (call_isiP T.ci) rfl T.n_isinstance (by decide +kernel) (ca_cons (ce_ix (ix_item (u1 hr)) (ce_var 0) ce_int (fun _ _ => rfl)) (ca_cons (ce_c (pe_bltn (v := .ty "str") rfl T.n_str (by decide +kernel) rfl) fun _ _ => rfl) ca_nil))) (ce_one (ce_cmp (op_inP (u65 hr)) (ce_ix (ix_item (u1 hr)) (ce_var 0) ce_int (fun _ _ => rfl)) (ce_callG (ok__law_lets T) (hr.mono (by decide)) rfl T.g__law_lets tk (ca_cons (ce_ix (ix_item (u1 hr)) (ce_var 0) ce_int (fun _ _ => rfl)) ca_nil)) (by rfl)))))))
end
end PM
namespace PM
open PySem L2 Mi
section
variable {P : Program} {w : World} {K : PySem.W.Frag} {mg : Str → Option Value} {base : Heap} {A : Ad}
def N__law_bars : List Str := ["_law_one", "_law_other", "_law_words"]
theorem sc__law_bars : FnScope N__law_bars ["_law_one", "_law_other"] (defScope st__law_bars) :=
  ⟨rfl, rfl, rfl, by decide +kernel, rfl, by decide +kernel, by decide +kernel⟩
abbrev m__law_bars (K : PySem.W.Frag) (A : Ad) : S := (sSeq (sSet 2 (eTup (eCons (eOp itemP (eVar 0) (eC (.int 0))) (eCons (eOp itemP (eVar 1) (eC (.int 0))) eNil))))
  (sRet (eAnd (eOp eqP (eOp itemP (eVar 0) (eC (.int 1))) (eOp itemP (eVar 1) (eC (.int 1)))) (eAnd (eOp neP (eVar 0) (eVar 1)) (eOr (eOp inP (eC (.str "bare")) (eVar 2)) (eAnd (eOp inP (eC (.str "itself")) (eVar 2)) (eOp inP (eC (.str "truth")) (eVar 2))))))))
def f__law_bars (K : PySem.W.Frag) (A : Ad) : Fn := runFn 2 3 (m__law_bars K A)
theorem ok__law_bars (T : Tx P w K mg A) : FnG P w K mg base 1 A.f__law_bars ["_law_one", "_law_other"] (f__law_bars K A) :=
  fnG_mk (k := 0) T.F__law_bars sc__law_bars (fun _ _ _ _ _ _ us hl => match us, hl with | [_, _], _ => rfl) fun cdv A' outer s H E hr => by
  have S := sc__law_bars
  have tk := tkF (P := P) (w := w) (K := K) (mg := mg) (base := base) (N := N__law_bars) (qual := "_law_bars") (scope := defScope st__law_bars) (f := A.f__law_bars) (cd := cdv) (A := A') (outer := outer) (s := s) (H := H) (E := E)
  have hp := hpF (P := P) (w := w) (K := K) (mg := mg) (base := base) (N := N__law_bars) (qual := "_law_bars") (scope := defScope st__law_bars) (f := A.f__law_bars) (cd := cdv) (A := A') (outer := outer) (s := s) (H := H) (E := E)
  exact (css_cons (cs_set (i := 2) S.nd rfl (by first | exact Or.inl rfl | exact Or.inr rfl) (ce_tup (ca_cons (ce_ix (ix_item (u1 hr)) (ce_var 0) ce_int (fun _ _ => rfl)) (ca_cons (ce_ix (ix_item (u1 hr)) (ce_var 1) ce_int (fun _ _ => rfl)) ca_nil))))
  (css_one (cs_ret (ce_and (ce_cmp (op_eqP (u64 hr)) (ce_ix (ix_item (u1 hr)) (ce_var 0) ce_int (fun _ _ => rfl)) (ce_ix (ix_item (u1 hr)) (ce_var 1) ce_int (fun _ _ => rfl)) (nomark _)) (ce_and (ce_cmp (op_neP (u64 hr)) (ce_var 0) (ce_var 1) (nomark _)) (ce_one (ce_or (ce_cmp (op_inP (u65 hr)) ce_str (ce_var 2) (by rfl)) (ce_one (ce_and (ce_cmp (op_inP (u65 hr)) ce_str (ce_var 2) (by rfl)) (ce_one (ce_cmp (op_inP (u65 hr)) ce_str (ce_var 2) (by rfl))))))))))))
def N__law_wrong : List Str := ["_law_rows", "_law_at", "_law_pair_here", "_law_other"]
theorem sc__law_wrong : FnScope N__law_wrong ["_law_rows"] (defScope st__law_wrong) :=
  ⟨rfl, rfl, rfl, by decide +kernel, rfl, by decide +kernel, by decide +kernel⟩
abbrev m__law_wrong (K : PySem.W.Frag) (A : Ad) : S := (sSeq (sFor (iEnumM (eVar 0)) (gPat (aTup (aCons (aNm 1) (aCons (aNm 2) aNil)))) (sIf (tOrM (tNotM (tVal (eCall (f__law_is_promise K A) [] (eCons (eVar 2) eNil)))) (tOpT neP (eTmp (lComp (iAll (eSl (eVar 0) oNone (oSome (eVar 1)))) (aNm 3) (tVal (eCall (f__law_bars K A) [] (eCons (eVar 2) (eCons (eVar 3) eNil)))) (eC (.int 1)) [3])) (eTmp (lLst eNil)))) (sRet (eVar 1)) sNext))
  (sRet (eUn negP (eC (.int 1)))))
def f__law_wrong (K : PySem.W.Frag) (A : Ad) : Fn := runFn 1 4 (m__law_wrong K A)
theorem ok__law_wrong (T : Tx P w K mg A) : FnG P w K mg base 4 A.f__law_wrong ["_law_rows"] (f__law_wrong K A) :=
  fnG_mk (k := 3) T.F__law_wrong sc__law_wrong (fun _ _ _ _ _ _ us hl => match us, hl with | [_], _ => rfl) fun cdv A' outer s H E hr => by
  have S := sc__law_wrong
  have tk := tkF (P := P) (w := w) (K := K) (mg := mg) (base := base) (N := N__law_wrong) (qual := "_law_wrong") (scope := defScope st__law_wrong) (f := A.f__law_wrong) (cd := cdv) (A := A') (outer := outer) (s := s) (H := H) (E := E)
  have hp := hpF (P := P) (w := w) (K := K) (mg := mg) (base := base) (N := N__law_wrong) (qual := "_law_wrong") (scope := defScope st__law_wrong) (f := A.f__law_wrong) (cd := cdv) (A := A') (outer := outer) (s := s) (H := H) (E := E)
  exact (css_cons (cs_for hp rfl (ci_enum rfl T.n_enumerate (ce_var 0)) (cg_pat (pg_tup rfl (pgs_cons (pg_name (i := 1) S.nd rfl (by first | exact Or.inl rfl | exact Or.inr rfl)) (pgs_cons (pg_name (i := 2) S.nd rfl (by first | exact Or.inl rfl | exact Or.inr rfl)) pgs_nil))) (pat_tup (pats_cons (pat_nm 1) (pats_cons (pat_nm 2) pats_nil)) (aCons_len (aCons_len aNil_len)))) (css_one (cs_if (CW.t (cw_or (ct_not (ct_val (ce_callG (ok__law_is_promise T) (hr.mono (by decide)) rfl T.g__law_is_promise tk (ca_cons (ce_var 2) ca_nil)))) (cw_or1 (ct_cmp (op_neP (u64 hr)) (ce_tmp (cl_comp (own := [("_law_other", 3)]) rfl S.nd (ci_all (ce_sl (ce_var 0) co_none (co_some (ce_var 1)))) (blkOk_by (N := N__law_wrong) (sc := defScope st__law_wrong) (by decide +kernel)) (fun _ _ _ _ _ => (pg_name (i := 3) S.nd rfl (by first | exact Or.inl rfl | exact Or.inr rfl))) (pat_nm 3) (by decide) (fun _ _ _ _ _ => (cts_one (ct_val (ce_callG (ok__law_bars T) (hr.mono (by decide)) rfl T.g__law_bars takes0 (ca_cons (ce_var 2) (ca_cons (ce_var 3) ca_nil)))))) (fun _ _ _ _ _ => ce_int))) (ce_tmp (cl_lst ca_nil)) (nomark _))))) (css_one (cs_ret (ce_var 1))) css_nil)))
  (css_one (cs_ret (ce_un un_negP ce_int))))
def N__law_due : List Str := ["_law_rows", "_law_found", "_law_pair_here", "_law_text"]
theorem sc__law_due : FnScope N__law_due ["_law_rows"] (defScope st__law_due) :=
  ⟨rfl, rfl, rfl, by decide +kernel, rfl, by decide +kernel, by decide +kernel⟩
abbrev m__law_due (K : PySem.W.Frag) (A : Ad) : S := (sSeq (sSet 1 (eDict (eCons (eTmp (lComp (iAll (eVar 0)) (aNm 2) tYesM (eTup (eCons (eBm joinP isS (eC (.str " ")) (eCons (eVar 2) eNil)) (eCons (eVar 2) eNil))) [2])) eNil)))
  (sRet (ePN tupP (eCons (eTmp (lComp (iAll (eTmp (lPN sortL (eCons (eTmp (lComp (iAll (eVar 1)) (aNm 3) tYesM (ePN strP (eCons (eVar 3) eNil)) [3])) eNil)))) (aNm 3) tYesM (eOp itemP (eVar 1) (eVar 3)) [3])) eNil))))
def f__law_due (K : PySem.W.Frag) (A : Ad) : Fn := runFn 1 4 (m__law_due K A)
theorem ok__law_due (T : Tx P w K mg A) : FnG P w K mg base 1 A.f__law_due ["_law_rows"] (f__law_due K A) :=
  fnG_mk (k := 0) T.F__law_due sc__law_due (fun _ _ _ _ _ _ us hl => match us, hl with | [_], _ => rfl) fun cdv A' outer s H E hr => by
  have S := sc__law_due
  have tk := tkF (P := P) (w := w) (K := K) (mg := mg) (base := base) (N := N__law_due) (qual := "_law_due") (scope := defScope st__law_due) (f := A.f__law_due) (cd := cdv) (A := A') (outer := outer) (s := s) (H := H) (E := E)
  have hp := hpF (P := P) (w := w) (K := K) (mg := mg) (base := base) (N := N__law_due) (qual := "_law_due") (scope := defScope st__law_due) (f := A.f__law_due) (cd := cdv) (A := A') (outer := outer) (s := s) (H := H) (E := E)
  exact (css_cons (cs_set (i := 1) S.nd rfl (by first | exact Or.inl rfl | exact Or.inr rfl) (ce_dict rfl rfl T.n_dict (ca_cons (ce_tmp (cl_comp (own := [("_law_pair_here", 2)]) rfl S.nd (ci_all (ce_var 0)) (blkOk_by (N := N__law_due) (sc := defScope st__law_due) (by decide +kernel)) (fun _ _ _ _ _ => (pg_name (i := 2) S.nd rfl (by first | exact Or.inl rfl | exact Or.inr rfl))) (pat_nm 2) (by decide) (fun _ _ _ _ _ => cts_nil) (fun _ _ _ _ _ => (ce_tup (ca_cons (ce_bm PySem.F.plainAttrs_str PySem.F.slot_str_join PySem.F.type_str_join mt_joinP tc_str ce_str (ca_cons (ce_var 2) ca_nil)) (ca_cons (ce_var 2) ca_nil)))))) ca_nil)))
  (css_one (cs_ret (ce_callTy call_tupP rfl T.n_tuple (by decide +kernel) (ca_cons (ce_tmp (cl_comp (own := [("_law_text", 3)]) rfl S.nd (ci_all (ce_tmp (cl_sorted rfl T.n_sorted (ca_cons (ce_tmp (cl_comp (own := [("_law_text", 3)]) rfl S.nd (ci_all (ce_var 1)) (blkOk_by (N := N__law_due) (sc := defScope st__law_due) (by decide +kernel)) (fun _ _ _ _ _ => (pg_name (i := 3) S.nd rfl (by first | exact Or.inl rfl | exact Or.inr rfl))) (pat_nm 3) (by decide) (fun _ _ _ _ _ => cts_nil) (fun _ _ _ _ _ => (ce_callTy call_strP rfl T.n_str (by decide +kernel) (ca_cons (ce_var 3) ca_nil))))) ca_nil)))) (blkOk_by (N := N__law_due) (sc := defScope st__law_due) (by decide +kernel)) (fun _ _ _ _ _ => (pg_name (i := 3) S.nd rfl (by first | exact Or.inl rfl | exact Or.inr rfl))) (pat_nm 3) (by decide) (fun _ _ _ _ _ => cts_nil) (fun _ _ _ _ _ => (ce_ix (ix_item (u1 hr)) (ce_var 1) (ce_var 3) (fun _ _ => rfl))))) ca_nil)))))
def N__law_pair : List Str := ["_law_box_here", "_law_methods_here", "_law_word", "_law_some", "_law_method"]
theorem sc__law_pair : FnScope N__law_pair ["_law_box_here", "_law_methods_here"] (defScope st__law_pair) :=
  ⟨rfl, rfl, rfl, by decide +kernel, rfl, by decide +kernel, by decide +kernel⟩
abbrev m__law_pair (K : PySem.W.Frag) (A : Ad) : S := (sSeq (sSet 2 (eCall (f__law_pick K A) [] (eCons (eVar 0) (eCons (eTmp (lLst (eCons (eC (.str "bare")) (eCons (eC (.str "has")) (eCons (eC (.str "calm")) (eCons (eC (.str "takes")) (eCons (eC (.str "itself")) (eCons (eC (.str "truth")) eNil)))))))) eNil))))
  (sSeq (sSet 3 (eTmp (lComp (iAll (eVar 1)) (aNm 4) (tOpT inP (eVar 4) (eCall (f__law_lets K A) [] (eCons (eVar 2) eNil))) (eVar 4) [4])))
  (sRet (eTup (eCons (eVar 2) (eCons (eCall (f__law_pick K A) [] (eCons (eVar 0) (eCons (eOp addP (eVar 3) (eOp mulP (eTmp (lLst (eCons (eCall (f__law_pick K A) [] (eCons (eVar 0) (eCons (eCall (f__law_lets K A) [] (eCons (eVar 2) eNil)) eNil))) eNil))) (ePN intP (eCons (eOp eqP (eVar 3) (eTmp (lLst eNil))) eNil)))) eNil))) eNil))))))
def f__law_pair (K : PySem.W.Frag) (A : Ad) : Fn := runFn 2 5 (m__law_pair K A)
theorem ok__law_pair (T : Tx P w K mg A) : FnG P w K mg base 3 A.f__law_pair ["_law_box_here", "_law_methods_here"] (f__law_pair K A) :=
  fnG_mk (k := 2) T.F__law_pair sc__law_pair (fun _ _ _ _ _ _ us hl => match us, hl with | [_, _], _ => rfl) fun cdv A' outer s H E hr => by
  have S := sc__law_pair
  have tk := tkF (P := P) (w := w) (K := K) (mg := mg) (base := base) (N := N__law_pair) (qual := "_law_pair") (scope := defScope st__law_pair) (f := A.f__law_pair) (cd := cdv) (A := A') (outer := outer) (s := s) (H := H) (E := E)
  have hp := hpF (P := P) (w := w) (K := K) (mg := mg) (base := base) (N := N__law_pair) (qual := "_law_pair") (scope := defScope st__law_pair) (f := A.f__law_pair) (cd := cdv) (A := A') (outer := outer) (s := s) (H := H) (E := E)
  exact (css_cons (cs_set (i := 2) S.nd rfl (by first | exact Or.inl rfl | exact Or.inr rfl) (ce_callG (ok__law_pick T) (hr.mono (by decide)) rfl T.g__law_pick tk (ca_cons (ce_var 0) (ca_cons (ce_tmp (cl_lst (ca_cons ce_str (ca_cons ce_str (ca_cons ce_str (ca_cons ce_str (ca_cons ce_str (ca_cons ce_str ca_nil)))))))) ca_nil))))
  (css_cons (cs_setLc (i := 3) (own := [("_law_method", 4)]) rfl S.nd rfl rfl (sw_true rfl rfl rfl (by decide +kernel)) (ci_all (ce_var 1)) (blkOk_by (N := N__law_pair) (sc := defScope st__law_pair) (by decide +kernel)) (fun _ _ _ _ _ => (pg_name (i := 4) S.nd rfl (by first | exact Or.inl rfl | exact Or.inr rfl))) (pat_nm 4) (by decide) (fun _ _ _ _ _ => (cts_one (ct_cmp (op_inP (u65 hr)) (ce_var 4) (ce_callG (ok__law_lets T) (hr.mono (by decide)) rfl T.g__law_lets takes0 (ca_cons (ce_var 2) ca_nil)) (by rfl)))) (fun _ _ _ _ _ => (ce_var 4)))
  (css_one (cs_ret (ce_tup (ca_cons (ce_var 2) (ca_cons (ce_callG (ok__law_pick T) (hr.mono (by decide)) rfl T.g__law_pick tk (ca_cons (ce_var 0) (ca_cons (ce_op op_addP (ce_var 3) (ce_op op_mulP (ce_tmp (cl_lst (ca_cons (ce_callG (ok__law_pick T) (hr.mono (by decide)) rfl T.g__law_pick tk (ca_cons (ce_var 0) (ca_cons (ce_callG (ok__law_lets T) (hr.mono (by decide)) rfl T.g__law_lets tk (ca_cons (ce_var 2) ca_nil)) ca_nil))) ca_nil))) (ce_callTy call_intP rfl T.n_int (by decide +kernel) (ca_cons (ce_cmp (op_eqP (u64 hr)) (ce_var 3) (ce_tmp (cl_lst ca_nil)) (nomark _)) ca_nil)))) ca_nil))) ca_nil)))))))
def N__law_odd : List Str := ["_law_box_here", "_law_pair_here", "_law_some"]
theorem sc__law_odd : FnScope N__law_odd ["_law_box_here", "_law_pair_here"] (defScope st__law_odd) :=
  ⟨rfl, rfl, rfl, by decide +kernel, rfl, by decide +kernel, by decide +kernel⟩
abbrev m__law_odd (K : PySem.W.Frag) (A : Ad) : S := (sSeq (sSet 2 (eTmp (lLst (eCons (eTup (eCons (eOp itemP (eVar 1) (eC (.int 0))) (eCons (eC (.str "next")) eNil))) (eCons (eTup (eCons (eC (.str "takes")) (eCons (eC (.str "neg")) eNil))) (eCons (eTup (eCons (eC (.str "truth")) (eCons (eC (.str "add")) eNil))) (eCons (eTup (eCons (eC (.str "itself")) (eCons (eC (.str "len")) eNil))) (eCons (eTup (eCons (eOp itemP (eVar 1) (eC (.int 0))) (eCons (eOp itemP (eVar 1) (eC (.int 1))) (eCons (eOp itemP (eVar 1) (eC (.int 1))) eNil)))) eNil))))))))
  (sSeq (sSet 2 (eOp addP (eVar 2) (eTmp (lLst (eCons (eTmp (lPN listL (eCons (eVar 1) eNil))) (eCons (eOp addP (eOp addP (eOp itemP (eVar 1) (eC (.int 0))) (eC (.str " "))) (eOp itemP (eVar 1) (eC (.int 1)))) (eCons (eSl (eVar 1) oNone (oSome (eC (.int 1)))) (eCons (eC .non) (eCons (eC (.int 7)) (eCons (eC (.bl true)) (eCons (eTup (eCons (eOp itemP (eVar 1) (eC (.int 0))) (eCons (eC (.int 7)) eNil))) (eCons (eTup (eCons (eC .non) (eCons (eOp itemP (eVar 1) (eC (.int 1))) eNil))) (eCons (eTup eNil) eNil)))))))))))))
  (sSeq (sSet 2 (eOp addP (eVar 2) (eTmp (lLst (eCons (eTup (eCons (eOp itemP (eVar 1) (eC (.int 1))) (eCons (eOp itemP (eVar 1) (eC (.int 0))) eNil))) (eCons (eTup (eCons (eBm0 upperP isS (eOp itemP (eVar 1) (eC (.int 0)))) (eCons (eOp itemP (eVar 1) (eC (.int 1))) eNil))) (eCons (eTup (eCons (eC (.str "")) (eCons (eOp itemP (eVar 1) (eC (.int 1))) eNil))) (eCons (eTup (eCons (eOp itemP (eVar 1) (eC (.int 0))) (eCons (eC (.str "")) eNil))) (eCons (eTup (eCons (eC (.str "itself")) (eCons (eC (.str "next")) eNil))) eNil)))))))))
  (sRet (eCall (f__law_pick K A) [] (eCons (eVar 0) (eCons (eOp addP (eVar 2) (eTmp (lLst (eCons (eTup (eCons (eOp itemP (eVar 1) (eC (.int 0))) (eCons (eTup (eCons (eOp itemP (eVar 1) (eC (.int 1))) eNil)) eNil))) (eCons (eTup (eCons (eTmp (lLst (eCons (eOp itemP (eVar 1) (eC (.int 0))) eNil))) (eCons (eOp itemP (eVar 1) (eC (.int 1))) eNil))) (eCons (eTup (eCons (eC (.str "hass")) (eCons (eOp itemP (eVar 1) (eC (.int 1))) eNil))) (eCons (eTup (eCons (eC (.str "has")) (eCons (eC (.str "pow")) eNil))) eNil))))))) eNil)))))))
def f__law_odd (K : PySem.W.Frag) (A : Ad) : Fn := runFn 2 3 (m__law_odd K A)
theorem ok__law_odd (T : Tx P w K mg A) : FnG P w K mg base 3 A.f__law_odd ["_law_box_here", "_law_pair_here"] (f__law_odd K A) :=
  fnG_mk (k := 2) T.F__law_odd sc__law_odd (fun _ _ _ _ _ _ us hl => match us, hl with | [_, _], _ => rfl) fun cdv A' outer s H E hr => by
  have S := sc__law_odd
  have tk := tkF (P := P) (w := w) (K := K) (mg := mg) (base := base) (N := N__law_odd) (qual := "_law_odd") (scope := defScope st__law_odd) (f := A.f__law_odd) (cd := cdv) (A := A') (outer := outer) (s := s) (H := H) (E := E)
  have hp := hpF (P := P) (w := w) (K := K) (mg := mg) (base := base) (N := N__law_odd) (qual := "_law_odd") (scope := defScope st__law_odd) (f := A.f__law_odd) (cd := cdv) (A := A') (outer := outer) (s := s) (H := H) (E := E)
  exact (css_cons (cs_set (i := 2) S.nd rfl (by first | exact Or.inl rfl | exact Or.inr rfl) (ce_tmp (cl_lst (ca_cons (ce_tup (ca_cons (ce_ix (ix_item (u1 hr)) (ce_var 1) ce_int (fun _ _ => rfl)) (ca_cons ce_str ca_nil))) (ca_cons (ce_tup (ca_cons ce_str (ca_cons ce_str ca_nil))) (ca_cons (ce_tup (ca_cons ce_str (ca_cons ce_str ca_nil))) (ca_cons (ce_tup (ca_cons ce_str (ca_cons ce_str ca_nil))) (ca_cons (ce_tup (ca_cons (ce_ix (ix_item (u1 hr)) (ce_var 1) ce_int (fun _ _ => rfl)) (ca_cons (ce_ix (ix_item (u1 hr)) (ce_var 1) ce_int (fun _ _ => rfl)) (ca_cons (ce_ix (ix_item (u1 hr)) (ce_var 1) ce_int (fun _ _ => rfl)) ca_nil)))) ca_nil))))))))
  (css_cons (cs_set (i := 2) S.nd rfl (by first | exact Or.inl rfl | exact Or.inr rfl) (ce_op op_addP (ce_var 2) (ce_tmp (cl_lst (ca_cons (ce_tmp (cl_list rfl T.n_list (ca_cons (ce_var 1) ca_nil))) (ca_cons (ce_op op_addP (ce_op op_addP (ce_ix (ix_item (u1 hr)) (ce_var 1) ce_int (fun _ _ => rfl)) ce_str) (ce_ix (ix_item (u1 hr)) (ce_var 1) ce_int (fun _ _ => rfl))) (ca_cons (ce_sl (ce_var 1) co_none (co_some ce_int)) (ca_cons ce_non (ca_cons ce_int (ca_cons ce_bl (ca_cons (ce_tup (ca_cons (ce_ix (ix_item (u1 hr)) (ce_var 1) ce_int (fun _ _ => rfl)) (ca_cons ce_int ca_nil))) (ca_cons (ce_tup (ca_cons ce_non (ca_cons (ce_ix (ix_item (u1 hr)) (ce_var 1) ce_int (fun _ _ => rfl)) ca_nil))) (ca_cons (ce_tup ca_nil) ca_nil)))))))))))))
  (css_cons (cs_set (i := 2) S.nd rfl (by first | exact Or.inl rfl | exact Or.inr rfl) (ce_op op_addP (ce_var 2) (ce_tmp (cl_lst (ca_cons (ce_tup (ca_cons (ce_ix (ix_item (u1 hr)) (ce_var 1) ce_int (fun _ _ => rfl)) (ca_cons (ce_ix (ix_item (u1 hr)) (ce_var 1) ce_int (fun _ _ => rfl)) ca_nil))) (ca_cons (ce_tup (ca_cons (ce_bm0 PySem.F.plainAttrs_str PySem.F.slot_str_upper PySem.F.type_str_upper mt_upperP tc_str (ce_ix (ix_item (u1 hr)) (ce_var 1) ce_int (fun _ _ => rfl))) (ca_cons (ce_ix (ix_item (u1 hr)) (ce_var 1) ce_int (fun _ _ => rfl)) ca_nil))) (ca_cons (ce_tup (ca_cons ce_str (ca_cons (ce_ix (ix_item (u1 hr)) (ce_var 1) ce_int (fun _ _ => rfl)) ca_nil))) (ca_cons (ce_tup (ca_cons (ce_ix (ix_item (u1 hr)) (ce_var 1) ce_int (fun _ _ => rfl)) (ca_cons ce_str ca_nil))) (ca_cons (ce_tup (ca_cons ce_str (ca_cons ce_str ca_nil))) ca_nil)))))))))
  (css_one (cs_ret (ce_callG (ok__law_pick T) (hr.mono (by decide)) rfl T.g__law_pick tk (ca_cons (ce_var 0) (ca_cons (ce_op op_addP (ce_var 2) (ce_tmp (cl_lst (ca_cons (ce_tup (ca_cons (ce_ix (ix_item (u1 hr)) (ce_var 1) ce_int (fun _ _ => rfl)) (ca_cons (ce_tup (ca_cons (ce_ix (ix_item (u1 hr)) (ce_var 1) ce_int (fun _ _ => rfl)) ca_nil)) ca_nil))) (ca_cons (ce_tup (ca_cons (ce_tmp (cl_lst (ca_cons (ce_ix (ix_item (u1 hr)) (ce_var 1) ce_int (fun _ _ => rfl)) ca_nil))) (ca_cons (ce_ix (ix_item (u1 hr)) (ce_var 1) ce_int (fun _ _ => rfl)) ca_nil))) (ca_cons (ce_tup (ca_cons ce_str (ca_cons (ce_ix (ix_item (u1 hr)) (ce_var 1) ce_int (fun _ _ => rfl)) ca_nil))) (ca_cons (ce_tup (ca_cons ce_str (ca_cons ce_str ca_nil))) ca_nil))))))) ca_nil))))))))
def N__law_pairs : List Str := ["_law_box_here", "_law_methods_here", "_law_found", "_law_at", "_law_k"]
theorem sc__law_pairs : FnScope N__law_pairs ["_law_box_here"] (defScope st__law_pairs) :=
  ⟨rfl, rfl, rfl, by decide +kernel, rfl, by decide +kernel, by decide +kernel⟩
abbrev m__law_pairs (K : PySem.W.Frag) (A : Ad) : S := (sSeq (sSet 1 (eTmp (lComp (iRange1 (eOp addP (eC (.int 1)) (eCall (f__law_take K A) [] (eCons (eVar 0) (eCons (eC (.int 4)) eNil))))) (aNm 4) tYesM (eCall (f__law_pick K A) [] (eCons (eVar 0) (eCons (eCall (f__law_methods K A) [] eNil) eNil))) [4])))
  (sSeq (sSet 2 (eNew (lComp (iRange1 (eCall (f__law_take K A) [] (eCons (eVar 0) (eCons (eC (.int 9)) eNil)))) (aNm 4) tYesM (eCall (f__law_pair K A) [] (eCons (eVar 0) (eCons (eVar 1) eNil))) [4])))
  (sSeq (sIf (tAndM (tOpT neP (eVar 2) (eTmp (lLst eNil))) (tOpT eqP (eCall (f__law_take K A) [] (eCons (eVar 0) (eCons (eC (.int 3)) eNil))) (eC (.int 0)))) (sSeq (sSet 3 (eCall (f__law_take K A) [] (eCons (eVar 0) (eCons (ePN lenP (eCons (eVar 2) eNil)) eNil))))
  (sAsg (eCall (f__law_odd K A) [] (eCons (eVar 0) (eCons (eOp itemP (eVar 2) (eVar 3)) eNil))) (gSubM setM (eVar 2) (eVar 3)))) sNext)
  (sSeq (sIf (tAndM (tOpT neP (eVar 2) (eTmp (lLst eNil))) (tOpT eqP (eCall (f__law_take K A) [] (eCons (eVar 0) (eCons (eC (.int 3)) eNil))) (eC (.int 0)))) (sDrop (eBmM insertM isL (eVar 2) (eCons (eCall (f__law_take K A) [] (eCons (eVar 0) (eCons (eOp addP (ePN lenP (eCons (eVar 2) eNil)) (eC (.int 1))) eNil))) (eCons (eCall (f__law_pick K A) [] (eCons (eVar 0) (eCons (eVar 2) eNil))) eNil)))) sNext)
  (sRet (eSl (eVar 2) oNone (oSome (eC (.int 8)))))))))
def f__law_pairs (K : PySem.W.Frag) (A : Ad) : Fn := runFn 1 5 (m__law_pairs K A)
theorem ok__law_pairs (T : Tx P w K mg A) : FnG P w K mg base 4 A.f__law_pairs ["_law_box_here"] (f__law_pairs K A) :=
  fnG_mk (k := 3) T.F__law_pairs sc__law_pairs (fun _ _ _ _ _ _ us hl => match us, hl with | [_], _ => rfl) fun cdv A' outer s H E hr => by
  have S := sc__law_pairs
  have tk := tkF (P := P) (w := w) (K := K) (mg := mg) (base := base) (N := N__law_pairs) (qual := "_law_pairs") (scope := defScope st__law_pairs) (f := A.f__law_pairs) (cd := cdv) (A := A') (outer := outer) (s := s) (H := H) (E := E)
  have hp := hpF (P := P) (w := w) (K := K) (mg := mg) (base := base) (N := N__law_pairs) (qual := "_law_pairs") (scope := defScope st__law_pairs) (f := A.f__law_pairs) (cd := cdv) (A := A') (outer := outer) (s := s) (H := H) (E := E)
  exact (css_cons (cs_set (i := 1) S.nd rfl (by first | exact Or.inl rfl | exact Or.inr rfl) (ce_tmp (cl_comp (own := [("_law_k", 4)]) rfl S.nd (ci_range1 rfl T.n_range (ce_op op_addP ce_int (ce_callG (ok__law_take T) (hr.mono (by decide)) rfl T.g__law_take tk (ca_cons (ce_var 0) (ca_cons ce_int ca_nil))))) (blkOk_by (N := N__law_pairs) (sc := defScope st__law_pairs) (by decide +kernel)) (fun _ _ _ _ _ => (pg_name (i := 4) S.nd rfl (by first | exact Or.inl rfl | exact Or.inr rfl))) (pat_nm 4) (by decide) (fun _ _ _ _ _ => cts_nil) (fun _ _ _ _ _ => (ce_callG (ok__law_pick T) (hr.mono (by decide)) rfl T.g__law_pick takes0 (ca_cons (ce_var 0) (ca_cons (ce_callG0 (ok__law_methods T) (hr.mono (by decide)) rfl T.g__law_methods takes0) ca_nil)))))))
  (css_cons (cs_setLcN (i := 2) (own := [("_law_k", 4)]) rfl S.nd rfl rfl (sw_true rfl rfl rfl (by decide +kernel)) (ci_range1 rfl T.n_range (ce_callG (ok__law_take T) (hr.mono (by decide)) rfl T.g__law_take tk (ca_cons (ce_var 0) (ca_cons ce_int ca_nil)))) (blkOk_by (N := N__law_pairs) (sc := defScope st__law_pairs) (by decide +kernel)) (fun _ _ _ _ _ => (pg_name (i := 4) S.nd rfl (by first | exact Or.inl rfl | exact Or.inr rfl))) (pat_nm 4) (by decide) (fun _ _ _ _ _ => cts_nil) (fun _ _ _ _ _ => (ce_callG (ok__law_pair T) (hr.mono (by decide)) rfl T.g__law_pair takes0 (ca_cons (ce_var 0) (ca_cons (ce_var 1) ca_nil)))))
  (css_cons (cs_if (CW.t (cw_and (ct_cmp (op_neP (u64 hr)) (ce_var 2) (ce_tmp (cl_lst ca_nil)) (nomark _)) (cw_and1 (ct_cmp (op_eqP (u64 hr)) (ce_callG (ok__law_take T) (hr.mono (by decide)) rfl T.g__law_take tk (ca_cons (ce_var 0) (ca_cons ce_int ca_nil))) ce_int (nomark _))))) (css_cons (cs_set (i := 3) S.nd rfl (by first | exact Or.inl rfl | exact Or.inr rfl) (ce_callG (ok__law_take T) (hr.mono (by decide)) rfl T.g__law_take tk (ca_cons (ce_var 0) (ca_cons (ce_callB call_lenP rfl T.n_len (by decide +kernel) (ca_cons (ce_var 2) ca_nil)) ca_nil))))
  (css_one (cs_asg (ce_callG (ok__law_odd T) (hr.mono (by decide)) rfl T.g__law_odd tk (ca_cons (ce_var 0) (ca_cons (ce_ix (ix_item (u1 hr)) (ce_var 2) (ce_var 3) (fun _ _ => rfl)) ca_nil))) (cg_sub (u1 hr) (ce_var 2) (ce_var 3))))) css_nil)
  (css_cons (cs_if (CW.t (cw_and (ct_cmp (op_neP (u64 hr)) (ce_var 2) (ce_tmp (cl_lst ca_nil)) (nomark _)) (cw_and1 (ct_cmp (op_eqP (u64 hr)) (ce_callG (ok__law_take T) (hr.mono (by decide)) rfl T.g__law_take tk (ca_cons (ce_var 0) (ca_cons ce_int ca_nil))) ce_int (nomark _))))) (css_one (cs_expr (ce_bmM PySem.F.plainAttrs_list PySem.F.slot_list_insert PySem.F.type_list_insert mt_insertM tc_list (ce_var 2) (ca_cons (ce_callG (ok__law_take T) (hr.mono (by decide)) rfl T.g__law_take tk (ca_cons (ce_var 0) (ca_cons (ce_op op_addP (ce_callB call_lenP rfl T.n_len (by decide +kernel) (ca_cons (ce_var 2) ca_nil)) ce_int) ca_nil))) (ca_cons (ce_callG (ok__law_pick T) (hr.mono (by decide)) rfl T.g__law_pick tk (ca_cons (ce_var 0) (ca_cons (ce_var 2) ca_nil))) ca_nil))))) css_nil)
  (css_one (cs_ret (ce_sl (ce_var 2) co_none (co_some ce_int))))))))
end
end PM
namespace PM
open PySem L2 Mi
section
variable {P : Program} {w : World} {K : PySem.W.Frag} {mg : Str → Option Value} {base : Heap} {A : Ad}
def N__law_told : List Str := ["_law_rows", "_law_found", "e", "_law_is_own"]
theorem sc__law_told : FnScope N__law_told ["_law_rows"] (defScope st__law_told) :=
  ⟨rfl, rfl, rfl, by decide +kernel, rfl, by decide +kernel, by decide +kernel⟩
abbrev m__law_told (K : PySem.W.Frag) (A : Ad) : S := (sSeq (sSet 1 (eC .non))
  (sSeq (sTry K A.c_InvalidPromise 2 (sSet 1 (eMake A.c_Promises (f_Promises___init__ K A) [] (eCons (eVar 0) eNil))) (fun fs => (sSeq (sSet 3 (eAnd (eXit K A.c_InvalidPromise (eCons (eC (.adr A.c_AskError)) eNil)) (eAnd (eXit K A.c_InvalidPromise (eCons (eC (.ty "ValueError")) eNil)) (eNot (eXit K A.c_InvalidPromise (eCons (eC (.adr A.c_Misfit)) eNil)))))) (sSet 1 (eTup (eCons (eXat fs "at") (eCons (eVar 3) eNil)))))))
  (sRet (eVar 1))))
def f__law_told (K : PySem.W.Frag) (A : Ad) : Fn := runFn 1 4 (m__law_told K A)
theorem ok__law_told (T : Tx P w K mg A) : FnG P w K mg base 6 A.f__law_told ["_law_rows"] (f__law_told K A) :=
  fnG_mk (k := 5) T.F__law_told sc__law_told (fun _ _ _ _ _ _ us hl => match us, hl with | [_], _ => rfl) fun cdv A' outer s H E hr => by
  have S := sc__law_told
  have tk := tkF (P := P) (w := w) (K := K) (mg := mg) (base := base) (N := N__law_told) (qual := "_law_told") (scope := defScope st__law_told) (f := A.f__law_told) (cd := cdv) (A := A') (outer := outer) (s := s) (H := H) (E := E)
  have hp := hpF (P := P) (w := w) (K := K) (mg := mg) (base := base) (N := N__law_told) (qual := "_law_told") (scope := defScope st__law_told) (f := A.f__law_told) (cd := cdv) (A := A') (outer := outer) (s := s) (H := H) (E := E)
  exact (css_cons (cs_set (i := 1) S.nd rfl (by first | exact Or.inl rfl | exact Or.inr rfl) ce_non)
  (css_cons (cs_try (mS := fun a dd => (sSeq (sSet 3 (eAnd (eXis K a A.c_InvalidPromise dd 2 (eCons (eC (.adr A.c_AskError)) eNil)) (eAnd (eXis K a A.c_InvalidPromise dd 2 (eCons (eC (.ty "ValueError")) eNil)) (eNot (eXis K a A.c_InvalidPromise dd 2 (eCons (eC (.adr A.c_Misfit)) eNil)))))) (sSet 1 (eTup (eCons (eXf a A.c_InvalidPromise dd 2 "at") (eCons (eVar 3) eNil)))))) (su := fun fs => (sSeq (sSet 3 (eAnd (eXit K A.c_InvalidPromise (eCons (eC (.adr A.c_AskError)) eNil)) (eAnd (eXit K A.c_InvalidPromise (eCons (eC (.ty "ValueError")) eNil)) (eNot (eXit K A.c_InvalidPromise (eCons (eC (.adr A.c_Misfit)) eNil)))))) (sSet 1 (eTup (eCons (eXat fs "at") (eCons (eVar 3) eNil)))))) rfl rfl S.nd (i := 2) rfl rfl rfl T.g_InvalidPromise T.ex_InvalidPromise tk (fun W pn xe tk hp => (css_one (cs_set (i := 1) S.nd rfl (by first | exact Or.inl rfl | exact Or.inr rfl) (ce_makeG T.mkc_Promises (ok_Promises___init__ T) (hr.mono (by decide)) rfl T.g_Promises tk (ca_cons (ce_var 0) ca_nil))))) (fun a dd oe pn hz hf => (css_cons (cs_set (i := 3) S.nd rfl (by first | exact Or.inl rfl | exact Or.inr rfl) (ce_and (ce_xis (i := 2) T.xc_InvalidPromise hz hf rfl T.n_isinstance (ca_cons (ce_c (pe_glob (v := .ref A.c_AskError) rfl T.g_AskError rfl) fun _ _ => rfl) ca_nil)) (ce_and (ce_xis (i := 2) T.xc_InvalidPromise hz hf rfl T.n_isinstance (ca_cons (ce_c (pe_bltn (v := .ty "ValueError") rfl T.n_ValueError (by decide +kernel) rfl) fun _ _ => rfl) ca_nil)) (ce_one (ce_not (ce_xis (i := 2) T.xc_InvalidPromise hz hf rfl T.n_isinstance (ca_cons (ce_c (pe_glob (v := .ref A.c_Misfit) rfl T.g_Misfit rfl) fun _ _ => rfl) ca_nil))))))) (css_one (cs_set (i := 1) S.nd rfl (by first | exact Or.inl rfl | exact Or.inr rfl) (ce_tup (ca_cons (ce_xf (i := 2) T.xf_InvalidPromise T.no_InvalidPromise_at hz hf) (ca_cons (ce_var 3) ca_nil))))))) (fun a dd fs => Sx.drop (sx_seq (sx_set (by decide) (px_and (px_xis (px_cons px_c px_nil)) (px_and (px_xis (px_cons px_c px_nil)) (px_not (px_xis (px_cons px_c px_nil)))))) (sx_set (by decide) (px_tup (px_cons px_xf (px_cons (px_var (by decide)) px_nil)))))))
  (css_one (cs_ret (ce_var 1)))))
def N__law_set_right : List Str := ["_law_box_here", "_law_found", "_law_due_here", "_law_word", "_law_odds", "_law_method", "_law_same", "_law_less", "_law_pair_here", "_law_odd_here"]
theorem sc__law_set_right : FnScope N__law_set_right ["_law_box_here", "_law_found", "_law_due_here"] (defScope st__law_set_right) :=
  ⟨rfl, rfl, rfl, by decide +kernel, rfl, by decide +kernel, by decide +kernel⟩
abbrev m__law_set_right (K : PySem.W.Frag) (A : Ad) : S := (sSeq (sIf (tOrM (tNotM (tVal (ePN (isiP K (csOf A)) (eCons (eVar 1) (eCons (eC (.adr A.c_Promises)) eNil))))) (tOpT neP (eOwnC A.c_Promises (f_Promises___len__ K A) okLen lenP (eCons (eVar 1) eNil)) (ePN lenP (eCons (eVar 2) eNil)))) (sRet (eC (.bl false))) sNext)
  (sSeq (sIf (tOrM (tOpT neP (eOwnC A.c_Promises (f_Promises___str__ K A) okStr strP (eCons (eVar 1) eNil)) (eBm joinP isS (eC (.str ", ")) (eCons (eTmp (lComp (iAll (eVar 2)) (aNm 8) tYesM (eBm joinP isS (eC (.str " ")) (eCons (eVar 8) eNil)) [8])) eNil))) (tVal (eOwn K (csOf A) A.c_Promises (f_Promises___eq__ K A) true neP (eCMeth A.c_Promises (f_Promises_read K A) (eC (.adr A.c_Promises)) (eCons (eOwnC A.c_Promises (f_Promises___str__ K A) okStr strP (eCons (eVar 1) eNil)) eNil)) (eVar 1)))) (sRet (eC (.bl false))) sNext)
  (sSeq (sFor (iAll (eTup (eCons (eC (.str "bare")) (eCons (eC (.str "has")) (eCons (eC (.str "calm")) eNil))))) (gPat (aNm 3)) (sFor (iAll (eOp addP (eTmp (lComp (iAll (eVar 2)) (aNm 8) tYesM (eOp itemP (eVar 8) (eC (.int 1))) [8])) (eTmp (lLst (eCons (eC (.str "add")) eNil))))) (gPat (aNm 5)) (sIf (tOpT neP (eOwnI A.c_Promises (f_Promises___contains__ K A) inP (eTup (eCons (eVar 3) (eCons (eVar 5) eNil))) (eVar 1)) (eOp inP (eTup (eCons (eVar 3) (eCons (eVar 5) eNil))) (eVar 2))) (sRet (eC (.bl false))) sNext)))
  (sSeq (sSet 4 (eOp addP (eOp addP (eTmp (lLst (eCons (eC .non) (eCons (eC (.int 7)) (eCons (eC (.str "bare add")) (eCons (eTup eNil) eNil)))))) (eTmp (lComp (iAll (eVar 2)) (aNm 8) tYesM (eTmp (lPN listL (eCons (eVar 8) eNil))) [8]))) (eTmp (lComp (iAll (eVar 2)) (aNm 8) tYesM (eSl (eVar 8) oNone (oSome (eC (.int 1)))) [8]))))
  (sSeq (sIf (tOpT neP (eTmp (lComp (iAll (eVar 4)) (aNm 9) (tVal (eOwnI A.c_Promises (f_Promises___contains__ K A) inP (eVar 9) (eVar 1))) (eC (.int 1)) [9])) (eTmp (lLst eNil))) (sRet (eC (.bl false))) sNext)
  (sSeq (sPar2 6 7 (eMake A.c_Promises (f_Promises___init__ K A) [] (eCons (eCall (f__law_mixed K A) [] (eCons (eVar 0) (eCons (eOp addP (eVar 2) (eSl (eVar 2) oNone (oSome (eC (.int 1))))) eNil))) eNil)) (eMake A.c_Promises (f_Promises___init__ K A) [] (eCons (eSl (eVar 2) (oSome (eC (.int 1))) oNone) eNil)))
  (sSeq (sIf (tOrM (tNotM (tVal (eOwn K (csOf A) A.c_Promises (f_Promises___eq__ K A) false eqP (eVar 1) (eVar 6)))) (tOrM (tVal (eOwn K (csOf A) A.c_Promises (f_Promises___eq__ K A) true neP (eVar 1) (eVar 6))) (tOrM (tOpT neP (eOwn K (csOf A) A.c_Promises (f_Promises___eq__ K A) false eqP (eVar 1) (eVar 7)) (eOp eqP (ePN lenP (eCons (eVar 2) eNil)) (eC (.int 0)))) (tOpT eqP (eOwn K (csOf A) A.c_Promises (f_Promises___eq__ K A) true neP (eVar 1) (eVar 7)) (eOp eqP (ePN lenP (eCons (eVar 2) eNil)) (eC (.int 0))))))) (sRet (eC (.bl false))) sNext)
  (sRet (eOp eqP (eTmp (lComp (iAll (eTup (eCons (eVar 2) (eCons (eTmp (lPN listL (eCons (eVar 2) eNil))) (eCons (eOwnC A.c_Promises (f_Promises___str__ K A) okStr strP (eCons (eVar 1) eNil)) (eCons (eC .non) (eCons (ePN lenP (eCons (eVar 2) eNil)) eNil))))))) (aNm 9) (tOrM (tVal (eOwn K (csOf A) A.c_Promises (f_Promises___eq__ K A) false eqP (eVar 1) (eVar 9))) (tNotM (tVal (eOwn K (csOf A) A.c_Promises (f_Promises___eq__ K A) true neP (eVar 1) (eVar 9))))) (eC (.int 1)) [9])) (eTmp (lLst eNil)))))))))))
def f__law_set_right (K : PySem.W.Frag) (A : Ad) : Fn := runFn 3 10 (m__law_set_right K A)
theorem ok__law_set_right (T : Tx P w K mg A) : FnG P w K mg base 7 A.f__law_set_right ["_law_box_here", "_law_found", "_law_due_here"] (f__law_set_right K A) :=
  fnG_mk (k := 6) T.F__law_set_right sc__law_set_right (fun _ _ _ _ _ _ us hl => match us, hl with | [_, _, _], _ => rfl) fun cdv A' outer s H E hr => by
  have S := sc__law_set_right
  have tk := tkF (P := P) (w := w) (K := K) (mg := mg) (base := base) (N := N__law_set_right) (qual := "_law_set_right") (scope := defScope st__law_set_right) (f := A.f__law_set_right) (cd := cdv) (A := A') (outer := outer) (s := s) (H := H) (E := E)
  have hp := hpF (P := P) (w := w) (K := K) (mg := mg) (base := base) (N := N__law_set_right) (qual := "_law_set_right") (scope := defScope st__law_set_right) (f := A.f__law_set_right) (cd := cdv) (A := A') (outer := outer) (s := s) (H := H) (E := E)
  exact (css_cons (cs_if (CW.t (cw_or (ct_not (ct_val (ce_callB (call_isiP T.ci) rfl T.n_isinstance (by decide +kernel) (ca_cons (ce_var 1) (ca_cons (ce_c (pe_glob (v := .ref A.c_Promises) rfl T.g_Promises rfl) fun _ _ => rfl) ca_nil))))) (cw_or1 (ct_cmp (op_neP (u64 hr)) (ce_ownB (call_lenOwnM T.own_Promises___len__ T.fn_Promises___len__ (FnG.r (ok_Promises___len__ T)) (hr.mono (by decide)) call_lenP) rfl T.n_len (by decide +kernel) (ca_cons (ce_var 1) ca_nil)) (ce_callB call_lenP rfl T.n_len (by decide +kernel) (ca_cons (ce_var 2) ca_nil)) (nomark _))))) (css_one (cs_ret ce_bl)) css_nil)
  (css_cons (cs_if (CW.t (cw_or (ct_cmp (op_neP (u64 hr)) (ce_ownTy (call_strOwnM T.own_Promises___str__ T.fn_Promises___str__ (FnG.r (ok_Promises___str__ T)) (hr.mono (by decide)) call_strP) rfl T.n_str (by decide +kernel) (ca_cons (ce_var 1) ca_nil)) (ce_bm PySem.F.plainAttrs_str PySem.F.slot_str_join PySem.F.type_str_join mt_joinP tc_str ce_str (ca_cons (ce_tmp (cl_comp (own := [("_law_pair_here", 8)]) rfl S.nd (ci_all (ce_var 2)) (blkOk_by (N := N__law_set_right) (sc := defScope st__law_set_right) (by decide +kernel)) (fun _ _ _ _ _ => (pg_name (i := 8) S.nd rfl (by first | exact Or.inl rfl | exact Or.inr rfl))) (pat_nm 8) (by decide) (fun _ _ _ _ _ => cts_nil) (fun _ _ _ _ _ => (ce_bm PySem.F.plainAttrs_str PySem.F.slot_str_join PySem.F.type_str_join mt_joinP tc_str ce_str (ca_cons (ce_var 8) ca_nil))))) ca_nil)) (nomark _)) (cw_or1 (ct_own (op_ownNeM T.ci T.own_Promises___eq__ T.ne_Promises T.ob_Promises T.fn_Promises___eq__ (FnG.r (ok_Promises___eq__ T)) (hr.mono (by decide)) (op_neP (u64 hr))) (ce_cmethG (ce_c (pe_glob (v := .ref A.c_Promises) rfl T.g_Promises rfl) fun _ _ => rfl) T.cr_Promises T.cm_Promises_read (ok_Promises_read T) (hr.mono (by decide)) tk (ca_cons (ce_ownTy (call_strOwnM T.own_Promises___str__ T.fn_Promises___str__ (FnG.r (ok_Promises___str__ T)) (hr.mono (by decide)) call_strP) rfl T.n_str (by decide +kernel) (ca_cons (ce_var 1) ca_nil)) ca_nil)) (ce_var 1) (nomark _))))) (css_one (cs_ret ce_bl)) css_nil)
  (css_cons (cs_for hp rfl (ci_all (ce_tup (ca_cons ce_str (ca_cons ce_str (ca_cons ce_str ca_nil))))) (cg_pat (pg_name (i := 3) S.nd rfl (by first | exact Or.inl rfl | exact Or.inr rfl)) (pat_nm 3)) (css_one (cs_for hp rfl (ci_all (ce_op op_addP (ce_tmp (cl_comp (own := [("_law_pair_here", 8)]) rfl S.nd (ci_all (ce_var 2)) (blkOk_by (N := N__law_set_right) (sc := defScope st__law_set_right) (by decide +kernel)) (fun _ _ _ _ _ => (pg_name (i := 8) S.nd rfl (by first | exact Or.inl rfl | exact Or.inr rfl))) (pat_nm 8) (by decide) (fun _ _ _ _ _ => cts_nil) (fun _ _ _ _ _ => (ce_ix (ix_item (u1 hr)) (ce_var 8) ce_int (fun _ _ => rfl))))) (ce_tmp (cl_lst (ca_cons ce_str ca_nil))))) (cg_pat (pg_name (i := 5) S.nd rfl (by first | exact Or.inl rfl | exact Or.inr rfl)) (pat_nm 5)) (css_one (cs_if (ct_cmp (op_neP (u64 hr)) (ce_ownIn (op_ownIn T.own_Promises___contains__ T.fn_Promises___contains__ (FnG.r (ok_Promises___contains__ T)) (hr.mono (by decide)) (op_inP (u65 hr))) (ce_tup (ca_cons (ce_var 3) (ca_cons (ce_var 5) ca_nil))) (ce_var 1) (by rfl)) (ce_cmp (op_inP (u65 hr)) (ce_tup (ca_cons (ce_var 3) (ca_cons (ce_var 5) ca_nil))) (ce_var 2) (by rfl)) (nomark _)) (css_one (cs_ret ce_bl)) css_nil)))))
  (css_cons (cs_set (i := 4) S.nd rfl (by first | exact Or.inl rfl | exact Or.inr rfl) (ce_op op_addP (ce_op op_addP (ce_tmp (cl_lst (ca_cons ce_non (ca_cons ce_int (ca_cons ce_str (ca_cons (ce_tup ca_nil) ca_nil)))))) (ce_tmp (cl_comp (own := [("_law_pair_here", 8)]) rfl S.nd (ci_all (ce_var 2)) (blkOk_by (N := N__law_set_right) (sc := defScope st__law_set_right) (by decide +kernel)) (fun _ _ _ _ _ => (pg_name (i := 8) S.nd rfl (by first | exact Or.inl rfl | exact Or.inr rfl))) (pat_nm 8) (by decide) (fun _ _ _ _ _ => cts_nil) (fun _ _ _ _ _ => (ce_tmp (cl_list rfl T.n_list (ca_cons (ce_var 8) ca_nil))))))) (ce_tmp (cl_comp (own := [("_law_pair_here", 8)]) rfl S.nd (ci_all (ce_var 2)) (blkOk_by (N := N__law_set_right) (sc := defScope st__law_set_right) (by decide +kernel)) (fun _ _ _ _ _ => (pg_name (i := 8) S.nd rfl (by first | exact Or.inl rfl | exact Or.inr rfl))) (pat_nm 8) (by decide) (fun _ _ _ _ _ => cts_nil) (fun _ _ _ _ _ => (ce_sl (ce_var 8) co_none (co_some ce_int)))))))
  (css_cons (cs_if (ct_cmp (op_neP (u64 hr)) (ce_tmp (cl_comp (own := [("_law_odd_here", 9)]) rfl S.nd (ci_all (ce_var 4)) (blkOk_by (N := N__law_set_right) (sc := defScope st__law_set_right) (by decide +kernel)) (fun _ _ _ _ _ => (pg_name (i := 9) S.nd rfl (by first | exact Or.inl rfl | exact Or.inr rfl))) (pat_nm 9) (by decide) (fun _ _ _ _ _ => (cts_one (ct_ownIn (op_ownIn T.own_Promises___contains__ T.fn_Promises___contains__ (FnG.r (ok_Promises___contains__ T)) (hr.mono (by decide)) (op_inP (u65 hr))) (ce_var 9) (ce_var 1) (by rfl)))) (fun _ _ _ _ _ => ce_int))) (ce_tmp (cl_lst ca_nil)) (nomark _)) (css_one (cs_ret ce_bl)) css_nil)
  (css_cons (cs_par2 (i := 6) (j := 7) rfl S.nd rfl rfl (by decide) rfl rfl (ce_makeG T.mkc_Promises (ok_Promises___init__ T) (hr.mono (by decide)) rfl T.g_Promises tk (ca_cons (ce_callG (ok__law_mixed T) (hr.mono (by decide)) rfl T.g__law_mixed tk (ca_cons (ce_var 0) (ca_cons (ce_op op_addP (ce_var 2) (ce_sl (ce_var 2) co_none (co_some ce_int))) ca_nil))) ca_nil)) (ce_makeG T.mkc_Promises (ok_Promises___init__ T) (hr.mono (by decide)) rfl T.g_Promises tk (ca_cons (ce_sl (ce_var 2) (co_some ce_int) co_none) ca_nil)) rfl)
  (css_cons (cs_if (CW.t (cw_or (ct_not (ct_own (op_own T.ci (fun _ _ => rfl) T.own_Promises___eq__ T.fn_Promises___eq__ (FnG.r (ok_Promises___eq__ T)) (hr.mono (by decide)) (op_eqP (u64 hr))) (ce_var 1) (ce_var 6) (nomark _))) (cw_or (ct_own (op_ownNeM T.ci T.own_Promises___eq__ T.ne_Promises T.ob_Promises T.fn_Promises___eq__ (FnG.r (ok_Promises___eq__ T)) (hr.mono (by decide)) (op_neP (u64 hr))) (ce_var 1) (ce_var 6) (nomark _)) (cw_or (ct_cmp (op_neP (u64 hr)) (ce_own (op_own T.ci (fun _ _ => rfl) T.own_Promises___eq__ T.fn_Promises___eq__ (FnG.r (ok_Promises___eq__ T)) (hr.mono (by decide)) (op_eqP (u64 hr))) (ce_var 1) (ce_var 7) (nomark _)) (ce_cmp (op_eqP (u64 hr)) (ce_callB call_lenP rfl T.n_len (by decide +kernel) (ca_cons (ce_var 2) ca_nil)) ce_int (nomark _)) (nomark _)) (cw_or1 (ct_cmp (op_eqP (u64 hr)) (ce_own (op_ownNeM T.ci T.own_Promises___eq__ T.ne_Promises T.ob_Promises T.fn_Promises___eq__ (FnG.r (ok_Promises___eq__ T)) (hr.mono (by decide)) (op_neP (u64 hr))) (ce_var 1) (ce_var 7) (nomark _)) (ce_cmp (op_eqP (u64 hr)) (ce_callB call_lenP rfl T.n_len (by decide +kernel) (ca_cons (ce_var 2) ca_nil)) ce_int (nomark _)) (nomark _))))))) (css_one (cs_ret ce_bl)) css_nil)
  (css_one (cs_ret (ce_cmp (op_eqP (u64 hr)) (ce_tmp (cl_comp (own := [("_law_odd_here", 9)]) rfl S.nd (ci_all (ce_tup (ca_cons (ce_var 2) (ca_cons (ce_tmp (cl_list rfl T.n_list (ca_cons (ce_var 2) ca_nil))) (ca_cons (ce_ownTy (call_strOwnM T.own_Promises___str__ T.fn_Promises___str__ (FnG.r (ok_Promises___str__ T)) (hr.mono (by decide)) call_strP) rfl T.n_str (by decide +kernel) (ca_cons (ce_var 1) ca_nil)) (ca_cons ce_non (ca_cons (ce_callB call_lenP rfl T.n_len (by decide +kernel) (ca_cons (ce_var 2) ca_nil)) ca_nil))))))) (blkOk_by (N := N__law_set_right) (sc := defScope st__law_set_right) (by decide +kernel)) (fun _ _ _ _ _ => (pg_name (i := 9) S.nd rfl (by first | exact Or.inl rfl | exact Or.inr rfl))) (pat_nm 9) (by decide) (fun _ _ _ _ _ => (cts_one (CW.t (cw_or (ct_own (op_own T.ci (fun _ _ => rfl) T.own_Promises___eq__ T.fn_Promises___eq__ (FnG.r (ok_Promises___eq__ T)) (hr.mono (by decide)) (op_eqP (u64 hr))) (ce_var 1) (ce_var 9) (nomark _)) (cw_or1 (ct_not (ct_own (op_ownNeM T.ci T.own_Promises___eq__ T.ne_Promises T.ob_Promises T.fn_Promises___eq__ (FnG.r (ok_Promises___eq__ T)) (hr.mono (by decide)) (op_neP (u64 hr))) (ce_var 1) (ce_var 9) (nomark _)))))))) (fun _ _ _ _ _ => ce_int))) (ce_tmp (cl_lst ca_nil)) (nomark _)))))))))))
def N_law : List Str := ["_law_script", "_law_k", "_law_box_here", "_law_turn", "_law_rows", "_law_wrong_here", "_law_handed", "_law_found"]
theorem sc_law : FnScope N_law ["_law_script"] (defScope st_law) :=
  ⟨rfl, rfl, rfl, by decide +kernel, rfl, by decide +kernel, by decide +kernel⟩
abbrev m_law (K : PySem.W.Frag) (A : Ad) : S := (sSeq (sFor (iRange1 (ePN maxP (eCons (eC (.int 2)) (eCons (ePN minP (eCons (eC (.int 6)) (eCons (ePN lenP (eCons (eVar 0) eNil)) eNil))) eNil)))) (gPat (aNm 1)) (sSeq (sSet 2 (eCall (f__law_box K A) [] (eCons (eVar 0) (eCons (eVar 1) eNil))))
  (sSeq (sFor (iRange1 (eC (.int 3))) (gPat (aNm 3)) (sSeq (sSet 4 (eCall (f__law_pairs K A) [] (eCons (eVar 2) eNil)))
  (sSeq (sSet 5 (eCall (f__law_wrong K A) [] (eCons (eVar 4) eNil)))
  (sSeq (sSet 6 (eOp itemP (eTmp (lLst (eCons (eNew (lPN listL (eCons (eVar 4) eNil))) (eCons (ePN tupP (eCons (eVar 4) eNil)) eNil)))) (eCall (f__law_take K A) [] (eCons (eVar 2) (eCons (eC (.int 2)) eNil)))))
  (sSeq (sSet 7 (eCall (f__law_told K A) [] (eCons (eVar 6) eNil)))
  (sSeq (sIf (tOpT geP (eVar 5) (eC (.int 0))) (sSeq (sIf (tOrM (tVal (eOwn K (csOf A) A.c_Promises (f_Promises___eq__ K A) true neP (eVar 7) (eTup (eCons (eVar 5) (eCons (eC (.bl true)) eNil))))) (tVal (ePN (isiP K (csOf A)) (eCons (eOp itemP (eVar 7) (eC (.int 0))) (eCons (eC (.ty "bool")) eNil))))) (sRet (eC (.bl false))) sNext)
  sCont) sNext)
  (sSeq (sIf (tVal (ePN (isiP K (csOf A)) (eCons (eVar 6) (eCons (eC (.ty "list")) eNil)))) (sDrop (eBmM appendM isL (eVar 6) (eCons (eTup (eCons (eC (.str "bare")) (eCons (eC (.str "add")) eNil))) eNil))) sNext)
  (sIf (tNotM (tVal (eCall (f__law_set_right K A) [] (eCons (eVar 2) (eCons (eVar 7) (eCons (eCall (f__law_due K A) [] (eCons (eVar 4) eNil)) eNil)))))) (sRet (eC (.bl false))) sNext))))))))
  (sIf (tOrM (tOpT neP (eOwnC A.c_Promises (f_Promises___len__ K A) okLen lenP (eCons (eMake A.c_Promises (f_Promises___init__ K A) [.tup []] eNil) eNil)) (eC (.int 0))) (tOrM (tVal (eOwn K (csOf A) A.c_Promises (f_Promises___eq__ K A) true neP (eMake A.c_Promises (f_Promises___init__ K A) [.tup []] eNil) (eMakeK A.c_Promises (f_Promises___init__ K A) 0 1 [0] eNil (eCons (eTmp (lLst eNil)) eNil)))) (tOpT neP (eOwnC A.c_Promises (f_Promises___str__ K A) okStr strP (eCons (eMake A.c_Promises (f_Promises___init__ K A) [] (eCons (eTup eNil) eNil)) eNil)) (eC (.str ""))))) (sRet (eC (.bl false))) sNext))))
  (sRet (eC (.bl true))))
def f_law (K : PySem.W.Frag) (A : Ad) : Fn := runFn 1 8 (m_law K A)
theorem ok_law (T : Tx P w K mg A) : FnG P w K mg base 8 A.f_law ["_law_script"] (f_law K A) :=
  fnG_mk (k := 7) T.F_law sc_law (fun _ _ _ _ _ _ us hl => match us, hl with | [_], _ => rfl) fun cdv A' outer s H E hr => by
  have S := sc_law
  have tk := tkF (P := P) (w := w) (K := K) (mg := mg) (base := base) (N := N_law) (qual := "law") (scope := defScope st_law) (f := A.f_law) (cd := cdv) (A := A') (outer := outer) (s := s) (H := H) (E := E)
  have hp := hpF (P := P) (w := w) (K := K) (mg := mg) (base := base) (N := N_law) (qual := "law") (scope := defScope st_law) (f := A.f_law) (cd := cdv) (A := A') (outer := outer) (s := s) (H := H) (E := E)
  exact (css_cons (cs_for hp rfl (ci_range1 rfl T.n_range (ce_callB (call_maxP rfl) rfl T.n_max (by decide +kernel) (ca_cons ce_int (ca_cons (ce_callB (call_minP rfl) rfl T.n_min (by decide +kernel) (ca_cons ce_int (ca_cons (ce_callB call_lenP rfl T.n_len (by decide +kernel) (ca_cons (ce_var 0) ca_nil)) ca_nil))) ca_nil)))) (cg_pat (pg_name (i := 1) S.nd rfl (by first | exact Or.inl rfl | exact Or.inr rfl)) (pat_nm 1)) (css_cons (cs_set (i := 2) S.nd rfl (by first | exact Or.inl rfl | exact Or.inr rfl) (ce_callG (ok__law_box T) (hr.mono (by decide)) rfl T.g__law_box tk (ca_cons (ce_var 0) (ca_cons (ce_var 1) ca_nil))))
  (css_cons (cs_for hp rfl (ci_range1 rfl T.n_range ce_int) (cg_pat (pg_name (i := 3) S.nd rfl (by first | exact Or.inl rfl | exact Or.inr rfl)) (pat_nm 3)) (css_cons (cs_set (i := 4) S.nd rfl (by first | exact Or.inl rfl | exact Or.inr rfl) (ce_callG (ok__law_pairs T) (hr.mono (by decide)) rfl T.g__law_pairs tk (ca_cons (ce_var 2) ca_nil)))
  (css_cons (cs_set (i := 5) S.nd rfl (by first | exact Or.inl rfl | exact Or.inr rfl) (ce_callG (ok__law_wrong T) (hr.mono (by decide)) rfl T.g__law_wrong tk (ca_cons (ce_var 4) ca_nil)))
  (css_cons (cs_set (i := 6) S.nd rfl (by first | exact Or.inl rfl | exact Or.inr rfl) (ce_ix (ix_item (u1 hr)) (ce_tmp (cl_lst (ca_cons (ce_new (cl_list rfl T.n_list (ca_cons (ce_var 4) ca_nil))) (ca_cons (ce_callTy call_tupP rfl T.n_tuple (by decide +kernel) (ca_cons (ce_var 4) ca_nil)) ca_nil)))) (ce_callG (ok__law_take T) (hr.mono (by decide)) rfl T.g__law_take tk (ca_cons (ce_var 2) (ca_cons ce_int ca_nil))) (fun _ _ => rfl)))
  (css_cons (cs_set (i := 7) S.nd rfl (by first | exact Or.inl rfl | exact Or.inr rfl) (ce_callG (ok__law_told T) (hr.mono (by decide)) rfl T.g__law_told tk (ca_cons (ce_var 6) ca_nil)))
  (css_cons (cs_if (ct_cmp (op_geP (u64 hr)) (ce_var 5) ce_int (nomark _)) (css_cons (cs_if (CW.t (cw_or (ct_own (op_ownNeM T.ci T.own_Promises___eq__ T.ne_Promises T.ob_Promises T.fn_Promises___eq__ (FnG.r (ok_Promises___eq__ T)) (hr.mono (by decide)) (op_neP (u64 hr))) (ce_var 7) (ce_tup (ca_cons (ce_var 5) (ca_cons ce_bl ca_nil))) (nomark _)) (cw_or1 (ct_val (ce_callB (call_isiP T.ci) rfl T.n_isinstance (by decide +kernel) (ca_cons (ce_ix (ix_item (u1 hr)) (ce_var 7) ce_int (fun _ _ => rfl)) (ca_cons (ce_c (pe_bltn (v := .ty "bool") rfl T.n_bool (by decide +kernel) rfl) fun _ _ => rfl) ca_nil))))))) (css_one (cs_ret ce_bl)) css_nil)
  (css_one cs_continue)) css_nil)
  (css_cons (cs_if (ct_val (ce_callB (call_isiP T.ci) rfl T.n_isinstance (by decide +kernel) (ca_cons (ce_var 6) (ca_cons (ce_c (pe_bltn (v := .ty "list") rfl T.n_list (by decide +kernel) rfl) fun _ _ => rfl) ca_nil)))) (css_one (cs_expr (ce_bmM PySem.F.plainAttrs_list PySem.F.slot_list_append PySem.F.type_list_append mt_appendM tc_list (ce_var 6) (ca_cons (ce_tup (ca_cons ce_str (ca_cons ce_str ca_nil))) ca_nil)))) css_nil)
  (css_one (cs_if (ct_not (ct_val (ce_callG (ok__law_set_right T) (hr.mono (by decide)) rfl T.g__law_set_right tk (ca_cons (ce_var 2) (ca_cons (ce_var 7) (ca_cons (ce_callG (ok__law_due T) (hr.mono (by decide)) rfl T.g__law_due tk (ca_cons (ce_var 4) ca_nil)) ca_nil)))))) (css_one (cs_ret ce_bl)) css_nil)))))))))
  (css_one (cs_if (CW.t (cw_or (ct_cmp (op_neP (u64 hr)) (ce_ownB (call_lenOwnM T.own_Promises___len__ T.fn_Promises___len__ (FnG.r (ok_Promises___len__ T)) (hr.mono (by decide)) call_lenP) rfl T.n_len (by decide +kernel) (ca_cons (ce_makeD0 T.mkc_Promises (ok_Promises___init__ T) (df_Promises___init___1 T) (fun H ρ => ⟨_, _, rfl, T.dv_Promises___init___0 H ρ, rfl⟩) (hr.mono (by decide)) rfl T.g_Promises tk) ca_nil)) ce_int (nomark _)) (cw_or (ct_own (op_ownNeM T.ci T.own_Promises___eq__ T.ne_Promises T.ob_Promises T.fn_Promises___eq__ (FnG.r (ok_Promises___eq__ T)) (hr.mono (by decide)) (op_neP (u64 hr))) (ce_makeD0 T.mkc_Promises (ok_Promises___init__ T) (df_Promises___init___1 T) (fun H ρ => ⟨_, _, rfl, T.dv_Promises___init___0 H ρ, rfl⟩) (hr.mono (by decide)) rfl T.g_Promises tk) (ce_makeK0 T.mkc_Promises (ok_Promises___init__ T) (kw_Promises___init___pairs T) (hr.mono (by decide)) rfl T.g_Promises tk (ck_cons (ce_tmp (cl_lst ca_nil)) ck_nil)) (nomark _)) (cw_or1 (ct_cmp (op_neP (u64 hr)) (ce_ownTy (call_strOwnM T.own_Promises___str__ T.fn_Promises___str__ (FnG.r (ok_Promises___str__ T)) (hr.mono (by decide)) call_strP) rfl T.n_str (by decide +kernel) (ca_cons (ce_makeG T.mkc_Promises (ok_Promises___init__ T) (hr.mono (by decide)) rfl T.g_Promises tk (ca_cons (ce_tup ca_nil) ca_nil)) ca_nil)) ce_str (nomark _)))))) (css_one (cs_ret ce_bl)) css_nil)))))
  (css_one (cs_ret ce_bl)))
end
end PM
/-! QP1: boxes, methods, what is a promise. -/
namespace QL
open PySem L2 Mi PM QG
variable {K : PySem.W.Frag} {A : Ad}
theorem take_spec {n : Nat} {h : Hd} {m : Int} (hb : BoxAt n h) (h0 : 0 < m) (h1 : m < 1073741824) :
    ∃ r x s c, f__law_take K A [.ref n, .int m] h = .ok (.int r) (h.set n (bx x s c)) ∧ 0 ≤ r ∧ r < m := by
  obtain ⟨x, s, c, e⟩ := hb
  unfold bx at e ⊢
  by_cases hx : 0 < x
  · refine ⟨x % m, x / m, s, c, ?_, Int.emod_nonneg _ (by omega), Int.emod_lt_of_pos _ h0⟩
    unfold f__law_take m__law_take
    simp [runFn, sSeq, sIf, sSet, sRet, sAsg, sDrop, sNext, bindS_ok, tOpT, tVal, tOrM, tAndM, tNotM, eOp, eUn, eVar, eC, eNil, eCons, ePN, eTup, eIf, eAnd, eOr, eNot, eTmp, eNew, lLst, lPN, lOp, eCall, bind_ok, bind_bad, ofO_some, ofO_none, line, gSubM, setM, gPat, aNm, aTup, aCons, aNil, itemP, asDct, ixP, asQ, asL, asM, asLm, Mi.gtP, Mi.ltP, Mi.geP, Mi.leP, ltB_int, ltB_str, modP, fdivP, mulP, addP, subP, negP, powP, intP, eqP, neP, eqB_int, eqB_str, eqB_is, eqB_si, lenP, asDm, L2.atI, L2.ixN, eBm, eBmM, isS, isL, sPar2, sPar3, tupP, strP, itRange1, iRange1, e, hx, h0, h1]
  · refine ⟨(((s + 104729 * (c + 1)) * 69623 % 2147483647) * 2147483647 + ((((s + 104729 * (c + 1)) * 69623 % 2147483647) * 48271 + 30103) % 2147483629 + 1)) / 8191 % m, x, (((s + 104729 * (c + 1)) * 69623 % 2147483647) * 48271 + 30103) % 2147483629 + 1, c + 1, ?_, Int.emod_nonneg _ (by omega), Int.emod_lt_of_pos _ h0⟩
    unfold f__law_take m__law_take
    have hs : ∀ o, (h.set n o)[n]? = some o := fun o => get_set e
    simp [runFn, sSeq, sIf, sSet, sRet, sAsg, sDrop, sNext, bindS_ok, tOpT, tVal, tOrM, tAndM, tNotM, eOp, eUn, eVar, eC, eNil, eCons, ePN, eTup, eIf, eAnd, eOr, eNot, eTmp, eNew, lLst, lPN, lOp, eCall, bind_ok, bind_bad, ofO_some, ofO_none, line, gSubM, setM, gPat, aNm, aTup, aCons, aNil, itemP, asDct, ixP, asQ, asL, asM, asLm, Mi.gtP, Mi.ltP, Mi.geP, Mi.leP, ltB_int, ltB_str, modP, fdivP, mulP, addP, subP, negP, powP, intP, eqP, neP, eqB_int, eqB_str, eqB_is, eqB_si, lenP, asDm, L2.atI, L2.ixN, eBm, eBmM, isS, isL, sPar2, sPar3, tupP, strP, itRange1, iRange1, e, hx, h0, h1, hs]
theorem take1 {n : Nat} {h : Hd} (hb : BoxAt n h) (m : Int) (h0 : 0 < m) (h1 : m < 1073741824) :
    ∃ (r : Nat) (h' : Hd), f__law_take K A [.ref n, .int m] h = .ok (.int r) h' ∧ (r : Int) < m ∧ Up n h h' ∧ BoxAt n h' := by
  obtain ⟨r, x, s, c, e, r0, r1⟩ := take_spec (K := K) (A := A) hb h0 h1
  have u : Up n h (h.set n (bx x s c)) := ⟨x, s, c, [], by simp⟩
  refine ⟨r.toNat, _, ?_, by omega, u, u.box hb⟩
  rw [e, Int.toNat_of_nonneg r0]
theorem pick1 {n : Nat} {h : Hd} {xs : List D} (hb : BoxAt n h) (h0 : 0 < xs.length) (h1 : xs.length < 1073741824) :
    ∃ (d : D) (h' : Hd), f__law_pick K A [.ref n, .tmp xs] h = .ok d h' ∧ d ∈ xs ∧ Up n h h' ∧ BoxAt n h' := by
  obtain ⟨r, h', e, r1, u, b⟩ := take1 (K := K) (A := A) hb xs.length (by omega) (by omega)
  have hr : r < xs.length := by omega
  refine ⟨xs[r], h', ?_, List.getElem_mem hr, u, b⟩
  unfold f__law_pick m__law_pick
  simp [runFn, sSeq, sIf, sSet, sRet, sAsg, sDrop, sNext, bindS_ok, tOpT, tVal, tOrM, tAndM, tNotM, eOp, eUn, eVar, eC, eNil, eCons, ePN, eTup, eIf, eAnd, eOr, eNot, eTmp, eNew, lLst, lPN, lOp, eCall, bind_ok, bind_bad, ofO_some, ofO_none, line, gSubM, setM, gPat, aNm, aTup, aCons, aNil, itemP, asDct, ixP, asQ, asL, asM, asLm, Mi.gtP, Mi.ltP, Mi.geP, Mi.leP, ltB_int, ltB_str, modP, fdivP, mulP, addP, subP, negP, powP, intP, eqP, neP, eqB_int, eqB_str, eqB_is, eqB_si, lenP, asDm, L2.atI, L2.ixN, eBm, eBmM, isS, isL, sPar2, sPar3, tupP, strP, itRange1, iRange1, e, hr]
theorem k_int_str : PySem.W.kitOne K (.type "int") (.type "str") = some false := by kernel_rfl
theorem k_str_int : PySem.W.kitOne K (.type "str") (.type "int") = some false := by kernel_rfl
theorem k_int_bool : PySem.W.kitOne K (.type "int") (.type "bool") = some false := by kernel_rfl
theorem k_self (T : String) : PySem.W.kitOne K (.type T) (.type T) = some true := by simp [PySem.W.kitOne]
theorem i_int_int {h : Hd} {k : Int} : isiP K (csOf A) h [.int k, .ty "int"] = some (.bl true) := by simp [isiP, tyD, clsD, k_self]
theorem i_int_bool {h : Hd} {k : Int} : isiP K (csOf A) h [.int k, .ty "bool"] = some (.bl false) := by simp [isiP, tyD, clsD, k_int_bool]
theorem i_int_str {h : Hd} {k : Int} : isiP K (csOf A) h [.int k, .ty "str"] = some (.bl false) := by simp [isiP, tyD, clsD, k_int_str]
theorem i_str_int {h : Hd} {k : Str} : isiP K (csOf A) h [.str k, .ty "int"] = some (.bl false) := by simp [isiP, tyD, clsD, k_str_int]
theorem i_str_str {h : Hd} {k : Str} : isiP K (csOf A) h [.str k, .ty "str"] = some (.bl true) := by simp [isiP, tyD, clsD, k_self]
theorem i_tup {h : Hd} {k : List D} : isiP K (csOf A) h [.tup k, .ty "tuple"] = some (.bl true) := by simp [isiP, tyD, clsD, k_self]
theorem i_tup2 {h : Hd} {k : List D} : isiP K (csOf A) h [.tup k, .tup [.ty "tuple", .ty "list"]] = some (.bl true) := by simp [isiP, tyD, clsD, clsDs, PySem.W.kitAny, k_self]
theorem k_tup_bool : PySem.W.kitOne K (.type "tuple") (.type "bool") = some false := by kernel_rfl
theorem k_str_bool : PySem.W.kitOne K (.type "str") (.type "bool") = some false := by kernel_rfl
theorem i_str_bool {h : Hd} {k : Str} : isiP K (csOf A) h [.str k, .ty "bool"] = some (.bl false) := by simp [isiP, tyD, clsD, k_str_bool]
def Ms : List Str := ["add", "sub", "mul", "radd", "rsub", "rmul", "iadd", "isub", "imul", "eq", "ne", "lt", "le", "gt", "ge", "neg", "iter", "enter", "contains", "getitem", "exit", "call", "getattr", "next", "bool", "len", "delitem", "setitem", "delattr", "setattr"]
theorem methods1 {h : Hd} : f__law_methods K A [] h = .ok (.tmp (Ms.map .str)) h := by
  have e1 : ((Str.ofString "add sub mul radd rsub rmul iadd isub imul eq ne lt le gt ge neg iter enter contains getitem exit call").length + (Str.ofString " getattr next bool len delitem setitem delattr setattr").length ≤ 16777216) := by decide +kernel
  have e2 : Txt.split ((Str.ofString "add sub mul radd rsub rmul iadd isub imul eq ne lt le gt ge neg iter enter contains getitem exit call") ++ (Str.ofString " getattr next bool len delitem setitem delattr setattr")) (Str.ofString " ") = Ms := by decide +kernel
  have e3 : (Str.ofString " ").length = 1 := by decide +kernel
  have e4 : ((Str.ofString "add sub mul radd rsub rmul iadd isub imul eq ne lt le gt ge neg iter enter contains getitem exit call") ++ (Str.ofString " getattr next bool len delitem setitem delattr setattr")).length ≤ 16777214 := by decide +kernel
  unfold f__law_methods m__law_methods
  simp [runFn, sSeq, sIf, sSet, sRet, sAsg, sDrop, sNext, bindS_ok, tOpT, tVal, tOrM, tAndM, tNotM, eOp, eUn, eVar, eC, eNil, eCons, ePN, eTup, eIf, eAnd, eOr, eNot, eTmp, eNew, lLst, lPN, lOp, eCall, bind_ok, bind_bad, ofO_some, ofO_none, line, gSubM, setM, gPat, aNm, aTup, aCons, aNil, itemP, asDct, ixP, asQ, asL, asM, asLm, Mi.gtP, Mi.ltP, Mi.geP, Mi.leP, ltB_int, ltB_str, modP, fdivP, mulP, addP, subP, negP, powP, intP, eqP, neP, eqB_int, eqB_str, eqB_is, eqB_si, lenP, asDm, L2.atI, L2.ixN, eBm, eBmM, isS, isL, sPar2, sPar3, tupP, strP, itRange1, iRange1, e1, e2, e3, e4, lBm, splitL]
def CE2 : List Str := ["contains", "exit"]
theorem n_it : ¬ (Str.ofString "itself" = Str.ofString "takes") := by decide +kernel
theorem n_tt : ¬ (Str.ofString "truth" = Str.ofString "takes") := by decide +kernel
theorem n_ti : ¬ (Str.ofString "truth" = Str.ofString "itself") := by decide +kernel
def B3 : List Str := ["bare", "has", "calm"]
def lts (w : Str) : List Str := if w = "takes" then Ms.take 15 else if w = "itself" then Ms.take 23 else if w = "truth" then (Ms.drop 9).take 6 ++ CE2 else if B3.contains w then Ms else []
theorem sl15 {h : Hd} : slP h (.tmp (Ms.map .str)) none (some 15) = some (.tmp ((Ms.take 15).map .str)) := by rfl
theorem sl23 {h : Hd} : slP h (.tmp (Ms.map .str)) none (some 23) = some (.tmp ((Ms.take 23).map .str)) := by rfl
theorem sl915 {h : Hd} : slP h (.tmp (Ms.map .str)) (some 9) (some 15) = some (.tmp (((Ms.drop 9).take 6).map .str)) := by rfl
theorem in_B3 {h : Hd} {w : Str} : inP h (.str w) (.tup [.str "bare", .str "has", .str "calm"]) = some (.bl (B3.contains w)) := in_strs B3
theorem lets1 {h : Hd} {w : Str} : f__law_lets K A [.str w] h = .ok (.tmp ((lts w).map .str)) h := by
  unfold f__law_lets m__law_lets lts
  by_cases z1 : w = "takes"
  · subst z1
    simp [runFn, sSeq, sIf, sSet, sRet, sAsg, sDrop, sNext, bindS_ok, tOpT, tVal, tOrM, tAndM, tNotM, eOp, eUn, eVar, eC, eNil, eCons, ePN, eTup, eIf, eAnd, eOr, eNot, eTmp, eNew, lLst, lPN, lOp, eCall, bind_ok, bind_bad, ofO_some, ofO_none, line, gSubM, setM, gPat, aNm, aTup, aCons, aNil, itemP, asDct, ixP, asQ, asL, asM, asLm, Mi.gtP, Mi.ltP, Mi.geP, Mi.leP, ltB_int, ltB_str, modP, fdivP, mulP, addP, subP, negP, powP, intP, eqP, neP, eqB_int, eqB_str, eqB_is, eqB_si, lenP, asDm, L2.atI, L2.ixN, eBm, eBmM, isS, isL, sPar2, sPar3, tupP, strP, itRange1, iRange1, methods1, eSl, oNone, oSome, sl15]
  · by_cases z2 : w = "itself"
    · subst z2
      simp [runFn, sSeq, sIf, sSet, sRet, sAsg, sDrop, sNext, bindS_ok, tOpT, tVal, tOrM, tAndM, tNotM, eOp, eUn, eVar, eC, eNil, eCons, ePN, eTup, eIf, eAnd, eOr, eNot, eTmp, eNew, lLst, lPN, lOp, eCall, bind_ok, bind_bad, ofO_some, ofO_none, line, gSubM, setM, gPat, aNm, aTup, aCons, aNil, itemP, asDct, ixP, asQ, asL, asM, asLm, Mi.gtP, Mi.ltP, Mi.geP, Mi.leP, ltB_int, ltB_str, modP, fdivP, mulP, addP, subP, negP, powP, intP, eqP, neP, eqB_int, eqB_str, eqB_is, eqB_si, lenP, asDm, L2.atI, L2.ixN, eBm, eBmM, isS, isL, sPar2, sPar3, tupP, strP, itRange1, iRange1, methods1, n_it, eSl, oNone, oSome, sl23]
    · by_cases z3 : w = "truth"
      · subst z3
        have hm : min 6 (Ms.length - 9) ≤ 16777214 := by decide
        simp [runFn, sSeq, sIf, sSet, sRet, sAsg, sDrop, sNext, bindS_ok, tOpT, tVal, tOrM, tAndM, tNotM, eOp, eUn, eVar, eC, eNil, eCons, ePN, eTup, eIf, eAnd, eOr, eNot, eTmp, eNew, lLst, lPN, lOp, eCall, bind_ok, bind_bad, ofO_some, ofO_none, line, gSubM, setM, gPat, aNm, aTup, aCons, aNil, itemP, asDct, ixP, asQ, asL, asM, asLm, Mi.gtP, Mi.ltP, Mi.geP, Mi.leP, ltB_int, ltB_str, modP, fdivP, mulP, addP, subP, negP, powP, intP, eqP, neP, eqB_int, eqB_str, eqB_is, eqB_si, lenP, asDm, L2.atI, L2.ixN, eBm, eBmM, isS, isL, sPar2, sPar3, tupP, strP, itRange1, iRange1, methods1, n_tt, n_ti, eSl, oNone, oSome, sl915, CE2, hm]
      · by_cases z4 : w ∈ B3
        · simp [runFn, sSeq, sIf, sSet, sRet, sAsg, sDrop, sNext, bindS_ok, tOpT, tVal, tOrM, tAndM, tNotM, eOp, eUn, eVar, eC, eNil, eCons, ePN, eTup, eIf, eAnd, eOr, eNot, eTmp, eNew, lLst, lPN, lOp, eCall, bind_ok, bind_bad, ofO_some, ofO_none, line, gSubM, setM, gPat, aNm, aTup, aCons, aNil, itemP, asDct, ixP, asQ, asL, asM, asLm, Mi.gtP, Mi.ltP, Mi.geP, Mi.leP, ltB_int, ltB_str, modP, fdivP, mulP, addP, subP, negP, powP, intP, eqP, neP, eqB_int, eqB_str, eqB_is, eqB_si, lenP, asDm, L2.atI, L2.ixN, eBm, eBmM, isS, isL, sPar2, sPar3, tupP, strP, itRange1, iRange1, methods1, z1, z2, z3, z4, in_B3]
        · simp [runFn, sSeq, sIf, sSet, sRet, sAsg, sDrop, sNext, bindS_ok, tOpT, tVal, tOrM, tAndM, tNotM, eOp, eUn, eVar, eC, eNil, eCons, ePN, eTup, eIf, eAnd, eOr, eNot, eTmp, eNew, lLst, lPN, lOp, eCall, bind_ok, bind_bad, ofO_some, ofO_none, line, gSubM, setM, gPat, aNm, aTup, aCons, aNil, itemP, asDct, ixP, asQ, asL, asM, asLm, Mi.gtP, Mi.ltP, Mi.geP, Mi.leP, ltB_int, ltB_str, modP, fdivP, mulP, addP, subP, negP, powP, intP, eqP, neP, eqB_int, eqB_str, eqB_is, eqB_si, lenP, asDm, L2.atI, L2.ixN, eBm, eBmM, isS, isL, sPar2, sPar3, tupP, strP, itRange1, iRange1, methods1, z1, z2, z3, z4, in_B3]
end QL
/-! QP2: what is a promise, by the program and by the law. -/
namespace QL
open PySem L2 Mi PM QG
variable {K : PySem.W.Frag} {A : Ad}
def AR : List Str := ["add", "iadd", "imul", "isub", "mul", "radd", "rmul", "rsub", "sub"]
def CO : List Str := ["eq", "ge", "gt", "le", "lt", "ne"]
def TT : List Str := ["contains", "eq", "exit", "ge", "gt", "le", "lt", "ne"]
def QU : List Str := ["delattr", "delitem", "setattr", "setitem"]
def EM : List Str := ["add", "bool", "call", "contains", "delattr", "delitem", "enter", "eq", "exit", "ge", "getattr", "getitem", "gt", "iadd", "imul", "isub", "iter", "le", "len", "lt", "mul", "ne", "neg", "next", "radd", "rmul", "rsub", "setattr", "setitem", "sub"]
def WD : List Str := ["bare", "calm", "has", "itself", "takes", "truth"]
theorem d_AR : d_ARITHMETIC = .tup (AR.map .str) := rfl
theorem d_CO : d_COMPARING = .tup (CO.map .str) := rfl
theorem d_TT : d_TRUTH_TELLING = .tup (TT.map .str) := rfl
theorem d_QU : d_QUIET = .tup (QU.map .str) := rfl
theorem d_EM : d_EVERY_METHOD = .tup (EM.map .str) := rfl
theorem d_WD : d_WORDS = .tup (WD.map .str) := rfl
def FW : List (Str × List Str) := [("bool", ["no", "raises", "yes"]), ("len", ["empty", "raises", "some"]), ("next", ["raises", "stop", "tells"])]
def fw (m : Str) : List Str := if AR.contains m || CO.contains m then ["declines", "raises", "tells"] else if QU.contains m then ["done", "raises"] else (FW.lookup m).getD ["raises", "tells"]
theorem fw_look (m : Str) (z : List Str) : (k_FIRST_WORDS.lookup m).getD (.tup (z.map .str)) = .tup (((FW.lookup m).getD z).map .str) := by
  simp only [k_FIRST_WORDS, FW, List.lookup]
  split
  · rfl
  · split
    · rfl
    · split <;> rfl
theorem first1 {h : Hd} {m : Str} : f_first_words K A [.str m] h = .ok (.tup ((fw m).map .str)) h := by
  unfold f_first_words m_first_words fw
  rw [d_AR, d_CO, d_QU]
  have e := fw_look m ["raises", "tells"]
  simp only [List.map_cons, List.map_nil] at e
  by_cases z1 : m ∈ AR
  · simp [runFn, sSeq, sIf, sSet, sRet, sAsg, sDrop, sNext, bindS_ok, tOpT, tVal, tOrM, tAndM, tNotM, eOp, eUn, eVar, eC, eNil, eCons, ePN, eTup, eIf, eAnd, eOr, eNot, eTmp, eNew, lLst, lPN, lOp, eCall, bind_ok, bind_bad, ofO_some, ofO_none, line, gSubM, setM, gPat, aNm, aTup, aCons, aNil, itemP, asDct, ixP, asQ, asL, asM, asLm, Mi.gtP, Mi.ltP, Mi.geP, Mi.leP, ltB_int, ltB_str, modP, fdivP, mulP, addP, subP, negP, powP, intP, eqP, neP, eqB_int, eqB_str, eqB_is, eqB_si, lenP, asDm, L2.atI, L2.ixN, eBm, eBmM, isS, isL, sPar2, sPar3, tupP, strP, itRange1, iRange1, in_strs, z1]
  · by_cases z2 : m ∈ CO
    · simp [runFn, sSeq, sIf, sSet, sRet, sAsg, sDrop, sNext, bindS_ok, tOpT, tVal, tOrM, tAndM, tNotM, eOp, eUn, eVar, eC, eNil, eCons, ePN, eTup, eIf, eAnd, eOr, eNot, eTmp, eNew, lLst, lPN, lOp, eCall, bind_ok, bind_bad, ofO_some, ofO_none, line, gSubM, setM, gPat, aNm, aTup, aCons, aNil, itemP, asDct, ixP, asQ, asL, asM, asLm, Mi.gtP, Mi.ltP, Mi.geP, Mi.leP, ltB_int, ltB_str, modP, fdivP, mulP, addP, subP, negP, powP, intP, eqP, neP, eqB_int, eqB_str, eqB_is, eqB_si, lenP, asDm, L2.atI, L2.ixN, eBm, eBmM, isS, isL, sPar2, sPar3, tupP, strP, itRange1, iRange1, in_strs, z1, z2]
    · by_cases z3 : m ∈ QU
      · simp [runFn, sSeq, sIf, sSet, sRet, sAsg, sDrop, sNext, bindS_ok, tOpT, tVal, tOrM, tAndM, tNotM, eOp, eUn, eVar, eC, eNil, eCons, ePN, eTup, eIf, eAnd, eOr, eNot, eTmp, eNew, lLst, lPN, lOp, eCall, bind_ok, bind_bad, ofO_some, ofO_none, line, gSubM, setM, gPat, aNm, aTup, aCons, aNil, itemP, asDct, ixP, asQ, asL, asM, asLm, Mi.gtP, Mi.ltP, Mi.geP, Mi.leP, ltB_int, ltB_str, modP, fdivP, mulP, addP, subP, negP, powP, intP, eqP, neP, eqB_int, eqB_str, eqB_is, eqB_si, lenP, asDm, L2.atI, L2.ixN, eBm, eBmM, isS, isL, sPar2, sPar3, tupP, strP, itRange1, iRange1, in_strs, z1, z2, z3]
      · simp [runFn, sSeq, sIf, sSet, sRet, sAsg, sDrop, sNext, bindS_ok, tOpT, tVal, tOrM, tAndM, tNotM, eOp, eUn, eVar, eC, eNil, eCons, ePN, eTup, eIf, eAnd, eOr, eNot, eTmp, eNew, lLst, lPN, lOp, eCall, bind_ok, bind_bad, ofO_some, ofO_none, line, gSubM, setM, gPat, aNm, aTup, aCons, aNil, itemP, asDct, ixP, asQ, asL, asM, asLm, Mi.gtP, Mi.ltP, Mi.geP, Mi.leP, ltB_int, ltB_str, modP, fdivP, mulP, addP, subP, negP, powP, intP, eqP, neP, eqB_int, eqB_str, eqB_is, eqB_si, lenP, asDm, L2.atI, L2.ixN, eBm, eBmM, isS, isL, sPar2, sPar3, tupP, strP, itRange1, iRange1, in_strs, z1, z2, z3, eKGet, e]
def isP : List Str → Bool
  | [w, m] => (lts w).contains m
  | _ => false
def pB (w m : Str) : Bool := (WD.contains w && EM.contains m) && (if w = "takes" then AR.contains m || CO.contains m else if w = "truth" then TT.contains m else (!(w == ("itself" : Str)) || ((fw m).contains "tells" && !(m == ("next" : Str)))))
theorem two_lists {L1 L2 : List Str} {f : Str → Bool} (h1 : ∀ x ∈ L1, f x = true → x ∈ L2) (h2 : ∀ x ∈ L2, x ∈ L1 ∧ f x = true) (m : Str) : (L1.contains m && f m) = L2.contains m := by
  rw [Bool.eq_iff_iff, Bool.and_eq_true, List.contains_iff_mem, List.contains_iff_mem]
  exact ⟨fun h => h1 m h.1 h.2, fun h => h2 m h⟩
theorem pB_1 (w : Str) (h : w ∈ WD) (h1 : ∀ x ∈ EM, pB w x = true → x ∈ lts w) (h2 : ∀ x ∈ lts w, x ∈ EM ∧ pB w x = true) (m : Str) : pB w m = (lts w).contains m := by
  rw [← two_lists h1 h2 m]
  unfold pB
  rw [List.contains_iff_mem.mpr h, Bool.true_and, ← Bool.and_assoc, Bool.and_self]
theorem pB_eq (w m : Str) : pB w m = (lts w).contains m := by
  by_cases h : w ∈ WD
  · have hw := h
    simp only [WD, List.mem_cons, List.mem_nil_iff, or_false] at hw
    rcases hw with rfl | rfl | rfl | rfl | rfl | rfl
    · exact pB_1 _ h (by decide +kernel) (by decide +kernel) m
    · exact pB_1 _ h (by decide +kernel) (by decide +kernel) m
    · exact pB_1 _ h (by decide +kernel) (by decide +kernel) m
    · exact pB_1 _ h (by decide +kernel) (by decide +kernel) m
    · exact pB_1 _ h (by decide +kernel) (by decide +kernel) m
    · exact pB_1 _ h (by decide +kernel) (by decide +kernel) m
  · have hc : WD.contains w = false := by
      rw [Bool.eq_false_iff, ne_eq, List.contains_iff_mem]
      exact h
    have h2 : lts w = [] := by
      simp only [WD, List.mem_cons, List.mem_nil_iff, or_false, not_or] at h
      unfold lts
      rw [if_neg h.2.2.2.2.1, if_neg h.2.2.2.1, if_neg h.2.2.2.2.2, if_neg]
      rw [List.contains_iff_mem]
      simp only [B3, List.mem_cons, List.mem_nil_iff, or_false, not_or]
      exact ⟨h.1, h.2.2.1, h.2.1⟩
    unfold pB
    rw [hc, h2]
    rfl
theorem len_ne {ws : List Str} (h : ws.length ≠ 2) : isP ws = false := by
  match ws, h with
  | [], _ => rfl
  | [_], _ => rfl
  | [_, _], h => exact absurd rfl h
  | _ :: _ :: _ :: _, _ => rfl
theorem lis1 {h : Hd} {ws : List Str} : f__law_is_promise K A [.tup (ws.map .str)] h = .ok (.bl (isP ws)) h := by
  unfold f__law_is_promise m__law_is_promise
  by_cases z : ws.length = 2
  · match ws, z with
    | [w, m], _ => simp [runFn, sSeq, sIf, sSet, sRet, sAsg, sDrop, sNext, bindS_ok, tOpT, tVal, tOrM, tAndM, tNotM, eOp, eUn, eVar, eC, eNil, eCons, ePN, eTup, eIf, eAnd, eOr, eNot, eTmp, eNew, lLst, lPN, lOp, eCall, bind_ok, bind_bad, ofO_some, ofO_none, line, gSubM, setM, gPat, aNm, aTup, aCons, aNil, itemP, asDct, ixP, asQ, asL, asM, asLm, Mi.gtP, Mi.ltP, Mi.geP, Mi.leP, ltB_int, ltB_str, modP, fdivP, mulP, addP, subP, negP, powP, intP, eqP, neP, eqB_int, eqB_str, eqB_is, eqB_si, lenP, asDm, L2.atI, L2.ixN, eBm, eBmM, isS, isL, sPar2, sPar3, tupP, strP, itRange1, iRange1, i_tup, i_str_str, lets1, in_strsL, isP]
  · have z2 : ¬ ((ws.length : Int) = 2) := by omega
    rw [len_ne z]
    simp [runFn, sSeq, sIf, sSet, sRet, sAsg, sDrop, sNext, bindS_ok, tOpT, tVal, tOrM, tAndM, tNotM, eOp, eUn, eVar, eC, eNil, eCons, ePN, eTup, eIf, eAnd, eOr, eNot, eTmp, eNew, lLst, lPN, lOp, eCall, bind_ok, bind_bad, ofO_some, ofO_none, line, gSubM, setM, gPat, aNm, aTup, aCons, aNil, itemP, asDct, ixP, asQ, asL, asM, asLm, Mi.gtP, Mi.ltP, Mi.geP, Mi.leP, ltB_int, ltB_str, modP, fdivP, mulP, addP, subP, negP, powP, intP, eqP, neP, eqB_int, eqB_str, eqB_is, eqB_si, lenP, asDm, L2.atI, L2.ixN, eBm, eBmM, isS, isL, sPar2, sPar3, tupP, strP, itRange1, iRange1, i_tup, z2]
theorem pis1 {h : Hd} {ws : List Str} : f_is_promise K A [.tup (ws.map .str)] h = .ok (.bl (isP ws)) h := by
  unfold f_is_promise m_is_promise
  rw [d_AR, d_CO, d_TT, d_EM, d_WD]
  by_cases z : ws.length = 2
  · match ws, z with
    | [w, m], _ =>
      show _ = R.ok (D.bl ((lts w).contains m)) h
      rw [← pB_eq]
      unfold pB
      have c : lComp (iAll (eVar 0)) (aNm 3) tYesM (ePN (isiP K (csOf A)) (eCons (eVar 3) (eCons (eC (.ty "str")) eNil))) [3] [some (.tup [.str w, .str m]), none, none, none] h = .ok [.bl true, .bl true] h := by
        refine lComp_ok (itm := ⟨[.str w, .str m], always⟩) (h1 := h) rfl ?_ (by simp)
        exact comp_map (F := fun _ => .bl true) rfl _ (fun x hx => by
          simp only [List.mem_cons, List.mem_nil_iff, or_false] at hx
          rcases hx with rfl | rfl
          · refine ⟨_, rfl, ?_⟩
            simp [runFn, sSeq, sIf, sSet, sRet, sAsg, sDrop, sNext, bindS_ok, tOpT, tVal, tOrM, tAndM, tNotM, eOp, eUn, eVar, eC, eNil, eCons, ePN, eTup, eIf, eAnd, eOr, eNot, eTmp, eNew, lLst, lPN, lOp, eCall, bind_ok, bind_bad, ofO_some, ofO_none, line, gSubM, setM, gPat, aNm, aTup, aCons, aNil, itemP, asDct, ixP, asQ, asL, asM, asLm, Mi.gtP, Mi.ltP, Mi.geP, Mi.leP, ltB_int, ltB_str, modP, fdivP, mulP, addP, subP, negP, powP, intP, eqP, neP, eqB_int, eqB_str, eqB_is, eqB_si, lenP, asDm, L2.atI, L2.ixN, eBm, eBmM, isS, isL, sPar2, sPar3, tupP, strP, itRange1, iRange1, i_str_str, wipeD]
          · refine ⟨_, rfl, ?_⟩
            simp [runFn, sSeq, sIf, sSet, sRet, sAsg, sDrop, sNext, bindS_ok, tOpT, tVal, tOrM, tAndM, tNotM, eOp, eUn, eVar, eC, eNil, eCons, ePN, eTup, eIf, eAnd, eOr, eNot, eTmp, eNew, lLst, lPN, lOp, eCall, bind_ok, bind_bad, ofO_some, ofO_none, line, gSubM, setM, gPat, aNm, aTup, aCons, aNil, itemP, asDct, ixP, asQ, asL, asM, asLm, Mi.gtP, Mi.ltP, Mi.geP, Mi.leP, ltB_int, ltB_str, modP, fdivP, mulP, addP, subP, negP, powP, intP, eqP, neP, eqB_int, eqB_str, eqB_is, eqB_si, lenP, asDm, L2.atI, L2.ixN, eBm, eBmM, isS, isL, sPar2, sPar3, tupP, strP, itRange1, iRange1, i_str_str, wipeD])
      by_cases a1 : w ∈ WD
      · by_cases a2 : m ∈ EM
        · by_cases z1 : w = "takes"
          · subst z1
            by_cases b1 : m ∈ AR
            · simp [runFn, sSeq, sIf, sSet, sRet, sAsg, sDrop, sNext, bindS_ok, tOpT, tVal, tOrM, tAndM, tNotM, eOp, eUn, eVar, eC, eNil, eCons, ePN, eTup, eIf, eAnd, eOr, eNot, eTmp, eNew, lLst, lPN, lOp, eCall, bind_ok, bind_bad, ofO_some, ofO_none, line, gSubM, setM, gPat, aNm, aTup, aCons, aNil, itemP, asDct, ixP, asQ, asL, asM, asLm, Mi.gtP, Mi.ltP, Mi.geP, Mi.leP, ltB_int, ltB_str, modP, fdivP, mulP, addP, subP, negP, powP, intP, eqP, neP, eqB_int, eqB_str, eqB_is, eqB_si, lenP, asDm, L2.atI, L2.ixN, eBm, eBmM, isS, isL, sPar2, sPar3, tupP, strP, itRange1, iRange1, i_tup, c, allP, bools, notIn_strs, in_strs, a1, a2, b1]
            · by_cases b2 : m ∈ CO
              · simp [runFn, sSeq, sIf, sSet, sRet, sAsg, sDrop, sNext, bindS_ok, tOpT, tVal, tOrM, tAndM, tNotM, eOp, eUn, eVar, eC, eNil, eCons, ePN, eTup, eIf, eAnd, eOr, eNot, eTmp, eNew, lLst, lPN, lOp, eCall, bind_ok, bind_bad, ofO_some, ofO_none, line, gSubM, setM, gPat, aNm, aTup, aCons, aNil, itemP, asDct, ixP, asQ, asL, asM, asLm, Mi.gtP, Mi.ltP, Mi.geP, Mi.leP, ltB_int, ltB_str, modP, fdivP, mulP, addP, subP, negP, powP, intP, eqP, neP, eqB_int, eqB_str, eqB_is, eqB_si, lenP, asDm, L2.atI, L2.ixN, eBm, eBmM, isS, isL, sPar2, sPar3, tupP, strP, itRange1, iRange1, i_tup, c, allP, bools, notIn_strs, in_strs, a1, a2, b1, b2]
              · simp [runFn, sSeq, sIf, sSet, sRet, sAsg, sDrop, sNext, bindS_ok, tOpT, tVal, tOrM, tAndM, tNotM, eOp, eUn, eVar, eC, eNil, eCons, ePN, eTup, eIf, eAnd, eOr, eNot, eTmp, eNew, lLst, lPN, lOp, eCall, bind_ok, bind_bad, ofO_some, ofO_none, line, gSubM, setM, gPat, aNm, aTup, aCons, aNil, itemP, asDct, ixP, asQ, asL, asM, asLm, Mi.gtP, Mi.ltP, Mi.geP, Mi.leP, ltB_int, ltB_str, modP, fdivP, mulP, addP, subP, negP, powP, intP, eqP, neP, eqB_int, eqB_str, eqB_is, eqB_si, lenP, asDm, L2.atI, L2.ixN, eBm, eBmM, isS, isL, sPar2, sPar3, tupP, strP, itRange1, iRange1, i_tup, c, allP, bools, notIn_strs, in_strs, a1, a2, b1, b2]
          · by_cases z2 : w = "truth"
            · subst z2
              simp [runFn, sSeq, sIf, sSet, sRet, sAsg, sDrop, sNext, bindS_ok, tOpT, tVal, tOrM, tAndM, tNotM, eOp, eUn, eVar, eC, eNil, eCons, ePN, eTup, eIf, eAnd, eOr, eNot, eTmp, eNew, lLst, lPN, lOp, eCall, bind_ok, bind_bad, ofO_some, ofO_none, line, gSubM, setM, gPat, aNm, aTup, aCons, aNil, itemP, asDct, ixP, asQ, asL, asM, asLm, Mi.gtP, Mi.ltP, Mi.geP, Mi.leP, ltB_int, ltB_str, modP, fdivP, mulP, addP, subP, negP, powP, intP, eqP, neP, eqB_int, eqB_str, eqB_is, eqB_si, lenP, asDm, L2.atI, L2.ixN, eBm, eBmM, isS, isL, sPar2, sPar3, tupP, strP, itRange1, iRange1, i_tup, c, allP, bools, notIn_strs, in_strs, a1, a2, n_tt]
            · by_cases z3 : w = "itself"
              · subst z3
                by_cases b1 : Str.ofString "tells" ∈ fw m
                · by_cases b2 : m = "next"
                  · subst b2
                    simp [runFn, sSeq, sIf, sSet, sRet, sAsg, sDrop, sNext, bindS_ok, tOpT, tVal, tOrM, tAndM, tNotM, eOp, eUn, eVar, eC, eNil, eCons, ePN, eTup, eIf, eAnd, eOr, eNot, eTmp, eNew, lLst, lPN, lOp, eCall, bind_ok, bind_bad, ofO_some, ofO_none, line, gSubM, setM, gPat, aNm, aTup, aCons, aNil, itemP, asDct, ixP, asQ, asL, asM, asLm, Mi.gtP, Mi.ltP, Mi.geP, Mi.leP, ltB_int, ltB_str, modP, fdivP, mulP, addP, subP, negP, powP, intP, eqP, neP, eqB_int, eqB_str, eqB_is, eqB_si, lenP, asDm, L2.atI, L2.ixN, eBm, eBmM, isS, isL, sPar2, sPar3, tupP, strP, itRange1, iRange1, i_tup, c, allP, bools, notIn_strs, in_strs, a1, a2, z1, z2, first1, b1]
                  · have b3 : (m == Str.ofString "next") = false := beq_eq_false_iff_ne.mpr b2
                    simp [runFn, sSeq, sIf, sSet, sRet, sAsg, sDrop, sNext, bindS_ok, tOpT, tVal, tOrM, tAndM, tNotM, eOp, eUn, eVar, eC, eNil, eCons, ePN, eTup, eIf, eAnd, eOr, eNot, eTmp, eNew, lLst, lPN, lOp, eCall, bind_ok, bind_bad, ofO_some, ofO_none, line, gSubM, setM, gPat, aNm, aTup, aCons, aNil, itemP, asDct, ixP, asQ, asL, asM, asLm, Mi.gtP, Mi.ltP, Mi.geP, Mi.leP, ltB_int, ltB_str, modP, fdivP, mulP, addP, subP, negP, powP, intP, eqP, neP, eqB_int, eqB_str, eqB_is, eqB_si, lenP, asDm, L2.atI, L2.ixN, eBm, eBmM, isS, isL, sPar2, sPar3, tupP, strP, itRange1, iRange1, i_tup, c, allP, bools, notIn_strs, in_strs, a1, a2, z1, z2, first1, b1, b3]
                · simp [runFn, sSeq, sIf, sSet, sRet, sAsg, sDrop, sNext, bindS_ok, tOpT, tVal, tOrM, tAndM, tNotM, eOp, eUn, eVar, eC, eNil, eCons, ePN, eTup, eIf, eAnd, eOr, eNot, eTmp, eNew, lLst, lPN, lOp, eCall, bind_ok, bind_bad, ofO_some, ofO_none, line, gSubM, setM, gPat, aNm, aTup, aCons, aNil, itemP, asDct, ixP, asQ, asL, asM, asLm, Mi.gtP, Mi.ltP, Mi.geP, Mi.leP, ltB_int, ltB_str, modP, fdivP, mulP, addP, subP, negP, powP, intP, eqP, neP, eqB_int, eqB_str, eqB_is, eqB_si, lenP, asDm, L2.atI, L2.ixN, eBm, eBmM, isS, isL, sPar2, sPar3, tupP, strP, itRange1, iRange1, i_tup, c, allP, bools, notIn_strs, in_strs, a1, a2, z1, z2, first1, b1]
              · have z4 : (w == Str.ofString "itself") = false := beq_eq_false_iff_ne.mpr z3
                simp [runFn, sSeq, sIf, sSet, sRet, sAsg, sDrop, sNext, bindS_ok, tOpT, tVal, tOrM, tAndM, tNotM, eOp, eUn, eVar, eC, eNil, eCons, ePN, eTup, eIf, eAnd, eOr, eNot, eTmp, eNew, lLst, lPN, lOp, eCall, bind_ok, bind_bad, ofO_some, ofO_none, line, gSubM, setM, gPat, aNm, aTup, aCons, aNil, itemP, asDct, ixP, asQ, asL, asM, asLm, Mi.gtP, Mi.ltP, Mi.geP, Mi.leP, ltB_int, ltB_str, modP, fdivP, mulP, addP, subP, negP, powP, intP, eqP, neP, eqB_int, eqB_str, eqB_is, eqB_si, lenP, asDm, L2.atI, L2.ixN, eBm, eBmM, isS, isL, sPar2, sPar3, tupP, strP, itRange1, iRange1, i_tup, c, allP, bools, notIn_strs, in_strs, a1, a2, z1, z2, z4]
        · simp [runFn, sSeq, sIf, sSet, sRet, sAsg, sDrop, sNext, bindS_ok, tOpT, tVal, tOrM, tAndM, tNotM, eOp, eUn, eVar, eC, eNil, eCons, ePN, eTup, eIf, eAnd, eOr, eNot, eTmp, eNew, lLst, lPN, lOp, eCall, bind_ok, bind_bad, ofO_some, ofO_none, line, gSubM, setM, gPat, aNm, aTup, aCons, aNil, itemP, asDct, ixP, asQ, asL, asM, asLm, Mi.gtP, Mi.ltP, Mi.geP, Mi.leP, ltB_int, ltB_str, modP, fdivP, mulP, addP, subP, negP, powP, intP, eqP, neP, eqB_int, eqB_str, eqB_is, eqB_si, lenP, asDm, L2.atI, L2.ixN, eBm, eBmM, isS, isL, sPar2, sPar3, tupP, strP, itRange1, iRange1, i_tup, c, allP, bools, notIn_strs, in_strs, a1, a2]
      · simp [runFn, sSeq, sIf, sSet, sRet, sAsg, sDrop, sNext, bindS_ok, tOpT, tVal, tOrM, tAndM, tNotM, eOp, eUn, eVar, eC, eNil, eCons, ePN, eTup, eIf, eAnd, eOr, eNot, eTmp, eNew, lLst, lPN, lOp, eCall, bind_ok, bind_bad, ofO_some, ofO_none, line, gSubM, setM, gPat, aNm, aTup, aCons, aNil, itemP, asDct, ixP, asQ, asL, asM, asLm, Mi.gtP, Mi.ltP, Mi.geP, Mi.leP, ltB_int, ltB_str, modP, fdivP, mulP, addP, subP, negP, powP, intP, eqP, neP, eqB_int, eqB_str, eqB_is, eqB_si, lenP, asDm, L2.atI, L2.ixN, eBm, eBmM, isS, isL, sPar2, sPar3, tupP, strP, itRange1, iRange1, i_tup, c, allP, bools, notIn_strs, in_strs, a1]
  · have z2 : ¬ ((ws.length : Int) = 2) := by omega
    rw [len_ne z]
    simp [runFn, sSeq, sIf, sSet, sRet, sAsg, sDrop, sNext, bindS_ok, tOpT, tVal, tOrM, tAndM, tNotM, eOp, eUn, eVar, eC, eNil, eCons, ePN, eTup, eIf, eAnd, eOr, eNot, eTmp, eNew, lLst, lPN, lOp, eCall, bind_ok, bind_bad, ofO_some, ofO_none, line, gSubM, setM, gPat, aNm, aTup, aCons, aNil, itemP, asDct, ixP, asQ, asL, asM, asLm, Mi.gtP, Mi.ltP, Mi.geP, Mi.leP, ltB_int, ltB_str, modP, fdivP, mulP, addP, subP, negP, powP, intP, eqP, neP, eqB_int, eqB_str, eqB_is, eqB_si, lenP, asDm, L2.atI, L2.ixN, eBm, eBmM, isS, isL, sPar2, sPar3, tupP, strP, itRange1, iRange1, i_tup, z2]
end QL
/-! QP3: what goes against what; pairs in order. -/
namespace QL
open PySem L2 Mi PM QG
variable {K : PySem.W.Frag} {A : Ad}
abbrev Pr := Str × Str
def prD (p : Pr) : D := .tup [.str p.1, .str p.2]
def wsD (ws : List Str) : D := .tup (ws.map .str)
theorem prD_eq (p : Pr) : prD p = wsD [p.1, p.2] := rfl
theorem eq_pr {h : Hd} {p q : Pr} : eqB h (prD p) (prD q) = some (decide (p = q)) := by
  obtain ⟨a, b⟩ := p
  obtain ⟨c, d⟩ := q
  unfold eqB prD
  simp only [toP, toP0, toP0s, Option.map_some]
  rw [if_pos (by simp [PyData.depth, PyData.depthAll])]
  congr 1
  rw [Bool.eq_iff_iff]
  simp [PyData.eqv, PyData.eqvAll]
def bars (p q : Pr) : Bool := (p.2 == q.2) && (!(decide (p = q)) && (([p.1, q.1] : List Str).contains "bare" || (([p.1, q.1] : List Str).contains "itself" && ([p.1, q.1] : List Str).contains "truth")))
theorem in2 {h : Hd} {m a b : Str} : inP h (.str m) (.tup [.str a, .str b]) = some (.bl (([a, b] : List Str).contains m)) := in_strs [a, b]
theorem lbars1 {h : Hd} {p q : Pr} : f__law_bars K A [prD p, prD q] h = .ok (.bl (bars p q)) h := by
  have e := eq_pr (h := h) (p := p) (q := q)
  unfold prD at e
  unfold f__law_bars m__law_bars bars
  by_cases z1 : p.2 = q.2
  · have y1 : (p.2 = q.2) = True := eq_true z1
    have y2 : (p.2 == q.2) = true := beq_iff_eq.mpr z1
    by_cases z2 : p = q
    · have y3 : decide (p = q) = true := decide_eq_true z2
      simp [runFn, sSeq, sIf, sSet, sRet, sAsg, sDrop, sNext, bindS_ok, tOpT, tVal, tOrM, tAndM, tNotM, eOp, eUn, eVar, eC, eNil, eCons, ePN, eTup, eIf, eAnd, eOr, eNot, eTmp, eNew, lLst, lPN, lOp, eCall, bind_ok, bind_bad, ofO_some, ofO_none, line, gSubM, setM, gPat, aNm, aTup, aCons, aNil, itemP, asDct, ixP, asQ, asL, asM, asLm, Mi.gtP, Mi.ltP, Mi.geP, Mi.leP, ltB_int, ltB_str, modP, fdivP, mulP, addP, subP, negP, powP, intP, eqP, neP, eqB_int, eqB_str, eqB_is, eqB_si, lenP, asDm, L2.atI, L2.ixN, eBm, eBmM, isS, isL, sPar2, sPar3, tupP, strP, itRange1, iRange1, prD, e, y1, y2, y3, -decide_eq_true_eq]
    · have y3 : decide (p = q) = false := decide_eq_false z2
      have y4 : (p = q) = False := eq_false z2
      by_cases z3 : ([p.1, q.1] : List Str).contains "bare" = true
      · simp [runFn, sSeq, sIf, sSet, sRet, sAsg, sDrop, sNext, bindS_ok, tOpT, tVal, tOrM, tAndM, tNotM, eOp, eUn, eVar, eC, eNil, eCons, ePN, eTup, eIf, eAnd, eOr, eNot, eTmp, eNew, lLst, lPN, lOp, eCall, bind_ok, bind_bad, ofO_some, ofO_none, line, gSubM, setM, gPat, aNm, aTup, aCons, aNil, itemP, asDct, ixP, asQ, asL, asM, asLm, Mi.gtP, Mi.ltP, Mi.geP, Mi.leP, ltB_int, ltB_str, modP, fdivP, mulP, addP, subP, negP, powP, intP, eqP, neP, eqB_int, eqB_str, eqB_is, eqB_si, lenP, asDm, L2.atI, L2.ixN, eBm, eBmM, isS, isL, sPar2, sPar3, tupP, strP, itRange1, iRange1, prD, e, y1, y2, y3, y4, in2, z3, -List.contains_eq_mem, -List.contains_cons]
      · have z3 : ([p.1, q.1] : List Str).contains "bare" = false := by simpa using z3
        by_cases z4 : ([p.1, q.1] : List Str).contains "itself" = true
        · simp [runFn, sSeq, sIf, sSet, sRet, sAsg, sDrop, sNext, bindS_ok, tOpT, tVal, tOrM, tAndM, tNotM, eOp, eUn, eVar, eC, eNil, eCons, ePN, eTup, eIf, eAnd, eOr, eNot, eTmp, eNew, lLst, lPN, lOp, eCall, bind_ok, bind_bad, ofO_some, ofO_none, line, gSubM, setM, gPat, aNm, aTup, aCons, aNil, itemP, asDct, ixP, asQ, asL, asM, asLm, Mi.gtP, Mi.ltP, Mi.geP, Mi.leP, ltB_int, ltB_str, modP, fdivP, mulP, addP, subP, negP, powP, intP, eqP, neP, eqB_int, eqB_str, eqB_is, eqB_si, lenP, asDm, L2.atI, L2.ixN, eBm, eBmM, isS, isL, sPar2, sPar3, tupP, strP, itRange1, iRange1, prD, e, y1, y2, y3, y4, in2, z3, z4, -List.contains_eq_mem, -List.contains_cons]
        · have z4 : ([p.1, q.1] : List Str).contains "itself" = false := by simpa using z4
          simp [runFn, sSeq, sIf, sSet, sRet, sAsg, sDrop, sNext, bindS_ok, tOpT, tVal, tOrM, tAndM, tNotM, eOp, eUn, eVar, eC, eNil, eCons, ePN, eTup, eIf, eAnd, eOr, eNot, eTmp, eNew, lLst, lPN, lOp, eCall, bind_ok, bind_bad, ofO_some, ofO_none, line, gSubM, setM, gPat, aNm, aTup, aCons, aNil, itemP, asDct, ixP, asQ, asL, asM, asLm, Mi.gtP, Mi.ltP, Mi.geP, Mi.leP, ltB_int, ltB_str, modP, fdivP, mulP, addP, subP, negP, powP, intP, eqP, neP, eqB_int, eqB_str, eqB_is, eqB_si, lenP, asDm, L2.atI, L2.ixN, eBm, eBmM, isS, isL, sPar2, sPar3, tupP, strP, itRange1, iRange1, prD, e, y1, y2, y3, y4, in2, z3, z4, -List.contains_eq_mem, -List.contains_cons]
  · have z2 : (p.2 == q.2) = false := beq_eq_false_iff_ne.mpr z1
    simp [runFn, sSeq, sIf, sSet, sRet, sAsg, sDrop, sNext, bindS_ok, tOpT, tVal, tOrM, tAndM, tNotM, eOp, eUn, eVar, eC, eNil, eCons, ePN, eTup, eIf, eAnd, eOr, eNot, eTmp, eNew, lLst, lPN, lOp, eCall, bind_ok, bind_bad, ofO_some, ofO_none, line, gSubM, setM, gPat, aNm, aTup, aCons, aNil, itemP, asDct, ixP, asQ, asL, asM, asLm, Mi.gtP, Mi.ltP, Mi.geP, Mi.leP, ltB_int, ltB_str, modP, fdivP, mulP, addP, subP, negP, powP, intP, eqP, neP, eqB_int, eqB_str, eqB_is, eqB_si, lenP, asDm, L2.atI, L2.ixN, eBm, eBmM, isS, isL, sPar2, sPar3, tupP, strP, itRange1, iRange1, prD, e, z2]
theorem against1 {h : Hd} {p q : Pr} : f_goes_against K A [prD p, prD q] h = .ok (.bl (bars p q)) h := by
  have e := eq_pr (h := h) (p := p) (q := q)
  unfold prD at e
  unfold f_goes_against m_goes_against bars
  by_cases z1 : p.2 = q.2
  · have y1 : (p.2 = q.2) = True := eq_true z1
    have y2 : (p.2 == q.2) = true := beq_iff_eq.mpr z1
    by_cases z2 : p = q
    · have y3 : decide (p = q) = true := decide_eq_true z2
      simp [runFn, sSeq, sIf, sSet, sRet, sAsg, sDrop, sNext, bindS_ok, tOpT, tVal, tOrM, tAndM, tNotM, eOp, eUn, eVar, eC, eNil, eCons, ePN, eTup, eIf, eAnd, eOr, eNot, eTmp, eNew, lLst, lPN, lOp, eCall, bind_ok, bind_bad, ofO_some, ofO_none, line, gSubM, setM, gPat, aNm, aTup, aCons, aNil, itemP, asDct, ixP, asQ, asL, asM, asLm, Mi.gtP, Mi.ltP, Mi.geP, Mi.leP, ltB_int, ltB_str, modP, fdivP, mulP, addP, subP, negP, powP, intP, eqP, neP, eqB_int, eqB_str, eqB_is, eqB_si, lenP, asDm, L2.atI, L2.ixN, eBm, eBmM, isS, isL, sPar2, sPar3, tupP, strP, itRange1, iRange1, prD, e, y1, y2, y3, -decide_eq_true_eq]
    · have y3 : decide (p = q) = false := decide_eq_false z2
      have y4 : (p = q) = False := eq_false z2
      by_cases z3 : ([p.1, q.1] : List Str).contains "bare" = true
      · simp [runFn, sSeq, sIf, sSet, sRet, sAsg, sDrop, sNext, bindS_ok, tOpT, tVal, tOrM, tAndM, tNotM, eOp, eUn, eVar, eC, eNil, eCons, ePN, eTup, eIf, eAnd, eOr, eNot, eTmp, eNew, lLst, lPN, lOp, eCall, bind_ok, bind_bad, ofO_some, ofO_none, line, gSubM, setM, gPat, aNm, aTup, aCons, aNil, itemP, asDct, ixP, asQ, asL, asM, asLm, Mi.gtP, Mi.ltP, Mi.geP, Mi.leP, ltB_int, ltB_str, modP, fdivP, mulP, addP, subP, negP, powP, intP, eqP, neP, eqB_int, eqB_str, eqB_is, eqB_si, lenP, asDm, L2.atI, L2.ixN, eBm, eBmM, isS, isL, sPar2, sPar3, tupP, strP, itRange1, iRange1, prD, e, y1, y2, y3, y4, in2, z3, -List.contains_eq_mem, -List.contains_cons]
      · have z3 : ([p.1, q.1] : List Str).contains "bare" = false := by simpa using z3
        by_cases z4 : ([p.1, q.1] : List Str).contains "itself" = true
        · simp [runFn, sSeq, sIf, sSet, sRet, sAsg, sDrop, sNext, bindS_ok, tOpT, tVal, tOrM, tAndM, tNotM, eOp, eUn, eVar, eC, eNil, eCons, ePN, eTup, eIf, eAnd, eOr, eNot, eTmp, eNew, lLst, lPN, lOp, eCall, bind_ok, bind_bad, ofO_some, ofO_none, line, gSubM, setM, gPat, aNm, aTup, aCons, aNil, itemP, asDct, ixP, asQ, asL, asM, asLm, Mi.gtP, Mi.ltP, Mi.geP, Mi.leP, ltB_int, ltB_str, modP, fdivP, mulP, addP, subP, negP, powP, intP, eqP, neP, eqB_int, eqB_str, eqB_is, eqB_si, lenP, asDm, L2.atI, L2.ixN, eBm, eBmM, isS, isL, sPar2, sPar3, tupP, strP, itRange1, iRange1, prD, e, y1, y2, y3, y4, in2, z3, z4, -List.contains_eq_mem, -List.contains_cons]
        · have z4 : ([p.1, q.1] : List Str).contains "itself" = false := by simpa using z4
          simp [runFn, sSeq, sIf, sSet, sRet, sAsg, sDrop, sNext, bindS_ok, tOpT, tVal, tOrM, tAndM, tNotM, eOp, eUn, eVar, eC, eNil, eCons, ePN, eTup, eIf, eAnd, eOr, eNot, eTmp, eNew, lLst, lPN, lOp, eCall, bind_ok, bind_bad, ofO_some, ofO_none, line, gSubM, setM, gPat, aNm, aTup, aCons, aNil, itemP, asDct, ixP, asQ, asL, asM, asLm, Mi.gtP, Mi.ltP, Mi.geP, Mi.leP, ltB_int, ltB_str, modP, fdivP, mulP, addP, subP, negP, powP, intP, eqP, neP, eqB_int, eqB_str, eqB_is, eqB_si, lenP, asDm, L2.atI, L2.ixN, eBm, eBmM, isS, isL, sPar2, sPar3, tupP, strP, itRange1, iRange1, prD, e, y1, y2, y3, y4, in2, z3, z4, -List.contains_eq_mem, -List.contains_cons]
  · have z2 : (p.2 == q.2) = false := beq_eq_false_iff_ne.mpr z1
    simp [runFn, sSeq, sIf, sSet, sRet, sAsg, sDrop, sNext, bindS_ok, tOpT, tVal, tOrM, tAndM, tNotM, eOp, eUn, eVar, eC, eNil, eCons, ePN, eTup, eIf, eAnd, eOr, eNot, eTmp, eNew, lLst, lPN, lOp, eCall, bind_ok, bind_bad, ofO_some, ofO_none, line, gSubM, setM, gPat, aNm, aTup, aCons, aNil, itemP, asDct, ixP, asQ, asL, asM, asLm, Mi.gtP, Mi.ltP, Mi.geP, Mi.leP, ltB_int, ltB_str, modP, fdivP, mulP, addP, subP, negP, powP, intP, eqP, neP, eqB_int, eqB_str, eqB_is, eqB_si, lenP, asDm, L2.atI, L2.ixN, eBm, eBmM, isS, isL, sPar2, sPar3, tupP, strP, itRange1, iRange1, prD, e, z2]
theorem bars_symm (p q : Pr) : bars p q = bars q p := by
  have h : ∀ x : Str, ([p.1, q.1] : List Str).contains x = ([q.1, p.1] : List Str).contains x := fun x => by
    rw [Bool.eq_iff_iff, List.contains_iff_mem, List.contains_iff_mem]
    simp only [List.mem_cons, List.mem_nil_iff, or_false]
    exact or_comm
  have e1 : (p.2 == q.2) = (q.2 == p.2) := by rw [Bool.eq_iff_iff, beq_iff_eq, beq_iff_eq]; exact eq_comm
  have e2 : decide (p = q) = decide (q = p) := by rw [decide_eq_decide]; exact eq_comm
  unfold bars
  rw [h, h, h, e1, e2]
/-! the text of a pair -/
def key (p : Pr) : Str := Txt.join " " [p.1, p.2]
def okp (p : Pr) : Prop := (lts p.1).contains p.2 = true
instance (p : Pr) : Decidable (okp p) := by unfold okp; exact inferInstance
theorem lts_mem {w m : Str} (h : m ∈ lts w) : w ∈ WD ∧ m ∈ EM := by
  have := pB_eq w m
  rw [List.contains_iff_mem.mpr h] at this
  unfold pB at this
  simp only [Bool.and_eq_true] at this
  exact ⟨List.contains_iff_mem.mp this.1.1, List.contains_iff_mem.mp this.1.2⟩
theorem wd_sp : ∀ w ∈ WD, ¬ 32 ∈ w.cps.toList ∧ ¬ 44 ∈ w.cps.toList ∧ 3 ≤ w.length ∧ w.length ≤ 6 := by decide +kernel
theorem em_sp : ∀ w ∈ EM, ¬ 32 ∈ w.cps.toList ∧ ¬ 44 ∈ w.cps.toList ∧ 2 ≤ w.length ∧ w.length ≤ 8 := by decide +kernel
theorem okp.w {p : Pr} (h : okp p) : ¬ 32 ∈ p.1.cps.toList ∧ ¬ 44 ∈ p.1.cps.toList ∧ 3 ≤ p.1.length ∧ p.1.length ≤ 6 := wd_sp _ (lts_mem (List.contains_iff_mem.mp h)).1
theorem okp.m {p : Pr} (h : okp p) : ¬ 32 ∈ p.2.cps.toList ∧ ¬ 44 ∈ p.2.cps.toList ∧ 2 ≤ p.2.length ∧ p.2.length ≤ 8 := em_sp _ (lts_mem (List.contains_iff_mem.mp h)).2
theorem split_key {p : Pr} (h : okp p) : Txt.split (key p) " " = [p.1, p.2] := by
  refine TL.split_join (s := 32) (S := []) (by decide +kernel) (by decide +kernel) (by simp) fun x hx => ?_
  simp only [List.mem_cons, List.mem_nil_iff, or_false] at hx
  rcases hx with rfl | rfl
  · exact h.w.1
  · exact h.m.1
theorem key_inj {p q : Pr} (hp : okp p) (hq : okp q) (e : key p = key q) : p = q := by
  have e1 := split_key hp
  rw [e, split_key hq] at e1
  simp only [List.cons.injEq, and_true] at e1
  exact Prod.ext e1.1.symm e1.2.symm
theorem sp1 : (Str.ofString " ").length = 1 := by decide +kernel
theorem key_ok {h : Hd} {p : Pr} (hp : okp p) : joinP h (.str " ") [prD p] = some (.str (key p)) := by
  have a := hp.w.2.2.2
  have b := hp.m.2.2.2
  unfold joinP prD
  simp only [asQ, Option.bind_some, strsOf, Option.map_some]
  rw [if_pos]
  · rfl
  · simp only [List.map_cons, List.map_nil, List.sum_cons, List.sum_nil, List.length_cons, List.length_nil, sp1]
    omega
theorem key_len {p : Pr} (hp : okp p) : (key p).length ≤ 15 := by
  have a := hp.w.2.2.2
  have b := hp.m.2.2.2
  unfold key Txt.join
  rw [size_glued]
  simp only [List.map_cons, List.map_nil, List.sum_cons, List.sum_nil, List.length_cons, List.length_nil, sp1]
  omega
theorem key_no {p : Pr} (hp : okp p) : ¬ 44 ∈ (key p).cps.toList := by
  intro z
  unfold key Txt.join Builtin.Str.glued at z
  simp only [List.headD_cons, List.drop_succ_cons, List.drop_zero, List.foldl_cons, List.foldl_nil, Array.toList_append, List.mem_append] at z
  rcases z with (z | z) | z
  · exact hp.w.2.1 z
  · rw [show (Str.ofString " ").cps.toList = [32] by decide +kernel] at z
    simp at z
  · exact hp.m.2.1 z
end QL
/-! QP4: rows of pairs gone through, by the program. -/
namespace QL
open PySem L2 Mi PM QG
variable {K : PySem.W.Frag} {A : Ad}
/-- a row that may be walked, whatever cells come -/
structure Src (h : Hd) (d : D) (rows : List D) : Prop where
  ex : ∃ gd : Hd → Bool, itOf h d = some ⟨rows, gd⟩ ∧ itAll h d = some ⟨rows, gd⟩ ∧ ∀ j, gd (h ++ j) = true
theorem stays_ok {h : Hd} {c : Nat} {xs : List D} (g : h[c]? = some (.lst xs)) : ∀ j, stays c xs (h ++ j) = true := fun j => by
  unfold stays asL
  simp only
  rw [List.getElem?_append_left (get_lt g), g]
  exact beqL_self _
theorem src_tup {h : Hd} {xs : List D} : Src h (.tup xs) xs := ⟨always, rfl, rfl, fun _ => rfl⟩
theorem src_tmp {h : Hd} {xs : List D} : Src h (.tmp xs) xs := ⟨always, rfl, rfl, fun _ => rfl⟩
theorem src_ref {h : Hd} {xs : List D} {n : Nat} (e : h[n]? = some (.lst xs)) : Src h (.ref n) xs := by
  refine ⟨stays n xs, ?_, ?_, stays_ok e⟩
  · unfold itOf asL
    simp only [e, Option.map_some]
  · unfold itAll itMore itOf asL
    simp only [e, Option.map_some]
/-- d is looked at as the words ws are -/
structure Lk (K : PySem.W.Frag) (A : Ad) (d : D) (ws : List Str) : Prop where
  pi : ∀ h, f_is_promise K A [d] h = .ok (.bl (isP ws)) h
  li : ∀ h, f__law_is_promise K A [d] h = .ok (.bl (isP ws)) h
  eq : isP ws = true → d = wsD ws
def Lks (K : PySem.W.Frag) (A : Ad) : List D → List (List Str) → Prop
  | [], r => r = []
  | d :: ds, r => ∃ ws rs, r = ws :: rs ∧ Lk K A d ws ∧ Lks K A ds rs
theorem lk_ws (ws : List Str) : Lk K A (wsD ws) ws := ⟨fun _ => pis1, fun _ => lis1, fun _ => rfl⟩
theorem lks_ws : ∀ rows : List (List Str), Lks K A (rows.map wsD) rows
  | [] => rfl
  | ws :: rows => ⟨ws, rows, rfl, lk_ws ws, lks_ws rows⟩
theorem Lks.len : ∀ {ds : List D} {rows : List (List Str)}, Lks K A ds rows → ds.length = rows.length
  | [], _, h => by rw [show _ = [] from h]; rfl
  | d :: ds, _, ⟨ws, rs, e, _, h⟩ => by rw [e, List.length_cons, List.length_cons, Lks.len h]
theorem Lks.app : ∀ {ds es : List D} {rows qs : List (List Str)}, Lks K A ds rows → Lks K A es qs → Lks K A (ds ++ es) (rows ++ qs)
  | [], _, _, _, h, h2 => by rw [show _ = [] from h]; exact h2
  | d :: ds, _, _, _, ⟨ws, rs, e, k, h⟩, h2 => by rw [e]; exact ⟨ws, _, rfl, k, Lks.app h h2⟩
def chk : List Pr → Nat → List (List Str) → Nat ⊕ List Pr
  | done, _, [] => .inr done
  | done, i, ws :: r => match ws with
    | [w, m] => if (lts w).contains m && !(done.any fun q => bars (w, m) q) then chk (done ++ [(w, m)]) (i + 1) r else .inl i
    | _ => .inl i
theorem chk_nil {done : List Pr} {i : Nat} : chk done i [] = .inr done := by unfold chk; rfl
theorem chk_two {done : List Pr} {i : Nat} {p : Pr} {r : List (List Str)} : chk done i ([p.1, p.2] :: r) = if (lts p.1).contains p.2 && !(done.any fun q => bars p q) then chk (done ++ [p]) (i + 1) r else .inl i := by
  rw [chk]
def pcBody (K : PySem.W.Frag) (A : Ad) : S := (sSeq (sIf (tOrM (tNotM (tVal (eCall (f_is_promise K A) [] (eCons (eVar 3) eNil)))) (tVal (ePN anyP (eCons (eTmp (lComp (iAll (eVar 1)) (aNm 4) tYesM (eCall (f_goes_against K A) [] (eCons (eVar 3) (eCons (eVar 4) eNil))) [4])) eNil)))) (sRaise A.c_InvalidPromise ["at"] (eCons (eVar 2) eNil)) sNext)
  (sDrop (eBmM appendM isL (eVar 1) (eCons (eVar 3) eNil))))
theorem bools_map {α : Type} (f : α → Bool) : ∀ l : List α, bools (l.map fun x => .bl (f x)) = some (l.map f)
  | [] => rfl
  | x :: l => by rw [List.map_cons, bools, bools_map f l]; rfl
theorem any_ok {α : Type} {h : Hd} (f : α → Bool) (l : List α) : anyP h [.tmp (l.map fun x => .bl (f x))] = some (.bl (l.any f)) := by
  unfold anyP
  simp only [asL, Option.bind_some, bools_map, Option.map_some]
  rw [List.any_map]
  rfl
theorem chk_no {done : List Pr} {i : Nat} {ws : List Str} {r : List (List Str)} (h : isP ws = false) : chk done i (ws :: r) = .inl i := by
  match ws, h with
  | [], _ => rfl
  | [_], _ => rfl
  | [w, m], h =>
    rw [chk_two (p := (w, m)), show (lts (w, m).1).contains (w, m).2 = false from h]
    rfl
  | _ :: _ :: _ :: _, _ => rfl
theorem isP_two {ws : List Str} (h : isP ws = true) : ∃ p : Pr, ws = [p.1, p.2] ∧ okp p := by
  match ws, h with
  | [w, m], h => exact ⟨(w, m), rfl, h⟩
theorem pc_turn {h : Hd} {d : Option D} {t2 t3 t4 : Option D} {done : List Pr} {i : Nat} {d0 : D} {ws : List Str} (lk : Lk K A d0 ws) (hn : done.length ≤ 200) :
    (match chk done i [ws] with
      | .inl _ => ∃ σ', pcBody K A [d, some (.ref h.length), some (.int i), some d0, t4] (h ++ [.lst (done.map prD)]) = .exc A.c_InvalidPromise (some [("at", .int i)]) σ' (h ++ [.lst (done.map prD)])
      | .inr ps => pcBody K A [d, some (.ref h.length), some (.int i), some d0, t4] (h ++ [.lst (done.map prD)]) = .nx [d, some (.ref h.length), some (.int i), some d0, t4] (h ++ [.lst (ps.map prD)])) := by
  have hp : eCall (f_is_promise K A) [] (eCons (eVar 3) eNil) [d, some (.ref h.length), some (.int i), some d0, t4] (h ++ [.lst (done.map prD)]) = .ok (.bl (isP ws)) (h ++ [.lst (done.map prD)]) :=
    eCall_ok (eCons_ok rfl rfl) (lk.pi _)
  have hr : sRaise A.c_InvalidPromise ["at"] (eCons (eVar 2) eNil) [d, some (.ref h.length), some (.int i), some d0, t4] (h ++ [.lst (done.map prD)]) = .exc A.c_InvalidPromise (some [("at", .int i)]) [d, some (.ref h.length), some (.int i), some d0, t4] (h ++ [.lst (done.map prD)]) := rfl
  cases z : isP ws with
  | false =>
    rw [chk_no z]
    refine ⟨[d, some (.ref h.length), some (.int i), some d0, t4], ?_⟩
    unfold pcBody sSeq sIf tOrM tNotM tVal
    rw [hp, z]
    simp only [bind_ok, bindS_ok, Bool.not_false, if_true, hr]
  | true =>
    have ed := lk.eq z
    obtain ⟨p, rfl, hok⟩ := isP_two z
    subst ed
    have e : (h ++ [O.lst (done.map prD)])[h.length]? = some (.lst (done.map prD)) := by simp
    have c : ePN anyP (eCons (eTmp (lComp (iAll (eVar 1)) (aNm 4) tYesM (eCall (f_goes_against K A) [] (eCons (eVar 3) (eCons (eVar 4) eNil))) [4])) eNil) [d, some (.ref h.length), some (.int i), some (wsD [p.1, p.2]), t4] (h ++ [.lst (done.map prD)]) = .ok (.bl (done.any fun q => bars p q)) (h ++ [.lst (done.map prD)]) := by
      refine ePN_ok (eCons_ok (eTmp_ok (lComp_ok (itm := ⟨done.map prD, stays h.length (done.map prD)⟩) (h1 := h ++ [.lst (done.map prD)]) ?_ (comp_map (F := fun x => match x with
        | .tup [.str a, .str b] => .bl (bars p (a, b))
        | _ => .non) ?_ _ ?_) ?_)) rfl) ?_
      · refine iAll_ok (d := .ref h.length) rfl ?_
        unfold itAll itMore itOf asL
        simp only [e, Option.map_some]
      · have := stays_ok e []
        simpa using this
      · intro x hx
        obtain ⟨q, _, rfl⟩ := List.mem_map.mp hx
        exact ⟨_, rfl, eCall_ok (eCons_ok rfl (eCons_ok rfl rfl)) against1⟩
      · simp
        omega
      · rw [List.map_map]
        exact any_ok (fun q => bars p q) done
    rw [chk_two, show (lts p.1).contains p.2 = true from hok, Bool.true_and]
    cases z2 : done.any fun q => bars p q with
    | true =>
      rw [if_neg (by simp)]
      refine ⟨[d, some (.ref h.length), some (.int i), some (wsD [p.1, p.2]), t4], ?_⟩
      unfold pcBody sSeq sIf tOrM tNotM
      unfold tVal
      rw [hp, z]
      simp only [bind_ok, bindS_ok, Bool.not_true, if_true, hr, Bool.false_eq_true, if_false, c, z2]
    | false =>
      rw [if_pos (by rfl), chk_nil]
      unfold pcBody
      refine (sSeq_nx (σ' := [d, some (.ref h.length), some (.int i), some (wsD [p.1, p.2]), t4]) (h' := h ++ [.lst (done.map prD)]) ?_).trans ?_
      · unfold sIf tOrM tNotM
        unfold tVal
        rw [hp, z]
        simp only [bind_ok, bindS_ok, Bool.not_true, Bool.false_eq_true, if_false, c, z2]
        rfl
      · refine (sDrop_ok (append_ok (y := prD p) rfl rfl (by rw [List.length_map]; omega))).trans ?_
        rw [List.map_append]
        rfl
theorem pc_loop {h : Hd} {d : Option D} {gd : Hd → Bool} (hg : ∀ l, gd (h ++ [.lst l]) = true) : ∀ (ds : List D) (rows : List (List Str)) (done : List Pr) (i : Nat) (t2 t3 t4 : Option D), Lks K A ds rows → done.length + rows.length ≤ 200 →
    (match chk done i rows with
      | .inl j => ∃ σ' l', Mi.forM (gPat (aTup (aCons (aNm 2) (aCons (aNm 3) aNil)))) (pcBody K A) gd (enumD i ds) [d, some (.ref h.length), t2, t3, t4] (h ++ [.lst (done.map prD)]) = .exc A.c_InvalidPromise (some [("at", .int j)]) σ' (h ++ [.lst l'])
      | .inr ps => ∃ u2 u3, Mi.forM (gPat (aTup (aCons (aNm 2) (aCons (aNm 3) aNil)))) (pcBody K A) gd (enumD i ds) [d, some (.ref h.length), t2, t3, t4] (h ++ [.lst (done.map prD)]) = .nx [d, some (.ref h.length), u2, u3, t4] (h ++ [.lst (ps.map prD)]))
  | [], rows, done, i, t2, t3, t4, lks, _ => by
    rw [show rows = [] from lks, chk_nil]
    refine ⟨t2, t3, ?_⟩
    rw [enumD, Mi.forM, if_pos (hg _)]
  | d0 :: ds, _, done, i, t2, t3, t4, ⟨ws, rows, er, lk, lks⟩, hn => by
    subst er
    rw [List.length_cons] at hn
    have t := pc_turn (K := K) (A := A) (h := h) (d := d) (t2 := t2) (t3 := t3) (t4 := t4) (done := done) (i := i) (ws := ws) lk (by omega)
    have st : ∀ r, pcBody K A [d, some (.ref h.length), some (.int i), some d0, t4] (h ++ [.lst (done.map prD)]) = r → Mi.forM (gPat (aTup (aCons (aNm 2) (aCons (aNm 3) aNil)))) (pcBody K A) gd (enumD i (d0 :: ds)) [d, some (.ref h.length), t2, t3, t4] (h ++ [.lst (done.map prD)]) = (match r with
        | .nx σ2 h2 => Mi.forM (gPat (aTup (aCons (aNm 2) (aCons (aNm 3) aNil)))) (pcBody K A) gd (enumD (i + 1) ds) σ2 h2
        | .ct σ2 h2 => Mi.forM (gPat (aTup (aCons (aNm 2) (aCons (aNm 3) aNil)))) (pcBody K A) gd (enumD (i + 1) ds) σ2 h2
        | .brk σ2 h2 => .nx σ2 h2
        | r => r) := fun r e => by
      rw [enumD, Mi.forM, if_pos (hg _)]
      show (match pcBody K A [d, some (.ref h.length), some (.int i), some d0, t4] (h ++ [.lst (done.map prD)]) with
        | .nx σ2 h2 => _
        | .ct σ2 h2 => _
        | .brk σ2 h2 => _
        | r => r) = _
      rw [e]
    cases z : chk done i [ws] with
    | inl j =>
      rw [z] at t
      obtain ⟨σ', e⟩ := t
      have hj : chk done i (ws :: rows) = .inl i := by
        cases zi : isP ws with
        | false => exact chk_no zi
        | true =>
          obtain ⟨p, rfl, hok⟩ := isP_two zi
          rw [chk_two] at z ⊢
          split at z
          · rw [chk_nil] at z; cases z
          · next hc => rw [if_neg hc]
      rw [hj]
      exact ⟨σ', _, st _ e⟩
    | inr ps =>
      rw [z] at t
      have hj : ps.length = done.length + 1 ∧ chk done i (ws :: rows) = chk ps (i + 1) rows := by
        cases zi : isP ws with
        | false => rw [chk_no zi] at z; cases z
        | true =>
          obtain ⟨p, rfl, hok⟩ := isP_two zi
          rw [chk_two] at z ⊢
          split at z
          · next hc =>
            rw [chk_nil] at z
            cases z
            exact ⟨by simp, by rw [if_pos hc]⟩
          · cases z
      have ih := pc_loop (d := d) hg ds rows ps (i + 1) (some (.int i)) (some d0) t4 lks (by omega)
      rw [hj.2, st _ t]
      exact ih
end QL
/-! QP5: pairs in order, by the program and by the law; the checked pairs. -/
namespace QL
open PySem L2 Mi PM QG
variable {K : PySem.W.Frag} {A : Ad}
theorem dc_comp {h : Hd} {d x1 x3 : Option D} {gd : Hd → Bool} (hg : gd h = true) : ∀ (l acc : List Pr), (∀ p ∈ l, okp p) → (∀ p ∈ acc, okp p) → acc.length + l.length ≤ 1000 →
    compDM (aNm 2) tYesM (eBm joinP isS (eC (.str " ")) (eCons (eVar 2) eNil)) (eVar 2) gd [d, x1, none, x3] (l.map prD) h (acc.map (entry key prD)) = .ok ((l.foldl addD acc).map (entry key prD)) h
  | [], acc, _, _, _ => by rw [List.map_nil, compDM, if_pos hg]; rfl
  | p :: l, acc, hl, ha, hn => by
    have hp := hl p (List.mem_cons_self ..)
    rw [List.length_cons] at hn
    have hd : (addD acc p).length ≤ acc.length + 1 := by unfold addD; split <;> simp
    have ih := dc_comp (h := h) (d := d) (x1 := x1) (x3 := x3) hg l (addD acc p) (fun q hq => hl q (List.mem_cons_of_mem _ hq)) (fun q hq => by
      rcases addD_mem.mp hq with z | rfl
      · exact ha q z
      · exact hp) (by omega)
    have pe := put_entry (key := key) (dat := prD) (acc := acc) (p := p) (fun q hq e => key_inj (ha q hq) hp e)
    have k : eBm joinP isS (eC (.str " ")) (eCons (eVar 2) eNil) [d, x1, some (prD p), x3] h = .ok (.str (key p)) h := eBm_ok rfl rfl (eCons_ok rfl rfl) (key_ok hp)
    have ll : acc.length < 16777216 := by omega
    have ea : aNm 2 (prD p) [d, x1, none, x3] = some [d, x1, some (prD p), x3] := rfl
    have et : eVar 2 [d, x1, some (prD p), x3] h = .ok (prD p) h := rfl
    rw [List.map_cons, compDM, List.foldl_cons, ← ih, ← pe]
    simp only [hg, if_true, ea, tYesM, bind_ok, k, et, asKey, List.length_map, line, if_pos ll]
theorem dtm_it {h : Hd} {l : List Pr} : itAll h (.dtm ((l.map (entry key prD)).map (·.1)) ((l.map (entry key prD)).map (·.2))) = some ⟨l.map fun p => .str (key p), always⟩ := by
  show (match itMore h _ with | some i => some i | none => _) = _
  unfold itMore
  simp only
  rw [if_pos (by simp)]
  simp only [List.map_map]
  rfl
theorem dtm_d {h : Hd} {l : List Pr} : asDct h (.dtm ((l.map (entry key prD)).map (·.1)) ((l.map (entry key prD)).map (·.2))) = some (l.map (entry key prD)) := by
  show some _ = _
  rw [zip_entry]
theorem inorder1 {h : Hd} {d : D} {ps : List Pr} (s : Src h d (ps.map prD)) (ho : ∀ p ∈ ps, okp p) (hn : ps.length ≤ 63) : f_in_order K A [d] h = .ok (.tup ((ord key ps).map prD)) h := by
  obtain ⟨gd, _, i2, i3⟩ := s.ex
  have hg : gd h = true := by have := i3 []; simpa using this
  have c := dc_comp (h := h) (d := some d) (x1 := none) (x3 := none) hg ps [] ho (by simp) (by simp; omega)
  have dl := dd_len ps
  unfold f_in_order m_in_order
  refine run_ret rfl ((sSeq_nx (sSet_ok (d := .dtm (((dd ps).map (entry key prD)).map (·.1)) (((dd ps).map (entry key prD)).map (·.2))) (h' := h) ?_)).trans (sRet_ok (sorted_tail (gd := always) (dat := prD) (l := dd ps) (key := key) 3 (by decide) (by omega) (fun p hp q hq e => key_inj (ho q (dd_mem.mp hq)) (ho p (dd_mem.mp hp)) e) rfl (by simp) dtm_it rfl dtm_d)))
  unfold eDComp
  rw [iAll_ok (d := d) (h1 := h) (itm := ⟨ps.map prD, gd⟩) rfl i2, bind_ok]
  show shutD (compDM _ _ _ _ _ [some d, none, none, none] (ps.map prD) h (([] : List Pr).map (entry key prD))) = _
  rw [c]
  rfl
theorem pairs_entry : ∀ l : List Pr, pairsOf (l.map fun p => .tup [.str (key p), prD p]) = some (l.map (entry key prD))
  | [] => rfl
  | p :: l => by
    rw [List.map_cons, pairsOf, pairs_entry l]
    rfl
theorem merge_entry : ∀ (l acc : List Pr), (∀ p ∈ l, okp p) → (∀ p ∈ acc, okp p) → (l.map (entry key prD)).foldl (fun acc kv => putKD acc kv.1 kv.2) (acc.map (entry key prD)) = (l.foldl addD acc).map (entry key prD)
  | [], acc, _, _ => rfl
  | p :: l, acc, hl, ha => by
    have hp := hl p (List.mem_cons_self ..)
    rw [List.map_cons, List.foldl_cons, List.foldl_cons]
    have pe := put_entry (key := key) (dat := prD) (acc := acc) (p := p) (fun q hq e => key_inj (ha q hq) hp e)
    show List.foldl _ (putKD (acc.map (entry key prD)) (.inr (key p)) (prD p)) _ = _
    rw [pe]
    exact merge_entry l _ (fun q hq => hl q (List.mem_cons_of_mem _ hq)) (fun q hq => by
      rcases addD_mem.mp hq with z | rfl
      · exact ha q z
      · exact hp)
theorem eDict_ok {a : EA} {σ : Mi.Env} {h h1 : Hd} {xs : List D} {kvs : List (Key × D)} (e1 : a σ h = .ok [.tmp xs] h1) (e2 : pairsOf xs = some kvs) : eDict a σ h = .ok (.dtm ((mergeD kvs).map (·.1)) ((mergeD kvs).map (·.2))) h1 := by
  unfold eDict
  rw [e1, bind_ok]
  simp only [asL, Option.bind_some, e2]
theorem due1 {h : Hd} {d : D} {ps : List Pr} (s : Src h d (ps.map prD)) (ho : ∀ p ∈ ps, okp p) (hn : ps.length ≤ 63) : f__law_due K A [d] h = .ok (.tup ((ord key ps).map prD)) h := by
  obtain ⟨gd, _, i2, i3⟩ := s.ex
  have hg : gd h = true := by have := i3 []; simpa using this
  have dl := dd_len ps
  unfold f__law_due m__law_due
  refine run_ret rfl ((sSeq_nx (sSet_ok (d := .dtm (((dd ps).map (entry key prD)).map (·.1)) (((dd ps).map (entry key prD)).map (·.2))) (h' := h) ?_)).trans (sRet_ok (sorted_tail (gd := always) (dat := prD) (l := dd ps) (key := key) 3 (by decide) (by omega) (fun p hp q hq e => key_inj (ho q (dd_mem.mp hq)) (ho p (dd_mem.mp hp)) e) rfl (by simp) dtm_it rfl dtm_d)))
  have c : lComp (iAll (eVar 0)) (aNm 2) tYesM (eTup (eCons (eBm joinP isS (eC (.str " ")) (eCons (eVar 2) eNil)) (eCons (eVar 2) eNil))) [2] [some d, none, none, none] h = .ok (ps.map fun p => .tup [.str (key p), prD p]) h := by
    refine lComp_ok (itm := ⟨ps.map prD, gd⟩) (h1 := h) (iAll_ok (d := d) rfl i2) ?_ (by rw [List.length_map]; omega)
    refine (comp_map (F := fun x => match x with
      | .tup [.str a, .str b] => .tup [.str (key (a, b)), x]
      | _ => .non) hg _ ?_).trans ?_
    · intro x hx
      obtain ⟨q, hq, rfl⟩ := List.mem_map.mp hx
      exact ⟨_, rfl, eTup_ok (eCons_ok (eBm_ok rfl rfl (eCons_ok rfl rfl) (key_ok (ho q hq))) (eCons_ok rfl rfl)) (by simp)⟩
    · rw [List.map_map]
      rfl
  have m := merge_entry ps [] ho (by simp)
  have r := eDict_ok (eCons_ok (r := eNil) (eTmp_ok c) rfl) (pairs_entry ps)
  rw [show mergeD (ps.map (entry key prD)) = (dd ps).map (entry key prD) from m] at r
  exact r
/-- what the checked pairs are -/
def NoBar (ps : List Pr) : Prop := ∀ p ∈ ps, ∀ q ∈ ps, bars p q = false
theorem bars_self (p : Pr) : bars p p = false := by
  unfold bars
  simp
theorem NoBar.snoc {ps : List Pr} {p : Pr} (h : NoBar ps) (hp : (ps.any fun q => bars p q) = false) : NoBar (ps ++ [p]) := by
  rw [List.any_eq_false] at hp
  intro x hx y hy
  simp only [List.mem_append, List.mem_singleton] at hx hy
  rcases hx with hx | rfl
  · rcases hy with hy | rfl
    · exact h x hx y hy
    · rw [bars_symm]
      simpa using hp x hx
  · rcases hy with hy | rfl
    · simpa using hp y hy
    · exact bars_self _
def two (p : Pr) : List Str := [p.1, p.2]
theorem chk_inr : ∀ {rows : List (List Str)} {done ps : List Pr} {i : Nat}, chk done i rows = .inr ps → NoBar done → (∀ p ∈ done, okp p) → ∃ new : List Pr, ps = done ++ new ∧ rows = new.map two ∧ (∀ p ∈ ps, okp p) ∧ NoBar ps
  | [], done, ps, i, e, nb, ho => by
    rw [chk_nil] at e
    cases e
    exact ⟨[], by simp, rfl, ho, nb⟩
  | ws :: rows, done, ps, i, e, nb, ho => by
    cases zi : isP ws with
    | false => rw [chk_no zi] at e; cases e
    | true =>
      obtain ⟨p, rfl, hok⟩ := isP_two zi
      rw [chk_two] at e
      split at e
      · next hc =>
        simp only [Bool.and_eq_true, Bool.not_eq_true'] at hc
        obtain ⟨new, e1, e2, e3, e4⟩ := chk_inr e (nb.snoc hc.2) (fun q hq => by
          simp only [List.mem_append, List.mem_singleton] at hq
          rcases hq with hq | rfl
          · exact ho q hq
          · exact hok)
        exact ⟨p :: new, by rw [e1]; simp, by rw [e2]; rfl, e3, e4⟩
      · cases e
theorem chk_of : ∀ {new done : List Pr} {i : Nat}, (∀ p ∈ new, okp p) → NoBar (done ++ new) → chk done i (new.map two) = .inr (done ++ new)
  | [], done, i, _, _ => by rw [List.map_nil, chk_nil, List.append_nil]
  | p :: new, done, i, ho, nb => by
    rw [List.map_cons]
    show chk done i ([p.1, p.2] :: new.map two) = _
    rw [chk_two, if_pos, chk_of (fun q hq => ho q (List.mem_cons_of_mem _ hq)) (by simpa using nb)]
    · simp
    · rw [show (lts p.1).contains p.2 = true from ho p (List.mem_cons_self ..), Bool.true_and]
      rw [Bool.not_eq_true', List.any_eq_false]
      intro q hq
      rw [nb p (by simp) q (by simp [hq])]
      simp
theorem NoBar.sub {ps qs : List Pr} (h : NoBar ps) (hs : ∀ q ∈ qs, q ∈ ps) : NoBar qs := fun a ha b hb => h a (hs a ha) b (hs b hb)
theorem lks_two : ∀ {ds : List D} {ps : List Pr}, Lks K A ds (ps.map two) → (∀ p ∈ ps, okp p) → ds = ps.map prD
  | [], [], _, _ => rfl
  | [], p :: ps, h, _ => by cases (show (p :: ps).map two = [] from h)
  | d :: ds, [], ⟨ws, rs, e, _, _⟩, _ => by cases e
  | d :: ds, p :: ps, ⟨ws, rs, e, k, h⟩, ho => by
    rw [List.map_cons] at e
    cases e
    rw [List.map_cons, k.eq (show isP (two p) = true from ho p (List.mem_cons_self ..)), lks_two h fun q hq => ho q (List.mem_cons_of_mem _ hq)]
    rfl
theorem checked1 {h : Hd} {d : D} {ds : List D} {rows : List (List Str)} (s : Src h d ds) (lks : Lks K A ds rows) (hn : rows.length ≤ 63) :
    (match chk [] 0 rows with
      | .inl i => ∃ j, f_checked_pairs K A [d] h = .exc A.c_InvalidPromise (some [("at", .int i)]) (h ++ j)
      | .inr ps => ∃ j, f_checked_pairs K A [d] h = .ok (.tup ((ord key ps).map prD)) (h ++ j)) := by
  obtain ⟨gd, i1, _, i3⟩ := s.ex
  have lp := pc_loop (K := K) (A := A) (h := h) (d := some d) (gd := gd) (fun l => i3 _) ds rows [] 0 none none none lks (by simp; omega)
  have e0 : sSet 1 (eNew (lLst eNil)) [some d, none, none, none, none] h = .nx [some d, some (.ref h.length), none, none, none] (h ++ [.lst []]) := rfl
  have it : iEnumM (eVar 0) [some d, some (.ref h.length), none, none, none] (h ++ [.lst []]) = .ok ⟨enumD 0 (ds), gd⟩ (h ++ [.lst []]) := by
    have : itOf (h ++ [.lst []]) d = some ⟨ds, gd⟩ := by
      cases d with
      | tup xs => exact i1
      | tmp xs => exact i1
      | ref n =>
        unfold itOf asL at i1 ⊢
        simp only at i1 ⊢
        cases z : h[n]? with
        | none => rw [z] at i1; cases i1
        | some o => rw [List.getElem?_append_left (get_lt z), z]; rw [z] at i1; exact i1
      | _ => cases i1
    unfold iEnumM
    show (R.ok d (h ++ [.lst []])).bind _ = _
    rw [bind_ok]
    unfold itEnum
    rw [this]
    rfl
  unfold f_checked_pairs
  cases z : chk [] 0 rows with
  | inl i =>
    rw [z] at lp
    obtain ⟨σ', l', e⟩ := lp
    refine ⟨[.lst l'], ?_⟩
    refine run_exc (σ' := σ') rfl ((sSeq_nx e0).trans ?_)
    exact sSeq_exc (sFor_ok it (show Mi.forM _ (pcBody K A) _ _ _ _ = _ from e))
  | inr ps =>
    rw [z] at lp
    obtain ⟨u2, u3, e⟩ := lp
    obtain ⟨new, e1, e2, e3, e4⟩ := chk_inr z (by intro p hp; cases hp) (by intro p hp; cases hp)
    refine ⟨[.lst (ps.map prD)], ?_⟩
    have hl : ps.length ≤ 63 := by
      have : rows.length = new.length := by rw [e2, List.length_map]
      rw [e1, List.nil_append]
      omega
    refine run_ret rfl ((sSeq_nx e0).trans ((sSeq_nx (sFor_ok it (show Mi.forM _ (pcBody K A) _ _ _ _ = _ from e))).trans (sRet_ok (eCall_ok (eCons_ok rfl rfl) (inorder1 (src_ref (n := h.length) (by simp)) e3 hl)))))
end QL
/-! QP6: rows of pairs gone through, by the law. -/
namespace QL
open PySem L2 Mi PM QG
variable {K : PySem.W.Frag} {A : Ad}
theorem comp_filter {a : D → Mi.Env → Option Mi.Env} {t : ET} {e : E} {gd : Hd → Bool} {σ : Mi.Env} {h : Hd} (f : D → Bool) (F : D → D) (hg : gd h = true) : ∀ (xs : List D),
    (∀ x ∈ xs, ∃ σ1, a x σ = some σ1 ∧ t σ1 h = .ok (f x) h ∧ (f x = true → e σ1 h = .ok (F x) h)) → compM a t e gd σ xs h = .ok ((xs.filter f).map F) h
  | [], _ => by rw [compM, hg]; rfl
  | x :: xs, hs => by
    obtain ⟨σ1, e1, e2, e3⟩ := hs x (List.mem_cons_self ..)
    have ih := comp_filter (e := e) f F hg xs (fun y hy => hs y (List.mem_cons_of_mem _ hy))
    rw [compM, hg]
    simp only [if_true, e1, e2, R.bind]
    cases z : f x with
    | true =>
      rw [List.filter_cons_of_pos z]
      simp only [if_true, e3 z, ih]
      rfl
    | false =>
      rw [List.filter_cons_of_neg (by rw [z]; simp)]
      simp only [Bool.false_eq_true, if_false, ih]
theorem eqNilL {h : Hd} {xs : List D} {ps : List PyData} (e : toP0s xs = some ps) : eqB h (.tmp xs) (.tmp []) = some xs.isEmpty := by
  have e2 : ps.isEmpty = xs.isEmpty := by
    cases xs with
    | nil => cases e; rfl
    | cons x xs =>
      rw [toP0s] at e
      split at e
      · cases e; rfl
      · cases e
  have e3 : PyData.eqv (.list ps) (.list []) = xs.isEmpty := by
    rw [← e2]
    cases ps with
    | nil => simp [PyData.eqv, PyData.eqvAll]
    | cons p ps => simp [PyData.eqv, PyData.eqvAll]
  have e4 : min (PyData.list ps).depth (PyData.list []).depth ≤ 64 := by
    have : (PyData.list []).depth = 1 := by simp [PyData.depth, PyData.depthAll]
    omega
  unfold eqB
  simp only [toP, toP0, e, Option.map_some, toP0s]
  rw [if_pos e4, e3]
theorem ones {α : Type} : ∀ l : List α, toP0s (l.map fun _ => D.int 1) = some (l.map fun _ => PyData.int 1)
  | [] => rfl
  | x :: l => by rw [List.map_cons, toP0s, ones l]; rfl
theorem cut_take {xs : List D} {i : Nat} (h : i ≤ xs.length) : cutD xs none (some (i : Int)) = xs.take i := by
  have e : HT.sIx xs.length xs.length (some (i : Int)) = i := by
    unfold HT.sIx
    simp only
    rw [if_neg (by omega)]
    omega
  unfold cutD
  rw [e]
  simp [HT.sIx]
/-- a row that may be cut -/
def Cut (h : Hd) (d : D) (rows : List D) : Prop := ∀ i : Nat, i ≤ rows.length → slP h d none (some (i : Int)) = some (.tmp (rows.take i))
theorem cut_tmp {h : Hd} {xs : List D} : Cut h (.tmp xs) xs := fun i hi => by
  show some (D.tmp (cutD xs none (some (i : Int)))) = _
  rw [cut_take hi]
theorem cut_ref {h : Hd} {xs : List D} {n : Nat} (e : h[n]? = some (.lst xs)) : Cut h (.ref n) xs := fun i hi => by
  show (asL h (.ref n)).map _ = _
  unfold asL
  simp only [e, Option.map_some]
  rw [cut_take hi]
def lwBody (K : PySem.W.Frag) (A : Ad) : S := (sIf (tOrM (tNotM (tVal (eCall (f__law_is_promise K A) [] (eCons (eVar 2) eNil)))) (tOpT neP (eTmp (lComp (iAll (eSl (eVar 0) oNone (oSome (eVar 1)))) (aNm 3) (tVal (eCall (f__law_bars K A) [] (eCons (eVar 2) (eCons (eVar 3) eNil)))) (eC (.int 1)) [3])) (eTmp (lLst eNil)))) (sRet (eVar 1)) sNext)
theorem lw_turn {h : Hd} {d : D} {t3 : Option D} {done : List Pr} {d0 : D} {ws : List Str} (lk : Lk K A d0 ws) (hs : slP h d none (some (done.length : Int)) = some (.tmp (done.map prD))) (hn : done.length ≤ 1000) :
    lwBody K A [some d, some (.int done.length), some d0, t3] h = (match chk done 0 [ws] with
      | .inl _ => .ret (.int done.length) h
      | .inr _ => .nx [some d, some (.int done.length), some d0, t3] h) := by
  have hp : eCall (f__law_is_promise K A) [] (eCons (eVar 2) eNil) [some d, some (.int done.length), some d0, t3] h = .ok (.bl (isP ws)) h := eCall_ok (eCons_ok rfl rfl) (lk.li _)
  cases z : isP ws with
  | false =>
    rw [chk_no z]
    rw [z] at hp
    exact sIf_t (tOr_t (tNot_ok (tVal_ok hp)))
  | true =>
    have ed := lk.eq z
    obtain ⟨p, rfl, hok⟩ := isP_two z
    subst ed
    have c : eOp neP (eTmp (lComp (iAll (eSl (eVar 0) oNone (oSome (eVar 1)))) (aNm 3) (tVal (eCall (f__law_bars K A) [] (eCons (eVar 2) (eCons (eVar 3) eNil)))) (eC (.int 1)) [3])) (eTmp (lLst eNil)) [some d, some (.int done.length), some (wsD [p.1, p.2]), t3] h = .ok (.bl (done.any fun q => bars p q)) h := by
      refine eOp_ok (x := .tmp ((done.filter fun q => bars p q).map fun _ => .int 1)) (y := .tmp []) (eTmp_ok (lComp_ok (itm := ⟨done.map prD, always⟩) (h1 := h) ?_ ?_ ?_)) rfl ?_
      · refine iAll_ok (d := .tmp (done.map prD)) ?_ rfl
        unfold eSl oNone oSome
        show ((R.ok d h).bind _) = _
        simp only [bind_ok]
        show (R.bind (R.bind (R.ok (D.int done.length) h) _) _) = _
        simp only [bind_ok]
        rw [hs, ofO_some]
      · refine (comp_filter (fun x => match x with
          | .tup [.str a, .str b] => bars p (a, b)
          | _ => false) (fun _ => .int 1) rfl _ ?_).trans ?_
        · intro x hx
          obtain ⟨q, _, rfl⟩ := List.mem_map.mp hx
          refine ⟨_, rfl, ?_, fun _ => rfl⟩
          unfold tVal
          rw [eCall_ok (eCons_ok rfl (eCons_ok rfl rfl)) (lbars1 (p := p) (q := q)), bind_ok]
          rfl
        · rw [List.filter_map, List.map_map]
          rfl
      · have := List.length_filter_le (fun q => bars p q) done
        simp only [List.length_map]
        omega
      · unfold neP
        rw [eqNilL (ones _), Option.map_some]
        congr 2
        rw [Bool.eq_iff_iff]
        simp [List.any_eq_true]
    rw [chk_two, show (lts p.1).contains p.2 = true from hok, Bool.true_and, chk_nil]
    rw [z] at hp
    cases z2 : done.any fun q => bars p q with
    | true =>
      rw [z2] at c
      exact sIf_t ((tOr_f (tNot_ok (tVal_ok hp))).trans (tOpT_ok c))
    | false =>
      rw [z2] at c
      exact sIf_f ((tOr_f (tNot_ok (tVal_ok hp))).trans (tOpT_ok c))
theorem chk_ix {done : List Pr} {i j : Nat} {rows : List (List Str)} : (∀ k, chk done i rows = .inl (i + k) ↔ chk done j rows = .inl (j + k)) ∧ ∀ ps, chk done i rows = .inr ps ↔ chk done j rows = .inr ps := by
  induction rows generalizing done i j with
  | nil => simp [chk_nil]
  | cons ws rows ih =>
    cases zi : isP ws with
    | false => rw [chk_no zi, chk_no zi]; simp
    | true =>
      obtain ⟨p, rfl, hok⟩ := isP_two zi
      rw [chk_two, chk_two]
      split
      · have := ih (done := done ++ [p]) (i := i + 1) (j := j + 1)
        refine ⟨fun k => ?_, this.2⟩
        cases k with
        | zero =>
          constructor
          · intro e
            have := chk_ge e
            omega
          · intro e
            have := chk_ge e
            omega
        | succ k =>
          have := this.1 k
          rw [show i + 1 + k = i + (k + 1) by omega, show j + 1 + k = j + (k + 1) by omega] at this
          exact this
      · simp
where
  chk_ge : ∀ {done : List Pr} {i k : Nat} {rows : List (List Str)}, chk done i rows = .inl k → i ≤ k := by
    intro done i k rows
    induction rows generalizing done i with
    | nil => intro e; rw [chk_nil] at e; cases e
    | cons ws rows ih =>
      intro e
      cases zi : isP ws with
      | false => rw [chk_no zi] at e; cases e; exact Nat.le_refl _
      | true =>
        obtain ⟨p, rfl, hok⟩ := isP_two zi
        rw [chk_two] at e
        split at e
        · have := ih e; omega
        · cases e; exact Nat.le_refl _
end QL
/-! QP7: the first wrong one, by the law; rows of a text. -/
namespace QL
open PySem L2 Mi PM QG
variable {K : PySem.W.Frag} {A : Ad}
theorem chk_off {done : List Pr} {i : Nat} {ws : List Str} : (∃ k, chk done i [ws] = .inl k) ↔ ∃ k, chk done 0 [ws] = .inl k := by
  cases zi : isP ws with
  | false => rw [chk_no zi, chk_no zi]; simp
  | true =>
    obtain ⟨p, rfl, hok⟩ := isP_two zi
    rw [chk_two, chk_two, chk_nil, chk_nil]
    split <;> simp
theorem lw_loop {h : Hd} {d : D} {gd : Hd → Bool} {all : List D} (hg : gd h = true) (hc : Cut h d all) (hn : all.length ≤ 1000) : ∀ (ds : List D) (rows : List (List Str)) (done : List Pr) (t1 t2 t3 : Option D), Lks K A ds rows → all = done.map prD ++ ds →
    (match chk done done.length rows with
      | .inl j => Mi.forM (gPat (aTup (aCons (aNm 1) (aCons (aNm 2) aNil)))) (lwBody K A) gd (enumD done.length ds) [some d, t1, t2, t3] h = .ret (.int j) h
      | .inr _ => ∃ u1 u2, Mi.forM (gPat (aTup (aCons (aNm 1) (aCons (aNm 2) aNil)))) (lwBody K A) gd (enumD done.length ds) [some d, t1, t2, t3] h = .nx [some d, u1, u2, t3] h)
  | [], rows, done, t1, t2, t3, lks, _ => by
    rw [show rows = [] from lks, chk_nil]
    refine ⟨t1, t2, ?_⟩
    rw [enumD, Mi.forM, if_pos hg]
  | d0 :: ds, _, done, t1, t2, t3, ⟨ws, rows, er, lk, lks⟩, ha => by
    subst er
    have hl : done.length ≤ all.length := by rw [ha]; simp
    have hs : slP h d none (some (done.length : Int)) = some (.tmp (done.map prD)) := by
      rw [hc done.length hl, ha, List.take_append_of_le_length (by simp), List.take_of_length_le (by simp)]
    have t := lw_turn (K := K) (A := A) (t3 := t3) (ws := ws) lk hs (by omega)
    have st : Mi.forM (gPat (aTup (aCons (aNm 1) (aCons (aNm 2) aNil)))) (lwBody K A) gd (enumD done.length (d0 :: ds)) [some d, t1, t2, t3] h = (match lwBody K A [some d, some (.int done.length), some d0, t3] h with
        | .nx σ2 h2 => Mi.forM (gPat (aTup (aCons (aNm 1) (aCons (aNm 2) aNil)))) (lwBody K A) gd (enumD (done.length + 1) ds) σ2 h2
        | .ct σ2 h2 => Mi.forM (gPat (aTup (aCons (aNm 1) (aCons (aNm 2) aNil)))) (lwBody K A) gd (enumD (done.length + 1) ds) σ2 h2
        | .brk σ2 h2 => .nx σ2 h2
        | r => r) := by
      rw [enumD, Mi.forM, if_pos hg]
      rfl
    cases zi : isP ws with
    | false =>
      rw [chk_no zi] at t ⊢
      rw [st, t]
    | true =>
      have ed := lk.eq zi
      obtain ⟨p, rfl, hok⟩ := isP_two zi
      subst ed
      rw [chk_two, chk_nil] at t
      rw [chk_two]
      by_cases hcc : ((lts p.1).contains p.2 && !done.any fun q => bars p q) = true
      · rw [if_pos hcc] at t ⊢
        have ih := lw_loop (gd := gd) hg hc hn ds rows (done ++ [p]) (some (.int done.length)) (some (wsD [p.1, p.2])) t3 lks (by rw [ha]; simp; rfl)
        rw [List.length_append, List.length_singleton] at ih
        rw [st, t]
        simp only
        exact ih
      · rw [if_neg hcc] at t ⊢
        rw [st, t]
theorem neg1 {σ : Mi.Env} {h : Hd} : eUn negP (eC (.int 1)) σ h = .ok (.int (-1)) h := rfl
def wrongI (rows : List (List Str)) : Int := match chk [] 0 rows with
  | .inl i => i
  | .inr _ => -1
theorem lwrong1 {h : Hd} {d : D} {ds : List D} {rows : List (List Str)} (s : Src h d ds) (hc : Cut h d ds) (lks : Lks K A ds rows) (hn : ds.length ≤ 1000) : f__law_wrong K A [d] h = .ok (.int (wrongI rows)) h := by
  obtain ⟨gd, i1, _, i3⟩ := s.ex
  have hg : gd h = true := by have := i3 []; simpa using this
  have lp := lw_loop (K := K) (A := A) hg hc hn ds rows [] none none none lks (by simp)
  have it : iEnumM (eVar 0) [some d, none, none, none] h = .ok ⟨enumD 0 (ds), gd⟩ h := by
    unfold iEnumM
    show (R.ok d h).bind _ = _
    rw [bind_ok]
    unfold itEnum
    rw [i1]
    rfl
  unfold f__law_wrong wrongI
  rw [List.length_nil] at lp
  cases z : chk [] 0 rows with
  | inl i =>
    rw [z] at lp
    exact run_ret rfl (sSeq_ret (sFor_ok it (show Mi.forM _ (lwBody K A) _ _ _ _ = _ from lp)))
  | inr ps =>
    rw [z] at lp
    obtain ⟨u1, u2, e⟩ := lp
    exact run_ret rfl ((sSeq_nx (sFor_ok it (show Mi.forM _ (lwBody K A) _ _ _ _ = _ from e))).trans (sRet_ok neg1))
/-! rows of a text -/
def norm (ws : List Str) : List Str := if ws.length = 2 then ws else []
theorem isP_norm (ws : List Str) : isP (norm ws) = isP ws := by
  unfold norm
  split
  · rfl
  · next h => rw [len_ne h]; rfl
theorem chk_norm : ∀ (rows : List (List Str)) (done : List Pr) (i : Nat), chk done i (rows.map norm) = chk done i rows
  | [], done, i => rfl
  | ws :: rows, done, i => by
    rw [List.map_cons]
    cases zi : isP ws with
    | false => rw [chk_no zi, chk_no (by rw [isP_norm]; exact zi)]
    | true =>
      obtain ⟨p, rfl, hok⟩ := isP_two zi
      rw [show norm [p.1, p.2] = [p.1, p.2] from rfl, chk_two, chk_two, chk_norm rows]
theorem cs2 : ((Str.ofString ", ").length == 0) = false := by decide +kernel
theorem sp0 : ((Str.ofString " ").length == 0) = false := by decide +kernel
theorem split_comma {h : Hd} {T : Str} (hl : T.length ≤ 1000) : splitL h (.str T) [.str ", "] = some ((Txt.split T ", ").map .str) := by
  unfold splitL
  simp only
  rw [if_pos ⟨cs2, by unfold line; omega⟩]
theorem split_sp {h : Hd} {T : Str} (hl : T.length ≤ 1000) : splitL h (.str T) [.str " "] = some ((Txt.split T " ").map .str) := by
  unfold splitL
  simp only
  rw [if_pos ⟨sp0, by unfold line; omega⟩]
def rowsOf (T : Str) : List (List Str) := (Txt.split T ", ").map fun x => Txt.split x " "
theorem part_len {T x : Str} (h : x ∈ Txt.split T ", ") : x.length ≤ T.length := PyProof.Rows.part_short h
theorem cs_len : (Str.ofString ", ").length = 2 := by decide +kernel
theorem parts_len (T : Str) : 2 * (Txt.split T ", ").length ≤ T.length + 2 := by
  have e := StrLaws.join_split T ", "
  have e2 : (Builtin.Str.glued ", " (Txt.split T ", ")).length = T.length := by rw [StrLaws.glued_eq_join, e]
  rw [size_glued, cs_len] at e2
  omega
end QL
/-! QP8: Promises made, read, as texts. -/
namespace QL
open PySem L2 Mi PM QG
variable {K : PySem.W.Frag} {A : Ad}
def prO (A : Ad) (qs : List Pr) : O := .ins A.c_Promises [("pairs", .tup (qs.map prD))]
def txt (qs : List Pr) : Str := Txt.join ", " (qs.map key)
theorem Src.inv {h : Hd} {d : D} {rows : List D} (s : Src h d rows) : d = .tup rows ∨ d = .tmp rows ∨ ∃ n, d = .ref n ∧ asL h (.ref n) = some rows := by
  obtain ⟨gd, i1, _, _⟩ := s.ex
  cases d with
  | tup xs => cases i1; exact .inl rfl
  | tmp xs => cases i1; exact .inr (.inl rfl)
  | ref n =>
    unfold itOf at i1
    simp only at i1
    cases z : asL h (.ref n) with
    | none => rw [z] at i1; cases i1
    | some xs => rw [z] at i1; cases i1; exact .inr (.inr ⟨n, rfl, z⟩)
  | _ => cases i1
theorem asL_push {h j : Hd} {n : Nat} {xs : List D} (e : asL h (.ref n) = some xs) : asL (h ++ j) (.ref n) = some xs := by
  unfold asL at e ⊢
  simp only at e ⊢
  cases z : h[n]? with
  | none => rw [z] at e; cases e
  | some o => rw [List.getElem?_append_left (get_lt z), z]; rw [z] at e; exact e
theorem src_as {h : Hd} {n : Nat} {xs : List D} (e : asL h (.ref n) = some xs) : Src h (.ref n) xs := by
  refine ⟨stays n xs, ?_, ?_, fun j => ?_⟩
  · unfold itOf
    simp only [e, Option.map_some]
  · have : itMore h (.ref n) = none := by
      unfold asL at e
      unfold itMore
      simp only at e ⊢
      split at e
      · next z => rw [z]
      · next z => rw [z]
      · cases e
    unfold itAll
    rw [this]
    unfold itOf
    simp only [e, Option.map_some]
  · unfold stays
    rw [asL_push e]
    exact beqL_self _
theorem Src.push {h : Hd} {d : D} {rows : List D} (s : Src h d rows) (j : Hd) : Src (h ++ j) d rows := by
  rcases s.inv with rfl | rfl | ⟨n, rfl, e⟩
  · exact src_tup
  · exact src_tmp
  · exact src_as (asL_push e)
theorem init1 {h : Hd} {n : Nat} {d : D} {ds : List D} {rows : List (List Str)} (en : h[n]? = some (.ins A.c_Promises [])) (s : Src h d ds) (lks : Lks K A ds rows) (hn : rows.length ≤ 63) :
    (match chk [] 0 rows with
      | .inl i => ∃ j, f_Promises___init__ K A [.ref n, d] h = .exc A.c_InvalidPromise (some [("at", .int i)]) (h ++ j)
      | .inr ps => ∃ j, f_Promises___init__ K A [.ref n, d] h = .ok .non ((h ++ j).set n (prO A (ord key ps)))) := by
  have c := checked1 (K := K) (A := A) s lks hn
  unfold f_Promises___init__
  cases z : chk [] 0 rows with
  | inl i =>
    rw [z] at c
    obtain ⟨j, e⟩ := c
    refine ⟨j, run_exc (σ' := [some (.ref n), some d]) rfl ?_⟩
    show sFldM _ _ _ _ [some (.ref n), some d] h = _
    have e' : eCall (f_checked_pairs K A) [] (eCons (eVar 1) eNil) [some (.ref n), some d] h = .exc A.c_InvalidPromise (some [("at", .int i)]) (h ++ j) := by
      show (R.ok [d] h).bind _ = _
      rw [bind_ok]
      exact e
    unfold sFldM
    rw [e']
    rfl
  | inr ps =>
    rw [z] at c
    obtain ⟨j, e⟩ := c
    refine ⟨j, run_nx (σ' := [some (.ref n), some d]) rfl ?_⟩
    show sFldM _ _ _ _ [some (.ref n), some d] h = _
    have e' : eCall (f_checked_pairs K A) [] (eCons (eVar 1) eNil) [some (.ref n), some d] h = .ok (.tup ((ord key ps).map prD)) (h ++ j) := eCall_ok (eCons_ok rfl rfl) e
    have g : (h ++ j)[n]? = some (.ins A.c_Promises []) := by rw [List.getElem?_append_left (get_lt en), en]
    unfold sFldM
    rw [e', bindS_ok]
    show (match (h ++ j)[n]? with
      | some (.ins C' fs) => if C' = A.c_Promises ∧ fs.length < 1000 then SR.nx [some (.ref n), some d] ((h ++ j).set n (.ins C' (putD "pairs" (.tup ((ord key ps).map prD)) fs))) else .bad
      | _ => .bad) = _
    rw [g]
    show (if A.c_Promises = A.c_Promises ∧ ([] : List (Str × D)).length < 1000 then _ else _) = _
    rw [if_pos ⟨rfl, by decide⟩]
    rfl
theorem make1 {h h1 : Hd} {σ : Mi.Env} {a : EA} {dds ds : List D} {d : D} {es : List D} {rows : List (List Str)} (ea : a σ h = .ok ds h1) (ed : ds ++ dds = [d]) (s : Src h1 d es) (lks : Lks K A es rows) (hn : rows.length ≤ 63) :
    (match chk [] 0 rows with
      | .inl i => ∃ j, eMake A.c_Promises (f_Promises___init__ K A) dds a σ h = .exc A.c_InvalidPromise (some [("at", .int i)]) (h1 ++ j)
      | .inr ps => ∃ j, eMake A.c_Promises (f_Promises___init__ K A) dds a σ h = .ok (.ref h1.length) (h1 ++ prO A (ord key ps) :: j)) := by
  have i := init1 (K := K) (A := A) (n := h1.length) (h := h1 ++ [.ins A.c_Promises []]) (by simp) (s.push _) lks hn
  unfold eMake
  cases z : chk [] 0 rows with
  | inl i0 =>
    rw [z] at i
    obtain ⟨j, e⟩ := i
    refine ⟨[.ins A.c_Promises []] ++ j, ?_⟩
    rw [ea, bind_ok, ed, e, ← List.append_assoc]
    rfl
  | inr ps =>
    rw [z] at i
    obtain ⟨j, e⟩ := i
    refine ⟨j, ?_⟩
    rw [ea, bind_ok, ed, e, bind_ok]
    simp only
    congr 1
    rw [List.append_assoc, List.set_append_right _ _ (Nat.le_refl _)]
    simp
def rowsT (T : Str) : List (List Str) := if T = "" then [] else rowsOf T
theorem rowsT_len {T : Str} (hl : T.length ≤ 122) : (rowsT T).length ≤ 63 := by
  unfold rowsT rowsOf
  split
  · simp
  · have := parts_len T
    rw [List.length_map]
    omega
theorem read1 {h : Hd} {T : Str} (hl : T.length ≤ 900) (hr : (rowsT T).length ≤ 63) :
    (match chk [] 0 (rowsT T) with
      | .inl i => ∃ j, f_Promises_read K A [.adr A.c_Promises, .str T] h = .exc A.c_InvalidPromise (some [("at", .int i)]) (h ++ j)
      | .inr ps => ∃ j, f_Promises_read K A [.adr A.c_Promises, .str T] h = .ok (.ref h.length) (h ++ prO A (ord key ps) :: j)) := by
  have hv : ∀ (dds : List D) (a : EA), eMakeV 0 A.c_Promises (f_Promises___init__ K A) dds a [some (.adr A.c_Promises), some (.str T), none] h = eMake A.c_Promises (f_Promises___init__ K A) dds a [some (.adr A.c_Promises), some (.str T), none] h := fun dds a => by
    unfold eMakeV
    show (if A.c_Promises = A.c_Promises then _ else _) = _
    rw [if_pos rfl]
  by_cases z : T = ""
  · have m := make1 (K := K) (A := A) (h := h) (h1 := h) (σ := [some (.adr A.c_Promises), some (.str T), none]) (a := eNil) (dds := [.tup []]) (ds := []) (d := .tup []) (rows := rowsT T) rfl rfl (by unfold rowsT; rw [if_pos z]; exact src_tup) (lks_ws (K := K) (A := A) (rowsT T)) hr
    have st : ∀ r, eMake A.c_Promises (f_Promises___init__ K A) [.tup []] eNil [some (.adr A.c_Promises), some (.str T), none] h = r → f_Promises_read K A [.adr A.c_Promises, .str T] h = r := by
      intro r e
      unfold f_Promises_read
      have e2 : sSeq (sIf (tOpT eqP (eVar 1) (eC (.str ""))) (sRet (eMakeV 0 A.c_Promises (f_Promises___init__ K A) [.tup []] eNil)) sNext) (sRet (eMakeV 0 A.c_Promises (f_Promises___init__ K A) [] (eCons (eTmp (lComp (iAll (eTmp (lBm splitL isS (eVar 1) (eCons (eC (.str ", ")) eNil)))) (aNm 2) tYesM (ePN tupP (eCons (eTmp (lBm splitL isS (eVar 2) (eCons (eC (.str " ")) eNil))) eNil)) [2])) eNil))) [some (.adr A.c_Promises), some (.str T), none] h = bindS r [some (.adr A.c_Promises), some (.str T), none] fun d h1 => .ret d h1 := by
        have e3 : sIf (tOpT eqP (eVar 1) (eC (.str ""))) (sRet (eMakeV 0 A.c_Promises (f_Promises___init__ K A) [.tup []] eNil)) sNext [some (.adr A.c_Promises), some (.str T), none] h = bindS r [some (.adr A.c_Promises), some (.str T), none] fun d h1 => .ret d h1 := by
          refine (sIf_t (tOpT_ok (eOp_ok (x := .str T) (y := .str "") rfl rfl ?_))).trans ?_
          · rw [z]; rfl
          · unfold sRet
            rw [hv, e]
        unfold sSeq
        rw [e3]
        cases r <;> rfl
      unfold runFn
      rw [if_pos (show [D.adr A.c_Promises, D.str T].length = 2 from rfl)]
      show (match sSeq _ _ [some (.adr A.c_Promises), some (.str T), none] h with
        | .ret d h' => R.ok d h'
        | .nx _ h' => .ok .non h'
        | .exc C fs _ h' => .exc C fs h'
        | _ => .bad) = r
      rw [e2]
      cases r <;> rfl
    cases zc : chk [] 0 (rowsT T) with
    | inl i => rw [zc] at m; obtain ⟨j, e⟩ := m; exact ⟨j, st _ e⟩
    | inr ps => rw [zc] at m; obtain ⟨j, e⟩ := m; exact ⟨j, st _ e⟩
  · have pl := parts_len T
    have c : lComp (iAll (eTmp (lBm splitL isS (eVar 1) (eCons (eC (.str ", ")) eNil)))) (aNm 2) tYesM (ePN tupP (eCons (eTmp (lBm splitL isS (eVar 2) (eCons (eC (.str " ")) eNil))) eNil)) [2] [some (.adr A.c_Promises), some (.str T), none] h = .ok ((rowsT T).map wsD) h := by
      unfold rowsT
      rw [if_neg z]
      refine lComp_ok (itm := ⟨(Txt.split T ", ").map .str, always⟩) (h1 := h) (iAll_ok (eTmp_ok (lBm_ok rfl rfl rfl (split_comma (by omega)))) rfl) ?_ ?_
      · refine (comp_map (F := fun x => match x with
          | .str y => wsD (Txt.split y " ")
          | _ => .non) rfl _ ?_).trans ?_
        · intro x hx
          obtain ⟨y, hy, rfl⟩ := List.mem_map.mp hx
          have := part_len hy
          exact ⟨_, rfl, ePN_ok (eCons_ok (eTmp_ok (lBm_ok rfl rfl rfl (split_sp (by omega)))) rfl) rfl⟩
        · unfold rowsOf
          rw [List.map_map, List.map_map]
          rfl
      · unfold rowsOf
        rw [List.length_map, List.length_map]
        omega
    have m := make1 (K := K) (A := A) (h := h) (h1 := h) (σ := [some (.adr A.c_Promises), some (.str T), none]) (a := eCons (eTmp (lComp (iAll (eTmp (lBm splitL isS (eVar 1) (eCons (eC (.str ", ")) eNil)))) (aNm 2) tYesM (ePN tupP (eCons (eTmp (lBm splitL isS (eVar 2) (eCons (eC (.str " ")) eNil))) eNil)) [2])) eNil) (dds := []) (ds := [.tmp ((rowsT T).map wsD)]) (d := .tmp ((rowsT T).map wsD)) (rows := rowsT T) (eCons_ok (eTmp_ok c) rfl) rfl src_tmp (lks_ws (K := K) (A := A) (rowsT T)) hr
    have st : ∀ r, eMake A.c_Promises (f_Promises___init__ K A) [] (eCons (eTmp (lComp (iAll (eTmp (lBm splitL isS (eVar 1) (eCons (eC (.str ", ")) eNil)))) (aNm 2) tYesM (ePN tupP (eCons (eTmp (lBm splitL isS (eVar 2) (eCons (eC (.str " ")) eNil))) eNil)) [2])) eNil) [some (.adr A.c_Promises), some (.str T), none] h = r → f_Promises_read K A [.adr A.c_Promises, .str T] h = r := by
      intro r e
      unfold f_Promises_read
      have e2 : sSeq (sIf (tOpT eqP (eVar 1) (eC (.str ""))) (sRet (eMakeV 0 A.c_Promises (f_Promises___init__ K A) [.tup []] eNil)) sNext) (sRet (eMakeV 0 A.c_Promises (f_Promises___init__ K A) [] (eCons (eTmp (lComp (iAll (eTmp (lBm splitL isS (eVar 1) (eCons (eC (.str ", ")) eNil)))) (aNm 2) tYesM (ePN tupP (eCons (eTmp (lBm splitL isS (eVar 2) (eCons (eC (.str " ")) eNil))) eNil)) [2])) eNil))) [some (.adr A.c_Promises), some (.str T), none] h = bindS r [some (.adr A.c_Promises), some (.str T), none] fun d h1 => .ret d h1 := by
        refine (sSeq_nx (sIf_f (tOpT_ok (eOp_ok (x := .str T) (y := .str "") rfl rfl ?_)))).trans ?_
        · unfold eqP
          rw [eqB_str, Option.map_some]
          congr 2
          exact beq_eq_false_iff_ne.mpr z
        · unfold sRet
          rw [hv, e]
      unfold runFn
      rw [if_pos (show [D.adr A.c_Promises, D.str T].length = 2 from rfl)]
      show (match sSeq _ _ [some (.adr A.c_Promises), some (.str T), none] h with
        | .ret d h' => R.ok d h'
        | .nx _ h' => .ok .non h'
        | .exc C fs _ h' => .exc C fs h'
        | _ => .bad) = r
      rw [e2]
      cases r <;> rfl
    cases zc : chk [] 0 (rowsT T) with
    | inl i => rw [zc] at m; obtain ⟨j, e⟩ := m; exact ⟨j, st _ e⟩
    | inr ps => rw [zc] at m; obtain ⟨j, e⟩ := m; exact ⟨j, st _ e⟩
theorem fld1 {h : Hd} {n : Nat} {qs : List Pr} {o : E} {σ : Mi.Env} (e : o σ h = .ok (.ref n) h) (en : h[n]? = some (prO A qs)) : eFld A.c_Promises "pairs" o σ h = .ok (.tup (qs.map prD)) h := by
  unfold eFld
  rw [e, bind_ok]
  simp only [en, prO, if_true]
  rfl
theorem sum_le (f : Pr → Nat) (B : Nat) : ∀ qs : List Pr, (∀ q ∈ qs, f q ≤ B) → (qs.map f).sum ≤ qs.length * B
  | [], _ => by simp
  | q :: qs, h => by
    have := sum_le f B qs (fun x hx => h x (List.mem_cons_of_mem _ hx))
    have := h q (List.mem_cons_self ..)
    rw [List.map_cons, List.sum_cons, List.length_cons, Nat.add_mul]
    omega
theorem join_keys {h : Hd} {y : D} {qs : List Pr} (hy : asQ h y = some (qs.map fun q => .str (key q))) (ho : ∀ q ∈ qs, okp q) (hn : qs.length ≤ 1000) : joinP h (.str ", ") [y] = some (.str (txt qs)) := by
  unfold joinP
  simp only [hy, Option.bind_some, strs_map]
  rw [if_pos]
  · rfl
  · have := sum_le (fun q => (key q).length) 15 qs (fun q hq => key_len (ho q hq))
    rw [List.map_map, List.length_map, cs_len]
    simp only [Function.comp_def]
    omega
theorem keys_comp {h : Hd} {gd : Hd → Bool} {σ : Mi.Env} {i : Nat} {qs : List Pr} (hg : gd h = true) (hi : i < σ.length) (ho : ∀ q ∈ qs, okp q) : compM (aNm i) tYesM (eBm joinP isS (eC (.str " ")) (eCons (eVar i) eNil)) gd (wipeD σ [i]) (qs.map prD) h = .ok (qs.map fun q => .str (key q)) h := by
  refine (comp_map (F := fun x => match x with
    | .tup [.str a, .str b] => .str (key (a, b))
    | _ => .non) hg _ ?_).trans ?_
  · intro x hx
    obtain ⟨q, hq, rfl⟩ := List.mem_map.mp hx
    refine ⟨_, rfl, eBm_ok rfl rfl (eCons_ok (x := prD q) ?_ rfl) (key_ok (ho q hq))⟩
    unfold eVar
    rw [show wipeD σ [i] = σ.set i none from rfl, List.set_set, List.getElem?_set_self hi]
  · rw [List.map_map]
    rfl
theorem str1 {h : Hd} {n : Nat} {qs : List Pr} (en : h[n]? = some (prO A qs)) (ho : ∀ q ∈ qs, okp q) (hn : qs.length ≤ 1000) : f_Promises___str__ K A [.ref n] h = .ok (.str (txt qs)) h := by
  unfold f_Promises___str__
  refine run_ret rfl (sRet_ok (eBm_ok rfl rfl (eCons_ok (eTmp_ok (lComp_ok (itm := ⟨qs.map prD, always⟩) (iAll_ok (fld1 rfl en) rfl) (keys_comp (σ := [some (.ref n), none]) (i := 1) rfl (by simp) ho) (by rw [List.length_map]; omega))) rfl) (join_keys rfl ho hn)))
end QL
/-! RP9: what holds for every law about promises. -/
namespace QL
open PySem L2 Mi PM QG
variable {K : PySem.W.Frag} {A : Ad}
theorem eCons_exc {a : E} {r : EA} {σ : Mi.Env} {h h1 : Hd} {C : Addr} {fs : Option (List (Str × D))} (e : a σ h = .exc C fs h1) : eCons a r σ h = .exc C fs h1 := by unfold eCons; rw [e]; rfl
theorem eOwnC_exc {C' : Addr} {F : Fn} {ok : D → Bool} {G : PN} {ms : EA} {σ : Mi.Env} {h h1 : Hd} {C : Addr} {fs : Option (List (Str × D))} (e : ms σ h = .exc C fs h1) : eOwnC C' F ok G ms σ h = .exc C fs h1 := by unfold eOwnC; rw [e]; rfl
theorem sSet_exc {i : Nat} {a : E} {σ : Mi.Env} {h h1 : Hd} {C : Addr} {fs : Option (List (Str × D))} (e : a σ h = .exc C fs h1) : sSet i a σ h = .exc C fs σ h1 := by unfold sSet; rw [e]; rfl
theorem txt_len {qs : List Pr} (ho : ∀ q ∈ qs, okp q) : (txt qs).length ≤ 17 * qs.length := by
  unfold txt Txt.join
  rw [size_glued, cs_len, List.map_map, List.length_map]
  have := sum_le (fun q => (key q).length) 15 qs (fun q hq => key_len (ho q hq))
  simp only [Function.comp_def]
  omega
theorem ownStr {ms : EA} {σ : Mi.Env} {h h1 : Hd} {n : Nat} {qs : List Pr} (e : ms σ h = .ok [.ref n] h1) (en : h1[n]? = some (prO A qs)) (ho : ∀ q ∈ qs, okp q) (hn : qs.length ≤ 1000) :
    eOwnC A.c_Promises (f_Promises___str__ K A) okStr strP ms σ h = .ok (.str (txt qs)) h1 := by
  have is : isIns A.c_Promises h1 (.ref n) = true := by
    unfold isIns
    simp only [en, prO]
    simp
  have tl := txt_len ho
  unfold eOwnC
  rw [e, bind_ok]
  simp only
  rw [if_pos is, str1 en ho hn]
  simp only [noX, bind_ok]
  rw [if_pos (by unfold okStr; rfl)]
theorem all_okp {rows : List (List Str)} {ps : List Pr} (z : chk [] 0 rows = .inr ps) : (∀ p ∈ ord key ps, okp p) ∧ (ord key ps).length ≤ rows.length ∧ (∀ p ∈ ps, okp p) ∧ NoBar ps ∧ rows = ps.map two := by
  obtain ⟨new, e1, e2, e3, e4⟩ := chk_inr z (by intro p hp; cases hp) (by intro p hp; cases hp)
  rw [List.nil_append] at e1
  subst e1
  have := ord_len key ps
  exact ⟨fun p hp => e3 p (ord_mem.mp hp), by rw [e2, List.length_map]; exact this, e3, e4, e2⟩
theorem due_join {h h0 : Hd} {σ : Mi.Env} {d : D} {ps : List Pr} {i k : Nat} (hk : σ[k]? = some (some d)) (hi : i < σ.length) (s : Src h d (ps.map prD)) (ho : ∀ p ∈ ps, okp p) (hn : ps.length ≤ 63) :
    eBm joinP isS (eC (.str ", ")) (eCons (eTmp (lComp (iAll (eCall (f__law_due K A) [] (eCons (eVar k) eNil))) (aNm i) tYesM (eBm joinP isS (eC (.str " ")) (eCons (eVar i) eNil)) [i])) eNil) σ h = .ok (.str (txt (ord key ps))) h := by
  have hv : eVar k σ h = .ok d h := by
    unfold eVar
    rw [hk]
  have ol := ord_len key ps
  have oo : ∀ q ∈ ord key ps, okp q := fun q hq => ho q (ord_mem.mp hq)
  exact eBm_ok rfl rfl (eCons_ok (eTmp_ok (lComp_ok (itm := ⟨(ord key ps).map prD, always⟩) (iAll_ok (eCall_ok (eCons_ok hv rfl) (due1 s ho hn)) rfl) (keys_comp rfl hi oo) (by rw [List.length_map]; omega))) rfl) (join_keys rfl oo (by omega))
theorem two_wsD (ps : List Pr) : (ps.map two).map wsD = ps.map prD := by
  rw [List.map_map]
  rfl
theorem Cut.push {h : Hd} {d : D} {rows : List D} (s : Src h d rows) (c : Cut h d rows) (j : Hd) : Cut (h ++ j) d rows := fun i hi => by
  have e := c i hi
  rcases s.inv with rfl | rfl | ⟨n, rfl, e1⟩
  · exact e
  · exact e
  · show (asL (h ++ j) (.ref n)).map _ = _
    rw [asL_push e1, Option.map_some, cut_take hi]
theorem lLst_ok {a : EA} {σ : Mi.Env} {h h1 : Hd} {xs : List D} (e1 : a σ h = .ok xs h1) (hl : xs.length ≤ 1000000) : lLst a σ h = .ok xs h1 := by
  unfold lLst
  rw [e1, bind_ok]
  rw [if_pos (by unfold line; omega)]
def W6 : List Str := ["bare", "has", "calm", "takes", "itself", "truth"]
theorem lts_ne : ∀ w ∈ W6, 0 < (lts w).length ∧ (lts w).length ≤ 100 := by decide +kernel
theorem toP0s_strs : ∀ l : List Str, ∃ ps, toP0s (l.map .str) = some ps
  | [] => ⟨[], rfl⟩
  | x :: l => by
    obtain ⟨ps, e⟩ := toP0s_strs l
    exact ⟨_, by rw [List.map_cons, toP0s, e]; rfl⟩
theorem pair1 {n : Nat} {h : Hd} {ms : List Str} (hb : BoxAt n h) (hl : ms.length ≤ 1000) :
    ∃ (p : Pr) (h' : Hd), f__law_pair K A [.ref n, .tmp (ms.map .str)] h = .ok (prD p) h' ∧ okp p ∧ Up n h h' ∧ BoxAt n h' := by
  obtain ⟨dw, h1, e1, m1, u1, b1⟩ := pick1 (K := K) (A := A) (xs := W6.map .str) hb (by decide) (by decide)
  obtain ⟨w, hw, rfl⟩ := List.mem_map.mp m1
  obtain ⟨l0, l1⟩ := lts_ne w hw
  obtain ⟨dm, h2, e2, m2, u2, b2⟩ := pick1 (K := K) (A := A) (xs := (lts w).map .str) b1 (by rw [List.length_map]; exact l0) (by rw [List.length_map]; omega)
  obtain ⟨m, hm, rfl⟩ := List.mem_map.mp m2
  let some' := ms.filter fun x => (lts w).contains x
  have sl : some'.length ≤ 1000 := Nat.le_trans (List.length_filter_le _ _) hl
  let all : List Str := some' ++ (if some' = [] then [m] else [])
  have all0 : 0 < all.length := by
    show 0 < (some' ++ (if some' = [] then [m] else [])).length
    by_cases z : some' = []
    · rw [if_pos z]; simp
    · rw [if_neg z, List.append_nil]; exact List.length_pos_iff.mpr z
  have all1 : all.length ≤ 1001 := by
    show (some' ++ (if some' = [] then [m] else [])).length ≤ 1001
    rw [List.length_append]
    split <;> simp <;> omega
  obtain ⟨dr, h3, e3, m3, u3, b3⟩ := pick1 (K := K) (A := A) (xs := all.map .str) b2 (by rw [List.length_map]; exact all0) (by rw [List.length_map]; omega)
  obtain ⟨r, hr, rfl⟩ := List.mem_map.mp m3
  have ok : okp (w, r) := by
    show (lts w).contains r = true
    rcases List.mem_append.mp hr with z | z
    · exact (List.mem_filter.mp z).2
    · split at z
      · rw [List.mem_singleton] at z; subst z; exact List.contains_iff_mem.mpr hm
      · cases z
  refine ⟨(w, r), h3, ?_, ok, u1.trans hb (u2.trans b1 u3), b3⟩
  unfold f__law_pair
  have eS : eTmp (lComp (iAll (eVar 1)) (aNm 4) (tOpT inP (eVar 4) (eCall (f__law_lets K A) [] (eCons (eVar 2) eNil))) (eVar 4) [4]) [some (.ref n), some (.tmp (ms.map .str)), some (.str w), none, none] h1 = .ok (.tmp (some'.map .str)) h1 := by
    refine eTmp_ok (lComp_ok (itm := ⟨ms.map .str, always⟩) (h1 := h1) (iAll_ok (d := .tmp (ms.map .str)) rfl rfl) ((comp_filter (fun x => match x with
      | .str x => (lts w).contains x
      | _ => false) (fun x => x) rfl _ ?_).trans ?_) (by rw [List.length_map]; omega))
    · intro x hx
      obtain ⟨q, _, rfl⟩ := List.mem_map.mp hx
      refine ⟨_, rfl, tOpT_ok (eOp_ok (x := .str q) (y := .tmp ((lts w).map .str)) rfl (eCall_ok (eCons_ok rfl rfl) lets1) (in_strsL (lts w))), fun _ => rfl⟩
    · rw [List.filter_map, List.map_map]
      rfl
  obtain ⟨ps, eps⟩ := toP0s_strs some'
  have eM : eOp mulP (eTmp (lLst (eCons (eCall (f__law_pick K A) [] (eCons (eVar 0) (eCons (eCall (f__law_lets K A) [] (eCons (eVar 2) eNil)) eNil))) eNil))) (ePN intP (eCons (eOp eqP (eVar 3) (eTmp (lLst eNil))) eNil)) [some (.ref n), some (.tmp (ms.map .str)), some (.str w), some (.tmp (some'.map .str)), none] h1 = .ok (.tmp ((if some' = [] then [m] else []).map .str)) h2 := by
    refine eOp_ok (x := .tmp [.str m]) (y := .int (if some'.isEmpty then 1 else 0)) (eTmp_ok (lLst_ok (eCons_ok (eCall_ok (eCons_ok (x := .ref n) rfl (eCons_ok (eCall_ok (eCons_ok rfl rfl) lets1) rfl)) e2) rfl) (by simp))) (ePN_ok (eCons_ok (x := .bl some'.isEmpty) (eOp_ok (x := .tmp (some'.map .str)) (y := .tmp []) rfl rfl ?_) rfl) ?_) ?_
    · unfold eqP
      rw [eqNilL eps, Option.map_some]
      simp
    · rfl
    · cases z : some' with
      | nil => rfl
      | cons a b => rfl
  refine run_ret rfl ((sSeq_nx (sSet_ok (eCall_ok (eCons_ok (x := .ref n) rfl (eCons_ok (x := .tmp (W6.map .str)) rfl rfl)) e1))).trans ((sSeq_nx (sSet_ok eS)).trans (sRet_ok (eTup_ok (eCons_ok (x := .str w) rfl (eCons_ok (eCall_ok (eCons_ok (x := .ref n) rfl (eCons_ok (x := .tmp (all.map .str)) (eOp_ok (x := .tmp (some'.map .str)) rfl eM ?_) rfl)) e3) rfl)) (by simp)))))
  unfold addP asM
  simp only
  rw [if_pos (by rw [List.length_map, List.length_map]; unfold line; split <;> simp <;> omega), ← List.map_append]
theorem append_at {o : E} {a : EA} {σ : Mi.Env} {h : Hd} {c : Nat} {acc : List D} {y : D} (e1 : o σ h = .ok (.ref c) h) (g : h[c]? = some (.lst acc)) (e2 : a σ h = .ok [y] h) (hl : acc.length ≤ 1000) : eBmM appendM isL o a σ h = .ok .non (h.set c (.lst (acc ++ [y]))) := by
  unfold eBmM
  rw [e1, bind_ok, if_pos (by unfold isL asL; simp only [g]; rfl), e2, bind_ok]
  unfold appendM asLm
  simp only [g, Option.bind_some]
  rw [if_pos (by unfold line; omega)]
theorem it_ref {h : Hd} {c : Nat} {xs : List D} (g : h[c]? = some (.lst xs)) : itAll h (.ref c) = some ⟨xs, stays c xs⟩ := by
  unfold itAll itMore itOf asL
  simp only [g]
  rfl
theorem eSl_ok {a : E} {lo hi : EO} {σ : Mi.Env} {h h1 h2 h3 : Hd} {x d : D} {l u : Option Int} (e1 : a σ h = .ok x h1) (e2 : lo σ h1 = .ok l h2) (e3 : hi σ h2 = .ok u h3) (e4 : slP h3 x l u = some d) : eSl a lo hi σ h = .ok d h3 := by
  unfold eSl
  rw [e1, bind_ok, e2, bind_ok, e3, bind_ok, e4, ofO_some]
theorem oSome_ok {a : E} {σ : Mi.Env} {h h1 : Hd} {i : Int} (e : a σ h = .ok (.int i) h1) : oSome a σ h = .ok (some i) h1 := by
  unfold oSome
  rw [e, bind_ok]
theorem sl_str {h : Hd} {T : Str} {l u : Option Int} (hl : T.length ≤ 1000) : slP h (.str T) l u = some (.str (Txt.slice T l u)) := by
  unfold slP
  simp only
  rw [if_pos (by unfold line; omega)]
theorem add_str {h : Hd} {x y : Str} (hl : x.length + y.length ≤ 10000) : addP h (.str x) (.str y) = some (.str (x ++ y)) := by
  unfold addP
  simp only
  rw [if_pos (by unfold line; omega)]
theorem add_tmp {h : Hd} {xs ys : List D} (hl : xs.length + ys.length ≤ 10000) : addP h (.tmp xs) (.tmp ys) = some (.tmp (xs ++ ys)) := by
  unfold addP asM
  simp only
  rw [if_pos (by unfold line; omega)]
theorem add_ref {h : Hd} {c : Nat} {xs ys : List D} (g : h[c]? = some (.lst xs)) (hl : xs.length + ys.length ≤ 10000) : addP h (.ref c) (.tmp ys) = some (.tmp (xs ++ ys)) := by
  unfold addP asM
  simp only [g]
  rw [if_pos (by unfold line; omega)]
theorem sl_ref {h : Hd} {c : Nat} {xs : List D} {l u : Option Int} (g : h[c]? = some (.lst xs)) : slP h (.ref c) l u = some (.tmp (cutD xs l u)) := by
  unfold slP asL
  simp only [g, Option.map_some]
theorem cut_drop {xs : List D} {i : Nat} (h : i ≤ xs.length) : cutD xs (some (i : Int)) none = xs.drop i := by
  have e : HT.sIx xs.length 0 (some (i : Int)) = i := by
    unfold HT.sIx
    simp only
    rw [if_neg (by omega)]
    omega
  unfold cutD
  rw [e]
  simp only [HT.sIx]
  rw [List.take_of_length_le (by rw [List.length_drop]; omega)]
def tot (xs : List Str) : Nat := (xs.map (·.length)).sum
theorem tot_app (xs ys : List Str) : tot (xs ++ ys) = tot xs + tot ys := by
  unfold tot
  rw [List.map_append, List.sum_append]
theorem tot_cons (x : Str) (ys : List Str) : tot (x :: ys) = x.length + tot ys := by
  unfold tot
  rw [List.map_cons, List.sum_cons]
theorem join_ok {h : Hd} {y : D} {s : Str} {xs : List Str} (hy : asQ h y = some (xs.map .str)) (hl : tot xs + xs.length * s.length ≤ 10000) : joinP h (.str s) [y] = some (.str (Txt.join s xs)) := by
  unfold joinP
  simp only [hy, Option.bind_some]
  rw [strs_id, Option.bind_some, if_pos (by unfold tot at hl; omega)]
theorem join_len (s : Str) (xs : List Str) : (Txt.join s xs).length = tot xs + (xs.length - 1) * s.length := by
  unfold Txt.join tot
  rw [size_glued]
theorem split_tot (T s : Str) : tot (Txt.split T s) + ((Txt.split T s).length - 1) * s.length = T.length := by
  have e := StrLaws.join_split T s
  have e2 : (Builtin.Str.glued s (Txt.split T s)).length = T.length := by rw [StrLaws.glued_eq_join, e]
  rw [size_glued] at e2
  exact e2
theorem tot_rev (xs : List Str) : tot xs.reverse = tot xs := by
  unfold tot
  rw [List.map_reverse, List.sum_reverse]
theorem tot_at {xs : List Str} {i : Nat} (h : i < xs.length) : tot xs = tot (xs.take i) + xs[i].length + tot (xs.drop (i + 1)) := by
  have e : xs = xs.take i ++ xs[i] :: xs.drop (i + 1) := by
    rw [← List.drop_eq_getElem_cons h, List.take_append_drop]
  have := congrArg tot e
  rw [tot_app, tot_cons] at this
  omega
theorem box1 {sd : D} {h : Hd} {xs : List Int} {k : Nat} (hq : ScAt h sd xs) (hk : k < 6) :
    ∃ x s c, f__law_box K A [sd, .int k] h = .ok (.ref h.length) (h ++ [bx x s c]) := by
  have el : ∀ σ : Mi.Env, σ[0]? = some (some sd) → ePN lenP (eCons (eVar 0) eNil) σ h = .ok (.int xs.length) h := by
    intro σ e
    have ev : eVar 0 σ h = .ok sd h := by
      unfold eVar
      rw [e]
    refine ePN_ok (eCons_ok ev rfl) ?_
    rcases hq with ⟨q, rfl, hq⟩ | rfl
    · unfold lenP asDm asQ asL
      simp [hq]
    · unfold lenP asDm asQ asL
      simp
  have ea : asL h sd = some (xs.map .int) := by
    rcases hq with ⟨q, rfl, hq⟩ | rfl
    · unfold asL
      simp only [hq]
    · rfl
  have intL : ∀ l : List Int, intsOf (l.map D.int) = some l := by
    intro l
    induction l with
    | nil => rfl
    | cons a l ih => rw [List.map_cons, intsOf, ih]; rfl
  have e1 : ∃ m : Int, eOp mulP (eOp modP (ePN intP (eCons (ePN sumP (eCons (eSl (eSl (eVar 0) (oSome (eOp modP (ePN intP (eCons (eVar 1) eNil)) (ePN maxP (eCons (eC (.int 1)) (eCons (ePN lenP (eCons (eVar 0) eNil)) eNil))))) oNone) oNone (oSome (eC (.int 1)))) eNil)) eNil)) (eC (.int 2147483629))) (eC (.int 69623)) [some sd, some (.int k), none, none, none] h = .ok (.int m) h := by
    have m1 : 0 < (if (xs.length : Int) > 1 then (xs.length : Int) else 1) := by split <;> omega
    have eS : eSl (eSl (eVar 0) (oSome (eOp modP (ePN intP (eCons (eVar 1) eNil)) (ePN maxP (eCons (eC (.int 1)) (eCons (ePN lenP (eCons (eVar 0) eNil)) eNil))))) oNone) oNone (oSome (eC (.int 1))) [some sd, some (.int k), none, none, none] h = .ok (.tmp (cutD (cutD (xs.map .int) (some ((k : Int) % (if (xs.length : Int) > 1 then (xs.length : Int) else 1))) none) none (some 1))) h := by
      refine eSl_ok (x := .tmp (cutD (xs.map .int) (some ((k : Int) % (if (xs.length : Int) > 1 then (xs.length : Int) else 1))) none)) (eSl_ok (x := sd) (l := some ((k : Int) % (if (xs.length : Int) > 1 then (xs.length : Int) else 1))) rfl (oSome_ok (eOp_ok (x := .int k) (ePN_ok rfl rfl) (ePN_ok (eCons_ok (x := .int 1) rfl (eCons_ok (el _ rfl) rfl)) rfl) ?_)) rfl ?_) rfl rfl rfl
      · unfold modP
        simp only
        rw [if_pos m1]
      · rcases hq with ⟨q, rfl, hq⟩ | rfl
        · unfold slP
          simp only [ea, Option.map_some]
        · unfold slP
          simp only [ea, Option.map_some]
    have ec : ∃ l : List Int, cutD (cutD (xs.map D.int) (some ((k : Int) % (if (xs.length : Int) > 1 then (xs.length : Int) else 1))) none) none (some 1) = l.map .int := by
      unfold cutD
      exact ⟨_, by rw [← List.map_drop, ← List.map_take, ← List.map_drop, ← List.map_take]⟩
    obtain ⟨l, ec⟩ := ec
    rw [ec] at eS
    refine ⟨_, eOp_ok (y := .int 69623) (eOp_ok (x := .int l.sum) (y := .int 2147483629) (ePN_ok (eCons_ok (x := .int l.sum) (ePN_ok (eCons_ok eS rfl) ?_) rfl) rfl) rfl rfl) rfl (mul_small (by decide) (by decide))⟩
    unfold sumP asL
    simp only [Option.bind_some, intL, Option.map_some]
  obtain ⟨m, e1⟩ := e1
  have tail : ∀ cell : Int, ∃ x s c, (sSeq (sSet 4 (eOp addP (eOp modP (ePN intP (eCons (eOp addP (eOp mulP (eOp modP (ePN intP (eCons (eVar 3) eNil)) (eC (.int 2147483629))) (eC (.int 48271))) (eOp mulP (eC (.int 40692)) (eVar 1))) eNil)) (eC (.int 2147483629))) (eC (.int 1))))
  (sRet (eNew (lLst (eCons (eOp itemP (eTmp (lLst (eCons (eC (.int 0)) (eCons (eVar 3) eNil)))) (ePN intP (eCons (eOp Mi.geP (eVar 3) (eOp powP (eC (.int 10)) (eC (.int 18)))) eNil))) (eCons (eVar 4) (eCons (eC (.int 0)) eNil))))))) [some sd, some (.int k), some (.int m), some (.int cell), none] h = .ret (.ref h.length) (h ++ [bx x s c]) := by
    intro cell
    refine ⟨if cell < 1000000000000000000 then 0 else cell, (cell % 2147483629 * 48271 + 40692 * k) % 2147483629 + 1, 0, ?_⟩
    by_cases z : cell < 1000000000000000000
    · simp [runFn, sSeq, sIf, sSet, sRet, sAsg, sDrop, sNext, bindS_ok, tOpT, tVal, tOrM, tAndM, tNotM, eOp, eUn, eVar, eC, eNil, eCons, ePN, eTup, eIf, eAnd, eOr, eNot, eTmp, eNew, lLst, lPN, lOp, eCall, bind_ok, bind_bad, ofO_some, ofO_none, line, gSubM, setM, gPat, aNm, aTup, aCons, aNil, itemP, asDct, ixP, asQ, asL, asM, asLm, Mi.gtP, Mi.ltP, Mi.geP, Mi.leP, ltB_int, ltB_str, modP, fdivP, mulP, addP, subP, negP, powP, intP, eqP, neP, eqB_int, eqB_str, eqB_is, eqB_si, lenP, asDm, L2.atI, L2.ixN, eBm, eBmM, isS, isL, sPar2, sPar3, tupP, strP, itRange1, iRange1, z, bx]
    · simp [runFn, sSeq, sIf, sSet, sRet, sAsg, sDrop, sNext, bindS_ok, tOpT, tVal, tOrM, tAndM, tNotM, eOp, eUn, eVar, eC, eNil, eCons, ePN, eTup, eIf, eAnd, eOr, eNot, eTmp, eNew, lLst, lPN, lOp, eCall, bind_ok, bind_bad, ofO_some, ofO_none, line, gSubM, setM, gPat, aNm, aTup, aCons, aNil, itemP, asDct, ixP, asQ, asL, asM, asLm, Mi.gtP, Mi.ltP, Mi.geP, Mi.leP, ltB_int, ltB_str, modP, fdivP, mulP, addP, subP, negP, powP, intP, eqP, neP, eqB_int, eqB_str, eqB_is, eqB_si, lenP, asDm, L2.atI, L2.ixN, eBm, eBmM, isS, isL, sPar2, sPar3, tupP, strP, itRange1, iRange1, z, bx]
  have e2 : ∃ cell : Int, eIf (tOpT Mi.ltP (eVar 1) (ePN lenP (eCons (eVar 0) eNil))) (eOp itemP (eVar 0) (eVar 1)) (eOp addP (eOp addP (eOp mulP (eC (.int 6841)) (eVar 1)) (eC (.int 37))) (eVar 2)) [some sd, some (.int k), some (.int m), none, none] h = .ok (.int cell) h := by
    by_cases z : k < xs.length
    · refine ⟨xs[k], (eIf_t (tOpT_ok (eOp_ok (x := .int k) rfl (el _ rfl) ?_))).trans (eOp_ok (x := sd) (y := .int k) rfl rfl ?_)⟩
      · unfold Mi.ltP
        rw [ltB_int, Option.map_some]
        simp [z]
      · unfold itemP
        have : asDct h sd = none := by
          rcases hq with ⟨q, rfl, hq⟩ | rfl
          · unfold asDct
            simp only [hq]
          · rfl
        rw [this]
        unfold ixP asQ
        rcases hq with ⟨q, rfl, hq⟩ | rfl
        · simp [ea, L2.atI, L2.ixN, z]
        · simp [ea, L2.atI, L2.ixN, z]
    · refine ⟨_, (eIf_f (tOpT_ok (eOp_ok (x := .int k) rfl (el _ rfl) ?_))).trans (eOp_ok (x := .int (6841 * k + 37)) (y := .int m) (eOp_ok (x := .int (6841 * k)) (y := .int 37) (eOp_ok (x := .int 6841) (y := .int k) rfl rfl (mul_small (by omega) (by omega))) rfl rfl) rfl rfl)⟩
      unfold Mi.ltP
      rw [ltB_int, Option.map_some]
      simp [z]
  obtain ⟨cell, e2⟩ := e2
  obtain ⟨x, s, c, e3⟩ := tail cell
  refine ⟨x, s, c, ?_⟩
  unfold f__law_box m__law_box
  exact run_ret rfl ((sSeq_nx (sSet_ok e1)).trans ((sSeq_nx (sSet_ok e2)).trans e3))
/-! ### Promises compared -/
theorem k_pr : PySem.W.kitOne K (.ref A.c_Promises) (.ref A.c_Promises) = some true := by simp [PySem.W.kitOne]
theorem ty_pr {h : Hd} {n : Nat} {qs : List Pr} (e : h[n]? = some (prO A qs)) : tyD (csOf A) h (.ref n) = some (.ref A.c_Promises) := by
  unfold tyD
  simp only [e, prO, csOf]
  simp
theorem nf_pr : PySem.W.notFirst K A.c_Promises (.ref A.c_Promises) = true := by simp [PySem.W.notFirst]
theorem isi_pr {h : Hd} {n : Nat} {qs : List Pr} (e : h[n]? = some (prO A qs)) : isiP K (csOf A) h [.ref n, .adr A.c_Promises] = some (.bl true) := by
  unfold isiP
  simp only [ty_pr e, clsD, Option.bind_some, k_pr, Option.map_some]
def prP (p : Pr) : PyData := .tuple [.str p.1, .str p.2]
theorem toP_rows : ∀ l : List Pr, toP0s (l.map prD) = some (l.map prP)
  | [] => rfl
  | p :: l => by rw [List.map_cons, toP0s, toP_rows l]; rfl
theorem dep_rows : ∀ l : List Pr, PyData.depthAll (l.map prP) ≤ 1
  | [] => by simp [PyData.depthAll]
  | p :: l => by
    have := dep_rows l
    rw [List.map_cons, PyData.depthAll]
    have e : (prP p).depth = 1 := by simp [prP, PyData.depth, PyData.depthAll]
    omega
theorem plain_rows : ∀ l : List Pr, PyData.plainAll (l.map prP) = true
  | [] => by simp [PyData.plainAll]
  | p :: l => by
    rw [List.map_cons, PyData.plainAll, plain_rows l]
    simp [prP, PyData.plain, PyData.plainAll]
theorem eq_rows {h : Hd} {l : List Pr} : eqB h (.tup (l.map prD)) (.tup (l.map prD)) = some true := by
  unfold eqB
  simp only [toP, toP0, toP_rows, Option.map_some]
  have := dep_rows l
  rw [if_pos (by rw [PyData.depth]; omega)]
  rw [SeqAt.eqv_refl_plain _ (by rw [PyData.plain]; exact plain_rows l)]
theorem pr_eq {h : Hd} {n m : Nat} {qs : List Pr} (en : h[n]? = some (prO A qs)) (em : h[m]? = some (prO A qs)) : f_Promises___eq__ K A [.ref n, .ref m] h = .ok (.bl true) h := by
  unfold f_Promises___eq__
  refine run_ret rfl (sRet_ok ((eAnd_t (ePN_ok (xs := [.ref m, .adr A.c_Promises]) rfl (isi_pr em))).trans (eOp_ok (fld1 rfl en) (fld1 rfl em) ?_)))
  unfold eqP
  rw [eq_rows]
  rfl
theorem txt_len2 {qs : List Pr} (ho : ∀ q ∈ qs, okp q) (hn : qs.length ≤ 6) : (txt qs).length ≤ 100 := by
  unfold txt
  rw [join_len, cs_len]
  have := sum_le (fun q => (key q).length) 15 qs (fun q hq => key_len (ho q hq))
  have e : tot (qs.map key) = (qs.map fun q => (key q).length).sum := by
    unfold tot
    rw [List.map_map]
    rfl
  rw [e, List.length_map]
  omega
theorem key_pos {p : Pr} (h : okp p) : 0 < (key p).length := by
  unfold key
  rw [join_len]
  have := h.w.2.2.1
  have : tot [p.1, p.2] = p.1.length + p.2.length := by rw [tot_cons, tot_cons]; simp [tot]
  omega
theorem rows_txt {qs : List Pr} (ho : ∀ q ∈ qs, okp q) : rowsT (txt qs) = qs.map two := by
  unfold rowsT
  cases qs with
  | nil => rfl
  | cons q l =>
    have hk := key_pos (ho q (List.mem_cons_self ..))
    have ne : ¬ txt (q :: l) = "" := by
      intro z
      have z2 := congrArg Str.length z
      unfold txt at z2
      rw [join_len, List.map_cons, tot_cons] at z2
      have : (Str.ofString "").length = 0 := by decide +kernel
      have z3 : (key q).length + tot (List.map key l) + ((key q :: List.map key l).length - 1) * (Str.ofString ", ").length = 0 := z2.trans this
      omega
    rw [if_neg ne]
    unfold rowsOf
    have e : Txt.split (txt (q :: l)) ", " = (q :: l).map key := by
      refine TL.split_join (s := 44) (S := [32]) (by decide +kernel) (by decide +kernel) (by simp) fun x hx => ?_
      obtain ⟨r, hr, rfl⟩ := List.mem_map.mp hx
      exact key_no (ho r hr)
    rw [e, List.map_map]
    refine List.map_congr_left fun x hx => ?_
    exact split_key (ho x hx)
end QL
/-! RP10: things in a drawn order; odd values. -/
namespace QL
open PySem L2 Mi PM QG
variable {K : PySem.W.Frag} {A : Ad}
theorem append_to {o : E} {a : EA} {σ : Mi.Env} {h h' : Hd} {c : Nat} {acc0 acc : List D} {y : D} (e1 : o σ h = .ok (.ref c) h) (g0 : h[c]? = some (.lst acc0)) (e2 : a σ h = .ok [y] h') (g : h'[c]? = some (.lst acc)) (hl : acc.length ≤ 1000) : eBmM appendM isL o a σ h = .ok .non (h'.set c (.lst (acc ++ [y]))) := by
  unfold eBmM
  rw [e1, bind_ok, if_pos (by unfold isL asL; simp only [g0]; rfl), e2, bind_ok]
  unfold appendM asLm
  simp only [g, Option.bind_some]
  rw [if_pos (by unfold line; omega)]
theorem erase_map {α β : Type} (f : α → β) : ∀ (l : List α) (i : Nat), (l.map f).eraseIdx i = (l.eraseIdx i).map f
  | [], i => by simp
  | x :: l, 0 => rfl
  | x :: l, i + 1 => by simp [erase_map f l i]
theorem erase_perm {α : Type} : ∀ (l : List α) (i : Nat) (h : i < l.length), (l[i] :: l.eraseIdx i).Perm l
  | [], i, h => absurd h (by simp)
  | x :: l, 0, h => List.Perm.refl _
  | x :: l, i + 1, h => by
    have := erase_perm l i (by simpa using h)
    simp only [List.getElem_cons_succ, List.eraseIdx_cons_succ]
    exact (List.Perm.swap _ _ _).trans (this.cons _)
theorem popAtM_ok {h' : Hd} {c i : Nat} {acc : List D} {y : D} (g : h'[c]? = some (.lst acc)) (hy : acc[i]? = some y) (hi : i < 1000) : popAtM h' (.ref c) [.int i] = some (y, h'.set c (.lst (acc.eraseIdx i))) := by
  have hc : 0 ≤ (i : Int) ∧ (i : Int) < 1000000 := by omega
  have ea : asLm h' (.ref c) = some (c, acc) := by unfold asLm; simp only [g]
  show ((asLm h' (.ref c)).bind fun p => if 0 ≤ (i : Int) ∧ (i : Int) < 1000000 then (p.2[(i : Int).toNat]?).map fun y => (y, h'.set p.1 (.lst (p.2.eraseIdx (i : Int).toNat))) else none) = _
  rw [ea, Option.bind_some, if_pos hc, Int.toNat_natCast, hy, Option.map_some]
theorem popAt_ok {o : E} {a : EA} {σ : Mi.Env} {h h' : Hd} {c i : Nat} {acc0 acc : List D} {y : D} (e1 : o σ h = .ok (.ref c) h) (g0 : h[c]? = some (.lst acc0)) (e2 : a σ h = .ok [.int i] h') (g : h'[c]? = some (.lst acc)) (hy : acc[i]? = some y) (hi : i < 1000) : eBmM popAtM isL o a σ h = .ok y (h'.set c (.lst (acc.eraseIdx i))) := by
  unfold eBmM
  rw [e1, bind_ok, if_pos (by unfold isL asL; simp only [g0]; rfl), e2, bind_ok]
  rw [popAtM_ok g hy hi]
theorem eqNilR {h : Hd} {n : Nat} {xs : List D} {ps : List PyData} (g : h[n]? = some (.lst xs)) (e : toP0s xs = some ps) : eqB h (.ref n) (.tmp []) = some xs.isEmpty := by
  have := eqNilL (h := h) e
  unfold eqB at this ⊢
  simp only [toP, toP0, e, Option.map_some, asL, g, Option.bind_some] at this ⊢
  exact this
theorem len_ref {h : Hd} {n : Nat} {xs : List D} (g : h[n]? = some (.lst xs)) : lenP h [.ref n] = some (.int xs.length) := by
  unfold lenP asDm asQ asL
  simp [g]
theorem len_tup {h : Hd} {xs : List D} : lenP h [.tup xs] = some (.int xs.length) := by
  unfold lenP asDm asQ
  simp
abbrev mxT : ET := tOpT neP (eVar 2) (eTmp (lLst eNil))
abbrev mxB (K : PySem.W.Frag) (A : Ad) : S := (sDrop (eBmM appendM isL (eVar 3) (eCons (eBmM popAtM isL (eVar 2) (eCons (eCall (f__law_take K A) [] (eCons (eVar 0) (eCons (ePN lenP (eCons (eVar 2) eNil)) eNil))) eNil)) eNil)))
theorem mx_loop {n l c : Nat} {h0 : Hd} {t1 : Option D} {ps : List Pr} (hb0 : BoxAt n h0) (hl : h0.length ≤ l) (hc : h0.length ≤ c) (hlc : l ≠ c) (hn : ps.length ≤ 900) : ∀ (m fuel : Nat) (left found : List Pr) (h : Hd), left.length = m → m < fuel → (left ++ found).Perm ps → h[l]? = some (.lst (left.map prD)) → h[c]? = some (.lst (found.map prD)) → Up n h0 h → BoxAt n h →
    ∃ (qs : List Pr) (h' : Hd), whileM mxT (mxB K A) fuel [some (.ref n), t1, some (.ref l), some (.ref c)] h = .nx [some (.ref n), t1, some (.ref l), some (.ref c)] h' ∧ qs.Perm ps ∧ h'[c]? = some (.lst (qs.map prD)) ∧ Up n h0 h' ∧ BoxAt n h'
  | 0, 0, _, _, _, _, hf, _, _, _, _, _ => absurd hf (by omega)
  | 0, fuel + 1, left, found, h, e, hf, pm, gl, gc, u, b => by
    have el : left = [] := List.length_eq_zero_iff.mp e
    subst el
    refine ⟨found, h, ?_, by simpa using pm, gc, u, b⟩
    have et : mxT [some (.ref n), t1, some (.ref l), some (.ref c)] h = .ok false h := by
      refine tOpT_ok (eOp_ok (x := .ref l) (y := .tmp []) rfl rfl ?_)
      unfold neP
      rw [eqNilR gl rfl]
      rfl
    rw [whileM, et, bindS_ok]
    rfl
  | m + 1, 0, _, _, _, _, hf, _, _, _, _, _ => absurd hf (by omega)
  | m + 1, fuel + 1, left, found, h, e, hf, pm, gl, gc, u, b => by
    have hpl : left.length + found.length = ps.length := by rw [← pm.length_eq, List.length_append]
    have et : mxT [some (.ref n), t1, some (.ref l), some (.ref c)] h = .ok true h := by
      refine tOpT_ok (eOp_ok (x := .ref l) (y := .tmp []) rfl rfl ?_)
      unfold neP
      rw [eqNilR gl (toP_rows left)]
      cases left with
      | nil => cases e
      | cons a r => rfl
    obtain ⟨i, h1, e1, r1, u1, b1⟩ := take1 (K := K) (A := A) b (left.length : Int) (by omega) (by omega)
    have hi : i < left.length := by omega
    have bl := hb0.lt
    have hln : l ≠ n := by omega
    have hcn : c ≠ n := by omega
    have gl1 := u1.get hln gl
    have gc1 := u1.get hcn gc
    have ep : eBmM popAtM isL (eVar 2) (eCons (eCall (f__law_take K A) [] (eCons (eVar 0) (eCons (ePN lenP (eCons (eVar 2) eNil)) eNil))) eNil) [some (.ref n), t1, some (.ref l), some (.ref c)] h = .ok (prD left[i]) (h1.set l (.lst ((left.eraseIdx i).map prD))) := by
      have := popAt_ok (o := eVar 2) (a := eCons (eCall (f__law_take K A) [] (eCons (eVar 0) (eCons (ePN lenP (eCons (eVar 2) eNil)) eNil))) eNil) (σ := [some (.ref n), t1, some (.ref l), some (.ref c)]) (y := prD left[i]) rfl gl (eCons_ok (eCall_ok (eCons_ok (x := .ref n) rfl (eCons_ok (x := .int left.length) (ePN_ok (eCons_ok (x := .ref l) rfl rfl) (by rw [len_ref gl, List.length_map])) rfl)) e1) rfl) gl1 (by simp [hi]) (by omega)
      rw [this]
      congr 3
      rw [erase_map]
    have gl2 : (h1.set l (.lst ((left.eraseIdx i).map prD)))[l]? = some (.lst ((left.eraseIdx i).map prD)) := get_set gl1
    have gc2 : (h1.set l (.lst ((left.eraseIdx i).map prD)))[c]? = some (.lst (found.map prD)) := by rw [List.getElem?_set_ne hlc, gc1]
    have eb : mxB K A [some (.ref n), t1, some (.ref l), some (.ref c)] h = .nx [some (.ref n), t1, some (.ref l), some (.ref c)] ((h1.set l (.lst ((left.eraseIdx i).map prD))).set c (.lst ((found ++ [left[i]]).map prD))) := by
      rw [List.map_append]
      exact sDrop_ok (append_to rfl gc (eCons_ok ep rfl) gc2 (by rw [List.length_map]; omega))
    have pm2 : (left.eraseIdx i ++ (found ++ [left[i]])).Perm ps := by
      refine List.Perm.trans ?_ pm
      rw [← List.append_assoc]
      refine (List.perm_append_singleton _ _).trans ?_
      exact (erase_perm left i hi).append_right found
    obtain ⟨qs, h', e', p', g', u', b'⟩ := mx_loop (t1 := t1) hb0 hl hc hlc hn m fuel (left.eraseIdx i) (found ++ [left[i]]) _ (by rw [List.length_eraseIdx, if_pos hi]; omega) (by omega) pm2 (by rw [List.getElem?_set_ne (Ne.symm hlc)]; exact gl2) (get_set gc2) (((u.trans hb0 u1).set hl).set hc) ((b1.set hln).set hcn)
    refine ⟨qs, h', ?_, p', g', u', b'⟩
    rw [whileM, et, bindS_ok, if_pos rfl, eb]
    exact e'
theorem mixed1 {n : Nat} {h : Hd} {ps : List Pr} (hb : BoxAt n h) (hn : ps.length ≤ 900) : ∃ (qs : List Pr) (c : Nat) (h' : Hd), f__law_mixed K A [.ref n, .tup (ps.map prD)] h = .ok (.ref c) h' ∧ qs.Perm ps ∧ h'[c]? = some (.lst (qs.map prD)) ∧ h.length ≤ c ∧ Up n h h' ∧ BoxAt n h' := by
  have b1 : BoxAt n (h ++ [.lst (ps.map prD)] ++ [.lst []]) := (hb.push _).push _
  obtain ⟨qs, h', e, p, g, u, b⟩ := mx_loop (K := K) (A := A) (n := n) (l := h.length) (c := h.length + 1) (t1 := some (.tup (ps.map prD))) hb (Nat.le_refl _) (by omega) (by omega) hn ps.length 100000 ps [] (h ++ [.lst (ps.map prD)] ++ [.lst []]) rfl (by omega) (by simp) (by simp) (by simp) (((Up.refl hb).push _).push _) b1
  refine ⟨qs, h.length + 1, h', ?_, p, g, by omega, u, b⟩
  have ew : sWhile 100000 mxT (mxB K A) [some (.ref n), some (.tup (ps.map prD)), some (.ref h.length), some (.ref (h.length + 1))] (h ++ [.lst (ps.map prD)] ++ [.lst []]) = .nx [some (.ref n), some (.tup (ps.map prD)), some (.ref h.length), some (.ref (h.length + 1))] h' := by
    unfold sWhile
    exact e
  have ep : sPar2 2 3 (eNew (lPN listL (eCons (eVar 1) eNil))) (eNew (lLst eNil)) [some (.ref n), some (.tup (ps.map prD)), none, none] h = .nx [some (.ref n), some (.tup (ps.map prD)), some (.ref h.length), some (.ref (h.length + 1))] (h ++ [.lst (ps.map prD)] ++ [.lst []]) := by
    have e9 := eNew_ok (σ := [some (.ref n), some (.tup (ps.map prD)), none, none]) (h := h ++ [.lst (ps.map prD)]) (m := lLst eNil) (lLst_ok rfl (by simp))
    rw [show (h ++ [O.lst (ps.map prD)]).length = h.length + 1 by simp] at e9
    have e8 : eNew (lPN listL (eCons (eVar 1) eNil)) [some (.ref n), some (.tup (ps.map prD)), none, none] h = .ok (.ref h.length) (h ++ [.lst (ps.map prD)]) := eNew_ok rfl
    exact sPar2_ok e8 e9
  unfold f__law_mixed
  refine run_ret rfl ?_
  refine (sSeq_nx ep).trans ?_
  refine (sSeq_nx ew).trans ?_
  rfl
/-! ### odd values -/
theorem k_x (T : String) (h : PySem.W.kitOne K (.type T) (.type "tuple") = some false) : ∀ (d : D), (∀ h', tyD (csOf A) h' d = some (.type T)) → Lk K A d [] := fun d e => by
  have ei : ∀ h', isiP K (csOf A) h' [d, .ty "tuple"] = some (.bl false) := fun h' => by
    unfold isiP
    simp only [e h', clsD, Option.bind_some, h, Option.map_some]
  refine ⟨fun h' => ?_, fun h' => ?_, fun z => by cases z⟩
  · unfold f_is_promise
    exact run_ret rfl (sSeq_ret ((sIf_t (tOr_t (tNot_ok (c := false) (tVal_ok (ePN_ok (eCons_ok (x := d) rfl (eCons_ok rfl rfl)) (ei h')))))).trans rfl))
  · unfold f__law_is_promise
    exact run_ret rfl (sSeq_ret ((sIf_t (tOr_t (tNot_ok (c := false) (tVal_ok (ePN_ok (eCons_ok (x := d) rfl (eCons_ok rfl rfl)) (ei h')))))).trans rfl))
theorem k_list_tup : PySem.W.kitOne K (.type "list") (.type "tuple") = some false := by kernel_rfl
theorem k_str_tup : PySem.W.kitOne K (.type "str") (.type "tuple") = some false := by kernel_rfl
theorem k_int_tup : PySem.W.kitOne K (.type "int") (.type "tuple") = some false := by kernel_rfl
theorem k_bool_tup : PySem.W.kitOne K (.type "bool") (.type "tuple") = some false := by kernel_rfl
theorem k_non_tup : PySem.W.kitOne K (.type "NoneType") (.type "tuple") = some false := by kernel_rfl
theorem k_list_str : PySem.W.kitOne K (.type "list") (.type "str") = some false := by kernel_rfl
theorem k_tup_str : PySem.W.kitOne K (.type "tuple") (.type "str") = some false := by kernel_rfl
theorem k_non_str : PySem.W.kitOne K (.type "NoneType") (.type "str") = some false := by kernel_rfl
theorem lk_tmp (xs : List D) : Lk K A (.tmp xs) [] := k_x "list" k_list_tup _ fun _ => rfl
theorem lk_str (x : Str) : Lk K A (.str x) [] := k_x "str" k_str_tup _ fun _ => rfl
theorem lk_int (x : Int) : Lk K A (.int x) [] := k_x "int" k_int_tup _ fun _ => rfl
theorem lk_bl (x : Bool) : Lk K A (.bl x) [] := k_x "bool" k_bool_tup _ fun _ => rfl
theorem lk_non : Lk K A .non [] := k_x "NoneType" k_non_tup _ fun _ => rfl
theorem comp_two {a' : D → Mi.Env → Option Mi.Env} {e : E} {σ σ1 σ2 : Mi.Env} {h : Hd} {a b d1 d2 : D} (h1 : a' a σ = some σ1) (h2 : a' b σ = some σ2) (e1 : e σ1 h = .ok d1 h) (e2 : e σ2 h = .ok d2 h) : compM a' tYesM e always σ [a, b] h = .ok [d1, d2] h := by
  have hg : always h = true := rfl
  simp only [compM, hg, if_true, h1, h2, tYesM, R.bind, e1, e2]
/-- two values, not both texts -/
theorem lk_two {a b : D} {x y : Bool} (ha : ∀ h, isiP K (csOf A) h [a, .ty "str"] = some (.bl x)) (hb : ∀ h, isiP K (csOf A) h [b, .ty "str"] = some (.bl y)) (hxy : (x && y) = false) : Lk K A (.tup [a, b]) [] := by
  have ei : ∀ h', isiP K (csOf A) h' [.tup [a, b], .ty "tuple"] = some (.bl true) := fun h' => i_tup
  have el : ∀ h', tOpT neP (ePN lenP (eCons (eVar 0) eNil)) (eC (.int 2)) [some (.tup [a, b])] h' = .ok false h' := fun h' => rfl
  refine ⟨fun h' => ?_, fun h' => ?_, fun z => by cases z⟩
  · have c : lComp (iAll (eVar 0)) (aNm 3) tYesM (ePN (isiP K (csOf A)) (eCons (eVar 3) (eCons (eC (.ty "str")) eNil))) [3] [some (.tup [a, b]), none, none, none] h' = .ok [.bl x, .bl y] h' := by
      exact lComp_ok (itm := ⟨[a, b], always⟩) (h1 := h') rfl (comp_two rfl rfl (ePN_ok (eCons_ok (x := a) rfl (eCons_ok rfl rfl)) (ha h')) (ePN_ok (eCons_ok (x := b) rfl (eCons_ok rfl rfl)) (hb h'))) (by simp)
    unfold f_is_promise
    refine run_ret rfl (sSeq_ret ((sIf_t ((tOr_f (tNot_ok (c := true) (tVal_ok (ePN_ok (eCons_ok (x := .tup [a, b]) rfl (eCons_ok rfl rfl)) (ei h'))))).trans ((tOr_f rfl).trans (tNot_ok (c := false) (tVal_ok (ePN_ok (eCons_ok (eTmp_ok c) rfl) ?_)))))).trans rfl))
    unfold allP
    simp only [asL, Option.bind_some, bools, Option.map_some]
    rw [show ([x, y].all id) = (x && y) by simp, hxy]
  · unfold f__law_is_promise
    cases x with
    | false =>
      exact run_ret rfl (sSeq_ret ((sIf_t ((tOr_f (tNot_ok (c := true) (tVal_ok (ePN_ok (eCons_ok (x := .tup [a, b]) rfl (eCons_ok rfl rfl)) (ei h'))))).trans ((tOr_f rfl).trans (tNot_ok (c := false) (tVal_ok (ePN_ok (eCons_ok (x := a) rfl (eCons_ok rfl rfl)) (ha h'))))))).trans rfl))
    | true =>
      cases y with
      | true => cases hxy
      | false =>
        refine run_ret rfl ((sSeq_nx ((sIf_f ((tOr_f (tNot_ok (c := true) (tVal_ok (ePN_ok (eCons_ok (x := .tup [a, b]) rfl (eCons_ok rfl rfl)) (ei h'))))).trans ((tOr_f rfl).trans (tNot_ok (c := true) (tVal_ok (ePN_ok (eCons_ok (x := a) rfl (eCons_ok rfl rfl)) (ha h'))))))).trans rfl)).trans (sRet_ok (eAnd_f (ePN_ok (eCons_ok (x := b) rfl (eCons_ok rfl rfl)) (hb h')))))
theorem i_non_str {h : Hd} : isiP K (csOf A) h [.non, .ty "str"] = some (.bl false) := by simp [isiP, tyD, clsD, k_non_str]
theorem i_tup_str {h : Hd} {xs : List D} : isiP K (csOf A) h [.tup xs, .ty "str"] = some (.bl false) := by simp [isiP, tyD, clsD, k_tup_str]
theorem i_tmp_str {h : Hd} {xs : List D} : isiP K (csOf A) h [.tmp xs, .ty "str"] = some (.bl false) := by simp [isiP, tyD, clsD, k_list_str]
def odds (p : Pr) : List D := [wsD [p.1, "next"], wsD ["takes", "neg"], wsD ["truth", "add"], wsD ["itself", "len"], wsD [p.1, p.2, p.2]] ++ [.tmp [.str p.1, .str p.2], .str (p.1 ++ (" " : Str) ++ p.2), wsD [p.1], .non, .int 7, .bl true, .tup [.str p.1, .int 7], .tup [.non, .str p.2], wsD []] ++
  [wsD [p.2, p.1], wsD [Txt.upper p.1, p.2], wsD ["", p.2], wsD [p.1, ""], wsD ["itself", "next"]] ++ [.tup [.str p.1, .tup [.str p.2]], .tup [.tmp [.str p.1], .str p.2], wsD ["hass", p.2], wsD ["has", "pow"]]
theorem odds_lk {p : Pr} : ∀ d ∈ odds p, ∃ ws, Lk K A d ws := by
  intro d hd
  unfold odds at hd
  simp only [List.cons_append, List.nil_append, List.mem_cons, List.mem_nil_iff, or_false] at hd
  rcases hd with rfl | rfl | rfl | rfl | rfl | rfl | rfl | rfl | rfl | rfl | rfl | rfl | rfl | rfl | rfl | rfl | rfl | rfl | rfl | rfl | rfl | rfl | rfl
  all_goals first
    | exact ⟨_, lk_ws _⟩
    | exact ⟨_, lk_tmp _⟩
    | exact ⟨_, lk_str _⟩
    | exact ⟨_, lk_non⟩
    | exact ⟨_, lk_int _⟩
    | exact ⟨_, lk_bl _⟩
    | exact ⟨_, lk_two (fun _ => i_str_str) (fun _ => i_int_str) rfl⟩
    | exact ⟨_, lk_two (fun _ => i_non_str) (fun _ => i_str_str) rfl⟩
    | exact ⟨_, lk_two (fun _ => i_str_str) (fun _ => i_tup_str) rfl⟩
    | exact ⟨_, lk_two (fun _ => i_tmp_str) (fun _ => i_str_str) rfl⟩
theorem odd1 {n : Nat} {h : Hd} {p : Pr} (hb : BoxAt n h) (ho : okp p) : ∃ (d : D) (ws : List Str) (h' : Hd), f__law_odd K A [.ref n, prD p] h = .ok d h' ∧ d ∈ odds p ∧ Lk K A d ws ∧ Up n h h' ∧ BoxAt n h' := by
  obtain ⟨d, h', e, m, u, b⟩ := pick1 (K := K) (A := A) (xs := odds p) hb (by unfold odds; simp) (by unfold odds; simp)
  obtain ⟨ws, lk⟩ := odds_lk (K := K) (A := A) d m
  refine ⟨d, ws, h', ?_, m, lk, u, b⟩
  have l1 := ho.w.2.2.2
  have l2 := ho.m.2.2.2
  have i0 : ∀ σ : Mi.Env, σ[1]? = some (some (prD p)) → ∀ h, eOp itemP (eVar 1) (eC (.int 0)) σ h = .ok (.str p.1) h := fun σ e h => by
    refine eOp_ok (x := prD p) (y := .int 0) ?_ rfl rfl
    unfold eVar; rw [e]
  have i1 : ∀ σ : Mi.Env, σ[1]? = some (some (prD p)) → ∀ h, eOp itemP (eVar 1) (eC (.int 1)) σ h = .ok (.str p.2) h := fun σ e h => by
    refine eOp_ok (x := prD p) (y := .int 1) ?_ rfl rfl
    unfold eVar; rw [e]
  unfold f__law_odd
  refine run_ret rfl ((sSeq_nx (σ' := [some (.ref n), some (prD p), some (.tmp [wsD [p.1, "next"], wsD ["takes", "neg"], wsD ["truth", "add"], wsD ["itself", "len"], wsD [p.1, p.2, p.2]])]) (h' := h) ?_).trans ((sSeq_nx (σ' := [some (.ref n), some (prD p), some (.tmp ([wsD [p.1, "next"], wsD ["takes", "neg"], wsD ["truth", "add"], wsD ["itself", "len"], wsD [p.1, p.2, p.2]] ++ [.tmp [.str p.1, .str p.2], .str (p.1 ++ (" " : Str) ++ p.2), wsD [p.1], .non, .int 7, .bl true, .tup [.str p.1, .int 7], .tup [.non, .str p.2], wsD []]))]) (h' := h) ?_).trans ((sSeq_nx (σ' := [some (.ref n), some (prD p), some (.tmp ([wsD [p.1, "next"], wsD ["takes", "neg"], wsD ["truth", "add"], wsD ["itself", "len"], wsD [p.1, p.2, p.2]] ++ [.tmp [.str p.1, .str p.2], .str (p.1 ++ (" " : Str) ++ p.2), wsD [p.1], .non, .int 7, .bl true, .tup [.str p.1, .int 7], .tup [.non, .str p.2], wsD []] ++ [wsD [p.2, p.1], wsD [Txt.upper p.1, p.2], wsD ["", p.2], wsD [p.1, ""], wsD ["itself", "next"]]))]) (h' := h) ?_).trans (sRet_ok (eCall_ok (eCons_ok (x := .ref n) rfl (eCons_ok (x := .tmp (odds p)) (eOp_ok (x := .tmp ([wsD [p.1, "next"], wsD ["takes", "neg"], wsD ["truth", "add"], wsD ["itself", "len"], wsD [p.1, p.2, p.2]] ++ [.tmp [.str p.1, .str p.2], .str (p.1 ++ (" " : Str) ++ p.2), wsD [p.1], .non, .int 7, .bl true, .tup [.str p.1, .int 7], .tup [.non, .str p.2], wsD []] ++ [wsD [p.2, p.1], wsD [Txt.upper p.1, p.2], wsD ["", p.2], wsD [p.1, ""], wsD ["itself", "next"]])) (y := .tmp [.tup [.str p.1, .tup [.str p.2]], .tup [.tmp [.str p.1], .str p.2], wsD ["hass", p.2], wsD ["has", "pow"]]) rfl ?_ (add_tmp (by simp))) rfl)) e)))))
  · refine sSet_ok (eTmp_ok (lLst_ok (eCons_ok (eTup_ok (eCons_ok (i0 _ rfl _) rfl) (by simp)) (eCons_ok rfl (eCons_ok rfl (eCons_ok rfl (eCons_ok (eTup_ok (eCons_ok (i0 _ rfl _) (eCons_ok (i1 _ rfl _) (eCons_ok (i1 _ rfl _) rfl))) (by simp)) rfl))))) (by simp)))
  · refine sSet_ok (eOp_ok rfl (eTmp_ok (lLst_ok (eCons_ok rfl (eCons_ok (eOp_ok (eOp_ok (i0 _ rfl _) (y := .str " ") rfl (add_str (by rw [sp1]; omega))) (i1 _ rfl _) (add_str (by rw [app_len, sp1]; omega))) (eCons_ok rfl (eCons_ok rfl (eCons_ok rfl (eCons_ok rfl (eCons_ok (eTup_ok (eCons_ok (i0 _ rfl _) rfl) (by simp)) (eCons_ok (eTup_ok (eCons_ok rfl (eCons_ok (i1 _ rfl _) rfl)) (by simp)) (eCons_ok rfl rfl))))))))) (by simp))) (add_tmp (by simp)))
  · refine sSet_ok (eOp_ok rfl (eTmp_ok (lLst_ok (eCons_ok (eTup_ok (eCons_ok (i1 _ rfl _) (eCons_ok (i0 _ rfl _) rfl)) (by simp)) (eCons_ok (eTup_ok (eCons_ok (x := .str (Txt.upper p.1)) ?_ (eCons_ok (i1 _ rfl _) rfl)) (by simp)) (eCons_ok (eTup_ok (eCons_ok rfl (eCons_ok (i1 _ rfl _) rfl)) (by simp)) (eCons_ok (eTup_ok (eCons_ok (i0 _ rfl _) rfl) (by simp)) (eCons_ok rfl rfl))))) (by simp))) (add_tmp (by simp)))
    unfold eBm0
    rw [i0 _ rfl _, bind_ok, if_pos (show isS h (D.str p.1) = true from rfl)]
    unfold upperP
    simp only
    rw [if_pos (by omega), ofO_some]
  · exact eTmp_ok (lLst_ok (eCons_ok (eTup_ok (eCons_ok (i0 _ rfl _) (eCons_ok (eTup_ok (eCons_ok (i1 _ rfl _) rfl) (by simp)) rfl)) (by simp)) (eCons_ok (eTup_ok (eCons_ok (eTmp_ok (lLst_ok (eCons_ok (i0 _ rfl _) rfl) (by simp))) (eCons_ok (i1 _ rfl _) rfl)) (by simp)) (eCons_ok (eTup_ok (eCons_ok rfl (eCons_ok (i1 _ rfl _) rfl)) (by simp)) (eCons_ok rfl rfl)))) (by simp))
end QL
/-! RP11: rows of pairs, some odd. -/
namespace QL
open PySem L2 Mi PM QG
variable {K : PySem.W.Frag} {A : Ad}
theorem Lks.get : ∀ {ds : List D} {rows : List (List Str)} {i : Nat} {d : D}, Lks K A ds rows → ds[i]? = some d → ∃ ws, Lk K A d ws
  | [], _, i, d, _, e => by simp at e
  | d0 :: ds, _, 0, d, ⟨ws, rs, _, k, _⟩, e => by
    simp at e
    subst e
    exact ⟨ws, k⟩
  | d0 :: ds, _, i + 1, d, ⟨ws, rs, _, _, h⟩, e => Lks.get h (by simpa using e)
theorem Lks.take : ∀ {ds : List D} {rows : List (List Str)} (i : Nat), Lks K A ds rows → Lks K A (ds.take i) (rows.take i)
  | [], _, i, h => by rw [show _ = [] from h]; simp [Lks]
  | _ :: _, _, 0, _ => by simp [Lks]
  | d0 :: ds, _, i + 1, ⟨ws, rs, e, k, h⟩ => by subst e; exact ⟨ws, _, rfl, k, Lks.take i h⟩
theorem Lks.drop : ∀ {ds : List D} {rows : List (List Str)} (i : Nat), Lks K A ds rows → Lks K A (ds.drop i) (rows.drop i)
  | [], _, i, h => by rw [show _ = [] from h]; simp [Lks]
  | d0 :: ds, _, 0, h => h
  | d0 :: ds, _, i + 1, ⟨ws, rs, e, k, h⟩ => by subst e; exact Lks.drop i h
theorem Lks.set : ∀ {ds : List D} {rows : List (List Str)} (i : Nat) {d : D} {w : List Str}, Lks K A ds rows → Lk K A d w → Lks K A (ds.set i d) (rows.set i w)
  | [], _, i, _, _, h, _ => by rw [show _ = [] from h]; simp [Lks]
  | d0 :: ds, _, 0, _, w, ⟨ws, rs, e, k, h⟩, lk => by subst e; exact ⟨w, rs, rfl, lk, h⟩
  | d0 :: ds, _, i + 1, _, _, ⟨ws, rs, e, k, h⟩, lk => by subst e; exact ⟨ws, _, rfl, k, Lks.set i h lk⟩
theorem lks_prs (ps : List Pr) : Lks K A (ps.map prD) (ps.map two) := by
  rw [← two_wsD]
  exact lks_ws _
/-- plain values -/
def Pl (ds : List D) : Prop := ∀ d ∈ ds, ∃ q, toP0 d = some q
theorem Pl.all : ∀ {ds : List D}, Pl ds → ∃ qs, toP0s ds = some qs
  | [], _ => ⟨[], rfl⟩
  | d :: ds, h => by
    obtain ⟨q, e⟩ := h d (List.mem_cons_self ..)
    obtain ⟨qs, es⟩ := Pl.all (ds := ds) fun x hx => h x (List.mem_cons_of_mem _ hx)
    exact ⟨q :: qs, by rw [toP0s, e, es]⟩
theorem pl_ws (ws : List Str) : ∃ q, toP0 (wsD ws) = some q := by
  obtain ⟨ps, e⟩ := toP0s_strs ws
  exact ⟨.tuple ps, by unfold wsD; rw [toP0, e]; rfl⟩
theorem pl_prs (ps : List Pr) : Pl (ps.map prD) := fun d hd => by
  obtain ⟨p, _, rfl⟩ := List.mem_map.mp hd
  exact ⟨prP p, rfl⟩
theorem pl_odds {p : Pr} : Pl (odds p) := fun d hd => by
  unfold odds at hd
  simp only [List.cons_append, List.nil_append, List.mem_cons, List.mem_nil_iff, or_false] at hd
  rcases hd with rfl | rfl | rfl | rfl | rfl | rfl | rfl | rfl | rfl | rfl | rfl | rfl | rfl | rfl | rfl | rfl | rfl | rfl | rfl | rfl | rfl | rfl | rfl
  all_goals first
    | exact pl_ws _
    | exact ⟨_, rfl⟩
theorem pickR {n c : Nat} {h : Hd} {xs : List D} (hb : BoxAt n h) (g : h[c]? = some (.lst xs)) (hc : c ≠ n) (h0 : 0 < xs.length) (h1 : xs.length < 1073741824) :
    ∃ (r : Nat) (d : D) (h' : Hd), f__law_pick K A [.ref n, .ref c] h = .ok d h' ∧ xs[r]? = some d ∧ Up n h h' ∧ BoxAt n h' := by
  obtain ⟨r, h', e, r1, u, b⟩ := take1 (K := K) (A := A) hb xs.length (by omega) (by omega)
  have hr : r < xs.length := by omega
  have g' := u.get hc g
  refine ⟨r, xs[r], h', ?_, by simp [hr], u, b⟩
  unfold f__law_pick
  refine run_ret rfl (sRet_ok (eOp_ok (x := .ref c) (y := .int r) rfl (eCall_ok (eCons_ok (x := .ref n) rfl (eCons_ok (x := .int xs.length) (ePN_ok (eCons_ok (x := .ref c) rfl rfl) (len_ref g)) rfl)) e) ?_))
  unfold itemP asDct ixP asQ asL L2.atI L2.ixN
  simp only [g']
  simp [hr]
theorem cut8 {xs : List D} {i : Nat} : cutD xs none (some (i : Int)) = xs.take i := by
  by_cases z : i ≤ xs.length
  · exact cut_take z
  · have e : HT.sIx xs.length xs.length (some (i : Int)) = xs.length := by
      unfold HT.sIx
      simp only
      rw [if_neg (by omega)]
      omega
    unfold cutD
    rw [e]
    simp only [HT.sIx, List.drop_zero, Nat.sub_zero]
    rw [List.take_length, List.take_of_length_le (by omega)]
theorem insert_ok {o : E} {a : EA} {σ : Mi.Env} {h h' : Hd} {c i : Nat} {acc0 acc : List D} {y : D} (e1 : o σ h = .ok (.ref c) h) (g0 : h[c]? = some (.lst acc0)) (e2 : a σ h = .ok [.int i, y] h') (g : h'[c]? = some (.lst acc)) (hl : acc.length ≤ 1000) (hi : i < 1000) : eBmM insertM isL o a σ h = .ok .non (h'.set c (.lst (acc.take i ++ [y] ++ acc.drop i))) := by
  have hc : 0 ≤ (i : Int) ∧ (i : Int) < 1000000 ∧ acc.length < line := ⟨by omega, by omega, by unfold line; omega⟩
  have ea : asLm h' (.ref c) = some (c, acc) := by unfold asLm; simp only [g]
  have e3 : insertM h' (.ref c) [.int i, y] = some (.non, h'.set c (.lst (acc.take i ++ [y] ++ acc.drop i))) := by
    show ((asLm h' (.ref c)).bind fun p => if 0 ≤ (i : Int) ∧ (i : Int) < 1000000 ∧ p.2.length < line then some (D.non, h'.set p.1 (.lst (p.2.take (i : Int).toNat ++ [y] ++ p.2.drop (i : Int).toNat))) else none) = _
    rw [ea, Option.bind_some, if_pos hc, Int.toNat_natCast]
  unfold eBmM
  rw [e1, bind_ok, if_pos (by unfold isL asL; simp only [g0]; rfl), e2, bind_ok, e3]
abbrev neT : ET := tOpT neP (eVar 2) (eTmp (lLst eNil))
abbrev z3T (K : PySem.W.Frag) (A : Ad) : ET := tOpT eqP (eCall (f__law_take K A) [] (eCons (eVar 0) (eCons (eC (.int 3)) eNil))) (eC (.int 0))
/-- found != [] and take(box, 3) == 0 -/
theorem and3 {n c : Nat} {h : Hd} {t1 t3 t4 : Option D} {ds : List D} (hb : BoxAt n h) (g : h[c]? = some (.lst ds)) (hp : Pl ds) : ∃ (b : Bool) (h' : Hd), tAndM neT (z3T K A) [some (.ref n), t1, some (.ref c), t3, t4] h = .ok b h' ∧ (b = true → ds ≠ []) ∧ Up n h h' ∧ BoxAt n h' := by
  obtain ⟨qs, eq⟩ := hp.all
  have e1 : neT [some (.ref n), t1, some (.ref c), t3, t4] h = .ok (!ds.isEmpty) h := by
    refine tOpT_ok (eOp_ok (x := .ref c) (y := .tmp []) rfl rfl ?_)
    unfold neP
    rw [eqNilR g eq]
    rfl
  cases z : ds with
  | nil =>
    rw [z] at e1
    exact ⟨false, h, tAnd_f e1, (fun e => by cases e), Up.refl hb, hb⟩
  | cons a r =>
    rw [z] at e1
    obtain ⟨k, h', e2, r2, u2, b2⟩ := take1 (K := K) (A := A) hb 3 (by decide) (by decide)
    refine ⟨(k : Int) == 0, h', (tAnd_t e1).trans (tOpT_ok (eOp_ok (x := .int k) (y := .int 0) (eCall_ok (eCons_ok (x := .ref n) rfl (eCons_ok (x := .int 3) rfl rfl)) e2) rfl rfl)), fun _ => by simp, u2, b2⟩
theorem pairs1 {n : Nat} {h : Hd} (hb : BoxAt n h) : ∃ (ds : List D) (rows : List (List Str)) (h' : Hd), f__law_pairs K A [.ref n] h = .ok (.tmp ds) h' ∧ Lks K A ds rows ∧ ds.length ≤ 8 ∧ Up n h h' ∧ BoxAt n h' := by
  obtain ⟨r, h1, e1, r1, u1, b1⟩ := take1 (K := K) (A := A) hb 4 (by decide) (by decide)
  obtain ⟨d0, h2, e2, ms, em, lm, u2, b2⟩ := comp_inv (a := aNm 4) (gd := always) (e := eCall (f__law_pick K A) [] (eCons (eVar 0) (eCons (eCall (f__law_methods K A) [] eNil) eNil))) (σ := [some (.ref n), none, none, none, none])
    (I := fun i acc hx => ∃ ms : List Str, acc = ms.map .str ∧ ms.length = i ∧ Up n h1 hx ∧ BoxAt n hx) (rangeD 0 (1 + r)) 0 [] h1
    (fun j x acc hx ej ⟨ms, ea, el, u, b⟩ => by
      obtain ⟨d, h2, e2, m2, u2, b2⟩ := pick1 (K := K) (A := A) (xs := Ms.map .str) b (by decide) (by decide)
      obtain ⟨w, hw, rfl⟩ := List.mem_map.mp m2
      refine ⟨_, .str w, h2, rfl, rfl, eCall_ok (eCons_ok (x := .ref n) rfl (eCons_ok (eCall_ok rfl methods1) rfl)) e2, ms ++ [w], ?_, ?_, u.trans b1 u2, b2⟩
      · rw [ea]; simp
      · simp; omega) (fun _ _ _ => rfl) ⟨[], rfl, rfl, Up.refl b1, b1⟩
  rw [List.nil_append] at em
  subst em
  have lm' : ms.length ≤ 1000 := by rw [rangeD_len] at lm; omega
  obtain ⟨k, h3, e3, r3, u3, b3⟩ := take1 (K := K) (A := A) b2 9 (by decide) (by decide)
  obtain ⟨d1, h4, e4, ps, ep, lp, op, u4, b4⟩ := comp_inv (a := aNm 4) (gd := always) (e := eCall (f__law_pair K A) [] (eCons (eVar 0) (eCons (eVar 1) eNil))) (σ := [some (.ref n), some (.tmp (ms.map .str)), none, none, none])
    (I := fun i acc hx => ∃ ps : List Pr, acc = ps.map prD ∧ ps.length = i ∧ (∀ p ∈ ps, okp p) ∧ Up n h3 hx ∧ BoxAt n hx) (rangeD 0 k) 0 [] h3
    (fun j x acc hx ej ⟨ps, ea, el, eo, u, b⟩ => by
      obtain ⟨p, hy, ey, oy, uy, by'⟩ := pair1 (K := K) (A := A) b lm'
      refine ⟨_, prD p, hy, rfl, rfl, eCall_ok (eCons_ok (x := .ref n) rfl (eCons_ok (x := .tmp (ms.map .str)) rfl rfl)) ey, ps ++ [p], ?_, ?_, ?_, u.trans b3 uy, by'⟩
      · rw [ea]; simp
      · simp; omega
      · intro q hq
        rcases List.mem_append.mp hq with w | w
        · exact eo q w
        · rw [List.mem_singleton] at w; subst w; exact oy) (fun _ _ _ => rfl) ⟨[], rfl, rfl, by simp, Up.refl b3, b3⟩
  rw [List.nil_append] at ep
  subst ep
  rw [rangeD_len] at lp
  have u04 : Up n h h4 := u1.trans hb (u2.trans b1 (u3.trans b2 u4))
  have hcl : h.length ≤ h4.length := u04.len
  have b5 : BoxAt n (h4 ++ [.lst (ps.map prD)]) := b4.push _
  have g5 : (h4 ++ [O.lst (ps.map prD)])[h4.length]? = some (.lst (ps.map prD)) := by simp
  have u05 : Up n h (h4 ++ [.lst (ps.map prD)]) := u04.push _
  have hcn : h4.length ≠ n := by have := b4.lt; omega
  generalize hc : h4.length = c at *
  generalize hh5 : h4 ++ [O.lst (ps.map prD)] = h5 at *
  -- an odd one
  have s1 : ∃ (ds : List D) (rows : List (List Str)) (t3 : Option D) (h6 : Hd), sIf (tAndM neT (z3T K A)) (sSeq (sSet 3 (eCall (f__law_take K A) [] (eCons (eVar 0) (eCons (ePN lenP (eCons (eVar 2) eNil)) eNil)))) (sAsg (eCall (f__law_odd K A) [] (eCons (eVar 0) (eCons (eOp itemP (eVar 2) (eVar 3)) eNil))) (gSubM setM (eVar 2) (eVar 3)))) sNext [some (.ref n), some (.tmp (ms.map .str)), some (.ref c), none, none] h5 = .nx [some (.ref n), some (.tmp (ms.map .str)), some (.ref c), t3, none] h6 ∧ Lks K A ds rows ∧ Pl ds ∧ ds.length ≤ 8 ∧ h6[c]? = some (.lst ds) ∧ Up n h h6 ∧ BoxAt n h6 := by
    obtain ⟨b, h6, e6, hne, u6, b6⟩ := and3 (K := K) (A := A) (t1 := some (.tmp (ms.map .str))) (t3 := none) (t4 := none) b5 g5 (pl_prs ps)
    have g6 := u6.get hcn g5
    have l8 : (ps.map prD).length ≤ 8 := by rw [List.length_map]; omega
    cases b with
    | false => exact ⟨ps.map prD, ps.map two, none, h6, (sIf_f e6).trans rfl, lks_prs ps, pl_prs ps, l8, g6, u05.trans hb u6, b6⟩
    | true =>
      have hp0 : 0 < ps.length := by
        have := hne rfl
        cases ps with
        | nil => exact absurd rfl this
        | cons a r => simp
      obtain ⟨i, h7, e7, r7, u7, b7⟩ := take1 (K := K) (A := A) b6 (ps.length : Int) (by omega) (by omega)
      have hi : i < ps.length := by omega
      have g7 := u7.get hcn g6
      obtain ⟨d, ws, h8, e8, m8, lk, u8, b8⟩ := odd1 (K := K) (A := A) (p := ps[i]) b7 (op _ (List.getElem_mem hi))
      have g8 := u8.get hcn g7
      obtain ⟨dd, hdd⟩ := pl_odds d m8
      refine ⟨(ps.map prD).set i d, (ps.map two).set i ws, some (.int i), h8.set c (.lst ((ps.map prD).set i d)), (sIf_t e6).trans ((sSeq_nx (sSet_ok (d := .int i) (h' := h7) (eCall_ok (eCons_ok (x := .ref n) rfl (eCons_ok (x := .int ps.length) (ePN_ok (eCons_ok (x := .ref c) rfl rfl) (by rw [len_ref g6, List.length_map])) rfl)) e7))).trans ?_), (lks_prs ps).set i lk, ?_, by rw [List.length_set]; exact l8, get_set g8, ((u05.trans hb (u6.trans b5 (u7.trans b6 u8)))).set hcl, b8.set hcn⟩
      · have ei : itemP h7 (.ref c) (.int i) = some (prD ps[i]) := by
          unfold itemP asDct ixP asQ asL L2.atI L2.ixN
          simp only [g7]
          simp [hi]
        unfold sAsg
        rw [eCall_ok (h1 := h7) (eCons_ok (x := .ref n) rfl (eCons_ok (x := prD ps[i]) (eOp_ok (x := .ref c) (y := .int i) rfl rfl ei) rfl)) e8, bindS_ok]
        unfold gSubM
        show bindS (R.bind (R.ok (D.ref c) h8) fun x h1 => R.bind (R.ok (D.int i) h1) _) _ _ = _
        rw [bind_ok, bind_ok]
        unfold setM L2.ixN
        simp only [g8, List.length_map]
        rw [if_pos (by omega), if_pos (by omega)]
        simp only [Option.map_some, bindS_ok, Int.toNat_natCast]
        rfl
      · intro x hx
        rcases List.mem_or_eq_of_mem_set hx with w | rfl
        · exact pl_prs ps x w
        · exact ⟨dd, hdd⟩
  obtain ⟨ds, rows, t3, h6, e6, lk6, pl6, l6, g6, u6, b6⟩ := s1
  -- one more
  have s2 : ∃ (ds2 : List D) (rows2 : List (List Str)) (h7 : Hd), sIf (tAndM neT (z3T K A)) (sDrop (eBmM insertM isL (eVar 2) (eCons (eCall (f__law_take K A) [] (eCons (eVar 0) (eCons (eOp addP (ePN lenP (eCons (eVar 2) eNil)) (eC (.int 1))) eNil))) (eCons (eCall (f__law_pick K A) [] (eCons (eVar 0) (eCons (eVar 2) eNil))) eNil)))) sNext [some (.ref n), some (.tmp (ms.map .str)), some (.ref c), t3, none] h6 = .nx [some (.ref n), some (.tmp (ms.map .str)), some (.ref c), t3, none] h7 ∧ Lks K A ds2 rows2 ∧ h7[c]? = some (.lst ds2) ∧ Up n h h7 ∧ BoxAt n h7 := by
    obtain ⟨b, h7, e7, hne, u7, b7⟩ := and3 (K := K) (A := A) (t1 := some (.tmp (ms.map .str))) (t3 := t3) (t4 := none) b6 g6 pl6
    have g7 := u7.get hcn g6
    cases b with
    | false => exact ⟨ds, rows, h7, (sIf_f e7).trans rfl, lk6, g7, u6.trans hb u7, b7⟩
    | true =>
      have hp0 : 0 < ds.length := List.length_pos_iff.mpr (hne rfl)
      obtain ⟨i, h8, e8, r8, u8, b8⟩ := take1 (K := K) (A := A) b7 ((ds.length : Int) + 1) (by omega) (by omega)
      have g8 := u8.get hcn g7
      obtain ⟨r, d, h9, e9, m9, u9, b9⟩ := pickR (K := K) (A := A) b8 g8 hcn hp0 (by omega)
      have g9 := u9.get hcn g8
      obtain ⟨ws, lk⟩ := lk6.get m9
      refine ⟨ds.take i ++ [d] ++ ds.drop i, rows.take i ++ [ws] ++ rows.drop i, h9.set c (.lst (ds.take i ++ [d] ++ ds.drop i)), (sIf_t e7).trans (sDrop_ok (insert_ok rfl g7 (eCons_ok (x := .int i) (eCall_ok (eCons_ok (x := .ref n) rfl (eCons_ok (x := .int ((ds.length : Int) + 1)) (eOp_ok (x := .int ds.length) (y := .int 1) (ePN_ok (eCons_ok (x := .ref c) rfl rfl) (len_ref g7)) rfl rfl) rfl)) e8) (eCons_ok (eCall_ok (eCons_ok (x := .ref n) rfl (eCons_ok (x := .ref c) rfl rfl)) e9) rfl)) g9 (by omega) (by omega))), ((lk6.take i).app (show Lks K A [d] [ws] from ⟨ws, [], rfl, lk, rfl⟩)).app (lk6.drop i), get_set g9, (u6.trans hb (u7.trans b6 (u8.trans b7 u9))).set hcl, b9.set hcn⟩
  obtain ⟨ds2, rows2, h7, e7, lk7, g7, u7, b7⟩ := s2
  refine ⟨ds2.take 8, rows2.take 8, h7, ?_, lk7.take 8, by rw [List.length_take]; omega, u7, b7⟩
  unfold f__law_pairs
  refine run_ret rfl ((sSeq_nx (sSet_ok (eTmp_ok (lComp_ok (itm := ⟨rangeD 0 (1 + r), always⟩) (h1 := h1) (range1_ok (k := 1 + r) (eOp_ok (x := .int 1) (y := .int r) rfl (eCall_ok (eCons_ok (x := .ref n) rfl (eCons_ok (x := .int 4) rfl rfl)) e1) ?_) (by omega)) e2 (by rw [List.length_map]; omega))))).trans ((sSeq_nx (σ' := [some (.ref n), some (.tmp (ms.map .str)), some (.ref c), none, none]) (h' := h5) ?_).trans ((sSeq_nx e6).trans ((sSeq_nx e7).trans (sRet_ok (eSl_ok (x := .ref c) rfl rfl (oSome_ok (i := 8) rfl) (by rw [sl_ref g7]; exact congrArg (fun z => some (D.tmp z)) (cut8 (i := 8)))))))))
  · unfold addP
    simp only
    congr 2
  · rw [← hh5, ← hc]
    exact sSet_ok (eNew_ok (lComp_ok (itm := ⟨rangeD 0 k, always⟩) (h1 := h3) (range1_ok (k := k) (eCall_ok (eCons_ok (x := .ref n) rfl (eCons_ok (x := .int 9) rfl rfl)) e3) (by omega)) e4 (by rw [List.length_map]; omega)))
end QL
/-! RP12: what is told; comparisons; what is in. -/
namespace QL
open PySem L2 Mi PM QG
variable {K : PySem.W.Frag} {A : Ad}
/-- what the head says of the classes -/
structure KQ (K : PySem.W.Frag) (A : Ad) : Prop where
  cls : ((PySem.W.clsIn K A.c_Promises).isSome && PySem.W.typeIn K (.ref A.c_Promises) == some (.type "type")) = true
  ask : PySem.W.kitOne K (.ref A.c_InvalidPromise) (.ref A.c_AskError) = some true
  val : PySem.W.kitOne K (.ref A.c_InvalidPromise) (.type "ValueError") = some true
  mis : PySem.W.kitOne K (.ref A.c_InvalidPromise) (.ref A.c_Misfit) = some false
theorem told1 {h : Hd} {d : D} {ds : List D} {rows : List (List Str)} (kq : KQ K A) (s : Src h d ds) (lks : Lks K A ds rows) (hn : rows.length ≤ 63) :
    (match chk [] 0 rows with
      | .inl i => ∃ j, f__law_told K A [d] h = .ok (.tup [.int i, .bl true]) (h ++ j)
      | .inr ps => ∃ j, f__law_told K A [d] h = .ok (.ref h.length) (h ++ prO A (ord key ps) :: j)) := by
  have e0 : sSet 1 (eC .non) [some d, none, none, none] h = .nx [some d, some .non, none, none] h := rfl
  have m := make1 (K := K) (A := A) (h := h) (h1 := h) (σ := [some d, some .non, none, none]) (a := eCons (eVar 0) eNil) (dds := []) (ds := [d]) rfl rfl s lks hn
  unfold f__law_told
  cases z : chk [] 0 rows with
  | inl i =>
    rw [z] at m
    obtain ⟨j, e⟩ := m
    refine ⟨j, ?_⟩
    have eb : sSet 1 (eMake A.c_Promises (f_Promises___init__ K A) [] (eCons (eVar 0) eNil)) [some d, some .non, none, none] h = .exc A.c_InvalidPromise (some [("at", .int i)]) [some d, some .non, none, none] (h ++ j) := sSet_exc e
    refine run_ret rfl ((sSeq_nx e0).trans ((sSeq_nx (σ' := [some d, some (.tup [.int i, .bl true]), none, some (.bl true)]) (h' := h ++ j) ?_).trans (sRet_ok rfl)))
    unfold sTry
    rw [eb]
    simp only
    rw [if_pos trivial, if_pos (by simp)]
    have x1 : ∀ σ h, eXit K A.c_InvalidPromise (eCons (eC (.adr A.c_AskError)) eNil) σ h = .ok (.bl true) h := fun σ h => by
      unfold eXit
      rw [show (eCons (eC (.adr A.c_AskError)) eNil) σ h = R.ok [.adr A.c_AskError] h from rfl, bind_ok]
      simp only [clsD, Option.bind_some, kq.ask, Option.map_some, ofO_some]
    have x2 : ∀ σ h, eXit K A.c_InvalidPromise (eCons (eC (.ty "ValueError")) eNil) σ h = .ok (.bl true) h := fun σ h => by
      unfold eXit
      rw [show (eCons (eC (.ty "ValueError")) eNil) σ h = R.ok [.ty "ValueError"] h from rfl, bind_ok]
      simp only [clsD, Option.bind_some, kq.val, Option.map_some, ofO_some]
    have x3 : ∀ σ h, eXit K A.c_InvalidPromise (eCons (eC (.adr A.c_Misfit)) eNil) σ h = .ok (.bl false) h := fun σ h => by
      unfold eXit
      rw [show (eCons (eC (.adr A.c_Misfit)) eNil) σ h = R.ok [.adr A.c_Misfit] h from rfl, bind_ok]
      simp only [clsD, Option.bind_some, kq.mis, Option.map_some, ofO_some]
    rw [sSeq_nx (sSet_ok ((eAnd_t (x1 _ _)).trans ((eAnd_t (x2 _ _)).trans (eNot_ok (x3 _ _)))))]
    rfl
  | inr ps =>
    rw [z] at m
    obtain ⟨j, e⟩ := m
    refine ⟨j, ?_⟩
    have eb : sSet 1 (eMake A.c_Promises (f_Promises___init__ K A) [] (eCons (eVar 0) eNil)) [some d, some .non, none, none] h = .nx [some d, some (.ref h.length), none, none] (h ++ prO A (ord key ps) :: j) := sSet_ok e
    refine run_ret rfl ((sSeq_nx e0).trans ((sSeq_nx (σ' := [some d, some (.ref h.length), none, none]) (h' := h ++ prO A (ord key ps) :: j) ?_).trans (sRet_ok rfl)))
    unfold sTry
    rw [eb]
/-! ### Promises compared -/
theorem sub_str {C : Addr} : PySem.W.subIn K (.type "str") (.ref C) = some false := by kernel_rfl
theorem sub_int {C : Addr} : PySem.W.subIn K (.type "int") (.ref C) = some false := by kernel_rfl
theorem sub_tup {C : Addr} : PySem.W.subIn K (.type "tuple") (.ref C) = some false := by kernel_rfl
theorem sub_lst {C : Addr} : PySem.W.subIn K (.type "list") (.ref C) = some false := by kernel_rfl
theorem sub_non {C : Addr} : PySem.W.subIn K (.type "NoneType") (.ref C) = some false := by kernel_rfl
theorem k_type {T : String} (kq : KQ K A) (h : PySem.W.subIn K (.type T) (.ref A.c_Promises) = some false) : PySem.W.kitOne K (.type T) (.ref A.c_Promises) = some false := by
  unfold PySem.W.kitOne
  rw [if_neg (by simp)]
  unfold PySem.W.kitCls
  simp only
  rw [if_pos kq.cls, h]
theorem own_ok {F : Fn} {neg : Bool} {G : P2} {a b : E} {σ : Mi.Env} {h h1 h2 : Hd} {n : Nat} {qs : List Pr} {y : D} {tb : Value} {v : Bool} (ea : a σ h = .ok (.ref n) h1) (eb : b σ h1 = .ok y h2) (en : h2[n]? = some (prO A qs)) (et : tyD (csOf A) h2 y = some tb) (ef : PySem.W.notFirst K A.c_Promises tb = true) (eF : F [.ref n, y] h2 = .ok (.bl v) h2) :
    eOwn K (csOf A) A.c_Promises F neg G a b σ h = .ok (.bl (if neg then !v else v)) h2 := by
  unfold eOwn
  rw [ea, bind_ok, eb, bind_ok]
  simp only [en, prO, if_true, et, ef, eF, noX]
  cases neg <;> rfl
theorem eq_other {h : Hd} {l l' : List Pr} (hl : l.length ≠ l'.length) : eqB h (.tup (l.map prD)) (.tup (l'.map prD)) = some false := by
  unfold eqB
  simp only [toP, toP0, toP_rows, Option.map_some]
  have := dep_rows l
  rw [if_pos (by rw [PyData.depth]; omega)]
  congr 1
  rw [PyData.eqv]
  exact PySem.SeqAt.eqvAll_other_length (by rw [List.length_map, List.length_map]; exact hl)
theorem pr_cmp {h : Hd} {n m : Nat} {qs rs : List Pr} {v : Bool} (en : h[n]? = some (prO A qs)) (em : h[m]? = some (prO A rs)) (e : eqB h (.tup (qs.map prD)) (.tup (rs.map prD)) = some v) : f_Promises___eq__ K A [.ref n, .ref m] h = .ok (.bl v) h := by
  unfold f_Promises___eq__
  refine run_ret rfl (sRet_ok ((eAnd_t (ePN_ok (xs := [.ref m, .adr A.c_Promises]) rfl (isi_pr em))).trans (eOp_ok (fld1 rfl en) (fld1 rfl em) ?_)))
  unfold eqP
  rw [e]
  rfl
theorem pr_no {h : Hd} {n : Nat} {y : D} {T : String} (kq : KQ K A) (et : tyD (csOf A) h y = some (.type T)) (hs : PySem.W.subIn K (.type T) (.ref A.c_Promises) = some false) : f_Promises___eq__ K A [.ref n, y] h = .ok (.bl false) h := by
  unfold f_Promises___eq__
  refine run_ret rfl (sRet_ok (eAnd_f (ePN_ok (xs := [y, .adr A.c_Promises]) rfl ?_)))
  show ((tyD (csOf A) h y).bind fun t => (clsD (.adr A.c_Promises)).bind fun u => (PySem.W.kitOne K t u).map D.bl) = _
  rw [et, Option.bind_some]
  simp only [clsD, Option.bind_some, k_type kq hs, Option.map_some]
/-! ### len, in -/
theorem len1 {h : Hd} {n : Nat} {qs : List Pr} (en : h[n]? = some (prO A qs)) : f_Promises___len__ K A [.ref n] h = .ok (.int qs.length) h := by
  unfold f_Promises___len__
  refine run_ret rfl (sRet_ok (ePN_ok (eCons_ok (fld1 rfl en) rfl) ?_))
  rw [len_tup, List.length_map]
theorem okLen_small : ∀ n : Nat, n < 101 → okLen (.int (n : Int)) = true := by decide +kernel
theorem ownC_gen {C : Addr} {F : Fn} {ok : D → Bool} {G : PN} {ms : EA} {σ : Mi.Env} {h h1 : Hd} {x v : D} (e : ms σ h = .ok [x] h1) (is : isIns C h1 x = true) (eF : F [x] h1 = .ok v h1) (hk : ok v = true) : eOwnC C F ok G ms σ h = .ok v h1 := by
  unfold eOwnC
  rw [e, bind_ok]
  simp only
  rw [if_pos is, eF]
  simp only [noX, bind_ok]
  rw [if_pos hk]
theorem ownLen {ms : EA} {σ : Mi.Env} {h h1 : Hd} {n : Nat} {qs : List Pr} (e : ms σ h = .ok [.ref n] h1) (en : h1[n]? = some (prO A qs)) (hn : qs.length ≤ 100) :
    eOwnC A.c_Promises (f_Promises___len__ K A) okLen lenP ms σ h = .ok (.int qs.length) h1 :=
  ownC_gen e (by unfold isIns; simp only [en, prO]; simp) (len1 en) (okLen_small _ (by omega))
theorem inB_pl {h : Hd} {d : D} {p : PyData} {qs : List Pr} (ep : toP h d = some p) (hd : flatD d = false ∨ ∀ q : Pr, PyData.eqv (prP q) p = false) : inB h d (.tup (qs.map prD)) = some (qs.any fun q => PyData.eqv (prP q) p) := by
  show seqIn h d (qs.map prD) = _
  unfold seqIn
  have two : (match toP h d, toP0s (qs.map prD) with
    | some p, some ps => if min (PyData.depthAll ps) p.depth ≤ 64 then some (ps.any fun z => PyData.eqv z p) else none
    | _, _ => none) = some (qs.any fun q => PyData.eqv (prP q) p) := by
    rw [ep, toP_rows]
    simp only
    have := dep_rows qs
    rw [if_pos (by omega), List.any_map]
    rfl
  by_cases z : (flatD d && (qs.map prD).all flatD) = true
  · rw [if_pos z]
    rcases hd with hd | hd
    · rw [hd] at z; cases z
    · cases qs with
      | nil => rfl
      | cons q r =>
        rw [List.map_cons, List.all_cons, show flatD (prD q) = false from rfl] at z
        simp at z
  · rw [if_neg z]
    exact two
theorem ownIn1 {h h1 h2 : Hd} {σ : Mi.Env} {a b : E} {n : Nat} {d : D} {qs : List Pr} {v : Bool} (ea : a σ h = .ok d h1) (eb : b σ h1 = .ok (.ref n) h2) (en : h2[n]? = some (prO A qs)) (e : inB h2 d (.tup (qs.map prD)) = some v) :
    eOwnI A.c_Promises (f_Promises___contains__ K A) inP a b σ h = .ok (.bl v) h2 := by
  have ec : f_Promises___contains__ K A [.ref n, d] h2 = .ok (.bl v) h2 := by
    unfold f_Promises___contains__
    refine run_ret rfl (sRet_ok (eOp_ok (x := d) rfl (fld1 rfl en) ?_))
    unfold inP
    rw [e]
    rfl
  unfold eOwnI
  rw [ea, bind_ok, eb, bind_ok]
  unfold ownI
  simp only [en, prO, if_true, ec, noX, bind_ok]
end QL
/-! RP13: whether promises are these rows. -/
namespace QL
open PySem L2 Mi PM QG
variable {K : PySem.W.Frag} {A : Ad}
theorem ne_int_self {h : Hd} {a : Int} : neP h (.int a) (.int a) = some (.bl false) := by
  unfold neP
  rw [eqB_int, Option.map_some]
  simp
theorem ne_str_self {h : Hd} {a : Str} : neP h (.str a) (.str a) = some (.bl false) := by
  unfold neP
  rw [eqB_str, Option.map_some]
  simp
theorem ne_bl_self {h : Hd} {v : Bool} : neP h (.bl v) (.bl v) = some (.bl false) := by
  cases v <;> simp [neP, eqB, toP, toP0, PyData.depth, PyData.eqv]
theorem eq_bl_not {h : Hd} {v : Bool} : eqP h (.bl (!v)) (.bl v) = some (.bl false) := by
  cases v <;> simp [eqP, eqB, toP, toP0, PyData.depth, PyData.eqv]
theorem add_tup {h : Hd} {xs ys : List D} (hl : xs.length + ys.length ≤ 10000) : addP h (.tup xs) (.tup ys) = some (.tup (xs ++ ys)) := by
  unfold addP
  simp only
  rw [if_pos (by unfold line; omega)]
theorem cut1 {xs : List D} : cutD xs (some ((1 : Nat) : Int)) none = xs.drop 1 := by
  by_cases z : 1 ≤ xs.length
  · exact cut_drop z
  · cases xs with
    | nil => rfl
    | cons a r => simp at z
theorem any_false {qs : List Pr} {p : PyData} (h : ∀ q : Pr, PyData.eqv (prP q) p = false) : (qs.any fun q => PyData.eqv (prP q) p) = false := by
  rw [List.any_eq_false]
  intro q _
  rw [h q]
  simp
theorem in_no {h : Hd} {d : D} {p : PyData} {qs : List Pr} (ep : toP h d = some p) (hd : ∀ q : Pr, PyData.eqv (prP q) p = false) : inB h d (.tup (qs.map prD)) = some false := by
  rw [inB_pl ep (.inr hd), any_false hd]
abbrev oD (qs : List Pr) : List D := [.non, .int 7, .str "bare add", .tup []] ++ (qs.map fun q => D.tmp [.str q.1, .str q.2]) ++ (qs.map fun q => D.tup [.str q.1])
theorem in_odd {h : Hd} {qs : List Pr} : ∀ d ∈ oD qs, inB h d (.tup (qs.map prD)) = some false := by
  intro d hd
  rcases List.mem_append.mp hd with hd | hd
  · rcases List.mem_append.mp hd with hd | hd
    · simp only [List.mem_cons, List.mem_nil_iff, or_false] at hd
      rcases hd with rfl | rfl | rfl | rfl
      · exact in_no rfl fun q => by simp [prP, PyData.eqv]
      · exact in_no rfl fun q => by simp [prP, PyData.eqv]
      · exact in_no rfl fun q => by simp [prP, PyData.eqv]
      · exact in_no (p := .tuple []) rfl fun q => by simp [prP, PyData.eqv, PyData.eqvAll]
    · obtain ⟨q, _, rfl⟩ := List.mem_map.mp hd
      exact in_no (p := .list [.str q.1, .str q.2]) rfl fun q => by simp [prP, PyData.eqv]
  · obtain ⟨q, _, rfl⟩ := List.mem_map.mp hd
    exact in_no (p := .tuple [.str q.1]) rfl fun q => by simp [prP, PyData.eqv, PyData.eqvAll]
theorem filter_none {xs : List D} {F : D → D} : ((xs.filter fun _ => false).map F) = [] := by
  induction xs with
  | nil => rfl
  | cons a r ih => simpa using ih
theorem txt_len3 {qs : List Pr} (ho : ∀ q ∈ qs, okp q) (hn : qs.length ≤ 8) : (txt qs).length ≤ 140 := by
  have := txt_len ho
  omega
theorem set_right1 {n q : Nat} {h : Hd} {qs : List Pr} (kq : KQ K A) (hb : BoxAt n h) (en : h[q]? = some (prO A qs)) (ho : ∀ p ∈ qs, okp p) (nb : NoBar qs) (eo : ord key qs = qs) (hl : qs.length ≤ 8) :
    ∃ h', f__law_set_right K A [.ref n, .ref q, .tup (qs.map prD)] h = .ok (.bl true) h' ∧ Up n h h' ∧ BoxAt n h' := by
  have hqn : q ≠ n := by
    rintro rfl
    obtain ⟨x, s, c, e⟩ := hb
    rw [en] at e
    cases e
  have inj : ∀ x ∈ qs, ∀ y ∈ qs, key x = key y → x = y := fun x hx y hy e => key_inj (ho x hx) (ho y hy) e
  have lt := txt_len3 ho hl
  have zq : chk [] 0 (rowsT (txt qs)) = .inr qs := by
    rw [rows_txt ho]
    have := chk_of (new := qs) (done := []) (i := 0) ho (by simpa using nb)
    simpa using this
  have r1 := read1 (K := K) (A := A) (h := h) (T := txt qs) (by omega) (by rw [rows_txt ho, List.length_map]; omega)
  rw [zq] at r1
  obtain ⟨j1, e1⟩ := r1
  rw [eo] at e1
  have n1 : (h ++ prO A qs :: j1)[h.length]? = some (prO A qs) := by simp
  have q1 : (h ++ prO A qs :: j1)[q]? = some (prO A qs) := by rw [List.getElem?_append_left (get_lt en), en]
  have b1 : BoxAt n (h ++ prO A qs :: j1) := hb.push _
  have u1 : Up n h (h ++ prO A qs :: j1) := (Up.refl hb).push _
  generalize hh1 : h ++ prO A qs :: j1 = h1 at *
  obtain ⟨q2, c, h2, e2, pm, g2, hc2, u2, b2⟩ := mixed1 (K := K) (A := A) (ps := qs ++ qs.take 1) b1 (by rw [List.length_append, List.length_take]; omega)
  have mem2 : ∀ z, z ∈ q2 ↔ z ∈ qs := fun z => by
    rw [pm.mem_iff, List.mem_append]
    exact ⟨fun w => w.elim id List.mem_of_mem_take, .inl⟩
  have o2 : ∀ p ∈ q2, okp p := fun p hp => ho p ((mem2 p).mp hp)
  have l2 : q2.length ≤ 9 := by rw [pm.length_eq, List.length_append, List.length_take]; omega
  have z2 : chk [] 0 (q2.map two) = .inr q2 := by
    have := chk_of (new := q2) (done := []) (i := 0) o2 (by simpa using nb.sub fun x hx => (mem2 x).mp hx)
    simpa using this
  have eo2 : ord key q2 = qs := by
    rw [ord_eq (fun x hx y hy e => key_inj (o2 x hx) (o2 y hy) e) mem2, eo]
  have m2 := make1 (K := K) (A := A) (h := h1) (h1 := h2) (σ := [some (.ref n), some (.ref q), some (.tup (qs.map prD)), some (.str "calm"), some (.tmp (oD qs)), some (.str "add"), none, none, none, none]) (a := eCons (eCall (f__law_mixed K A) [] (eCons (eVar 0) (eCons (eOp addP (eVar 2) (eSl (eVar 2) oNone (oSome (eC (.int 1))))) eNil))) eNil) (dds := []) (ds := [.ref c])
    (eCons_ok (eCall_ok (eCons_ok (x := .ref n) rfl (eCons_ok (x := .tup ((qs ++ qs.take 1).map prD)) (eOp_ok (x := .tup (qs.map prD)) (y := .tup ((qs.take 1).map prD)) rfl (eSl_ok (x := .tup (qs.map prD)) rfl rfl (oSome_ok (i := 1) rfl) (by show some (D.tup (cutD (qs.map prD) none (some ((1 : Nat) : Int)))) = _; rw [cut8, List.map_take])) (by rw [add_tup (by rw [List.length_map, List.length_map, List.length_take]; omega), List.map_append])) rfl)) e2) rfl) rfl (src_ref g2) (lks_prs q2) (by rw [List.length_map]; omega)
  rw [z2] at m2
  obtain ⟨j2, e3⟩ := m2
  rw [eo2] at e3
  have q2' : h2[q]? = some (prO A qs) := u2.get hqn q1
  have s3 : (h2 ++ prO A qs :: j2)[h2.length]? = some (prO A qs) := by simp
  have q3 : (h2 ++ prO A qs :: j2)[q]? = some (prO A qs) := by rw [List.getElem?_append_left (get_lt q2'), q2']
  have b3 : BoxAt n (h2 ++ prO A qs :: j2) := b2.push _
  have u3 : Up n h (h2 ++ prO A qs :: j2) := (u1.trans hb u2).push _
  generalize hh3 : h2 ++ prO A qs :: j2 = h3 at *
  have o4 : ∀ p ∈ qs.drop 1, okp p := fun p hp => ho p (List.mem_of_mem_drop hp)
  have z4 : chk [] 0 ((qs.drop 1).map two) = .inr (qs.drop 1) := by
    have := chk_of (new := qs.drop 1) (done := []) (i := 0) o4 (by rw [List.nil_append]; exact nb.sub fun x hx => List.mem_of_mem_drop hx)
    rw [List.nil_append] at this
    exact this
  have m4 := make1 (K := K) (A := A) (h := h3) (h1 := h3) (σ := [some (.ref n), some (.ref q), some (.tup (qs.map prD)), some (.str "calm"), some (.tmp (oD qs)), some (.str "add"), none, none, none, none]) (a := eCons (eSl (eVar 2) (oSome (eC (.int 1))) oNone) eNil) (dds := []) (ds := [.tup ((qs.drop 1).map prD)])
    (eCons_ok (eSl_ok (x := .tup (qs.map prD)) rfl (oSome_ok (i := 1) rfl) rfl (by show some (D.tup (cutD (qs.map prD) (some ((1 : Nat) : Int)) none)) = _; rw [cut1, List.map_drop])) rfl) rfl src_tup (lks_prs (qs.drop 1)) (by rw [List.length_map, List.length_drop]; omega)
  rw [z4] at m4
  obtain ⟨j4, e4⟩ := m4
  have ll : (ord key (qs.drop 1)).length ≤ qs.length - 1 := by
    have := ord_len key (qs.drop 1)
    rw [List.length_drop] at this
    exact this
  generalize hls : ord key (qs.drop 1) = ls at *
  have k4 : (h3 ++ prO A ls :: j4)[h3.length]? = some (prO A ls) := by simp
  have s4 : (h3 ++ prO A ls :: j4)[h2.length]? = some (prO A qs) := by rw [List.getElem?_append_left (get_lt s3), s3]
  have q4 : (h3 ++ prO A ls :: j4)[q]? = some (prO A qs) := by rw [List.getElem?_append_left (get_lt q3), q3]
  have b4 : BoxAt n (h3 ++ prO A ls :: j4) := b3.push _
  have u4 : Up n h (h3 ++ prO A ls :: j4) := u3.push _
  have eql : eqB (h3 ++ prO A ls :: j4) (.tup (qs.map prD)) (.tup (ls.map prD)) = some ((qs.length : Int) == 0) := by
    cases z : qs with
    | nil =>
      have : ls = [] := by rw [z] at ll; exact List.length_eq_zero_iff.mp (by simpa using ll)
      rw [this]
      exact eq_rows (l := [])
    | cons a r =>
      rw [eq_other (by rw [z] at ll; simp at ll ⊢; omega)]
      congr 1
  generalize hh4 : h3 ++ prO A ls :: j4 = h4 at *
  -- the test by words and methods
  have inn : ∀ w m : Str, ∃ v, inB h1 (.tup [.str w, .str m]) (.tup (qs.map prD)) = some v := fun w m => ⟨_, inB_pl (p := .tuple [.str w, .str m]) rfl (.inl rfl)⟩
  have body : ∀ (w m : Str) (t4 t6 t7 t8 t9 : Option D), sIf (tOpT neP (eOwnI A.c_Promises (f_Promises___contains__ K A) inP (eTup (eCons (eVar 3) (eCons (eVar 5) eNil))) (eVar 1)) (eOp inP (eTup (eCons (eVar 3) (eCons (eVar 5) eNil))) (eVar 2))) (sRet (eC (.bl false))) sNext [some (.ref n), some (.ref q), some (.tup (qs.map prD)), some (.str w), t4, some (.str m), t6, t7, t8, t9] h1 = .nx [some (.ref n), some (.ref q), some (.tup (qs.map prD)), some (.str w), t4, some (.str m), t6, t7, t8, t9] h1 := by
    intro w m t4 t6 t7 t8 t9
    obtain ⟨v, ev⟩ := inn w m
    refine (sIf_f (tOpT_ok (eOp_ok (x := .bl v) (y := .bl v) (ownIn1 (d := .tup [.str w, .str m]) rfl rfl q1 ev) (eOp_ok (x := .tup [.str w, .str m]) (y := .tup (qs.map prD)) rfl rfl ?_) ne_bl_self))).trans rfl
    unfold inP
    rw [ev]
    rfl
  have inner : ∀ (w : Str) (t5 : Option D), Mi.forM (gPat (aNm 5)) (sIf (tOpT neP (eOwnI A.c_Promises (f_Promises___contains__ K A) inP (eTup (eCons (eVar 3) (eCons (eVar 5) eNil))) (eVar 1)) (eOp inP (eTup (eCons (eVar 3) (eCons (eVar 5) eNil))) (eVar 2))) (sRet (eC (.bl false))) sNext) always ((qs.map fun q => D.str q.2) ++ [.str "add"]) [some (.ref n), some (.ref q), some (.tup (qs.map prD)), some (.str w), none, t5, none, none, none, none] h1 = .nx [some (.ref n), some (.ref q), some (.tup (qs.map prD)), some (.str w), none, some (.str "add"), none, none, none, none] h1 := by
    intro w t5
    generalize hms : qs.map (fun q => D.str q.2) = xs
    have hx : ∀ x ∈ xs, ∃ m, x = D.str m := fun x hx => by
      rw [← hms] at hx
      obtain ⟨p, _, rfl⟩ := List.mem_map.mp hx
      exact ⟨_, rfl⟩
    clear hms
    induction xs generalizing t5 with
    | nil =>
      rw [List.nil_append, Mi.forM, if_pos (show always h1 = true from rfl)]
      show (match sIf _ _ _ [some (.ref n), some (.ref q), some (.tup (qs.map prD)), some (.str w), none, some (.str "add"), none, none, none, none] h1 with
        | .nx σ2 h2 => _
        | .ct σ2 h2 => _
        | .brk σ2 h2 => _
        | r => r) = _
      rw [body]
      rfl
    | cons x xs ih =>
      obtain ⟨m, rfl⟩ := hx x (List.mem_cons_self ..)
      rw [List.cons_append, Mi.forM, if_pos (show always h1 = true from rfl)]
      show (match sIf _ _ _ [some (.ref n), some (.ref q), some (.tup (qs.map prD)), some (.str w), none, some (.str m), none, none, none, none] h1 with
        | .nx σ2 h2 => _
        | .ct σ2 h2 => _
        | .brk σ2 h2 => _
        | r => r) = _
      rw [body]
      exact ih _ fun y hy => hx y (List.mem_cons_of_mem _ hy)
  have cm : ∀ (w : Str) (t5 : Option D), iAll (eOp addP (eTmp (lComp (iAll (eVar 2)) (aNm 8) tYesM (eOp itemP (eVar 8) (eC (.int 1))) [8])) (eTmp (lLst (eCons (eC (.str "add")) eNil)))) [some (.ref n), some (.ref q), some (.tup (qs.map prD)), some (.str w), none, t5, none, none, none, none] h1 = .ok ⟨(qs.map fun q => D.str q.2) ++ [.str "add"], always⟩ h1 := by
    intro w t5
    refine iAll_ok (d := .tmp ((qs.map fun q => D.str q.2) ++ [.str "add"])) (eOp_ok (x := .tmp (qs.map fun q => D.str q.2)) (y := .tmp [.str "add"]) (eTmp_ok (lComp_ok (itm := ⟨qs.map prD, always⟩) (h1 := h1) (iAll_ok (d := .tup (qs.map prD)) rfl rfl) ((comp_map (F := fun x => match x with
      | .tup [_, b] => b
      | _ => .non) rfl _ ?_).trans ?_) (by rw [List.length_map]; omega))) rfl (add_tmp (by rw [List.length_map]; simp; omega))) rfl
    · intro x hx
      obtain ⟨p, _, rfl⟩ := List.mem_map.mp hx
      exact ⟨_, rfl, eOp_ok (x := prD p) (y := .int 1) rfl rfl rfl⟩
    · rw [List.map_map]
      rfl
  have outer : ∀ (w1 w2 w3 : Str) (t3 t5 : Option D), Mi.forM (gPat (aNm 3)) (sFor (iAll (eOp addP (eTmp (lComp (iAll (eVar 2)) (aNm 8) tYesM (eOp itemP (eVar 8) (eC (.int 1))) [8])) (eTmp (lLst (eCons (eC (.str "add")) eNil))))) (gPat (aNm 5)) (sIf (tOpT neP (eOwnI A.c_Promises (f_Promises___contains__ K A) inP (eTup (eCons (eVar 3) (eCons (eVar 5) eNil))) (eVar 1)) (eOp inP (eTup (eCons (eVar 3) (eCons (eVar 5) eNil))) (eVar 2))) (sRet (eC (.bl false))) sNext)) always [.str w1, .str w2, .str w3] [some (.ref n), some (.ref q), some (.tup (qs.map prD)), t3, none, t5, none, none, none, none] h1 = .nx [some (.ref n), some (.ref q), some (.tup (qs.map prD)), some (.str w3), none, some (.str "add"), none, none, none, none] h1 := by
    intro w1 w2 w3 t3 t5
    have one : ∀ (w : Str) (t5 : Option D), sFor (iAll (eOp addP (eTmp (lComp (iAll (eVar 2)) (aNm 8) tYesM (eOp itemP (eVar 8) (eC (.int 1))) [8])) (eTmp (lLst (eCons (eC (.str "add")) eNil))))) (gPat (aNm 5)) (sIf (tOpT neP (eOwnI A.c_Promises (f_Promises___contains__ K A) inP (eTup (eCons (eVar 3) (eCons (eVar 5) eNil))) (eVar 1)) (eOp inP (eTup (eCons (eVar 3) (eCons (eVar 5) eNil))) (eVar 2))) (sRet (eC (.bl false))) sNext) [some (.ref n), some (.ref q), some (.tup (qs.map prD)), some (.str w), none, t5, none, none, none, none] h1 = .nx [some (.ref n), some (.ref q), some (.tup (qs.map prD)), some (.str w), none, some (.str "add"), none, none, none, none] h1 := fun w t5 => sFor_ok (cm w t5) (inner w t5)
    have st : ∀ (w : Str) (rest : List D) (t3 t5 : Option D), Mi.forM (gPat (aNm 3)) (sFor (iAll (eOp addP (eTmp (lComp (iAll (eVar 2)) (aNm 8) tYesM (eOp itemP (eVar 8) (eC (.int 1))) [8])) (eTmp (lLst (eCons (eC (.str "add")) eNil))))) (gPat (aNm 5)) (sIf (tOpT neP (eOwnI A.c_Promises (f_Promises___contains__ K A) inP (eTup (eCons (eVar 3) (eCons (eVar 5) eNil))) (eVar 1)) (eOp inP (eTup (eCons (eVar 3) (eCons (eVar 5) eNil))) (eVar 2))) (sRet (eC (.bl false))) sNext)) always (.str w :: rest) [some (.ref n), some (.ref q), some (.tup (qs.map prD)), t3, none, t5, none, none, none, none] h1 = Mi.forM (gPat (aNm 3)) (sFor (iAll (eOp addP (eTmp (lComp (iAll (eVar 2)) (aNm 8) tYesM (eOp itemP (eVar 8) (eC (.int 1))) [8])) (eTmp (lLst (eCons (eC (.str "add")) eNil))))) (gPat (aNm 5)) (sIf (tOpT neP (eOwnI A.c_Promises (f_Promises___contains__ K A) inP (eTup (eCons (eVar 3) (eCons (eVar 5) eNil))) (eVar 1)) (eOp inP (eTup (eCons (eVar 3) (eCons (eVar 5) eNil))) (eVar 2))) (sRet (eC (.bl false))) sNext)) always rest [some (.ref n), some (.ref q), some (.tup (qs.map prD)), some (.str w), none, some (.str "add"), none, none, none, none] h1 := by
      intro w rest t3 t5
      rw [Mi.forM, if_pos (show always h1 = true from rfl)]
      show (match sFor _ _ _ [some (.ref n), some (.ref q), some (.tup (qs.map prD)), some (.str w), none, t5, none, none, none, none] h1 with
        | .nx σ2 h2 => _
        | .ct σ2 h2 => _
        | .brk σ2 h2 => _
        | r => r) = _
      rw [one w t5]
    rw [st, st, st, Mi.forM, if_pos (show always h1 = true from rfl)]
  have co : ∀ (o : D) (tb : String), (∀ h, tyD (csOf A) h o = some (.type tb)) → PySem.W.subIn K (.type tb) (.ref A.c_Promises) = some false → ∀ (σ : Mi.Env), σ[1]? = some (some (.ref q)) → σ[9]? = some (some o) → tOrM (tVal (eOwn K (csOf A) A.c_Promises (f_Promises___eq__ K A) false eqP (eVar 1) (eVar 9))) (tNotM (tVal (eOwn K (csOf A) A.c_Promises (f_Promises___eq__ K A) true neP (eVar 1) (eVar 9)))) σ h4 = .ok false h4 := by
    intro o tb ht hs σ e1 e9
    have v1 : eVar 1 σ h4 = .ok (.ref q) h4 := by unfold eVar; rw [e1]
    have v9 : eVar 9 σ h4 = .ok o h4 := by unfold eVar; rw [e9]
    have nf : PySem.W.notFirst K A.c_Promises (.type tb) = true := by simp [PySem.W.notFirst, hs]
    exact (tOr_f (tVal_ok (own_ok (neg := false) v1 v9 q4 (ht h4) nf (pr_no kq (ht h4) hs)))).trans (tNot_ok (c := true) (tVal_ok (own_ok (neg := true) v1 v9 q4 (ht h4) nf (pr_no kq (ht h4) hs))))
  refine ⟨h4, ?_, u4, b4⟩
  unfold f__law_set_right
  refine run_ret rfl ?_
  refine (sSeq_nx (σ' := [some (.ref n), some (.ref q), some (.tup (qs.map prD)), none, none, none, none, none, none, none]) (h' := h) ?s1).trans ?_
  case s1 =>
    refine (sIf_f ((tOr_f (tNot_ok (c := true) (tVal_ok (ePN_ok (eCons_ok (x := .ref q) rfl (eCons_ok rfl rfl)) (isi_pr en))))).trans (tOpT_ok (eOp_ok (ownLen (eCons_ok rfl rfl) en (by omega)) (ePN_ok (eCons_ok rfl rfl) (by rw [len_tup, List.length_map])) ne_int_self)))).trans rfl
  refine (sSeq_nx (σ' := [some (.ref n), some (.ref q), some (.tup (qs.map prD)), none, none, none, none, none, none, none]) (h' := h1) ?s2).trans ?_
  case s2 =>
    have es : ∀ σ : Mi.Env, σ[1]? = some (some (.ref q)) → eOwnC A.c_Promises (f_Promises___str__ K A) okStr strP (eCons (eVar 1) eNil) σ h = .ok (.str (txt qs)) h := fun σ e => ownStr (n := q) (eCons_ok (by unfold eVar; rw [e]) rfl) en ho (by omega)
    have cr : eCMeth A.c_Promises (f_Promises_read K A) (eC (.adr A.c_Promises)) (eCons (eOwnC A.c_Promises (f_Promises___str__ K A) okStr strP (eCons (eVar 1) eNil)) eNil) [some (.ref n), some (.ref q), some (.tup (qs.map prD)), none, none, none, none, none, none, none] h = .ok (.ref h.length) h1 := by
      unfold eCMeth
      rw [show eC (.adr A.c_Promises) _ h = R.ok (.adr A.c_Promises) h from rfl, bind_ok]
      simp only
      rw [if_pos trivial, eCons_ok (es _ rfl) rfl, bind_ok]
      exact e1
    refine (sIf_f ((tOr_f (tOpT_ok (eOp_ok (es _ rfl) (eBm_ok rfl rfl (eCons_ok (eTmp_ok (lComp_ok (itm := ⟨qs.map prD, always⟩) (iAll_ok (d := .tup (qs.map prD)) rfl rfl) (keys_comp rfl (by simp) ho) (by rw [List.length_map]; omega))) rfl) (join_keys rfl ho (by omega))) ne_str_self))).trans (tVal_ok (own_ok (neg := true) (y := .ref q) cr rfl n1 (ty_pr q1) nf_pr (pr_eq n1 q1))))).trans rfl
  refine (sSeq_nx (sFor_ok (itm := ⟨[.str "bare", .str "has", .str "calm"], always⟩) rfl (outer _ _ _ _ _))).trans ?_
  refine (sSeq_nx (sSet_ok (d := .tmp (oD qs)) (h' := h1) ?s4)).trans ?_
  case s4 =>
    refine eOp_ok (x := .tmp ([.non, .int 7, .str "bare add", .tup []] ++ (qs.map fun q => D.tmp [.str q.1, .str q.2]))) (y := .tmp (qs.map fun q => D.tup [.str q.1])) (eOp_ok (x := .tmp [.non, .int 7, .str "bare add", .tup []]) (y := .tmp (qs.map fun q => D.tmp [.str q.1, .str q.2])) rfl (eTmp_ok (lComp_ok (itm := ⟨qs.map prD, always⟩) (h1 := h1) (iAll_ok (d := .tup (qs.map prD)) rfl rfl) ((comp_map (F := fun x => match x with
      | .tup xs => .tmp xs
      | _ => .non) rfl _ ?_).trans ?_) (by rw [List.length_map]; omega))) (add_tmp (by rw [List.length_map]; simp; omega))) (eTmp_ok (lComp_ok (itm := ⟨qs.map prD, always⟩) (h1 := h1) (iAll_ok (d := .tup (qs.map prD)) rfl rfl) ((comp_map (F := fun x => match x with
      | .tup [a, _] => .tup [a]
      | _ => .non) rfl _ ?_).trans ?_) (by rw [List.length_map]; omega))) (add_tmp (by rw [List.length_append, List.length_map, List.length_map]; simp; omega))
    · intro x hx
      obtain ⟨p, _, rfl⟩ := List.mem_map.mp hx
      exact ⟨_, rfl, rfl⟩
    · rw [List.map_map]
      rfl
    · intro x hx
      obtain ⟨p, _, rfl⟩ := List.mem_map.mp hx
      exact ⟨_, rfl, rfl⟩
    · rw [List.map_map]
      rfl
  refine (sSeq_nx (σ' := [some (.ref n), some (.ref q), some (.tup (qs.map prD)), some (.str "calm"), some (.tmp (oD qs)), some (.str "add"), none, none, none, none]) (h' := h1) ?s5).trans ?_
  case s5 =>
    refine (sIf_f (tOpT_ok (eOp_ok (x := .tmp []) (y := .tmp []) (eTmp_ok (lComp_ok (itm := ⟨oD qs, always⟩) (h1 := h1) (iAll_ok (d := .tmp (oD qs)) rfl rfl) ((comp_filter (fun _ => false) (fun x => x) rfl _ ?_).trans (by rw [filter_none])) (by simp))) rfl ?_))).trans rfl
    · intro x hx
      exact ⟨_, rfl, tVal_ok (ownIn1 rfl rfl q1 (in_odd x hx)), fun z => by cases z⟩
    · unfold neP
      rw [eqNilL (xs := []) rfl]
      rfl
  refine (sSeq_nx (sPar2_ok (x := .ref h2.length) (y := .ref h3.length) e3 e4)).trans ?_
  refine (sSeq_nx (σ' := [some (.ref n), some (.ref q), some (.tup (qs.map prD)), some (.str "calm"), some (.tmp (oD qs)), some (.str "add"), some (.ref h2.length), some (.ref h3.length), none, none]) (h' := h4) ?s7).trans ?_
  case s7 =>
    have e0 : eOp eqP (ePN lenP (eCons (eVar 2) eNil)) (eC (.int 0)) [some (.ref n), some (.ref q), some (.tup (qs.map prD)), some (.str "calm"), some (.tmp (oD qs)), some (.str "add"), some (.ref h2.length), some (.ref h3.length), none, none] h4 = .ok (.bl ((qs.length : Int) == 0)) h4 := eOp_ok (x := .int qs.length) (y := .int 0) (ePN_ok (eCons_ok rfl rfl) (by rw [len_tup, List.length_map])) rfl rfl
    refine (sIf_f ((tOr_f (tNot_ok (c := true) (tVal_ok (own_ok (neg := false) rfl rfl q4 (ty_pr s4) nf_pr (pr_eq q4 s4))))).trans ((tOr_f (tVal_ok (own_ok (neg := true) rfl rfl q4 (ty_pr s4) nf_pr (pr_eq q4 s4)))).trans ((tOr_f (tOpT_ok (eOp_ok (own_ok (neg := false) rfl rfl q4 (ty_pr k4) nf_pr (pr_cmp q4 k4 eql)) e0 ne_bl_self))).trans (tOpT_ok (eOp_ok (own_ok (neg := true) rfl rfl q4 (ty_pr k4) nf_pr (pr_cmp q4 k4 eql)) e0 eq_bl_not)))))).trans rfl
  have es4 : eOwnC A.c_Promises (f_Promises___str__ K A) okStr strP (eCons (eVar 1) eNil) [some (.ref n), some (.ref q), some (.tup (qs.map prD)), some (.str "calm"), some (.tmp (oD qs)), some (.str "add"), some (.ref h2.length), some (.ref h3.length), none, none] h4 = .ok (.str (txt qs)) h4 := ownStr (n := q) (eCons_ok rfl rfl) q4 ho (by omega)
  refine sRet_ok (eOp_ok (x := .tmp []) (y := .tmp []) (eTmp_ok (lComp_ok (itm := ⟨[.tup (qs.map prD), .tmp (qs.map prD), .str (txt qs), .non, .int qs.length], always⟩) (h1 := h4) (iAll_ok (eTup_ok (eCons_ok rfl (eCons_ok rfl (eCons_ok es4 (eCons_ok rfl (eCons_ok (ePN_ok (eCons_ok rfl rfl) (by rw [len_tup, List.length_map])) rfl))))) (by simp)) rfl) ((comp_filter (fun _ => false) (fun x => x) rfl _ ?_).trans (by rw [filter_none])) (by simp))) rfl ?_)
  · intro x hx
    simp only [List.mem_cons, List.mem_nil_iff, or_false] at hx
    rcases hx with rfl | rfl | rfl | rfl | rfl
    · exact ⟨_, rfl, co _ "tuple" (fun _ => rfl) sub_tup _ rfl rfl, fun z => by cases z⟩
    · exact ⟨_, rfl, co _ "list" (fun _ => rfl) sub_lst _ rfl rfl, fun z => by cases z⟩
    · exact ⟨_, rfl, co _ "str" (fun _ => rfl) sub_str _ rfl rfl, fun z => by cases z⟩
    · exact ⟨_, rfl, co _ "NoneType" (fun _ => rfl) sub_non _ rfl rfl, fun z => by cases z⟩
    · exact ⟨_, rfl, co _ "int" (fun _ => rfl) sub_int _ rfl rfl, fun z => by cases z⟩
  · unfold eqP
    rw [eqNilL (xs := []) rfl]
    rfl
end QL
/-! RP14: the law. -/
namespace QL
open PySem L2 Mi PM QG
variable {K : PySem.W.Frag} {A : Ad}
theorem for_inv2 {g : G} {b : S} {gd : Hd → Bool} (I : Nat → Mi.Env → Hd → Prop) : ∀ (xs : List D) (i : Nat) (σ : Mi.Env) (h : Hd),
    (∀ (j : Nat) (x : D) (σ : Mi.Env) (h : Hd), xs[j]? = some x → I (i + j) σ h → ∃ σ1 h1 σ2 h2, gd h = true ∧ g x σ h = .ok σ1 h1 ∧ (b σ1 h1 = .nx σ2 h2 ∨ b σ1 h1 = .ct σ2 h2) ∧ I (i + j + 1) σ2 h2) →
    (∀ σ h, I (i + xs.length) σ h → gd h = true) → I i σ h → ∃ σ' h', Mi.forM g b gd xs σ h = .nx σ' h' ∧ I (i + xs.length) σ' h'
  | [], i, σ, h, _, hg, hi => ⟨σ, h, by rw [Mi.forM, hg σ h hi]; rfl, hi⟩
  | x :: xs, i, σ, h, hs, hg, hi => by
    obtain ⟨σ1, h1, σ2, h2, e0, e1, e2, e3⟩ := hs 0 x σ h rfl hi
    obtain ⟨σ', h', e4, e5⟩ := for_inv2 I xs (i + 1) σ2 h2 (fun j y σ h ej q => by
      have := hs (j + 1) y σ h (by simpa using ej) (by rw [show i + (j + 1) = i + 1 + j by omega]; exact q)
      rw [show i + (j + 1) + 1 = i + 1 + j + 1 by omega] at this
      exact this) (fun σ h q => hg σ h (by rw [List.length_cons, show i + (xs.length + 1) = i + 1 + xs.length by omega]; exact q)) e3
    refine ⟨σ', h', ?_, by rw [List.length_cons, show i + (xs.length + 1) = i + 1 + xs.length by omega]; exact e5⟩
    rw [Mi.forM, e0]
    rcases e2 with e2 | e2
    · simp only [if_true, e1, bindS, e2]
      exact e4
    · simp only [if_true, e1, bindS, e2]
      exact e4
theorem k_tup_lst : PySem.W.kitOne K (.type "tuple") (.type "list") = some false := by kernel_rfl
theorem i_tup_lst {h : Hd} {xs : List D} : isiP K (csOf A) h [.tup xs, .ty "list"] = some (.bl false) := by simp [isiP, tyD, clsD, k_tup_lst]
theorem i_ref_lst {h : Hd} {n : Nat} {xs : List D} (g : h[n]? = some (.lst xs)) : isiP K (csOf A) h [.ref n, .ty "list"] = some (.bl true) := by simp [isiP, tyD, clsD, g, k_self]
theorem ne_ib {h : Hd} {i : Int} : neP h (.tup [.int i, .bl true]) (.tup [.int i, .bl true]) = some (.bl false) := by
  simp [neP, eqB, toP, toP0, toP0s, PyData.depth, PyData.depthAll, PyData.eqv, PyData.eqvAll]
abbrev inB1 (K : PySem.W.Frag) (A : Ad) : S := (sSeq (sSet 4 (eCall (f__law_pairs K A) [] (eCons (eVar 2) eNil)))
  (sSeq (sSet 5 (eCall (f__law_wrong K A) [] (eCons (eVar 4) eNil)))
  (sSeq (sSet 6 (eOp itemP (eTmp (lLst (eCons (eNew (lPN listL (eCons (eVar 4) eNil))) (eCons (ePN tupP (eCons (eVar 4) eNil)) eNil)))) (eCall (f__law_take K A) [] (eCons (eVar 2) (eCons (eC (.int 2)) eNil)))))
  (sSeq (sSet 7 (eCall (f__law_told K A) [] (eCons (eVar 6) eNil)))
  (sSeq (sIf (tOpT Mi.geP (eVar 5) (eC (.int 0))) (sSeq (sIf (tOrM (tVal (eOwn K (csOf A) A.c_Promises (f_Promises___eq__ K A) true neP (eVar 7) (eTup (eCons (eVar 5) (eCons (eC (.bl true)) eNil))))) (tVal (ePN (isiP K (csOf A)) (eCons (eOp itemP (eVar 7) (eC (.int 0))) (eCons (eC (.ty "bool")) eNil))))) (sRet (eC (.bl false))) sNext)
  sCont) sNext)
  (sSeq (sIf (tVal (ePN (isiP K (csOf A)) (eCons (eVar 6) (eCons (eC (.ty "list")) eNil)))) (sDrop (eBmM appendM isL (eVar 6) (eCons (eTup (eCons (eC (.str "bare")) (eCons (eC (.str "add")) eNil))) eNil))) sNext)
  (sIf (tNotM (tVal (eCall (f__law_set_right K A) [] (eCons (eVar 2) (eCons (eVar 7) (eCons (eCall (f__law_due K A) [] (eCons (eVar 4) eNil)) eNil)))))) (sRet (eC (.bl false))) sNext)))))))
theorem in_turn {n : Nat} {h : Hd} {sd : D} {xs : List Int} {t1 t3 t4 t5 t6 t7 : Option D} (kq : KQ K A) (hb : BoxAt n h) (hq : ScAt h sd xs) :
    ∃ (u4 u5 u6 u7 : Option D) (h' : Hd), (inB1 K A [some sd, t1, some (.ref n), t3, t4, t5, t6, t7] h = .nx [some sd, t1, some (.ref n), t3, u4, u5, u6, u7] h' ∨ inB1 K A [some sd, t1, some (.ref n), t3, t4, t5, t6, t7] h = .ct [some sd, t1, some (.ref n), t3, u4, u5, u6, u7] h') ∧ BoxAt n h' ∧ ScAt h' sd xs := by
  obtain ⟨ds, rows, h1, e1, lks, l1, u1, b1⟩ := pairs1 (K := K) (A := A) hb
  have q1 := hq.up hb u1
  have e2 := lwrong1 (K := K) (A := A) (h := h1) (d := .tmp ds) src_tmp cut_tmp lks (by omega)
  have rl : rows.length ≤ 8 := by rw [← lks.len]; exact l1
  have b1' : BoxAt n (h1 ++ [.lst ds]) := b1.push _
  obtain ⟨r, h2, e3, r3, u3, b3⟩ := take1 (K := K) (A := A) b1' 2 (by decide) (by decide)
  have hcn : h1.length ≠ n := by have := b1.lt; omega
  have g2 : h2[h1.length]? = some (.lst ds) := u3.get hcn (by simp)
  have q2 : ScAt h2 sd xs := (q1.push (j := [.lst ds])).up b1' u3
  have l2 : h1.length < h2.length := get_lt g2
  have e6 : ∃ d6, Src h2 d6 ds ∧ (d6 = .ref h1.length ∨ d6 = .tup ds) ∧ eOp itemP (eTmp (lLst (eCons (eNew (lPN listL (eCons (eVar 4) eNil))) (eCons (ePN tupP (eCons (eVar 4) eNil)) eNil)))) (eCall (f__law_take K A) [] (eCons (eVar 2) (eCons (eC (.int 2)) eNil))) [some sd, t1, some (.ref n), t3, some (.tmp ds), some (.int (wrongI rows)), t6, t7] h1 = .ok d6 h2 := by
    have el : eTmp (lLst (eCons (eNew (lPN listL (eCons (eVar 4) eNil))) (eCons (ePN tupP (eCons (eVar 4) eNil)) eNil))) [some sd, t1, some (.ref n), t3, some (.tmp ds), some (.int (wrongI rows)), t6, t7] h1 = .ok (.tmp [.ref h1.length, .tup ds]) (h1 ++ [.lst ds]) := eTmp_ok (lLst_ok (eCons_ok (eNew_ok rfl) (eCons_ok (ePN_ok (eCons_ok rfl rfl) rfl) rfl)) (by simp))
    have et : eCall (f__law_take K A) [] (eCons (eVar 2) (eCons (eC (.int 2)) eNil)) [some sd, t1, some (.ref n), t3, some (.tmp ds), some (.int (wrongI rows)), t6, t7] (h1 ++ [.lst ds]) = .ok (.int r) h2 := eCall_ok (eCons_ok (x := .ref n) rfl (eCons_ok (x := .int 2) rfl rfl)) e3
    have hr : r = 0 ∨ r = 1 := by omega
    rcases hr with rfl | rfl
    · exact ⟨.ref h1.length, src_ref g2, .inl rfl, eOp_ok el et rfl⟩
    · exact ⟨.tup ds, src_tup, .inr rfl, eOp_ok el et rfl⟩
  obtain ⟨d6, s6, w6, e6⟩ := e6
  have t := told1 (K := K) (A := A) kq s6 lks (by omega)
  have pre : ∀ (f : D) (h3 : Hd) (rest : S), f__law_told K A [d6] h2 = .ok f h3 → (sSeq (sSet 4 (eCall (f__law_pairs K A) [] (eCons (eVar 2) eNil)))
      (sSeq (sSet 5 (eCall (f__law_wrong K A) [] (eCons (eVar 4) eNil)))
      (sSeq (sSet 6 (eOp itemP (eTmp (lLst (eCons (eNew (lPN listL (eCons (eVar 4) eNil))) (eCons (ePN tupP (eCons (eVar 4) eNil)) eNil)))) (eCall (f__law_take K A) [] (eCons (eVar 2) (eCons (eC (.int 2)) eNil)))))
      (sSeq (sSet 7 (eCall (f__law_told K A) [] (eCons (eVar 6) eNil))) rest)))) [some sd, t1, some (.ref n), t3, t4, t5, t6, t7] h = rest [some sd, t1, some (.ref n), t3, some (.tmp ds), some (.int (wrongI rows)), some d6, some f] h3 := by
    intro f h3 rest et
    exact (sSeq_nx (sSet_ok (eCall_ok (eCons_ok (x := .ref n) rfl rfl) e1))).trans ((sSeq_nx (sSet_ok (eCall_ok (eCons_ok (x := .tmp ds) rfl rfl) e2))).trans ((sSeq_nx (sSet_ok e6)).trans (sSeq_nx (sSet_ok (eCall_ok (eCons_ok (x := d6) rfl rfl) et)))))
  cases z : chk [] 0 rows with
  | inl i =>
    rw [z] at t
    obtain ⟨j, e7⟩ := t
    have ew : wrongI rows = (i : Int) := by unfold wrongI; rw [z]
    refine ⟨some (.tmp ds), some (.int i), some d6, some (.tup [.int i, .bl true]), h2 ++ j, .inr ((pre _ _ _ e7).trans ?_), b3.push j, q2.push⟩
    rw [ew]
    have ge : tOpT Mi.geP (eVar 5) (eC (.int 0)) [some sd, t1, some (.ref n), t3, some (.tmp ds), some (.int (i : Int)), some d6, some (.tup [.int i, .bl true])] (h2 ++ j) = .ok true (h2 ++ j) := by
      refine tOpT_ok (eOp_ok (x := .int i) (y := .int 0) rfl rfl ?_)
      unfold Mi.geP
      rw [ltB_int, Option.map_some]
      have : ¬ ((i : Int) < 0) := by omega
      simp [this]
    have eo : eOwn K (csOf A) A.c_Promises (f_Promises___eq__ K A) true neP (eVar 7) (eTup (eCons (eVar 5) (eCons (eC (.bl true)) eNil))) [some sd, t1, some (.ref n), t3, some (.tmp ds), some (.int (i : Int)), some d6, some (.tup [.int i, .bl true])] (h2 ++ j) = .ok (.bl false) (h2 ++ j) := by
      unfold eOwn
      rw [show eVar 7 [some sd, t1, some (.ref n), t3, some (.tmp ds), some (.int (i : Int)), some d6, some (.tup [.int i, .bl true])] (h2 ++ j) = R.ok (.tup [.int i, .bl true]) (h2 ++ j) from rfl, bind_ok, show eTup (eCons (eVar 5) (eCons (eC (.bl true)) eNil)) [some sd, t1, some (.ref n), t3, some (.tmp ds), some (.int (i : Int)), some d6, some (.tup [.int i, .bl true])] (h2 ++ j) = R.ok (.tup [.int i, .bl true]) (h2 ++ j) from rfl, bind_ok]
      show ofO (neP (h2 ++ j) (.tup [.int i, .bl true]) (.tup [.int i, .bl true])) (h2 ++ j) = _
      rw [ne_ib, ofO_some]
    have ef : sIf (tOrM (tVal (eOwn K (csOf A) A.c_Promises (f_Promises___eq__ K A) true neP (eVar 7) (eTup (eCons (eVar 5) (eCons (eC (.bl true)) eNil))))) (tVal (ePN (isiP K (csOf A)) (eCons (eOp itemP (eVar 7) (eC (.int 0))) (eCons (eC (.ty "bool")) eNil))))) (sRet (eC (.bl false))) sNext [some sd, t1, some (.ref n), t3, some (.tmp ds), some (.int (i : Int)), some d6, some (.tup [.int i, .bl true])] (h2 ++ j) = .nx [some sd, t1, some (.ref n), t3, some (.tmp ds), some (.int (i : Int)), some d6, some (.tup [.int i, .bl true])] (h2 ++ j) :=
      (sIf_f ((tOr_f (tVal_ok eo)).trans (tVal_ok (ePN_ok (eCons_ok (x := .int i) rfl (eCons_ok rfl rfl)) i_int_bool)))).trans rfl
    have ei := (sIf_t (s1 := sSeq _ sCont) (s2 := sNext) ge).trans ((sSeq_nx ef).trans (show sCont _ _ = SR.ct _ _ from rfl))
    show (match sIf _ (sSeq _ sCont) sNext _ _ with
      | .nx σ' h' => _
      | r => r) = _
    rw [ei]
  | inr ps =>
    rw [z] at t
    obtain ⟨j, e7⟩ := t
    have ew : wrongI rows = -1 := by unfold wrongI; rw [z]
    obtain ⟨o1, o2, o3, o4, o5⟩ := all_okp z
    have eds : ds = ps.map prD := lks_two (by rw [← o5]; exact lks) o3
    have pl : ps.length ≤ 8 := by rw [o5, List.length_map] at rl; exact rl
    have inj : ∀ x ∈ ps, ∀ y ∈ ps, key x = key y → x = y := fun x hx y hy e => key_inj (o3 x hx) (o3 y hy) e
    have k3 : (h2 ++ prO A (ord key ps) :: j)[h2.length]? = some (prO A (ord key ps)) := by simp
    have g3 : (h2 ++ prO A (ord key ps) :: j)[h1.length]? = some (.lst ds) := by rw [List.getElem?_append_left l2, g2]
    have b3' : BoxAt n (h2 ++ prO A (ord key ps) :: j) := b3.push _
    have q3 : ScAt (h2 ++ prO A (ord key ps) :: j) sd xs := q2.push
    generalize hh3 : h2 ++ prO A (ord key ps) :: j = h3 at *
    have ea : ∃ h4, sIf (tVal (ePN (isiP K (csOf A)) (eCons (eVar 6) (eCons (eC (.ty "list")) eNil)))) (sDrop (eBmM appendM isL (eVar 6) (eCons (eTup (eCons (eC (.str "bare")) (eCons (eC (.str "add")) eNil))) eNil))) sNext [some sd, t1, some (.ref n), t3, some (.tmp ds), some (.int (-1)), some d6, some (.ref h2.length)] h3 = .nx [some sd, t1, some (.ref n), t3, some (.tmp ds), some (.int (-1)), some d6, some (.ref h2.length)] h4 ∧ BoxAt n h4 ∧ ScAt h4 sd xs ∧ h4[h2.length]? = some (prO A (ord key ps)) := by
      rcases w6 with rfl | rfl
      · exact ⟨h3.set h1.length (.lst (ds ++ [.tup [.str "bare", .str "add"]])), (sIf_t (tVal_ok (ePN_ok (eCons_ok (x := .ref h1.length) rfl (eCons_ok rfl rfl)) (i_ref_lst g3)))).trans (sDrop_ok (append_to rfl g3 rfl g3 (by omega))), b3'.set hcn, q3.set g3, by rw [List.getElem?_set_ne (by omega)]; exact k3⟩
      · exact ⟨h3, (sIf_f (tVal_ok (ePN_ok (eCons_ok (x := .tup ds) rfl (eCons_ok rfl rfl)) i_tup_lst))).trans rfl, b3', q3, k3⟩
    obtain ⟨h4, e8, b4, q4, k4⟩ := ea
    have s4 : Src h4 (.tmp ds) (ps.map prD) := by rw [eds]; exact src_tmp
    have e9 := due1 (K := K) (A := A) s4 o3 (by omega)
    obtain ⟨h5, e10, u5, b5⟩ := set_right1 (K := K) (A := A) kq b4 k4 o1 (o4.sub fun x hx => ord_mem.mp hx) (ord_ord inj) (by have := ord_len key ps; omega)
    refine ⟨some (.tmp ds), some (.int (-1)), some d6, some (.ref h2.length), h5, .inl ((pre _ _ _ e7).trans ?_), b5, q4.up b4 u5⟩
    rw [ew]
    refine (sSeq_nx ((sIf_f (tOpT_ok (eOp_ok (x := .int (-1)) (y := .int 0) rfl rfl rfl))).trans rfl)).trans ((sSeq_nx e8).trans ?_)
    exact (sIf_f (tNot_ok (c := true) (tVal_ok (eCall_ok (eCons_ok (x := .ref n) rfl (eCons_ok (x := .ref h2.length) rfl (eCons_ok (eCall_ok (eCons_ok (x := .tmp ds) rfl rfl) e9) rfl))) e10)))).trans rfl
theorem makeK1 {C : Addr} {F : Fn} {kw : EA} {σ : Mi.Env} {h h1 : Hd} {d : D} (e : kw σ h = .ok [d] h1) : eMakeK C F 0 1 [0] eNil kw σ h = eMake C F [] kw σ h := by
  unfold eMakeK eMake
  rw [show eNil σ h = R.ok [] h from rfl, bind_ok, e, bind_ok, bind_ok]
  rfl
abbrev lastB (K : PySem.W.Frag) (A : Ad) : S := (sIf (tOrM (tOpT neP (eOwnC A.c_Promises (f_Promises___len__ K A) okLen lenP (eCons (eMake A.c_Promises (f_Promises___init__ K A) [.tup []] eNil) eNil)) (eC (.int 0))) (tOrM (tVal (eOwn K (csOf A) A.c_Promises (f_Promises___eq__ K A) true neP (eMake A.c_Promises (f_Promises___init__ K A) [.tup []] eNil) (eMakeK A.c_Promises (f_Promises___init__ K A) 0 1 [0] eNil (eCons (eTmp (lLst eNil)) eNil)))) (tOpT neP (eOwnC A.c_Promises (f_Promises___str__ K A) okStr strP (eCons (eMake A.c_Promises (f_Promises___init__ K A) [] (eCons (eTup eNil) eNil)) eNil)) (eC (.str ""))))) (sRet (eC (.bl false))) sNext)
theorem last1 {σ : Mi.Env} {h : Hd} : ∃ j, lastB K A σ h = .nx σ (h ++ j) := by
  have m1 := make1 (K := K) (A := A) (h := h) (h1 := h) (σ := σ) (a := eNil) (dds := [.tup []]) (ds := []) (d := .tup []) (es := []) (rows := []) rfl rfl src_tup rfl (by simp)
  rw [chk_nil] at m1
  obtain ⟨j1, e1⟩ := m1
  have n1 : (h ++ prO A (ord key []) :: j1)[h.length]? = some (prO A []) := by rw [List.getElem?_append_right (Nat.le_refl _)]; simp; rfl
  generalize hh1 : h ++ prO A (ord key []) :: j1 = h1 at *
  have m2 := make1 (K := K) (A := A) (h := h1) (h1 := h1) (σ := σ) (a := eNil) (dds := [.tup []]) (ds := []) (d := .tup []) (es := []) (rows := []) rfl rfl src_tup rfl (by simp)
  rw [chk_nil] at m2
  obtain ⟨j2, e2⟩ := m2
  have n2 : (h1 ++ prO A (ord key []) :: j2)[h1.length]? = some (prO A []) := by rw [List.getElem?_append_right (Nat.le_refl _)]; simp; rfl
  generalize hh2 : h1 ++ prO A (ord key []) :: j2 = h2 at *
  have m3 := make1 (K := K) (A := A) (h := h2) (h1 := h2) (σ := σ) (a := eCons (eTmp (lLst eNil)) eNil) (dds := []) (ds := [.tmp []]) (d := .tmp []) (es := []) (rows := []) rfl rfl src_tmp rfl (by simp)
  rw [chk_nil] at m3
  obtain ⟨j3, e3⟩ := m3
  have n3 : (h2 ++ prO A (ord key []) :: j3)[h2.length]? = some (prO A []) := by rw [List.getElem?_append_right (Nat.le_refl _)]; simp; rfl
  have n3' : (h2 ++ prO A (ord key []) :: j3)[h1.length]? = some (prO A []) := by rw [List.getElem?_append_left (get_lt n2), n2]
  generalize hh3 : h2 ++ prO A (ord key []) :: j3 = h3 at *
  have m4 := make1 (K := K) (A := A) (h := h3) (h1 := h3) (σ := σ) (a := eCons (eTup eNil) eNil) (dds := []) (ds := [.tup []]) (d := .tup []) (es := []) (rows := []) rfl rfl src_tup rfl (by simp)
  rw [chk_nil] at m4
  obtain ⟨j4, e4⟩ := m4
  have n4 : (h3 ++ prO A (ord key []) :: j4)[h3.length]? = some (prO A []) := by rw [List.getElem?_append_right (Nat.le_refl _)]; simp; rfl
  refine ⟨(prO A (ord key []) :: j1) ++ (prO A (ord key []) :: j2) ++ (prO A (ord key []) :: j3) ++ (prO A (ord key []) :: j4), ?_⟩
  have eh : h ++ ((prO A (ord key []) :: j1) ++ (prO A (ord key []) :: j2) ++ (prO A (ord key []) :: j3) ++ (prO A (ord key []) :: j4)) = h3 ++ prO A (ord key []) :: j4 := by
    rw [← hh3, ← hh2, ← hh1]
    simp
  rw [eh]
  refine (sIf_f ((tOr_f (tOpT_ok (eOp_ok (x := .int 0) (y := .int 0) (ownLen (qs := []) (eCons_ok e1 rfl) n1 (by simp)) rfl ne_int_self))).trans ((tOr_f (tVal_ok (own_ok (neg := true) (v := true) e2 ((makeK1 (d := .tmp []) (h1 := h2) rfl).trans e3) n3' (ty_pr n3) nf_pr (pr_eq n3' n3)))).trans (tOpT_ok (eOp_ok (x := .str (txt [])) (y := .str "") (ownStr (qs := []) (eCons_ok e4 rfl) n4 (by simp) (by simp)) rfl ne_str_self))))).trans rfl
def turnB (K : PySem.W.Frag) (A : Ad) : S := (sSeq (sSet 2 (eCall (f__law_box K A) [] (eCons (eVar 0) (eCons (eVar 1) eNil))))
  (sSeq (sFor (iRange1 (eC (.int 3))) (gPat (aNm 3)) (inB1 K A)) (lastB K A)))
theorem law_turn {sd : D} {k : Nat} {h : Hd} {xs : List Int} {s2 s3 s4 s5 s6 s7 : Option D} (kq : KQ K A) (hq : ScAt h sd xs) (hk : k < 6) :
    ∃ (t2 t3 t4 t5 t6 t7 : Option D) (h' : Hd), turnB K A [some sd, some (.int k), s2, s3, s4, s5, s6, s7] h = .nx [some sd, some (.int k), t2, t3, t4, t5, t6, t7] h' ∧ ScAt h' sd xs := by
  obtain ⟨x, s, c0, e1⟩ := box1 (K := K) (A := A) hq hk
  have b1 : BoxAt h.length (h ++ [bx x s c0]) := ⟨x, s, c0, by simp⟩
  obtain ⟨σ', h2, e2, t3, t4, t5, t6, t7, rfl, b2, q2⟩ := for_inv2 (g := gPat (aNm 3)) (gd := always) (b := inB1 K A)
    (I := fun i σ hx => ∃ (t3 t4 t5 t6 t7 : Option D), σ = [some sd, some (.int k), some (.ref h.length), t3, t4, t5, t6, t7] ∧ BoxAt h.length hx ∧ ScAt hx sd xs)
    (rangeD 0 3) 0 [some sd, some (.int k), some (.ref h.length), s3, s4, s5, s6, s7] (h ++ [bx x s c0])
    (fun j y σ hx ej ⟨t3, t4, t5, t6, t7, eσ, b, q⟩ => by
      obtain ⟨u4, u5, u6, u7, hy, ey, by', qy⟩ := in_turn (K := K) (A := A) (t1 := some (.int k)) (t3 := some y) (t4 := t4) (t5 := t5) (t6 := t6) (t7 := t7) kq b q
      exact ⟨_, hx, _, hy, rfl, by rw [eσ]; rfl, ey, some y, u4, u5, u6, u7, rfl, by', qy⟩) (fun _ _ _ => rfl) ⟨_, _, _, _, _, rfl, b1, hq.push⟩
  obtain ⟨j, e3⟩ := last1 (K := K) (A := A) (σ := [some sd, some (.int k), some (.ref h.length), t3, t4, t5, t6, t7]) (h := h2)
  refine ⟨some (.ref h.length), t3, t4, t5, t6, t7, h2 ++ j, ?_, q2.push⟩
  unfold turnB
  exact (sSeq_nx (sSet_ok (eCall_ok (eCons_ok (x := sd) rfl (eCons_ok (x := .int k) rfl rfl)) e1))).trans ((sSeq_nx (sFor_ok (range1_ok (k := 3) rfl (by decide)) e2)).trans e3)
theorem law1 {sd : D} {h : Hd} {xs : List Int} (kq : KQ K A) (hq : ScAt h sd xs) : ∃ h', f_law K A [sd] h = .ok (.bl true) h' := by
  obtain ⟨σ', h', e, t1, t2, t3, t4, t5, t6, t7, rfl, g⟩ := for_inv (g := gPat (aNm 1)) (gd := always) (b := turnB K A)
    (I := fun i σ hx => ∃ t1 t2 t3 t4 t5 t6 t7 : Option D, σ = [some sd, t1, t2, t3, t4, t5, t6, t7] ∧ ScAt hx sd xs)
    (rangeD 0 (max 2 (min 6 xs.length))) 0 [some sd, none, none, none, none, none, none, none] h (fun j x σ hx ej ⟨t1, t2, t3, t4, t5, t6, t7, e, g⟩ => by
      obtain ⟨ex, hj⟩ := rangeD_get _ _ _ _ ej
      obtain ⟨u2, u3, u4, u5, u6, u7, h1, e1, g1⟩ := law_turn (K := K) (A := A) (k := j) (s2 := t2) (s3 := t3) (s4 := t4) (s5 := t5) (s6 := t6) (s7 := t7) kq g (by omega)
      refine ⟨_, hx, _, _, rfl, ?_, e1, _, _, _, _, _, _, _, rfl, g1⟩
      rw [e, ex, Int.zero_add]
      rfl) (fun _ _ _ => rfl) ⟨none, none, none, none, none, none, none, rfl, hq⟩
  refine ⟨h', ?_⟩
  unfold f_law m_law
  refine run_ret rfl ((sSeq_nx (sFor_ok (range1_ok (k := max 2 (min 6 xs.length)) (h1 := h) ?_ (by omega)) e)).trans rfl)
  have el : lenP h [sd] = some (.int xs.length) := by
    rcases hq with ⟨q, rfl, hq⟩ | rfl
    · simp [runFn, sSeq, sIf, sSet, sRet, sAsg, sDrop, sNext, bindS_ok, tOpT, tVal, tOrM, tAndM, tNotM, eOp, eUn, eVar, eC, eNil, eCons, ePN, eTup, eIf, eAnd, eOr, eNot, eTmp, eNew, lLst, lPN, lOp, eCall, bind_ok, bind_bad, ofO_some, ofO_none, line, gSubM, setM, gPat, aNm, aTup, aCons, aNil, itemP, asDct, ixP, asQ, asL, asM, asLm, Mi.gtP, Mi.ltP, Mi.geP, Mi.leP, ltB_int, ltB_str, modP, fdivP, mulP, addP, subP, negP, powP, intP, eqP, neP, eqB_int, eqB_str, eqB_is, eqB_si, lenP, asDm, L2.atI, L2.ixN, eBm, eBmM, isS, isL, sPar2, sPar3, tupP, strP, itRange1, iRange1, hq]
    · simp [runFn, sSeq, sIf, sSet, sRet, sAsg, sDrop, sNext, bindS_ok, tOpT, tVal, tOrM, tAndM, tNotM, eOp, eUn, eVar, eC, eNil, eCons, ePN, eTup, eIf, eAnd, eOr, eNot, eTmp, eNew, lLst, lPN, lOp, eCall, bind_ok, bind_bad, ofO_some, ofO_none, line, gSubM, setM, gPat, aNm, aTup, aCons, aNil, itemP, asDct, ixP, asQ, asL, asM, asLm, Mi.gtP, Mi.ltP, Mi.geP, Mi.leP, ltB_int, ltB_str, modP, fdivP, mulP, addP, subP, negP, powP, intP, eqP, neP, eqB_int, eqB_str, eqB_is, eqB_si, lenP, asDm, L2.atI, L2.ixN, eBm, eBmM, isS, isL, sPar2, sPar3, tupP, strP, itRange1, iRange1, ]
  simp [runFn, sSeq, sIf, sSet, sRet, sAsg, sDrop, sNext, bindS_ok, tOpT, tVal, tOrM, tAndM, tNotM, eOp, eUn, eVar, eC, eNil, eCons, ePN, eTup, eIf, eAnd, eOr, eNot, eTmp, eNew, lLst, lPN, lOp, eCall, bind_ok, bind_bad, ofO_some, ofO_none, line, gSubM, setM, gPat, aNm, aTup, aCons, aNil, itemP, asDct, ixP, asQ, asL, asM, asLm, Mi.gtP, Mi.ltP, Mi.geP, Mi.leP, ltB_int, ltB_str, modP, fdivP, mulP, addP, subP, negP, powP, intP, eqP, neP, eqB_int, eqB_str, eqB_is, eqB_si, lenP, asDm, L2.atI, L2.ixN, eBm, eBmM, isS, isL, sPar2, sPar3, tupP, strP, itRange1, iRange1, List.replicate, maxP, minP, -lenP, el]
  by_cases z : (xs.length : Int) < 6
  · simp only [z, if_true]
    by_cases w : (2 : Int) < xs.length
    · simp only [w, if_true]; omega
    · simp only [w, if_false]; omega
  · simp only [z, if_false]
    rw [if_pos (by decide)]
    omega
end QL
namespace PM
open PySem L2 Mi PySem.Calls
theorem all_mk {P : Program} {w : World} {K : PySem.W.Frag} {h : Heap} {mg : Str → Option Value} {fa a_ARITHMETIC a_COMPARING a_TRUTH_TELLING a_QUIET a_EVERY_METHOD a_WORDS a_FIRST_WORDS c_Promises f_Promises___init__ c_InvalidPromise F_InvalidPromise cc_InvalidPromise cd_InvalidPromise c_AskError c_Misfit p_Promises_read f_Promises_read f_first_words f_is_promise f_goes_against f_in_order f_checked_pairs T_Promises___init__ x_Promises___init___0 f_Promises___str__ f_Promises___len__ f_Promises___contains__ f_Promises___eq__ f__law_box f__law_take f__law_pick f__law_mixed f__law_methods f__law_lets f__law_is_promise f__law_bars f__law_wrong f__law_due f__law_pair f__law_odd f__law_pairs f__law_told f__law_set_right f_law : Addr} (X : K.In h) (G : h.Ns mainGlobals mg) (hfa : mg "law" = some (.ref fa))
    {od_InvalidPromise an_InvalidPromise od_first_words an_first_words od_is_promise an_is_promise od_goes_against an_goes_against od_in_order an_in_order od_checked_pairs an_checked_pairs od_Promises___init__ an_Promises___init__ td_Promises___init__ od_Promises_read an_Promises_read od_Promises___str__ an_Promises___str__ od_Promises___len__ an_Promises___len__ od_Promises___contains__ an_Promises___contains__ od_Promises___eq__ an_Promises___eq__ od__law_box an__law_box od__law_take an__law_take od__law_pick an__law_pick od__law_mixed an__law_mixed od__law_methods an__law_methods od__law_lets an__law_lets od__law_is_promise an__law_is_promise od__law_bars an__law_bars od__law_wrong an__law_wrong od__law_due an__law_due od__law_pair an__law_pair od__law_odd an__law_odd od__law_pairs an__law_pairs od__law_told an__law_told od__law_set_right an__law_set_right od_law an_law : Option Addr} {sl_InvalidPromise sl_first_words sl_is_promise sl_goes_against sl_in_order sl_checked_pairs sl_Promises___init__ tsl_Promises___init__ sl_Promises_read sl_Promises___str__ sl_Promises___len__ sl_Promises___contains__ sl_Promises___eq__ sl__law_box sl__law_take sl__law_pick sl__law_mixed sl__law_methods sl__law_lets sl__law_is_promise sl__law_bars sl__law_wrong sl__law_due sl__law_pair sl__law_odd sl__law_pairs sl__law_told sl__law_set_right sl_law : Array (Option Value)} {oc1_InvalidPromise kV_InvalidPromise dc_InvalidPromise pm_InvalidPromise ct_InvalidPromise oc2_first_words kV_first_words dc_first_words pm_first_words cdv_first_words ct_first_words oc2_is_promise kV_is_promise dc_is_promise pm_is_promise cdv_is_promise ct_is_promise oc2_goes_against kV_goes_against dc_goes_against pm_goes_against cdv_goes_against ct_goes_against oc2_in_order kV_in_order dc_in_order pm_in_order cdv_in_order ct_in_order oc2_checked_pairs kV_checked_pairs dc_checked_pairs pm_checked_pairs cdv_checked_pairs ct_checked_pairs oc2_Promises___init__ kV_Promises___init__ dc_Promises___init__ pm_Promises___init__ cdv_Promises___init__ ct_Promises___init__ tc_Promises___init__ oc2_Promises_read kV_Promises_read dc_Promises_read pm_Promises_read cdv_Promises_read ct_Promises_read oc2_Promises___str__ kV_Promises___str__ dc_Promises___str__ pm_Promises___str__ cdv_Promises___str__ ct_Promises___str__ oc2_Promises___len__ kV_Promises___len__ dc_Promises___len__ pm_Promises___len__ cdv_Promises___len__ ct_Promises___len__ oc2_Promises___contains__ kV_Promises___contains__ dc_Promises___contains__ pm_Promises___contains__ cdv_Promises___contains__ ct_Promises___contains__ oc2_Promises___eq__ kV_Promises___eq__ dc_Promises___eq__ pm_Promises___eq__ cdv_Promises___eq__ ct_Promises___eq__ oc2__law_box kV__law_box dc__law_box pm__law_box cdv__law_box ct__law_box oc2__law_take kV__law_take dc__law_take pm__law_take cdv__law_take ct__law_take oc2__law_pick kV__law_pick dc__law_pick pm__law_pick cdv__law_pick ct__law_pick oc2__law_mixed kV__law_mixed dc__law_mixed pm__law_mixed cdv__law_mixed ct__law_mixed oc2__law_methods kV__law_methods dc__law_methods pm__law_methods cdv__law_methods ct__law_methods oc2__law_lets kV__law_lets dc__law_lets pm__law_lets cdv__law_lets ct__law_lets oc2__law_is_promise kV__law_is_promise dc__law_is_promise pm__law_is_promise cdv__law_is_promise ct__law_is_promise oc2__law_bars kV__law_bars dc__law_bars pm__law_bars cdv__law_bars ct__law_bars oc2__law_wrong kV__law_wrong dc__law_wrong pm__law_wrong cdv__law_wrong ct__law_wrong oc2__law_due kV__law_due dc__law_due pm__law_due cdv__law_due ct__law_due oc2__law_pair kV__law_pair dc__law_pair pm__law_pair cdv__law_pair ct__law_pair oc2__law_odd kV__law_odd dc__law_odd pm__law_odd cdv__law_odd ct__law_odd oc2__law_pairs kV__law_pairs dc__law_pairs pm__law_pairs cdv__law_pairs ct__law_pairs oc2__law_told kV__law_told dc__law_told pm__law_told cdv__law_told ct__law_told oc2__law_set_right kV__law_set_right dc__law_set_right pm__law_set_right cdv__law_set_right ct__law_set_right oc2_law kV_law dc_law pm_law cdv_law ct_law : Value} {nk_FIRST_WORDS tn_Promises___init__ : Nat} {es_FIRST_WORDS : Array DictEntry} {rs_Promises_read : List Value}
    (b_ValueError : PySem.W.nsIn K mainGlobals "ValueError" = some none)
    (b_all : PySem.W.nsIn K mainGlobals "all" = some none)
    (b_any : PySem.W.nsIn K mainGlobals "any" = some none)
    (b_bool : PySem.W.nsIn K mainGlobals "bool" = some none)
    (b_dict : PySem.W.nsIn K mainGlobals "dict" = some none)
    (b_enumerate : PySem.W.nsIn K mainGlobals "enumerate" = some none)
    (b_int : PySem.W.nsIn K mainGlobals "int" = some none)
    (b_isinstance : PySem.W.nsIn K mainGlobals "isinstance" = some none)
    (b_len : PySem.W.nsIn K mainGlobals "len" = some none)
    (b_list : PySem.W.nsIn K mainGlobals "list" = some none)
    (b_max : PySem.W.nsIn K mainGlobals "max" = some none)
    (b_min : PySem.W.nsIn K mainGlobals "min" = some none)
    (b_range : PySem.W.nsIn K mainGlobals "range" = some none)
    (b_sorted : PySem.W.nsIn K mainGlobals "sorted" = some none)
    (b_str : PySem.W.nsIn K mainGlobals "str" = some none)
    (b_sum : PySem.W.nsIn K mainGlobals "sum" = some none)
    (b_super : PySem.W.nsIn K mainGlobals "super" = some none)
    (b_tuple : PySem.W.nsIn K mainGlobals "tuple" = some none)
    (dig : PySem.W.nsIn K cStatics "sys.int_max_str_digits" = some none)
    (ga_ARITHMETIC : PySem.W.nsIn K mainGlobals "ARITHMETIC" = some (some (.ref a_ARITHMETIC)))
    (oc_ARITHMETIC : okC K d_ARITHMETIC (.ref a_ARITHMETIC) = true)
    (ga_COMPARING : PySem.W.nsIn K mainGlobals "COMPARING" = some (some (.ref a_COMPARING)))
    (oc_COMPARING : okC K d_COMPARING (.ref a_COMPARING) = true)
    (ga_TRUTH_TELLING : PySem.W.nsIn K mainGlobals "TRUTH_TELLING" = some (some (.ref a_TRUTH_TELLING)))
    (oc_TRUTH_TELLING : okC K d_TRUTH_TELLING (.ref a_TRUTH_TELLING) = true)
    (ga_QUIET : PySem.W.nsIn K mainGlobals "QUIET" = some (some (.ref a_QUIET)))
    (oc_QUIET : okC K d_QUIET (.ref a_QUIET) = true)
    (ga_EVERY_METHOD : PySem.W.nsIn K mainGlobals "EVERY_METHOD" = some (some (.ref a_EVERY_METHOD)))
    (oc_EVERY_METHOD : okC K d_EVERY_METHOD (.ref a_EVERY_METHOD) = true)
    (ga_WORDS : PySem.W.nsIn K mainGlobals "WORDS" = some (some (.ref a_WORDS)))
    (oc_WORDS : okC K d_WORDS (.ref a_WORDS) = true)
    (ga_FIRST_WORDS : PySem.W.nsIn K mainGlobals "FIRST_WORDS" = some (some (.ref a_FIRST_WORDS)))
    (kl_FIRST_WORDS : K.lookup a_FIRST_WORDS = some { cls := .type "dict", data := .dict es_FIRST_WORDS nk_FIRST_WORDS })
    (ki_FIRST_WORDS : PySem.W.KeysLit w.params es_FIRST_WORDS.toList)
    (kz_FIRST_WORDS : (a_FIRST_WORDS == sysModules) = false)
    (ko_FIRST_WORDS : okKD K k_FIRST_WORDS es_FIRST_WORDS.toList = true)
    (ga_Promises : PySem.W.nsIn K mainGlobals "Promises" = some (some (.ref c_Promises)))
    (in_Promises : PySem.W.findIn K (.ref c_Promises) "__init__" = some (some (.ref f_Promises___init__)))
    (ow_Promises : okOwn K c_Promises f_Promises___init__ ["pairs"] = true)
    (ga_InvalidPromise : PySem.W.nsIn K mainGlobals "InvalidPromise" = some (some (.ref c_InvalidPromise)))
    (x_InvalidPromise : okX K c_InvalidPromise = true)
    (t_InvalidPromise : Xn.okT K c_InvalidPromise "ValueError" "ValueError.__init__" "ValueError.__new__" Xn.bmV = true)
    (i_InvalidPromise : PySem.W.findIn K (.ref c_InvalidPromise) "__init__" = some (some (.ref F_InvalidPromise)))
    (l_InvalidPromise : K.lookup F_InvalidPromise = some ⟨oc1_InvalidPromise, od_InvalidPromise, .func (PySem.W.ksFn "__init__" "InvalidPromise.__init__" (defArgs (inClass (top 11) 0)) (defBody (inClass (top 11) 0)) (defScope (inClass (top 11) 0)) .none kV_InvalidPromise dc_InvalidPromise pm_InvalidPromise an_InvalidPromise (.ref cd_InvalidPromise) ct_InvalidPromise cc_InvalidPromise), sl_InvalidPromise⟩)
    (nn_InvalidPromise : Xn.okI P K c_InvalidPromise F_InvalidPromise cc_InvalidPromise cd_InvalidPromise "InvalidPromise.__init__" ["at"] = true)
    (ga_AskError : PySem.W.nsIn K mainGlobals "AskError" = some (some (.ref c_AskError)))
    (ga_Misfit : PySem.W.nsIn K mainGlobals "Misfit" = some (some (.ref c_Misfit)))
    (xf_InvalidPromise : xfB K c_InvalidPromise = true)
    (ex_InvalidPromise : PySem.W.exmOne K (.ref c_InvalidPromise) (.ref c_InvalidPromise) = some true)
    (xc_InvalidPromise : okExcC K c_InvalidPromise = true)
    (no_InvalidPromise_at : PySem.W.findIn K (.ref c_InvalidPromise) "at" = some none)
    (cr_Promises : okCR K c_Promises = true)
    (fp_Promises_read : PySem.W.findIn K (.ref c_Promises) "read" = some (some (.ref p_Promises_read)))
    (rp_Promises_read : PySem.W.recIn K p_Promises_read "classmethod" = some (.ref f_Promises_read :: rs_Promises_read))
    (po_Promises_read : okCM K c_Promises "read" p_Promises_read f_Promises_read = true)
    (ga_first_words : PySem.W.nsIn K mainGlobals "first_words" = some (some (.ref f_first_words)))
    (lk_first_words : K.lookup f_first_words = some ⟨oc2_first_words, od_first_words, .func (PySem.W.fnOf "first_words" "first_words" (defArgs st_first_words) (defBody st_first_words) (defScope st_first_words) .none kV_first_words dc_first_words pm_first_words an_first_words cdv_first_words ct_first_words), sl_first_words⟩)
    (cd_first_words : PySem.W.codeIn K cdv_first_words "first_words" = true)
    (kp_first_words : PySem.W.keepIn K (.ref f_first_words) = true)
    (ga_is_promise : PySem.W.nsIn K mainGlobals "is_promise" = some (some (.ref f_is_promise)))
    (lk_is_promise : K.lookup f_is_promise = some ⟨oc2_is_promise, od_is_promise, .func (PySem.W.fnOf "is_promise" "is_promise" (defArgs st_is_promise) (defBody st_is_promise) (defScope st_is_promise) .none kV_is_promise dc_is_promise pm_is_promise an_is_promise cdv_is_promise ct_is_promise), sl_is_promise⟩)
    (cd_is_promise : PySem.W.codeIn K cdv_is_promise "is_promise" = true)
    (kp_is_promise : PySem.W.keepIn K (.ref f_is_promise) = true)
    (ga_goes_against : PySem.W.nsIn K mainGlobals "goes_against" = some (some (.ref f_goes_against)))
    (lk_goes_against : K.lookup f_goes_against = some ⟨oc2_goes_against, od_goes_against, .func (PySem.W.fnOf "goes_against" "goes_against" (defArgs st_goes_against) (defBody st_goes_against) (defScope st_goes_against) .none kV_goes_against dc_goes_against pm_goes_against an_goes_against cdv_goes_against ct_goes_against), sl_goes_against⟩)
    (cd_goes_against : PySem.W.codeIn K cdv_goes_against "goes_against" = true)
    (kp_goes_against : PySem.W.keepIn K (.ref f_goes_against) = true)
    (ga_in_order : PySem.W.nsIn K mainGlobals "in_order" = some (some (.ref f_in_order)))
    (lk_in_order : K.lookup f_in_order = some ⟨oc2_in_order, od_in_order, .func (PySem.W.fnOf "in_order" "in_order" (defArgs st_in_order) (defBody st_in_order) (defScope st_in_order) .none kV_in_order dc_in_order pm_in_order an_in_order cdv_in_order ct_in_order), sl_in_order⟩)
    (cd_in_order : PySem.W.codeIn K cdv_in_order "in_order" = true)
    (kp_in_order : PySem.W.keepIn K (.ref f_in_order) = true)
    (ga_checked_pairs : PySem.W.nsIn K mainGlobals "checked_pairs" = some (some (.ref f_checked_pairs)))
    (lk_checked_pairs : K.lookup f_checked_pairs = some ⟨oc2_checked_pairs, od_checked_pairs, .func (PySem.W.fnOf "checked_pairs" "checked_pairs" (defArgs st_checked_pairs) (defBody st_checked_pairs) (defScope st_checked_pairs) .none kV_checked_pairs dc_checked_pairs pm_checked_pairs an_checked_pairs cdv_checked_pairs ct_checked_pairs), sl_checked_pairs⟩)
    (cd_checked_pairs : PySem.W.codeIn K cdv_checked_pairs "checked_pairs" = true)
    (kp_checked_pairs : PySem.W.keepIn K (.ref f_checked_pairs) = true)
    (lk_Promises___init__ : K.lookup f_Promises___init__ = some ⟨oc2_Promises___init__, od_Promises___init__, .func (PySem.W.fnOf "__init__" "Promises.__init__" (defArgs st_Promises___init__) (defBody st_Promises___init__) (defScope st_Promises___init__) (.ref T_Promises___init__) kV_Promises___init__ dc_Promises___init__ pm_Promises___init__ an_Promises___init__ cdv_Promises___init__ ct_Promises___init__), sl_Promises___init__⟩)
    (cd_Promises___init__ : PySem.W.codeIn K cdv_Promises___init__ "Promises.__init__" = true)
    (kp_Promises___init__ : PySem.W.keepIn K (.ref f_Promises___init__) = true)
    (lT_Promises___init__ : K.lookup T_Promises___init__ = some ⟨tc_Promises___init__, td_Promises___init__, .seq #[.ref x_Promises___init___0] tn_Promises___init__, tsl_Promises___init__⟩)
    (dv_Promises___init___0 : okC K (.tup []) (.ref x_Promises___init___0) = true)
    (lk_Promises_read : K.lookup f_Promises_read = some ⟨oc2_Promises_read, od_Promises_read, .func (PySem.W.fnOf "read" "Promises.read" (defArgs st_Promises_read) (defBody st_Promises_read) (defScope st_Promises_read) .none kV_Promises_read dc_Promises_read pm_Promises_read an_Promises_read cdv_Promises_read ct_Promises_read), sl_Promises_read⟩)
    (cd_Promises_read : PySem.W.codeIn K cdv_Promises_read "Promises.read" = true)
    (kp_Promises_read : PySem.W.keepIn K (.ref f_Promises_read) = true)
    (fm_Promises___str__ : PySem.W.findIn K (.ref c_Promises) "__str__" = some (some (.ref f_Promises___str__)))
    (lk_Promises___str__ : K.lookup f_Promises___str__ = some ⟨oc2_Promises___str__, od_Promises___str__, .func (PySem.W.fnOf "__str__" "Promises.__str__" (defArgs st_Promises___str__) (defBody st_Promises___str__) (defScope st_Promises___str__) .none kV_Promises___str__ dc_Promises___str__ pm_Promises___str__ an_Promises___str__ cdv_Promises___str__ ct_Promises___str__), sl_Promises___str__⟩)
    (cd_Promises___str__ : PySem.W.codeIn K cdv_Promises___str__ "Promises.__str__" = true)
    (kp_Promises___str__ : PySem.W.keepIn K (.ref f_Promises___str__) = true)
    (fm_Promises___len__ : PySem.W.findIn K (.ref c_Promises) "__len__" = some (some (.ref f_Promises___len__)))
    (lk_Promises___len__ : K.lookup f_Promises___len__ = some ⟨oc2_Promises___len__, od_Promises___len__, .func (PySem.W.fnOf "__len__" "Promises.__len__" (defArgs st_Promises___len__) (defBody st_Promises___len__) (defScope st_Promises___len__) .none kV_Promises___len__ dc_Promises___len__ pm_Promises___len__ an_Promises___len__ cdv_Promises___len__ ct_Promises___len__), sl_Promises___len__⟩)
    (cd_Promises___len__ : PySem.W.codeIn K cdv_Promises___len__ "Promises.__len__" = true)
    (kp_Promises___len__ : PySem.W.keepIn K (.ref f_Promises___len__) = true)
    (fm_Promises___contains__ : PySem.W.findIn K (.ref c_Promises) "__contains__" = some (some (.ref f_Promises___contains__)))
    (lk_Promises___contains__ : K.lookup f_Promises___contains__ = some ⟨oc2_Promises___contains__, od_Promises___contains__, .func (PySem.W.fnOf "__contains__" "Promises.__contains__" (defArgs st_Promises___contains__) (defBody st_Promises___contains__) (defScope st_Promises___contains__) .none kV_Promises___contains__ dc_Promises___contains__ pm_Promises___contains__ an_Promises___contains__ cdv_Promises___contains__ ct_Promises___contains__), sl_Promises___contains__⟩)
    (cd_Promises___contains__ : PySem.W.codeIn K cdv_Promises___contains__ "Promises.__contains__" = true)
    (kp_Promises___contains__ : PySem.W.keepIn K (.ref f_Promises___contains__) = true)
    (fm_Promises___eq__ : PySem.W.findIn K (.ref c_Promises) "__eq__" = some (some (.ref f_Promises___eq__)))
    (lk_Promises___eq__ : K.lookup f_Promises___eq__ = some ⟨oc2_Promises___eq__, od_Promises___eq__, .func (PySem.W.fnOf "__eq__" "Promises.__eq__" (defArgs st_Promises___eq__) (defBody st_Promises___eq__) (defScope st_Promises___eq__) .none kV_Promises___eq__ dc_Promises___eq__ pm_Promises___eq__ an_Promises___eq__ cdv_Promises___eq__ ct_Promises___eq__), sl_Promises___eq__⟩)
    (cd_Promises___eq__ : PySem.W.codeIn K cdv_Promises___eq__ "Promises.__eq__" = true)
    (kp_Promises___eq__ : PySem.W.keepIn K (.ref f_Promises___eq__) = true)
    (ga__law_box : PySem.W.nsIn K mainGlobals "_law_box" = some (some (.ref f__law_box)))
    (lk__law_box : K.lookup f__law_box = some ⟨oc2__law_box, od__law_box, .func (PySem.W.fnOf "_law_box" "_law_box" (defArgs st__law_box) (defBody st__law_box) (defScope st__law_box) .none kV__law_box dc__law_box pm__law_box an__law_box cdv__law_box ct__law_box), sl__law_box⟩)
    (cd__law_box : PySem.W.codeIn K cdv__law_box "_law_box" = true)
    (kp__law_box : PySem.W.keepIn K (.ref f__law_box) = true)
    (ga__law_take : PySem.W.nsIn K mainGlobals "_law_take" = some (some (.ref f__law_take)))
    (lk__law_take : K.lookup f__law_take = some ⟨oc2__law_take, od__law_take, .func (PySem.W.fnOf "_law_take" "_law_take" (defArgs st__law_take) (defBody st__law_take) (defScope st__law_take) .none kV__law_take dc__law_take pm__law_take an__law_take cdv__law_take ct__law_take), sl__law_take⟩)
    (cd__law_take : PySem.W.codeIn K cdv__law_take "_law_take" = true)
    (kp__law_take : PySem.W.keepIn K (.ref f__law_take) = true)
    (ga__law_pick : PySem.W.nsIn K mainGlobals "_law_pick" = some (some (.ref f__law_pick)))
    (lk__law_pick : K.lookup f__law_pick = some ⟨oc2__law_pick, od__law_pick, .func (PySem.W.fnOf "_law_pick" "_law_pick" (defArgs st__law_pick) (defBody st__law_pick) (defScope st__law_pick) .none kV__law_pick dc__law_pick pm__law_pick an__law_pick cdv__law_pick ct__law_pick), sl__law_pick⟩)
    (cd__law_pick : PySem.W.codeIn K cdv__law_pick "_law_pick" = true)
    (kp__law_pick : PySem.W.keepIn K (.ref f__law_pick) = true)
    (ga__law_mixed : PySem.W.nsIn K mainGlobals "_law_mixed" = some (some (.ref f__law_mixed)))
    (lk__law_mixed : K.lookup f__law_mixed = some ⟨oc2__law_mixed, od__law_mixed, .func (PySem.W.fnOf "_law_mixed" "_law_mixed" (defArgs st__law_mixed) (defBody st__law_mixed) (defScope st__law_mixed) .none kV__law_mixed dc__law_mixed pm__law_mixed an__law_mixed cdv__law_mixed ct__law_mixed), sl__law_mixed⟩)
    (cd__law_mixed : PySem.W.codeIn K cdv__law_mixed "_law_mixed" = true)
    (kp__law_mixed : PySem.W.keepIn K (.ref f__law_mixed) = true)
    (ga__law_methods : PySem.W.nsIn K mainGlobals "_law_methods" = some (some (.ref f__law_methods)))
    (lk__law_methods : K.lookup f__law_methods = some ⟨oc2__law_methods, od__law_methods, .func (PySem.W.fnOf "_law_methods" "_law_methods" (defArgs st__law_methods) (defBody st__law_methods) (defScope st__law_methods) .none kV__law_methods dc__law_methods pm__law_methods an__law_methods cdv__law_methods ct__law_methods), sl__law_methods⟩)
    (cd__law_methods : PySem.W.codeIn K cdv__law_methods "_law_methods" = true)
    (kp__law_methods : PySem.W.keepIn K (.ref f__law_methods) = true)
    (ga__law_lets : PySem.W.nsIn K mainGlobals "_law_lets" = some (some (.ref f__law_lets)))
    (lk__law_lets : K.lookup f__law_lets = some ⟨oc2__law_lets, od__law_lets, .func (PySem.W.fnOf "_law_lets" "_law_lets" (defArgs st__law_lets) (defBody st__law_lets) (defScope st__law_lets) .none kV__law_lets dc__law_lets pm__law_lets an__law_lets cdv__law_lets ct__law_lets), sl__law_lets⟩)
    (cd__law_lets : PySem.W.codeIn K cdv__law_lets "_law_lets" = true)
    (kp__law_lets : PySem.W.keepIn K (.ref f__law_lets) = true)
    (ga__law_is_promise : PySem.W.nsIn K mainGlobals "_law_is_promise" = some (some (.ref f__law_is_promise)))
    (lk__law_is_promise : K.lookup f__law_is_promise = some ⟨oc2__law_is_promise, od__law_is_promise, .func (PySem.W.fnOf "_law_is_promise" "_law_is_promise" (defArgs st__law_is_promise) (defBody st__law_is_promise) (defScope st__law_is_promise) .none kV__law_is_promise dc__law_is_promise pm__law_is_promise an__law_is_promise cdv__law_is_promise ct__law_is_promise), sl__law_is_promise⟩)
    (cd__law_is_promise : PySem.W.codeIn K cdv__law_is_promise "_law_is_promise" = true)
    (kp__law_is_promise : PySem.W.keepIn K (.ref f__law_is_promise) = true)
    (ga__law_bars : PySem.W.nsIn K mainGlobals "_law_bars" = some (some (.ref f__law_bars)))
    (lk__law_bars : K.lookup f__law_bars = some ⟨oc2__law_bars, od__law_bars, .func (PySem.W.fnOf "_law_bars" "_law_bars" (defArgs st__law_bars) (defBody st__law_bars) (defScope st__law_bars) .none kV__law_bars dc__law_bars pm__law_bars an__law_bars cdv__law_bars ct__law_bars), sl__law_bars⟩)
    (cd__law_bars : PySem.W.codeIn K cdv__law_bars "_law_bars" = true)
    (kp__law_bars : PySem.W.keepIn K (.ref f__law_bars) = true)
    (ga__law_wrong : PySem.W.nsIn K mainGlobals "_law_wrong" = some (some (.ref f__law_wrong)))
    (lk__law_wrong : K.lookup f__law_wrong = some ⟨oc2__law_wrong, od__law_wrong, .func (PySem.W.fnOf "_law_wrong" "_law_wrong" (defArgs st__law_wrong) (defBody st__law_wrong) (defScope st__law_wrong) .none kV__law_wrong dc__law_wrong pm__law_wrong an__law_wrong cdv__law_wrong ct__law_wrong), sl__law_wrong⟩)
    (cd__law_wrong : PySem.W.codeIn K cdv__law_wrong "_law_wrong" = true)
    (kp__law_wrong : PySem.W.keepIn K (.ref f__law_wrong) = true)
    (ga__law_due : PySem.W.nsIn K mainGlobals "_law_due" = some (some (.ref f__law_due)))
    (lk__law_due : K.lookup f__law_due = some ⟨oc2__law_due, od__law_due, .func (PySem.W.fnOf "_law_due" "_law_due" (defArgs st__law_due) (defBody st__law_due) (defScope st__law_due) .none kV__law_due dc__law_due pm__law_due an__law_due cdv__law_due ct__law_due), sl__law_due⟩)
    (cd__law_due : PySem.W.codeIn K cdv__law_due "_law_due" = true)
    (kp__law_due : PySem.W.keepIn K (.ref f__law_due) = true)
    (ga__law_pair : PySem.W.nsIn K mainGlobals "_law_pair" = some (some (.ref f__law_pair)))
    (lk__law_pair : K.lookup f__law_pair = some ⟨oc2__law_pair, od__law_pair, .func (PySem.W.fnOf "_law_pair" "_law_pair" (defArgs st__law_pair) (defBody st__law_pair) (defScope st__law_pair) .none kV__law_pair dc__law_pair pm__law_pair an__law_pair cdv__law_pair ct__law_pair), sl__law_pair⟩)
    (cd__law_pair : PySem.W.codeIn K cdv__law_pair "_law_pair" = true)
    (kp__law_pair : PySem.W.keepIn K (.ref f__law_pair) = true)
    (ga__law_odd : PySem.W.nsIn K mainGlobals "_law_odd" = some (some (.ref f__law_odd)))
    (lk__law_odd : K.lookup f__law_odd = some ⟨oc2__law_odd, od__law_odd, .func (PySem.W.fnOf "_law_odd" "_law_odd" (defArgs st__law_odd) (defBody st__law_odd) (defScope st__law_odd) .none kV__law_odd dc__law_odd pm__law_odd an__law_odd cdv__law_odd ct__law_odd), sl__law_odd⟩)
    (cd__law_odd : PySem.W.codeIn K cdv__law_odd "_law_odd" = true)
    (kp__law_odd : PySem.W.keepIn K (.ref f__law_odd) = true)
    (ga__law_pairs : PySem.W.nsIn K mainGlobals "_law_pairs" = some (some (.ref f__law_pairs)))
    (lk__law_pairs : K.lookup f__law_pairs = some ⟨oc2__law_pairs, od__law_pairs, .func (PySem.W.fnOf "_law_pairs" "_law_pairs" (defArgs st__law_pairs) (defBody st__law_pairs) (defScope st__law_pairs) .none kV__law_pairs dc__law_pairs pm__law_pairs an__law_pairs cdv__law_pairs ct__law_pairs), sl__law_pairs⟩)
    (cd__law_pairs : PySem.W.codeIn K cdv__law_pairs "_law_pairs" = true)
    (kp__law_pairs : PySem.W.keepIn K (.ref f__law_pairs) = true)
    (ga__law_told : PySem.W.nsIn K mainGlobals "_law_told" = some (some (.ref f__law_told)))
    (lk__law_told : K.lookup f__law_told = some ⟨oc2__law_told, od__law_told, .func (PySem.W.fnOf "_law_told" "_law_told" (defArgs st__law_told) (defBody st__law_told) (defScope st__law_told) .none kV__law_told dc__law_told pm__law_told an__law_told cdv__law_told ct__law_told), sl__law_told⟩)
    (cd__law_told : PySem.W.codeIn K cdv__law_told "_law_told" = true)
    (kp__law_told : PySem.W.keepIn K (.ref f__law_told) = true)
    (ga__law_set_right : PySem.W.nsIn K mainGlobals "_law_set_right" = some (some (.ref f__law_set_right)))
    (lk__law_set_right : K.lookup f__law_set_right = some ⟨oc2__law_set_right, od__law_set_right, .func (PySem.W.fnOf "_law_set_right" "_law_set_right" (defArgs st__law_set_right) (defBody st__law_set_right) (defScope st__law_set_right) .none kV__law_set_right dc__law_set_right pm__law_set_right an__law_set_right cdv__law_set_right ct__law_set_right), sl__law_set_right⟩)
    (cd__law_set_right : PySem.W.codeIn K cdv__law_set_right "_law_set_right" = true)
    (kp__law_set_right : PySem.W.keepIn K (.ref f__law_set_right) = true)
    (ga_law : PySem.W.nsIn K mainGlobals "law" = some (some (.ref f_law)))
    (lk_law : K.lookup f_law = some ⟨oc2_law, od_law, .func (PySem.W.fnOf "law" "law" (defArgs st_law) (defBody st_law) (defScope st_law) .none kV_law dc_law pm_law an_law cdv_law ct_law), sl_law⟩)
    (cd_law : PySem.W.codeIn K cdv_law "law" = true)
    (kp_law : PySem.W.keepIn K (.ref f_law) = true)
    (om_Promises___eq__ : okMeth K c_Promises "__eq__" f_Promises___eq__ = true)
    (om_Promises___str__ : okMeth K c_Promises "__str__" f_Promises___str__ = true)
    (om_Promises___len__ : okMeth K c_Promises "__len__" f_Promises___len__ = true)
    (om_Promises___contains__ : okMeth K c_Promises "__contains__" f_Promises___contains__ = true)
    (ne_Promises : okNe K c_Promises = true)
    (kq_cls : ((PySem.W.clsIn K c_Promises).isSome && PySem.W.typeIn K (.ref c_Promises) == some (.type "type")) = true)
    (kq_ask : PySem.W.kitOne K (.ref c_InvalidPromise) (.ref c_AskError) = some true)
    (kq_val : PySem.W.kitOne K (.ref c_InvalidPromise) (.type "ValueError") = some true)
    (kq_mis : PySem.W.kitOne K (.ref c_InvalidPromise) (.ref c_Misfit) = some false) :
    ∃ fd : FuncData, (∀ (s : Shared) (v : Value), BindsTo s fd ⟨[v], []⟩ [("_law_script", v)]) ∧ ∀ base : Heap, K.In base → base.Ns mainGlobals mg → FnOk P w K mg base (L2.CX P w) 8 fa fd ["_law_script"] (spT K) := by
  obtain ⟨ow1_Promises, ow2_Promises, ow3_Promises, ow4_Promises⟩ := okOwn_of ow_Promises
  have hci : ∀ C ∈ [c_Promises], ClsI K C := by
    intro C hC
    simp only [List.mem_cons, List.mem_nil_iff, or_false] at hC
    subst hC
    exact ow2_Promises
  obtain ⟨x1_InvalidPromise, x2_InvalidPromise, x3_InvalidPromise⟩ := okX_of x_InvalidPromise
  have T : Tx P w K mg ⟨c_Promises, c_InvalidPromise, c_AskError, c_Misfit, a_ARITHMETIC, a_COMPARING, a_TRUTH_TELLING, a_QUIET, a_EVERY_METHOD, a_WORDS, a_FIRST_WORDS, f_first_words, f_is_promise, f_goes_against, f_in_order, f_checked_pairs, f_Promises___init__, f_Promises_read, f_Promises___str__, f_Promises___len__, f_Promises___contains__, f_Promises___eq__, f__law_box, f__law_take, f__law_pick, f__law_mixed, f__law_methods, f__law_lets, f__law_is_promise, f__law_bars, f__law_wrong, f__law_due, f__law_pair, f__law_odd, f__law_pairs, f__law_told, f__law_set_right, f_law, p_Promises_read, x_Promises___init___0⟩ := {
    n_ValueError := PySem.W.mg_none_of X G b_ValueError,
    n_all := PySem.W.mg_none_of X G b_all,
    n_any := PySem.W.mg_none_of X G b_any,
    n_bool := PySem.W.mg_none_of X G b_bool,
    n_dict := PySem.W.mg_none_of X G b_dict,
    n_enumerate := PySem.W.mg_none_of X G b_enumerate,
    n_int := PySem.W.mg_none_of X G b_int,
    n_isinstance := PySem.W.mg_none_of X G b_isinstance,
    n_len := PySem.W.mg_none_of X G b_len,
    n_list := PySem.W.mg_none_of X G b_list,
    n_max := PySem.W.mg_none_of X G b_max,
    n_min := PySem.W.mg_none_of X G b_min,
    n_range := PySem.W.mg_none_of X G b_range,
    n_sorted := PySem.W.mg_none_of X G b_sorted,
    n_str := PySem.W.mg_none_of X G b_str,
    n_sum := PySem.W.mg_none_of X G b_sum,
    n_super := PySem.W.mg_none_of X G b_super,
    n_tuple := PySem.W.mg_none_of X G b_tuple,
    dig := dig,
    g_ARITHMETIC := PySem.W.mg_of X G ga_ARITHMETIC,
    r_ARITHMETIC := okC_ref oc_ARITHMETIC,
    g_COMPARING := PySem.W.mg_of X G ga_COMPARING,
    r_COMPARING := okC_ref oc_COMPARING,
    g_TRUTH_TELLING := PySem.W.mg_of X G ga_TRUTH_TELLING,
    r_TRUTH_TELLING := okC_ref oc_TRUTH_TELLING,
    g_QUIET := PySem.W.mg_of X G ga_QUIET,
    r_QUIET := okC_ref oc_QUIET,
    g_EVERY_METHOD := PySem.W.mg_of X G ga_EVERY_METHOD,
    r_EVERY_METHOD := okC_ref oc_EVERY_METHOD,
    g_WORDS := PySem.W.mg_of X G ga_WORDS,
    r_WORDS := okC_ref oc_WORDS,
    g_FIRST_WORDS := PySem.W.mg_of X G ga_FIRST_WORDS,
    kd_FIRST_WORDS := ⟨_, _, ⟨kl_FIRST_WORDS, ki_FIRST_WORDS, kz_FIRST_WORDS⟩⟩,
    kt_FIRST_WORDS := kt_of kl_FIRST_WORDS ko_FIRST_WORDS,
    g_Promises := PySem.W.mg_of X G ga_Promises,
    cl_Promises := ow1_Promises,
    mkc_Promises := ow3_Promises,
    na_Promises_pairs := ow4_Promises _ (by simp),
    ci := hci,
    g_InvalidPromise := PySem.W.mg_of X G ga_InvalidPromise,
    kp_InvalidPromise := x1_InvalidPromise,
    sb_InvalidPromise := x2_InvalidPromise,
    ty_InvalidPromise := x3_InvalidPromise,
    mk_InvalidPromise := Xn.mp1 Xn.new_V Xn.ini_ValueError PySem.W.kxs_ValueError F.store_ValueError t_InvalidPromise ⟨_, _, _, l_InvalidPromise⟩ ⟨rfl, rfl, rfl, rfl, rfl⟩ nn_InvalidPromise ⟨_, rfl, rfl⟩ (Xn.scI_of (by exact (by decide +kernel : Xn.scIb (defScope (inClass (top 11) 0)) ["at"] = true))) rfl (fun _ => ⟨_, rfl⟩) (by decide) (by decide) (fun _ _ _ => .of_eq rfl),
    g_AskError := PySem.W.mg_of X G ga_AskError,
    g_Misfit := PySem.W.mg_of X G ga_Misfit,
    xf_InvalidPromise := xfB_ok xf_InvalidPromise,
    xc_InvalidPromise := okExcC_of xc_InvalidPromise,
    ex_InvalidPromise := ex_InvalidPromise,
    no_InvalidPromise_at := no_InvalidPromise_at,
    cr_Promises := okCR_of cr_Promises,
    cm_Promises_read := okCM_of po_Promises_read,
    g_first_words := PySem.W.mg_of X G ga_first_words,
    F_first_words := funG_mk lk_first_words cd_first_words kp_first_words,
    g_is_promise := PySem.W.mg_of X G ga_is_promise,
    F_is_promise := funG_mk lk_is_promise cd_is_promise kp_is_promise,
    g_goes_against := PySem.W.mg_of X G ga_goes_against,
    F_goes_against := funG_mk lk_goes_against cd_goes_against kp_goes_against,
    g_in_order := PySem.W.mg_of X G ga_in_order,
    F_in_order := funG_mk lk_in_order cd_in_order kp_in_order,
    g_checked_pairs := PySem.W.mg_of X G ga_checked_pairs,
    F_checked_pairs := funG_mk lk_checked_pairs cd_checked_pairs kp_checked_pairs,
    dv_Promises___init___0 := okC_ref dv_Promises___init___0,
    F_Promises___init__ := funG_mkD (its := [.ref x_Promises___init___0]) lk_Promises___init__ cd_Promises___init__ kp_Promises___init__ lT_Promises___init__ rfl (by simp) (.cons rfl .nil),
    F_Promises_read := funG_mk lk_Promises_read cd_Promises_read kp_Promises_read,
    F_Promises___str__ := funG_mk lk_Promises___str__ cd_Promises___str__ kp_Promises___str__,
    F_Promises___len__ := funG_mk lk_Promises___len__ cd_Promises___len__ kp_Promises___len__,
    F_Promises___contains__ := funG_mk lk_Promises___contains__ cd_Promises___contains__ kp_Promises___contains__,
    F_Promises___eq__ := funG_mk lk_Promises___eq__ cd_Promises___eq__ kp_Promises___eq__,
    g__law_box := PySem.W.mg_of X G ga__law_box,
    F__law_box := funG_mk lk__law_box cd__law_box kp__law_box,
    g__law_take := PySem.W.mg_of X G ga__law_take,
    F__law_take := funG_mk lk__law_take cd__law_take kp__law_take,
    g__law_pick := PySem.W.mg_of X G ga__law_pick,
    F__law_pick := funG_mk lk__law_pick cd__law_pick kp__law_pick,
    g__law_mixed := PySem.W.mg_of X G ga__law_mixed,
    F__law_mixed := funG_mk lk__law_mixed cd__law_mixed kp__law_mixed,
    g__law_methods := PySem.W.mg_of X G ga__law_methods,
    F__law_methods := funG_mk lk__law_methods cd__law_methods kp__law_methods,
    g__law_lets := PySem.W.mg_of X G ga__law_lets,
    F__law_lets := funG_mk lk__law_lets cd__law_lets kp__law_lets,
    g__law_is_promise := PySem.W.mg_of X G ga__law_is_promise,
    F__law_is_promise := funG_mk lk__law_is_promise cd__law_is_promise kp__law_is_promise,
    g__law_bars := PySem.W.mg_of X G ga__law_bars,
    F__law_bars := funG_mk lk__law_bars cd__law_bars kp__law_bars,
    g__law_wrong := PySem.W.mg_of X G ga__law_wrong,
    F__law_wrong := funG_mk lk__law_wrong cd__law_wrong kp__law_wrong,
    g__law_due := PySem.W.mg_of X G ga__law_due,
    F__law_due := funG_mk lk__law_due cd__law_due kp__law_due,
    g__law_pair := PySem.W.mg_of X G ga__law_pair,
    F__law_pair := funG_mk lk__law_pair cd__law_pair kp__law_pair,
    g__law_odd := PySem.W.mg_of X G ga__law_odd,
    F__law_odd := funG_mk lk__law_odd cd__law_odd kp__law_odd,
    g__law_pairs := PySem.W.mg_of X G ga__law_pairs,
    F__law_pairs := funG_mk lk__law_pairs cd__law_pairs kp__law_pairs,
    g__law_told := PySem.W.mg_of X G ga__law_told,
    F__law_told := funG_mk lk__law_told cd__law_told kp__law_told,
    g__law_set_right := PySem.W.mg_of X G ga__law_set_right,
    F__law_set_right := funG_mk lk__law_set_right cd__law_set_right kp__law_set_right,
    g_law := PySem.W.mg_of X G ga_law,
    F_law := funG_mk lk_law cd_law kp_law,
    own_Promises___eq__ := (okMeth_of om_Promises___eq__).1,
    fn_Promises___eq__ := (okMeth_of om_Promises___eq__).2,
    own_Promises___str__ := (okMeth_of om_Promises___str__).1,
    fn_Promises___str__ := (okMeth_of om_Promises___str__).2,
    own_Promises___len__ := (okMeth_of om_Promises___len__).1,
    fn_Promises___len__ := (okMeth_of om_Promises___len__).2,
    own_Promises___contains__ := (okMeth_of om_Promises___contains__).1,
    fn_Promises___contains__ := (okMeth_of om_Promises___contains__).2,
    ne_Promises := (okNe_of ne_Promises).1,
    ob_Promises := (okNe_of ne_Promises).2 }
  have e := hfa.symm.trans (PySem.W.mg_of X G ga_law)
  cases e
  refine ⟨_, fun s v => ?_, fun base _ _ => (ok_law (base := base) T).law lk_law fun ns hh sd hl hs => QL.law1 ⟨kq_cls, kq_ask, kq_val, kq_mis⟩ hs⟩
  exact .of_eq rfl
end PM
open PySem PySem.W PyProof.Rows
open_top hd for PySem.Challenge.rw_pieceasks_k49_promises_looked_at
theorem PySem.Challenge.cw_pieceasks_k49_promises_looked_at_holds : PySem.Challenge.rw_pieceasks_k49_promises_looked_at.Holds := by
  refine hd ?_
  refine Mi.walkM (l := PySem.Challenge.rw_pieceasks_k49_promises_looked_at) (kk := 8) rfl rfl ⟨rfl, by decide, by decide⟩ (fun w h Y => PySem.W.kIn_of Y) ?F
  case F =>
    intro w mg fa h KX G hmg
    refine' PM.all_mk KX G hmg ?b_ValueError ?b_all ?b_any ?b_bool ?b_dict ?b_enumerate ?b_int ?b_isinstance ?b_len ?b_list ?b_max ?b_min ?b_range ?b_sorted ?b_str ?b_sum ?b_super ?b_tuple ?dig ?ga_ARITHMETIC ?oc_ARITHMETIC ?ga_COMPARING ?oc_COMPARING ?ga_TRUTH_TELLING ?oc_TRUTH_TELLING ?ga_QUIET ?oc_QUIET ?ga_EVERY_METHOD ?oc_EVERY_METHOD ?ga_WORDS ?oc_WORDS ?ga_FIRST_WORDS ?kl_FIRST_WORDS ?ki_FIRST_WORDS ?kz_FIRST_WORDS ?ko_FIRST_WORDS ?ga_Promises ?in_Promises ?ow_Promises ?ga_InvalidPromise ?x_InvalidPromise ?t_InvalidPromise ?i_InvalidPromise ?l_InvalidPromise ?nn_InvalidPromise ?ga_AskError ?ga_Misfit ?xf_InvalidPromise ?ex_InvalidPromise ?xc_InvalidPromise ?no_InvalidPromise_at ?cr_Promises ?fp_Promises_read ?rp_Promises_read ?po_Promises_read ?ga_first_words ?lk_first_words ?cd_first_words ?kp_first_words ?ga_is_promise ?lk_is_promise ?cd_is_promise ?kp_is_promise ?ga_goes_against ?lk_goes_against ?cd_goes_against ?kp_goes_against ?ga_in_order ?lk_in_order ?cd_in_order ?kp_in_order ?ga_checked_pairs ?lk_checked_pairs ?cd_checked_pairs ?kp_checked_pairs ?lk_Promises___init__ ?cd_Promises___init__ ?kp_Promises___init__ ?lT_Promises___init__ ?dv_Promises___init___0 ?lk_Promises_read ?cd_Promises_read ?kp_Promises_read ?fm_Promises___str__ ?lk_Promises___str__ ?cd_Promises___str__ ?kp_Promises___str__ ?fm_Promises___len__ ?lk_Promises___len__ ?cd_Promises___len__ ?kp_Promises___len__ ?fm_Promises___contains__ ?lk_Promises___contains__ ?cd_Promises___contains__ ?kp_Promises___contains__ ?fm_Promises___eq__ ?lk_Promises___eq__ ?cd_Promises___eq__ ?kp_Promises___eq__ ?ga__law_box ?lk__law_box ?cd__law_box ?kp__law_box ?ga__law_take ?lk__law_take ?cd__law_take ?kp__law_take ?ga__law_pick ?lk__law_pick ?cd__law_pick ?kp__law_pick ?ga__law_mixed ?lk__law_mixed ?cd__law_mixed ?kp__law_mixed ?ga__law_methods ?lk__law_methods ?cd__law_methods ?kp__law_methods ?ga__law_lets ?lk__law_lets ?cd__law_lets ?kp__law_lets ?ga__law_is_promise ?lk__law_is_promise ?cd__law_is_promise ?kp__law_is_promise ?ga__law_bars ?lk__law_bars ?cd__law_bars ?kp__law_bars ?ga__law_wrong ?lk__law_wrong ?cd__law_wrong ?kp__law_wrong ?ga__law_due ?lk__law_due ?cd__law_due ?kp__law_due ?ga__law_pair ?lk__law_pair ?cd__law_pair ?kp__law_pair ?ga__law_odd ?lk__law_odd ?cd__law_odd ?kp__law_odd ?ga__law_pairs ?lk__law_pairs ?cd__law_pairs ?kp__law_pairs ?ga__law_told ?lk__law_told ?cd__law_told ?kp__law_told ?ga__law_set_right ?lk__law_set_right ?cd__law_set_right ?kp__law_set_right ?ga_law ?lk_law ?cd_law ?kp_law ?om_Promises___eq__ ?om_Promises___str__ ?om_Promises___len__ ?om_Promises___contains__ ?ne_Promises ?kq_cls ?kq_ask ?kq_val ?kq_mis
    (case b_ValueError => k_is)
    (case b_all => k_is)
    (case b_any => k_is)
    (case b_bool => k_is)
    (case b_dict => k_is)
    (case b_enumerate => k_is)
    (case b_int => k_is)
    (case b_isinstance => k_is)
    (case b_len => k_is)
    (case b_list => k_is)
    (case b_max => k_is)
    (case b_min => k_is)
    (case b_range => k_is)
    (case b_sorted => k_is)
    (case b_str => k_is)
    (case b_sum => k_is)
    (case b_super => k_is)
    (case b_tuple => k_is)
    (case dig => k_is)
    (case ga_ARITHMETIC => k_is)
    (case oc_ARITHMETIC => kernel_rfl)
    (case ga_COMPARING => k_is)
    (case oc_COMPARING => kernel_rfl)
    (case ga_TRUTH_TELLING => k_is)
    (case oc_TRUTH_TELLING => kernel_rfl)
    (case ga_QUIET => k_is)
    (case oc_QUIET => kernel_rfl)
    (case ga_EVERY_METHOD => k_is)
    (case oc_EVERY_METHOD => kernel_rfl)
    (case ga_WORDS => k_is)
    (case oc_WORDS => kernel_rfl)
    (case ga_FIRST_WORDS => k_is)
    (case kl_FIRST_WORDS => k_is)
    (case ki_FIRST_WORDS => repeat (first | exact trivial | refine ⟨⟨_, _, rfl, rfl⟩, ?_⟩))
    (case kz_FIRST_WORDS => kernel_rfl)
    (case ko_FIRST_WORDS => kernel_rfl)
    (case ga_Promises => k_is)
    (case in_Promises => k_is)
    (case ow_Promises => kernel_rfl)
    (case ga_InvalidPromise => k_is)
    (case x_InvalidPromise => kernel_rfl)
    (case t_InvalidPromise => kernel_rfl)
    (case i_InvalidPromise => k_is)
    (case l_InvalidPromise => k_is)
    (case nn_InvalidPromise => kernel_rfl)
    (case ga_AskError => k_is)
    (case ga_Misfit => k_is)
    (case xf_InvalidPromise => kernel_rfl)
    (case ex_InvalidPromise => kernel_rfl)
    (case xc_InvalidPromise => kernel_rfl)
    (case no_InvalidPromise_at => kernel_rfl)
    (case cr_Promises => kernel_rfl)
    (case fp_Promises_read => k_is)
    (case rp_Promises_read => k_is)
    (case po_Promises_read => kernel_rfl)
    (case ga_first_words => k_is)
    (case lk_first_words => k_is)
    (case cd_first_words => kernel_rfl)
    (case kp_first_words => kernel_rfl)
    (case ga_is_promise => k_is)
    (case lk_is_promise => k_is)
    (case cd_is_promise => kernel_rfl)
    (case kp_is_promise => kernel_rfl)
    (case ga_goes_against => k_is)
    (case lk_goes_against => k_is)
    (case cd_goes_against => kernel_rfl)
    (case kp_goes_against => kernel_rfl)
    (case ga_in_order => k_is)
    (case lk_in_order => k_is)
    (case cd_in_order => kernel_rfl)
    (case kp_in_order => kernel_rfl)
    (case ga_checked_pairs => k_is)
    (case lk_checked_pairs => k_is)
    (case cd_checked_pairs => kernel_rfl)
    (case kp_checked_pairs => kernel_rfl)
    (case lk_Promises___init__ => k_is)
    (case cd_Promises___init__ => kernel_rfl)
    (case kp_Promises___init__ => kernel_rfl)
    (case lT_Promises___init__ => k_is)
    (case dv_Promises___init___0 => kernel_rfl)
    (case lk_Promises_read => k_is)
    (case cd_Promises_read => kernel_rfl)
    (case kp_Promises_read => kernel_rfl)
    (case fm_Promises___str__ => k_is)
    (case lk_Promises___str__ => k_is)
    (case cd_Promises___str__ => kernel_rfl)
    (case kp_Promises___str__ => kernel_rfl)
    (case fm_Promises___len__ => k_is)
    (case lk_Promises___len__ => k_is)
    (case cd_Promises___len__ => kernel_rfl)
    (case kp_Promises___len__ => kernel_rfl)
    (case fm_Promises___contains__ => k_is)
    (case lk_Promises___contains__ => k_is)
    (case cd_Promises___contains__ => kernel_rfl)
    (case kp_Promises___contains__ => kernel_rfl)
    (case fm_Promises___eq__ => k_is)
    (case lk_Promises___eq__ => k_is)
    (case cd_Promises___eq__ => kernel_rfl)
    (case kp_Promises___eq__ => kernel_rfl)
    (case ga__law_box => k_is)
    (case lk__law_box => k_is)
    (case cd__law_box => kernel_rfl)
    (case kp__law_box => kernel_rfl)
    (case ga__law_take => k_is)
    (case lk__law_take => k_is)
    (case cd__law_take => kernel_rfl)
    (case kp__law_take => kernel_rfl)
    (case ga__law_pick => k_is)
    (case lk__law_pick => k_is)
    (case cd__law_pick => kernel_rfl)
    (case kp__law_pick => kernel_rfl)
    (case ga__law_mixed => k_is)
    (case lk__law_mixed => k_is)
    (case cd__law_mixed => kernel_rfl)
    (case kp__law_mixed => kernel_rfl)
    (case ga__law_methods => k_is)
    (case lk__law_methods => k_is)
    (case cd__law_methods => kernel_rfl)
    (case kp__law_methods => kernel_rfl)
    (case ga__law_lets => k_is)
    (case lk__law_lets => k_is)
    (case cd__law_lets => kernel_rfl)
    (case kp__law_lets => kernel_rfl)
    (case ga__law_is_promise => k_is)
    (case lk__law_is_promise => k_is)
    (case cd__law_is_promise => kernel_rfl)
    (case kp__law_is_promise => kernel_rfl)
    (case ga__law_bars => k_is)
    (case lk__law_bars => k_is)
    (case cd__law_bars => kernel_rfl)
    (case kp__law_bars => kernel_rfl)
    (case ga__law_wrong => k_is)
    (case lk__law_wrong => k_is)
    (case cd__law_wrong => kernel_rfl)
    (case kp__law_wrong => kernel_rfl)
    (case ga__law_due => k_is)
    (case lk__law_due => k_is)
    (case cd__law_due => kernel_rfl)
    (case kp__law_due => kernel_rfl)
    (case ga__law_pair => k_is)
    (case lk__law_pair => k_is)
    (case cd__law_pair => kernel_rfl)
    (case kp__law_pair => kernel_rfl)
    (case ga__law_odd => k_is)
    (case lk__law_odd => k_is)
    (case cd__law_odd => kernel_rfl)
    (case kp__law_odd => kernel_rfl)
    (case ga__law_pairs => k_is)
    (case lk__law_pairs => k_is)
    (case cd__law_pairs => kernel_rfl)
    (case kp__law_pairs => kernel_rfl)
    (case ga__law_told => k_is)
    (case lk__law_told => k_is)
    (case cd__law_told => kernel_rfl)
    (case kp__law_told => kernel_rfl)
    (case ga__law_set_right => k_is)
    (case lk__law_set_right => k_is)
    (case cd__law_set_right => kernel_rfl)
    (case kp__law_set_right => kernel_rfl)
    (case ga_law => k_is)
    (case lk_law => k_is)
    (case cd_law => kernel_rfl)
    (case kp_law => kernel_rfl)
    (case om_Promises___eq__ => kernel_rfl)
    (case om_Promises___str__ => kernel_rfl)
    (case om_Promises___len__ => kernel_rfl)
    (case om_Promises___contains__ => kernel_rfl)
    (case ne_Promises => kernel_rfl)
    (case kq_cls => kernel_rfl)
    (case kq_ask => kernel_rfl)
    (case kq_val => kernel_rfl)
    (case kq_mis => kernel_rfl)
#print axioms PySem.Challenge.cw_pieceasks_k49_promises_looked_at_holds
