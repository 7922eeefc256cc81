import PyProof.Rows.All
import Wide.All
import OpenK.AllK
import Wide.FinOn
import KE.KStateDown
import Lean
import HandS.Head0
import HandS.Head1
import HandS.Head2
import HandS.HeadEnd
import HandS.HeadHook1
import HandS.HeadHook2
import HandS.ForMost
import HandS.TupSets
import HandS.Zip
import KE.GoesEnum
import KE.GoesMore
import PyProof.EnumMake
import KE.DataFind
import KE.DataMinMax
import KE.DatumOrd
import KE.SortData
import HandS.SetFor
import HandS.Conv
import HandS.Ends
import PyProof.ListRange
import PyProof.Rows.Range3
import PyProof.Rows.ChunkLeaf
import PyProof.ReprReads
import PyProof.StrBlock2
import HandS.Exc
import HandS.WordsExc
import HandS.IsInst
import HandS.NoneIn
import HandS.Rev
import HandS.RevRange
import HandS.ExcInit
import HandS.ExcField
import HandS.ExcOwn
import KE.KExcIs
import HandS.Defaults
import HandS.MakeKwOnly
import HandS.SortInts
import HandS.Wide
import HandS.Style
import HandS.SortRule
import HandS.DictComp
import HandS.TupLe
import HandS.Sort
import HandS.SortKw
import HandS.More
import HandS.Strs
import PyProof.Rows.ReprR
import HandS.WideBits
import HandS.HeadHook3
import PyProof.ReprBulk
import PyProof.ReprLen
import PySem.Challenge.RW_keepbeat_k11_values_of_expressions
set_option Elab.async false
set_option linter.all false
set_option maxRecDepth 100000
set_option maxHeartbeats 4000000
namespace Mn
open PySem PySem.Spec PyProof.Rows L2

/-! ### values, objects -/
inductive MV where
  | non | bl (b : Bool) | int (i : Int) | str (x : Str)
  | tup (xs : List MV) | lst (xs : List MV) | ref (n : Nat) | glo (x : Str) | ty (n : String) | scr (xs : List MV)
  | xcp (a d : Addr) (f : Str) (v : MV)

inductive MO where
  | lst (xs : List MV) | dct (kvs : List (Key × MV)) | dlk (kvs : List (Key × MV)) | ins (c : Str) (fs : List (Str × MV)) | dead

abbrev MHeap := List MO
abbrev MSt := List (Option MV)
inductive Rs (α : Type) where
  | ok (a : α) (h : MHeap) | exc (c : Str) (v : MV) (h : MHeap) | bad
def Rs.bind {α β : Type} (r : Rs α) (f : α → MHeap → Rs β) : Rs β :=
  match r with
  | .ok a h => f a h
  | .exc c v h => .exc c v h
  | .bad => .bad
inductive Out where
  | next (σ : MSt) (h : MHeap) | ret (v : MV) (h : MHeap) | brk (σ : MSt) (h : MHeap) | cnt (σ : MSt) (h : MHeap) | exc (c : Str) (v : MV) (h : MHeap) | bad
def Rs.out {α : Type} (r : Rs α) (f : α → MHeap → Out) : Out :=
  match r with
  | .ok a h => f a h
  | .exc c v h => .exc c v h
  | .bad => .bad
def Out.seq (o : Out) (f : MSt → MHeap → Out) : Out :=
  match o with
  | .next σ h => f σ h
  | o => o

/-! ### the text -/
/-- built-in functions -/
inductive Bf where
  | len | int | abs | max2 | min2 | str | sum | maxL | minL | isInt | isBool | isList | isTuple | isStr | isDict | tuple | all | any
/-- methods of built-in types -/
inductive Bm where
  | append | pop | pop0 | extend | index | remove | count | insert
/-- further forms, by values -/
inductive X1 where
  | dof | rpr | tix (x : Str) (kvs : List (Str × Key)) | mxd (d : Int) | mnt
inductive X2 where
  | dix | din | dnin | deq | dne | dget | tsl | oeq (c : Str) | tgt | tlt | inr | tpx | tin (x : Str) (ks : List Str) | tnin (x : Str) (ks : List Str)
inductive X3 where
  | dget
inductive F1 where
  | pr | rev | sk | rg1
inductive F2 where
  | rg2 | rg0s
inductive I1 where
  | keys | items | vals | rrg | chs | est
inductive Tg where
  | nm (i : Nat) | tp (is : List Nat)
inductive ME where
  | var (i : Nat) | int (i : Int) | str (s : Str) | bl (b : Bool) | non | con (x : Str)
  | bin (op : Operator) (a b : ME) | neg (a : ME) | not (a : ME)
  | cmp (op : CmpOp) (a b : ME) | chn (op1 op2 : CmpOp) (a b c : ME) | chn3 (op1 op2 op3 : CmpOp) (a b c d : ME)
  | and (a b : ME) | or (a b : ME) | ife (c a b : ME)
  | tup (es : ME) | idx (a b : ME) | mk (m : Bool) (f : ME) | frz (e : ME)
  | call (f : Str) (es : ME) | bc (k : Bf) (es : ME) | mth (o : ME) (c m f : Str) (es : ME) | bm (k : Bm) (o es : ME)
  | new (c : Str) (es : ME) | fld (o : ME) (f : Str)
  | nil | cons (e es : ME)
  | fl (es : ME) | fc (own : List Nat) (tg : Tg) (elt it cond : ME) | fs (a lo hi : ME) | fli (a : ME) | fso (a : ME) | fca (a b : ME) | fre (a b : ME)
  | tru (e : ME)
  | x1 (k : X1) (a : ME) | x2 (k : X2) (a b : ME) | x3 (k : X3) (a b c : ME) | dd (es : ME) | lck (a e : ME) | dcp (own : List Nat) (tg : Tg) (ke ve it cond : ME) | f1 (k : F1) (a : ME) | f2 (k : F2) (a b : ME) | i1 (k : I1) (a : ME)
  | kcl (c : Option Str) (key : Str) (n : Nat) (es ks : ME)
  | xfl (i : Nat) (f : Str) | xis (i : Nat) (d : Str)
  | iv (e : ME) | ir1 (a : ME) | ir2 (a b : ME) | irn (a b : ME) | ien (e : ME) | izip (a b : ME) | irv (e : ME)
/-- how a call stands in a try's body -/
inductive Tk where
  | ex | asg (j : Nat) | ret
inductive MS where
  | skip | seq (a b : MS) | asg (i : Nat) (e : ME) | unp (is : List Nat) (e : ME) | par (i j : Nat) (a b : ME)
  | una (o : ME) (f : Str) (j : Nat) (e : ME) | setf (o : ME) (f : Str) (e : ME) | seti (o i e : ME) | aug (i : Nat) (op : Operator) (e : ME)
  | ex (e : ME) | ret (e : ME) | retN | ite (c : ME) (a b : MS) | whl (c : ME) (b : MS) | for_ (tg : Tg) (it : ME) (b : MS)
  | setd (o i e : ME) | lck (a : ME) (s : MS)
  | brk | cnt | never
  | rai (c : Str) (e : ME) | tryA (b : MS) (i : Nat) (c : Str) (s : MS) | tryB (k : Tk) (f : Str) (es : ME) (i : Nat) (c : Str) (s : MS)

/-! ### operations on values -/
def strI (i : Int) : Option Str := if i.natAbs.log2 < 1920 then some (toString i : String) else none
def litB (c : Prop) [Decidable c] (r : Rs MV) : Rs MV := if c then r else .bad
def bI (a b : MV) (h : MHeap) (C : Int → Int → Prop) [∀ i j, Decidable (C i j)] (g : Int → Int → Int) : Rs MV :=
  match a, b with
  | .int i, .int j => if C i j then .ok (.int (g i j)) h else .bad
  | _, _ => .bad
/-! bounds, closed to the kernel's reckoning -/
def bdR (j : Int) : Prop := -(2 ^ 62) ≤ j ∧ j < 2 ^ 62
def bdM (i j : Int) : Prop := (-18446744073709551616 < i ∧ i < 18446744073709551616) ∨ (-18446744073709551616 < j ∧ j < 18446744073709551616)
def bdD (j : Int) : Prop := 0 < j ∧ j < 18446744073709551616
def bdS (i j : Int) : Prop := 0 ≤ j ∧ j ≤ 1000000 ∧ i.natAbs < 18446744073709551616
def bdF (k : Int) : Prop := -(2 ^ 63) ≤ k ∧ k < 2 ^ 63
noncomputable instance {j : Int} : Decidable (bdR j) := Classical.propDecidable _
noncomputable instance {i j : Int} : Decidable (bdM i j) := Classical.propDecidable _
noncomputable instance {j : Int} : Decidable (bdD j) := Classical.propDecidable _
noncomputable instance {i j : Int} : Decidable (bdS i j) := Classical.propDecidable _
noncomputable instance {j : Int} : Decidable (bdF j) := Classical.propDecidable _
end Mn
namespace Mn
open PySem PySem.Spec PyProof.Rows L2
open Sem (wp)
open AutoSeq1 (wpAny_loadPart')
/-! ### enumerate of a tuple -/
theorem meets_enT (l : Addr) (ys : Array Value) (n : Nat) (dd : Option Addr) (sl : Array (Option Value)) :
    Meets (Builtin.«enumerate.__new__» ⟨[.type "enumerate", .ref l], []⟩) (fun _ R s => s.heap.get? l = some { cls := .type "tuple", dict := dd, data := .seq ys n, slots := sl } ∧
      R (.ok (.ret (.ref (s.heap.push { cls := .type "tuple_iterator", data := .fields #[.ref l, .int 0 0] }).objs.size)))
        { s with heap := (s.heap.push { cls := .type "tuple_iterator", data := .fields #[.ref l, .int 0 0] }).push { cls := .type "enumerate", data := .fields #[.none, .bool false, .ref s.heap.objs.size, rawInt 0, .none, .none] } }) :=
  .of_wp fun prog w A R s z => by
    obtain ⟨hp, gg, dw, tk, os⟩ := s
    obtain ⟨el, z⟩ := z
    have hsub := sub_enumerate
    have eL : Heap.IsTuple (Shared.heap ⟨hp, gg, dw, tk, os⟩) l ys := ⟨_, el, rfl, n, rfl⟩
    wp_walk using wpAny_loadPart' el
    refine wpAny_stack_any fun st => wpAny_pure ?_
    split
    · rename_i c _ _ _ _ _
      cases (c == Value.type "enumerate")
      · wp_walk using wpAny_loadPart' el, wpAny_pyIter_tuple eL
        exact ⟨_, rfl, z⟩
      · wp_walk using wpAny_loadPart' el, wpAny_pyIter_tuple eL
        exact ⟨_, rfl, z⟩
    · wp_walk using wpAny_loadPart' el, wpAny_pyIter_tuple eL
      exact ⟨_, rfl, z⟩
theorem call_enT {prog : Program} {w : World} {A : Around} {E : Value → Shared → Prop} {s : Shared} {l : Addr} {ys : Array Value} {Q : Value → Shared → Prop} (hL : s.heap.IsTuple l ys)
    (h : ∀ h', IsEnum h' (s.heap.objs.size + 1) s.heap.objs.size 0 .none → h'.IsTupleIter s.heap.objs.size l 0 → h'.objs.size = s.heap.objs.size + 2 →
      (∀ b o, s.heap.get? b = some o → h'.get? b = some o) → Q (.ref (s.heap.objs.size + 1)) { s with heap := h' }) :
    wpAny (model prog w) A (call (.type "enumerate") [.ref l]) Q E s := by
  obtain ⟨⟨c, dd, dt, sl⟩, el, ec, n, ed⟩ := hL
  replace ec : c = .type "tuple" := ec
  replace ed : dt = .seq ys n := ed
  subst ec ed
  refine callType_new F.called_enumerate (by decide) (F.typeCall_enumerate_1 _) (F.newCall_enumerate_1 _) (fun ob => F.args_object_init_2 ob _) F.entry_enumerate_new (meets_enT l ys n dd sl) ⟨el, ?_⟩
  have sz : (s.heap.push { cls := .type "tuple_iterator", data := .fields #[.ref l, .int 0 0] }).objs.size = s.heap.objs.size + 1 := Heap.size_push ..
  show _ ∧ _
  rw [sz]
  have ie : IsEnum ((s.heap.push { cls := .type "tuple_iterator", data := .fields #[.ref l, .int 0 0] }).push
      { cls := .type "enumerate", data := .fields #[.none, .bool false, .ref s.heap.objs.size, rawInt 0, .none, .none] }) (s.heap.objs.size + 1) s.heap.objs.size 0 .none := by
    have z := Heap.get?_push_size (s.heap.push { cls := .type "tuple_iterator", data := .fields #[.ref l, .int 0 0] })
      (o := { cls := .type "enumerate", data := .fields #[.none, .bool false, .ref s.heap.objs.size, rawInt 0, .none, .none] }) rfl
    rw [sz] at z
    exact z
  exact ⟨⟨_, ie, rfl⟩, h _ ie ⟨_, Heap.get?_push_of_some _ (Heap.get?_push_size _ rfl), rfl, rfl⟩ (by rw [Heap.size_push, sz]) fun b o x => Heap.get?_push_of_some _ (Heap.get?_push_of_some _ x)⟩
theorem enT_end {prog : Program} {w : World} {A : Around} {E : Value → Shared → Prop} {s : Shared} {z t l : Addr} {i : Nat} {ys : Array Value} {old : Value} {Q : Option Value → Shared → Prop} (hh : A.handled = none)
    (ie : IsEnum s.heap z t i old) (it : s.heap.IsTupleIter t l i) (el : s.heap.IsTuple l ys) (hx : ys[i]? = none)
    (hQ : ∀ g, Heap.ExtBut t s.heap g → Q none { s with heap := g }) : wpAny (model prog w) A (pyNext (.ref z)) Q E s := by
  have ty : s.TypeIs (.ref z) "enumerate" := ⟨_, ie, rfl⟩
  unfold pyNext
  refine wpAny_bind (wpAny_attempt (wpAny_callSpecial?_slot (name := Str.ofString "__next__") ty F.slot_enumerate_next
    (wpAny_call_entry F.slot_enumerate_next ty F.entry_enumerate_next ?_ (F.args_enumerate_next_1 _))))
  show wpAny _ _ (field (.ref z) 2 >>= _) _ _ _
  refine wpAny_bind (wpAny_field ie rfl (x := .ref t) rfl ?_)
  refine wpAny_bind (wpAny_nextOf_tuple_end hh it el hx fun g x a1 a2 => ?_)
  obtain ⟨q, b1, b2⟩ := a2
  refine wpAny_bind (wpAny_isInstance (T := "StopIteration") (b := true) ⟨q, b1, b2⟩ isSubtype_stop ?_)
  exact wpAny_pure (hQ _ a1)
/-- the tuple at a as it stands at each turn, the items in new pairs -/
def IteT (K : PySem.W.Frag) (a : Addr) : It :=
  ⟨fun i H => ∃ (xs : List V) (x : V), SqT K H a xs ∧ xs[i]? = some x, fun i H v H' => ∃ T x, v = .ref T ∧ H T = none ∧ H' = upd H T (.tup [.int (i : Nat), x]) ∧ ∀ xs, SqT K H a xs → xs[i]? = some x, fun i H => ∃ xs : List V, SqT K H a xs ∧ xs.length ≤ i⟩
theorem turn_enT {P : Program} {w : World} {K : PySem.W.Frag} {elts : List Expr} {kk : Nat} {tpos : Pos} (a e it : Addr) :
    Turn P w K (.Tuple elts kk tpos) (IteT K a) [e, it] e (fun i h => (∃ old, IsEnum h e it ((i : Nat) : Int) old) ∧ h.IsTupleIter it a i ∧ e ≠ it ∧ a ≠ it ∧ a ≠ e) where
  mem := by simp
  obj := fun i h st b mb => by
    obtain ⟨⟨old, ie⟩, ⟨o, ho, _, hd⟩, _⟩ := st
    have mb : b = e ∨ b = it := by simpa using mb
    rcases mb with z | z
    · rw [z]; exact ⟨_, ie, fun v q => nomatch q⟩
    · rw [z]; exact ⟨o, ho, fun v q => by rw [hd] at q; cases q⟩
  keep := fun i h h' st k => let ⟨⟨old, ie⟩, hi, hne⟩ := st; ⟨⟨old, k e (by simp) _ ie⟩, hi.at fun o q => k it (by simp) o q, hne⟩
  item := by
    intro X eP ew eK hc i pins s σ H E I hf st hg
    subst eP ew eK
    obtain ⟨⟨old, ie⟩, hit, hne, hai, hae⟩ := st
    obtain ⟨xs, x, hq, hx⟩ := hg
    obtain ⟨its, rv, p, _⟩ := I.tuple hq
    have le : e < s.heap.objs.size := Heap.lt_size ie
    have li : it < s.heap.objs.size := by obtain ⟨_, q, _⟩ := hit; exact Heap.lt_size q
    have D : Draws X.prog X.w X.A.in1 it [it, a] its.toArray.size (fun j v => its.toArray[j]? = some v) (fun j g => g.IsTupleIter it a j ∧ g.IsTuple a its.toArray) := Draws.tuple (A := X.A.in1) (I.ok.hd hc) it a hai its.toArray
    have hlt : i < its.toArray.size := by
      have l1 := rv.length
      have l2 := (List.getElem?_eq_some_iff.mp hx).1
      simp
      omega
    refine wpAny_pyNext_enum_itemC D ie ⟨hit, p⟩ hlt hne (by simp [hne, Ne.symm hae]) fun u h' tk hP ho hit' hT hsz hk => ?_
    obtain ⟨u', hu', ru⟩ := rv.get hx
    have eu : u = u' := by
      have z := hP
      simp at z
      rw [hu'] at z
      exact (Option.some.inj z).symm
    subst eu
    refine ⟨_, rfl, wpAny_letOwnedTupleGo_enum (s := { s with heap := h', toks := tk + 1 }) ho fun h'' ie' sb => ?_⟩
    have hT2 : h''.get? s.heap.objs.size = some { cls := .type "tuple", data := .seq #[.int i tk, u] } := (sb.2 _ (Nat.ne_of_gt le)).trans hT
    have nw : ObjOk X.prog X.w (upd H s.heap.objs.size (.tup [.int (i : Nat), x])) h'' s.heap.objs.size (.tup [.int (i : Nat), x]) :=
      ⟨by show 2 ≤ sizeLine; decide, [.int i tk, u], .cons ⟨_, rfl⟩ (.cons ru .nil), ⟨_, hT2, rfl, _, rfl⟩⟩
    have I1 : Inv X pins σ (upd H s.heap.objs.size (.tup [.int (i : Nat), x])) { s with heap := h'', toks := tk + 1 } :=
      I.turnedNew (ch := [e, it]) (fun b ob hb q => (sb.2 b (fun z => hb (by simp [z]))).trans (hk b ob (fun z => hb (by simp [z])) (fun z => hb (by simp [z])) q)) hf (Nat.le_refl _) nw
    refine ⟨.ref s.heap.objs.size, _, I1, rfl, ⟨_, x, rfl, I.hok.fresh (Nat.le_refl _), rfl, fun ys hy => by rw [I.tuple_inj hy hq]; exact hx⟩, ⟨⟨u, ?_⟩, hit'.1.at fun o q => (sb.2 it (Ne.symm hne)).trans q, hne, hai, hae⟩, fun b mb => ?_⟩
    · have e1 : ((i + 1 : Nat) : Int) = (i : Int) + 1 := by omega
      rw [e1]; exact ie'
    · have lb : b < s.heap.objs.size := by
        have mb : b = e ∨ b = it := by simpa using mb
        rcases mb with z | z
        · rw [z]; exact le
        · rw [z]; exact li
      rw [upd_ne (Nat.ne_of_lt lb)]
      exact (hf b mb).1
  done := by
    intro X eP ew eK hc i pins s σ H E I hf st hg
    subst eP ew eK
    obtain ⟨⟨old, ie⟩, hit, hne, hai, hae⟩ := st
    obtain ⟨xs, hq, hx⟩ := hg
    obtain ⟨its, rv, p, _⟩ := I.tuple hq
    obtain ⟨f0, f1, f2, f3, f4, f5⟩ := hf it (by simp)
    have hl := rv.length
    exact enT_end (I.ok.hd hc) ie hit p (by simp; omega) fun g eb => ⟨rfl, I.turned (t' := s.toks) (fun b o hb q => eb b o hb q) f0 f1 f3 f4 f5⟩
  self := fun A i s Q E st h => let ⟨⟨_, ie⟩, _⟩ := st; wpAny_pyIter_enum ie h
def iEnumA (K : PySem.W.Frag) (ta : TA) : TI := fun σ H R => ta σ H fun vs H1 => ∃ a xs, vs = [.ref a] ∧ ((SqL K H1 a xs ∧ R (Ite K a) H1) ∨ (SqT K H1 a xs ∧ R (IteT K a) H1))
theorem pi_enumA {X : Cx} {e : Expr} {ta : TA} {p pos tpos : Pos} {elts : List Expr} {kk : Nat} (hg : Gl X "enumerate") (hm : X.mg "enumerate" = none) (ha : PA X [e] ta) (hs : starEach [e] X.env = [(false, eval e X.env)] := by rfl) :
    PI X (.Tuple elts kk tpos) (.Call (.Name "enumerate" p) [e] [] pos) (iEnumA X.K ta) := by
  refine ⟨fun pins s σ H R I h => ?_⟩
  refine Call_ (ld_blt I hg hm boot_enumerate (PyProof.Rows.callWith_type1 (thn (ha.run pos pins s σ H _ I h) fun us s1 ⟨vs, H1, I1, r1, q1⟩ => ?_) hs rfl))
  obtain ⟨a, xs, ex, q⟩ := q1
  subst ex
  cases r1 with
  | cons r rr =>
    cases rr
    cases r
    rcases q with ⟨hq, q⟩ | ⟨hq, q⟩
    · obtain ⟨its, rv, pl, hz⟩ := I1.list hq
      refine call_enumerate_list pl.isList fun g ie hit hsz hk => wpAny_pyIter_enum ie ?_
      have I2 : Inv X pins σ H1 { s1 with heap := g } := I1.kept (t' := s1.toks) hk
      refine ⟨s1.heap.objs.size + 1, [s1.heap.objs.size + 1, s1.heap.objs.size], _, _, H1, rfl, I2, turn_enum a (s1.heap.objs.size + 1) s1.heap.objs.size, ⟨⟨.none, ie⟩, hit, Nat.succ_ne_self _⟩, fun b mb => ?_, q⟩
      have mb : b = s1.heap.objs.size + 1 ∨ b = s1.heap.objs.size := by simpa using mb
      have lb : s1.heap.objs.size ≤ b := by
        rcases mb with z | z
        · rw [z]; exact Nat.le_add_right _ _
        · rw [z]; exact Nat.le_refl _
      exact I1.fpOk lb (I1.hok.fresh lb)
    · obtain ⟨its, rv, pl, hz⟩ := I1.tuple hq
      have la : a < s1.heap.objs.size := by obtain ⟨o, q, _⟩ := pl; exact Heap.lt_size q
      refine call_enT pl fun g ie hit hsz hk => wpAny_pyIter_enum ie ?_
      have I2 : Inv X pins σ H1 { s1 with heap := g } := I1.kept (t' := s1.toks) hk
      refine ⟨s1.heap.objs.size + 1, [s1.heap.objs.size + 1, s1.heap.objs.size], _, _, H1, rfl, I2, turn_enT a (s1.heap.objs.size + 1) s1.heap.objs.size, ⟨⟨.none, ie⟩, hit, Nat.succ_ne_self _, Nat.ne_of_lt la, Nat.ne_of_lt (Nat.lt_succ_of_lt la)⟩, fun b mb => ?_, q⟩
      have mb : b = s1.heap.objs.size + 1 ∨ b = s1.heap.objs.size := by simpa using mb
      have lb : s1.heap.objs.size ≤ b := by
        rcases mb with z | z
        · rw [z]; exact Nat.le_add_right _ _
        · rw [z]; exact Nat.le_refl _
      exact I1.fpOk lb (I1.hok.fresh lb)
/-! ### pairs of ints as data: min, remove -/
open PySem.W (dataLt dataLt_ii alike alikeAll AlikeAll minD min_list_data readsAll_at reads_keeps)
open PySem.SeqAt (dataPlace remove_list_data readOf_plain)
def dP (p : Int × Int) : PyData := .tuple [.int p.1, .int p.2]
def ltPr (a b : Int × Int) : Bool := decide (a.1 < b.1 ∨ (a.1 = b.1 ∧ a.2 < b.2))
def minPr (p : Int × Int) (ps : List (Int × Int)) : Int × Int := ps.foldl (fun a y => if ltPr y a = true then y else a) p
theorem dP_inj {p q : Int × Int} (h : dP p = dP q) : p = q := by
  unfold dP at h
  simp at h
  exact Prod.ext h.1 h.2
theorem dP_plain : ∀ ps : List (Int × Int), PyData.plainAll (ps.map dP) = true
  | [] => rfl
  | p :: ps => by
    rw [List.map_cons, PyData.plainAll, dP_plain ps]
    rfl
theorem dP_eqv {p q : Int × Int} : PyData.eqv (dP p) (dP q) = decide (p = q) := by
  obtain ⟨a, b⟩ := p
  obtain ⟨c, d⟩ := q
  unfold dP
  by_cases h1 : a = c <;> by_cases h2 : b = d <;> simp [PyData.eqv, PyData.eqvAll, h1, h2]
theorem dP_min : ∀ (ps : List (Int × Int)) (p : Int × Int), minD (dP p) (ps.map dP) = dP (minPr p ps)
  | [], p => rfl
  | y :: ps, p => by
    have ih := dP_min ps (if ltPr y p = true then y else p)
    unfold minD minPr at ih ⊢
    rw [List.map_cons, List.foldl_cons, List.foldl_cons, ← ih]
    congr 1
    have e : dataLt (dP y) (dP p) = ltPr y p := dataLt_ii _ _ _ _
    rw [e]
    split <;> rfl
theorem dP_alike (ps : List (Int × Int)) : AlikeAll (ps.map dP) := by
  refine ⟨fun x hx y hy => ?_, fun x hx => ?_⟩
  · obtain ⟨p, _, rfl⟩ := List.mem_map.mp hx
    obtain ⟨q, _, rfl⟩ := List.mem_map.mp hy
    simp [dP, alike, alikeAll]
  · obtain ⟨p, _, rfl⟩ := List.mem_map.mp hx
    unfold dP
    exact fun z => nomatch z
theorem dP_depth : ∀ ps : List (Int × Int), PyData.depthAll (ps.map dP) ≤ 1
  | [] => Nat.zero_le _
  | p :: ps => by
    rw [List.map_cons]
    unfold PyData.depthAll
    exact Nat.max_le.mpr ⟨by simp [dP, PyData.depth, PyData.depthAll], dP_depth ps⟩
section
variable {X : Cx}
def rMinP (K : PySem.W.Frag) : List V → Hp → VK → Prop := fun vs H Q => ∃ (a : Addr) (xs : List V) (p : Int × Int) (ps : List (Int × Int)), vs = [V.ref a] ∧ SqL K H a xs ∧ DpAll K H xs ((p :: ps).map dP) ∧ ∀ (i : Nat) (x : V), xs[i]? = some x → (p :: ps)[i]? = some (minPr p ps) → Q x H
theorem dpAll_get {K : PySem.W.Frag} {H : Hp} : ∀ {xs : List V} {ds : List PyData}, DpAll K H xs ds → xs.length = ds.length
  | _, _, .nil => rfl
  | _, _, .cons _ t => by rw [List.length_cons, List.length_cons, dpAll_get t]
theorem cr_minP (hc : X.calm = true) (hu : X.A.units + 4 < cLine) : CallR X (.builtin "min") (rMinP X.K) := by
  intro pins s σ H vs us Q I r h
  obtain ⟨a, xs, p, ps, rfl, hs, hd, q⟩ := h
  obtain ⟨its, rv, hl, hz⟩ := I.list hs
  rw [Vals.ref1 r]
  obtain ⟨as, rd⟩ := Dp.readsAll I _ xs its hd rv
  have rd' : ReadsAll s.heap its.toArray.toList (dP p :: ps.map dP) as := by simpa using rd
  have hdp := dP_depth (p :: ps)
  refine min_list_data (I.ok.hd hc) hl.isList rd' (dP_alike (p :: ps)) (by rw [List.map_cons] at hdp; omega) fun i v h' tk bs hv hr hk => ?_
  have hv' : its[i]? = some v := by simpa using hv
  obtain ⟨_, r2, hi, _, _⟩ := readsAll_at rd' i v (by simpa using hv)
  have hi' : i < (p :: ps).length := by simpa using hi
  have e1 : (dP p :: ps.map dP).getD i .none = dP (p :: ps)[i] := by
    rw [← List.map_cons, List.getD_eq_getElem?_getD, List.getElem?_map, List.getElem?_eq_getElem hi']
    rfl
  rw [e1] at r2
  rw [dP_min] at hr
  have p1 : ∀ q, (dP q).plain = true := fun q => rfl
  have e2 := (readOf_plain (p1 _) (reads_keeps hk r2)).symm.trans (readOf_plain (p1 _) hr)
  have e3 := dP_inj e2
  have lx := rv.length
  have li := (List.getElem?_eq_some_iff.mp hv').1
  have hxi : i < xs.length := by omega
  obtain ⟨u, hu', ru⟩ := rv.get (List.getElem?_eq_getElem hxi)
  rw [hv'] at hu'
  cases hu'
  exact ⟨xs[i], H, I.kept (t' := tk) hk, ru, q i _ (List.getElem?_eq_getElem hxi) (by rw [List.getElem?_eq_getElem hi', e3])⟩
def rRemP (K : PySem.W.Frag) : V → List V → Hp → VK → Prop := fun x xs H Q => ∃ (l : Addr) (y : V) (vs : List V) (ps : List (Int × Int)) (q : Int × Int) (j : Nat), x = .ref l ∧ xs = [y] ∧ H l = some (.lst vs) ∧ DpAll K H vs (ps.map dP) ∧ Dp K H y (dP q) ∧ (ps.findIdx? fun p => decide (p = q)) = some j ∧ Q .non (upd H l (.lst (vs.eraseIdx j)))
theorem place_dP {q : Int × Int} : ∀ ps : List (Int × Int), dataPlace (ps.map dP) (dP q) = ps.findIdx? fun p => decide (p = q) := by
  intro ps
  unfold dataPlace
  rw [List.findIdx?_map]
  congr 1
  funext p
  exact dP_eqv
theorem mt_removeP (hu : X.A.units + 4 < cLine) : MtM X "list.remove" (rRemP X.K) := by
  intro pins s σ H x xs v us Q I rx rxs h
  obtain ⟨l, y, vs, ps, q, j, rfl, rfl, hH, hd, hy, hj, k⟩ := h
  cases rx
  obtain ⟨u, rfl, ru⟩ := rxs.one
  obtain ⟨z, its, n, rv, hl, e⟩ := I.lstM hH
  obtain ⟨as, rd⟩ := Dp.readsAll I _ vs its hd rv
  obtain ⟨bs, ry⟩ := Dp.reads I _ y u hy ru
  have rd' : ReadsAll s.heap its.toArray.toList (ps.map dP) as := by simpa using rd
  have hdp := dP_depth ps
  have lx := rv.length
  refine remove_list_data ⟨_, e, rfl, n, rfl⟩ rd' ry (dP_plain ps) rfl (by omega) ((place_dP ps).trans hj) (by rw [List.size_toArray]; omega) ?_
  have rr := rv.eraseIdx j
  refine ⟨.non, _, I.lset (its' := its.eraseIdx j) (t' := s.toks) hH e ?_ rr ?_, rfl, k⟩
  · show its.toArray.eraseIdxIfInBounds j = (its.eraseIdx j).toArray
    rw [List.eraseIdxIfInBounds_toArray]
  · have z2 : (vs.eraseIdx j).length ≤ vs.length := List.length_eraseIdx_le ..
    omega
end
/-! ### list(range(a, b, c)) -/
def cntR (i j c : Int) : Nat := if i < j then ((j - i - 1) / c + 1).toNat else 0
def bdG (i j : Int) : Prop := -(2 ^ 62) ≤ i ∧ i < 2 ^ 62 ∧ -(2 ^ 62) ≤ j ∧ j < 2 ^ 62 ∧ (j - i).toNat ≤ 2 ^ 24
def bdH (i j c : Int) : Prop := (-(2 ^ 62) ≤ i ∧ i < 2 ^ 62 ∧ -(2 ^ 62) ≤ j ∧ j < 2 ^ 62) ∧ 0 < c ∧ c < 1073741824 ∧ cntR i j c ≤ 2 ^ 24
noncomputable instance {i j : Int} : Decidable (bdG i j) := Classical.propDecidable _
noncomputable instance {i j c : Int} : Decidable (bdH i j c) := Classical.propDecidable _
theorem size_cnt {i j c : Int} (hc : 0 < c) : Builtin.Range.rangeSize i j c = (cntR i j c : Int) := by
  unfold Builtin.Range.rangeSize cntR
  rw [if_pos hc]
  split
  · have := Int.ediv_nonneg (a := j - i - 1) (b := c) (by omega) (by omega)
    omega
  · rfl
theorem rgc_pos {i j c : Int} (h : bdH i j c) : RgC i j c (cntR i j c) := by
  obtain ⟨⟨h1, h2, h3, h4⟩, h5, h6, h7⟩ := h
  refine ⟨by omega, by omega, ?_, size_cnt h5⟩
  unfold Builtin.Range.small
  rw [size_cnt h5]
  simp only [Builtin.Range.rangeFitsLong, Bool.and_eq_true, Bool.or_eq_true, decide_eq_true_eq, beq_iff_eq]
  have hp : c > 0 := h5
  simp only [hp, if_true, Bool.and_eq_true, decide_eq_true_eq]
  omega
section
variable {X : Cx}
def rgV3 (i c : Int) (n : Nat) : List V := (List.range n).map fun k => V.int (i + (k : Nat) * c)
theorem vals_rg3 {i c : Int} {n : Nat} {acc : Array Value} (h : ItemsOf (fun k v => ∃ t, v = .int (i + k * c) t) acc n) : Vals (rgV3 i c n) acc.toList := by
  have e : acc.toList.length = n := by rw [Array.length_toList]; exact h.1
  unfold rgV3
  rw [← e]
  refine vals_of_get acc.toList _ fun j u hj => ?_
  obtain ⟨t, rfl⟩ := h.2 j u (by rw [← hj, Array.getElem?_toList])
  exact ⟨t, rfl⟩
def tLstRg3 (ta : TA) : TE := fun σ H Q => ta σ H fun vs H1 => ∃ i j c : Int, vs = [.int i, .int j, .int c] ∧ bdH i j c ∧ ∀ q, H1 q = none → Q (.ref q) (upd H1 q (.lst (rgV3 i c (cntR i j c))))
theorem pe_listRg3 {a b c : Expr} {ta : TA} {p p2 pos pos2 : Pos} (hc : X.calm = true) (hg : Gl X "list") (hm : X.mg "list" = none) (hg2 : Gl X "range") (hm2 : X.mg "range" = none) (ha : PA X [a, b, c] ta)
    (hs : starEach [a, b, c] X.env = (false, eval a X.env) :: starEach [b, c] X.env := by rfl) (hpl : (backTo pos2 (starEach [b, c] X.env)).any (·.1) = false := by rfl) :
    PE X (.Call (.Name "list" p) [.Call (.Name "range" p2) [a, b, c] [] pos2] [] pos) (tLstRg3 ta) := by
  refine ⟨fun pins s σ H Q I h => ?_⟩
  have na : starEach [.Call (.Name "range" p2) [a, b, c] [] pos2] X.env = (false, eval (.Call (.Name "range" p2) [a, b, c] [] pos2) X.env) :: starEach [] X.env := by rfl
  have rg : wpAny (model X.prog X.w) X.A (eval (.Call (.Name "range" p2) [a, b, c] [] pos2) X.env) (fun x s' => ∃ (r : Addr) (i j k : Int) (t u v : Tok) (H' : Hp), x = .ref r ∧ IsRange s'.heap r i j k t u v ∧ Inv X pins σ H' s' ∧ bdH i j k ∧ ∀ q, H' q = none → Q (.ref q) (upd H' q (.lst (rgV3 i k (cntR i j k))))) X.xe s := by
    refine Call_ (ld_blt I hg2 hm2 boot_range (PyProof.Rows.callWith_type1 (thn (ha.run pos2 pins s σ H _ I h) fun us s1 ⟨vs, H1, I1, r1, q1⟩ => ?_) hs hpl))
    obtain ⟨i, j, k, e, hb, q⟩ := q1
    subst e
    cases r1 with
    | cons r rr =>
      cases rr with
      | cons r' rr =>
        cases rr with
        | cons r'' rr =>
          cases rr
          obtain ⟨t, rfl⟩ := r
          obtain ⟨t', rfl⟩ := r'
          obtain ⟨t'', rfl⟩ := r''
          obtain ⟨c0, c1, c2, c3⟩ := rgc_pos hb
          refine call_range_3 c0 ?_ (.inl (PyProof.noPylong_small c1))
          exact ⟨_, i, j, k, _, _, _, H1, rfl, IsRange.new _ _ _ _ _ _ _, I1.kept (t' := s1.toks) fun b o e => Heap.get?_push_of_some _ e, hb, q⟩
  refine Call_ (ld_blt I hg hm boot_list (PyProof.Rows.callWith_type1 (args_cons (thn rg fun x s1 ⟨r, i, j, k, t, u, v, H1, ex, hr, I1, ok, q⟩ => args_nil ?_) na) na))
  subst ex
  obtain ⟨c0, c1, c2, c3⟩ := rgc_pos ok
  refine call_list_range (n := cntR i j k) (I1.ok.hd hc) hr c2 c3 ok.2.2.2 fun h' tk acc c' hk e' hi => ?_
  refine ⟨.ref s1.heap.objs.size, upd H1 s1.heap.objs.size (.lst (rgV3 i k (cntR i j k))), I1.laid hk (Nat.le_refl _) (show ObjOk X.prog X.w _ _ _ (.lst (rgV3 i k (cntR i j k))) from ⟨?_, acc.toList, c', vals_rg3 hi, ?_⟩), rfl, q _ (I1.hok.fresh (Nat.le_refl _))⟩
  · unfold rgV3
    rw [List.length_map, List.length_range, sizeLine_eq]
    have := ok.2.2.2
    omega
  · rw [Array.toArray_toList]
    exact e'
end
end Mn
namespace Mn
open PySem PySem.Spec PyProof.Rows L2

/-! ### reading -/
/-- the items of a list or tuple -/
def seqOf (h : MHeap) : MV → Option (List MV)
  | .tup xs => some xs
  | .lst xs => some xs
  | .scr xs => some xs
  | .ref n => match h[n]? with
    | some (.lst xs) => some xs
    | _ => none
  | _ => none
def lstOf (h : MHeap) : MV → Option (List MV)
  | .lst xs => some xs
  | .scr xs => some xs
  | .ref n => match h[n]? with
    | some (.lst xs) => some xs
    | _ => none
  | _ => none
/-- a list that is no script -/
def mlOf (h : MHeap) : MV → Option (List MV)
  | .lst xs => some xs
  | .ref n => match h[n]? with
    | some (.lst xs) => some xs
    | _ => none
  | _ => none
def ofOpt {α : Type} (o : Option α) (h : MHeap) : Rs α := match o with
  | some a => .ok a h
  | none => .bad
def keyM : MV → Option Key
  | .int i => some (.inl i)
  | .str x => some (.inr x)
  | _ => none
def dctOf (h : MHeap) : MV → Option (List (Key × MV))
  | .ref n => match h[n]? with
    | some (.dct kvs) => some kvs
    | _ => none
  | _ => none
/-- a dict read, locked or not -/
def dctR (h : MHeap) : MV → Option (List (Key × MV))
  | .ref n => match h[n]? with
    | some (.dct kvs) => some kvs
    | some (.dlk kvs) => some kvs
    | _ => none
  | _ => none
def keyV : Key → MV
  | .inl i => .int i
  | .inr x => .str x
def valM (kvs : List (Key × MV)) (k : Key) : Option MV := (kvs.find? fun kv => decide (kv.1 = k)).map (·.2)
def putKM (kvs : List (Key × MV)) (k : Key) (v : MV) : List (Key × MV) :=
  if (kvs.any fun kv => decide (kv.1 = k)) = true then kvs.map (fun kv => if kv.1 = k then (kv.1, v) else kv) else kvs ++ [(k, v)]
def mergeM (kvs more : List (Key × MV)) : List (Key × MV) := more.foldl (fun acc kv => putKM acc kv.1 kv.2) kvs
/-- a[i] -/
def itemV (a b : MV) (h : MHeap) : Rs MV :=
  match a, b with
  | .str z, .int i => if z.length ≤ sizeLine then (match atI z.cps.toList i with
    | some c => .ok (.str ⟨#[c]⟩) h
    | none => .bad) else .bad
  | .tup xs, .int i => ofOpt (atI xs i) h
  | .lst xs, .int i => ofOpt (atI xs i) h
  | .scr xs, .int i => ofOpt (atI xs i) h
  | .ref n, b => match h[n]? with
    | some (.lst xs) => (match b with
      | .int i => ofOpt (atI xs i) h
      | _ => .bad)
    | _ => .bad
  | _, _ => .bad
def cutM {α : Type} (xs : List α) (lo hi : Option Int) : List α := (xs.drop (HT.sIx xs.length 0 lo)).take (HT.sIx xs.length xs.length hi - HT.sIx xs.length 0 lo)

/-! ### operators -/
noncomputable def binV (op : Operator) (a b : MV) (h : MHeap) : Rs MV :=
  match op, a, b with
  | .Add, .int i, .int j => .ok (.int (i + j)) h
  | .Add, .str i, .str j => if i.length + j.length ≤ sizeLine then .ok (.str (i ++ j)) h else .bad
  | .Add, .tup xs, .tup ys => if xs.length ≠ 0 ∧ xs.length + ys.length ≤ sizeLine then .ok (.tup (xs ++ ys)) h else .bad
  | .Sub, .int i, .int j => .ok (.int (i - j)) h
  | .Mult, .int i, .int j => if bdM i j then .ok (.int (i * j)) h else .bad
  | .Mult, .str i, .int j => if 0 ≤ j ∧ j ≤ 1000 ∧ i.length ≤ 1000 then .ok (.str (PySem.Txt.mul i j)) h else .bad
  | .FloorDiv, .int i, .int j => if bdD j then .ok (.int (i / j)) h else .bad
  | .Mod, .int i, .int j => if 0 < j then .ok (.int (i % j)) h else .bad
  | .LShift, .int i, .int j => if bdS i j then .ok (.int (i * 2 ^ j.toNat)) h else .bad
  | .Pow, .int i, .int j => if bdS i j then .ok (.int (i ^ j.toNat)) h else .bad
  | .RShift, .int i, .int j => if 0 ≤ j then .ok (.int (i / 2 ^ j.toNat)) h else .bad
  | .BitAnd, .int i, .int j => .ok (.int (Builtin.bitAnd i j)) h
  | .BitOr, .int i, .int j => .ok (.int (Builtin.bitOr i j)) h
  | .BitXor, .int i, .int j => .ok (.int (Builtin.bitXor i j)) h
  | _, _, _ => .bad
def flatM : MV → Bool
  | .non => true
  | .bl _ => true
  | .int _ => true
  | .str _ => true
  | _ => false
def eqM : MV → MV → Bool
  | .non, .non => true
  | .bl a, .bl b => a == b
  | .bl a, .int b => (if a then 1 else 0) == b
  | .int a, .bl b => a == (if b then 1 else 0)
  | .int a, .int b => a == b
  | .str a, .str b => a == b
  | _, _ => false
def inM (x : MV) (xs : List MV) : Bool := xs.any fun y => eqM y x
/-- data, its lists read by r -/
def datL (f : MV → Option PyData) : List MV → Option (List PyData)
  | [] => some []
  | x :: xs => match f x, datL f xs with
    | some d, some ds => some (d :: ds)
    | _, _ => none
mutual
def datG (r : Nat → Option (List PyData)) : MV → Option PyData
  | .non => some .none
  | .bl b => some (.bool b)
  | .int i => some (.int i)
  | .str x => some (.str x)
  | .tup xs => (datGs r xs).map .tuple
  | .lst xs => (datGs r xs).map .list
  | .scr xs => (datGs r xs).map .list
  | .ref n => (r n).map .list
  | .xcp .. => none
  | .glo _ => none
  | .ty _ => none
def datGs (r : Nat → Option (List PyData)) : List MV → Option (List PyData)
  | [] => some []
  | x :: xs => match datG r x, datGs r xs with
    | some d, some ds => some (d :: ds)
    | _, _ => none
end
def datF (h : MHeap) : Nat → MV → Option PyData
  | 0 => datG fun _ => none
  | k + 1 => datG fun n => match h[n]? with
    | some (.lst xs) => datL (datF h k) xs
    | _ => none
def strsM : MV → MV → Option Bool
  | .str x, .str y => some (x == y)
  | _, _ => none
/-- the two sides of == as data -/
def eqR (a b : MV) (h : MHeap) : Option Bool :=
  match strsM a b with
  | some t => some t
  | none => match datF h 8 a, datF h 8 b with
    | some d, some e => if SeqAt.shaped d = true ∧ SeqAt.shaped e = true then some (PyData.eqv d e) else none
    | _, _ => none
def isNon : MV → Bool
  | .non => true
  | _ => false
def cmpV (op : CmpOp) (a b : MV) (h : MHeap) : Rs MV :=
  match op with
  | .Eq => match eqR a b h with
    | some t => .ok (.bl t) h
    | none => .bad
  | .NotEq => match eqR a b h with
    | some t => .ok (.bl (!t)) h
    | none => .bad
  | .Lt => match a, b with
    | .int i, .int j => .ok (.bl (decide (i < j))) h
    | _, _ => .bad
  | .LtE => match a, b with
    | .int i, .int j => .ok (.bl (decide (i ≤ j))) h
    | .str i, .str j => .ok (.bl (!decide (j.cps.toList < i.cps.toList))) h
    | _, _ => .bad
  | .Gt => match a, b with
    | .int i, .int j => .ok (.bl (decide (j < i))) h
    | _, _ => .bad
  | .GtE => match a, b with
    | .int i, .int j => .ok (.bl (decide (j ≤ i))) h
    | _, _ => .bad
  | .Is => match b with
    | .non => .ok (.bl (isNon a)) h
    | .bl y => match a with
      | .bl x => .ok (.bl (decide (x = y))) h
      | _ => .bad
    | _ => .bad
  | .IsNot => match b with
    | .non => .ok (.bl (!isNon a)) h
    | .bl y => match a with
      | .bl x => .ok (.bl (!decide (x = y))) h
      | _ => .bad
    | _ => .bad
  | .In => match seqOf h b with
    | some xs => if flatM a = true ∧ xs.all flatM = true then .ok (.bl (inM a xs)) h else .bad
    | none => .bad
  | .NotIn => match seqOf h b with
    | some xs => if flatM a = true ∧ xs.all flatM = true then .ok (.bl (!inM a xs)) h else .bad
    | none => .bad
/-- truth -/
def truM (h : MHeap) : MV → Option Bool
  | .non => some false
  | .bl b => some b
  | .int i => some (i != 0)
  | .str y => if y.length ≤ sizeLine then some ((y.length : Int) != 0) else none
  | .tup xs => some (!xs.isEmpty)
  | .lst xs => some (!xs.isEmpty)
  | .scr xs => some (!xs.isEmpty)
  | .ref n => match h[n]? with
    | some (.lst xs) => some (!xs.isEmpty)
    | some (.dct kvs) => some (!kvs.isEmpty)
    | _ => none
  | _ => none
def intsM : List MV → Option (List Int)
  | [] => some []
  | .int i :: xs => (intsM xs).map (i :: ·)
  | _ :: _ => none
/-- sorted; the greatest, the least of a list of ints -/
def sortI (ns : List Int) : List Int := ns.mergeSort fun a b => decide (a ≤ b)
def maxI : List Int → Int
  | [] => 0
  | x :: xs => xs.foldl max x
def minI : List Int → Int
  | [] => 0
  | x :: xs => xs.foldl min x
def blsM : List MV → Option (List Bool)
  | [] => some []
  | .bl i :: xs => (blsM xs).map (i :: ·)
  | _ :: _ => none
def tyL : Bf → Option Bool
  | .isList => some true
  | .isInt => some false
  | .isBool => some false
  | .isTuple => some false
  | .isStr => some false
  | .isDict => some false
  | _ => none
def tyD : Bf → Option Bool
  | .isDict => some true
  | .isInt | .isBool | .isList | .isTuple | .isStr => some false
  | _ => none
def tyIs (k : Bf) (h : MHeap) : MV → Option Bool
  | .non => match k with | .isInt | .isBool | .isList | .isTuple | .isStr | .isDict => some false | _ => none
  | .bl _ => match k with | .isInt | .isBool => some true | .isList | .isTuple | .isStr | .isDict => some false | _ => none
  | .int _ => match k with | .isInt => some true | .isBool | .isList | .isTuple | .isStr | .isDict => some false | _ => none
  | .str _ => match k with | .isStr => some true | .isInt | .isBool | .isList | .isTuple | .isDict => some false | _ => none
  | .tup _ => match k with | .isTuple => some true | .isInt | .isBool | .isList | .isStr | .isDict => some false | _ => none
  | .ref n => match h[n]? with
    | some (.lst _) => tyL k
    | some (.dct _) => tyD k
    | _ => none
  | .lst _ => tyL k
  | .scr _ => tyL k
  | _ => none
/-- a built-in's value -/
def bfV (k : Bf) (vs : List MV) (h : MHeap) : Rs MV :=
  match k with
  | .len => match vs with
    | [.str z] => if z.length ≤ sizeLine then .ok (.int z.length) h else .bad
    | [v] => (match seqOf h v with
      | some xs => .ok (.int xs.length) h
      | none => match dctOf h v with
        | some kvs => .ok (.int kvs.length) h
        | none => .bad)
    | _ => .bad
  | .int => match vs with
    | [.int i] => .ok (.int i) h
    | [.bl b] => .ok (.int (if b then 1 else 0)) h
    | _ => .bad
  | .abs => match vs with
    | [.int i] => .ok (.int (if i < 0 then -i else i)) h
    | _ => .bad
  | .max2 => match vs with
    | [.int i, .int j] => .ok (.int (if j > i then j else i)) h
    | _ => .bad
  | .min2 => match vs with
    | [.int i, .int j] => .ok (.int (if j < i then j else i)) h
    | _ => .bad
  | .str => match vs with
    | [.int i] => if i.natAbs.log2 < 1920 then .ok (.str (toString i : String)) h else .bad
    | [.str x] => .bad
    | _ => .bad
  | .sum => match vs with
    | [v] => (match lstOf h v with
      | some xs => (match intsM xs with
        | some ns => .ok (.int ns.sum) h
        | none => .bad)
      | none => .bad)
    | _ => .bad
  | .maxL => match vs with
    | [v] => (match lstOf h v with
      | some xs => (match intsM xs with
        | some ns => if 0 < ns.length then .ok (.int (maxI ns)) h else .bad
        | none => .bad)
      | none => .bad)
    | _ => .bad
  | .all => match vs with
    | [v] => (match lstOf h v with
      | some xs => (match blsM xs with
        | some ns => .ok (.bl (ns.all id)) h
        | none => .bad)
      | none => .bad)
    | _ => .bad
  | .any => match vs with
    | [v] => (match lstOf h v with
      | some xs => (match blsM xs with
        | some ns => .ok (.bl (ns.any id)) h
        | none => .bad)
      | none => .bad)
    | _ => .bad
  | .minL => match vs with
    | [v] => (match lstOf h v with
      | some xs => (match intsM xs with
        | some ns => if 0 < ns.length then .ok (.int (minI ns)) h else .bad
        | none => .bad)
      | none => .bad)
    | _ => .bad
  | .tuple => match vs with
    | [.tup xs] => .ok (.tup xs) h
    | [v] => (match lstOf h v with
      | some xs => .ok (.tup xs) h
      | none => .bad)
    | _ => .bad
  | k => match vs with
    | [v] => (match tyIs k h v with
      | some b => .ok (.bl b) h
      | none => .bad)
    | _ => .bad
/-- pairs of ints -/
def prsI : List MV → Option (List (Int × Int))
  | [] => some []
  | .tup [.int a, .int b] :: xs => (prsI xs).map ((a, b) :: ·)
  | _ :: _ => none
def leP (a b : Int × Int) : Bool := decide (a.1 < b.1 ∨ (a.1 = b.1 ∧ a.2 ≤ b.2))
def prV (p : Int × Int) : MV := .tup [.int p.1, .int p.2]
/-- a method of a list: the new heap -/
def ixOf (v : MV) (xs : List MV) : Option Nat := xs.findIdx? fun y => eqM y v
def bmV0 (k : Bm) (o : MV) (vs : List MV) (h : MHeap) : Rs MV :=
  match o with
  | .ref n => match h[n]? with
    | some (.lst xs) => (match k with
      | .append => (match vs with
        | [v] => if xs.length < sizeLine then .ok .non (h.set n (.lst (xs ++ [v]))) else .bad
        | _ => .bad)
      | .pop => (match vs with
        | [] => (match xs[xs.length - 1]? with
          | some y => .ok y (h.set n (.lst xs.dropLast))
          | none => .bad)
        | _ => .bad)
      | .pop0 => (match vs with
        | [.int 0] => (match xs with
          | y :: ys => .ok y (h.set n (.lst ys))
          | [] => .bad)
        | _ => .bad)
      | .extend => (match vs with
        | [v] => (match mlOf h v with
          | some zs => if xs.length + zs.length ≤ sizeLine then .ok .non (h.set n (.lst (xs ++ zs))) else .bad
          | none => .bad)
        | _ => .bad)
      | .remove => (match intsM xs, vs with
        | some ns, [.int i] => (match ns.findIdx? fun m => m == i with
          | some j => .ok .non (h.set n (.lst ((ns.eraseIdx j).map .int)))
          | none => .bad)
        | _, _ => match prsI xs, vs with
          | some ps, [.tup [.int a, .int b]] => (match ps.findIdx? fun p => decide (p = (a, b)) with
            | some j => .ok .non (h.set n (.lst (xs.eraseIdx j)))
            | none => .bad)
          | _, _ => .bad)
      | .insert => (match vs with
        | [.int i, v] => if 0 ≤ i ∧ i < 1000000 ∧ xs.length < sizeLine then .ok .non (h.set n (.lst (xs.take i.toNat ++ [v] ++ xs.drop i.toNat))) else .bad
        | _ => .bad)
      | _ => .bad)
    | _ => .bad
  | _ => .bad
def bmV (k : Bm) (o : MV) (vs : List MV) (h : MHeap) : Rs MV :=
  match k with
  | .index => (match lstOf h o, vs with
    | some xs, [v] => if flatM v = true ∧ xs.all flatM = true then (match ixOf v xs with
      | some j => .ok (.int (j : Nat)) h
      | none => .bad) else .bad
    | _, _ => .bad)
  | .count => (match lstOf h o, vs with
    | some xs, [.int i] => (match intsM xs with
      | some ns => .ok (.int (ns.count i : Nat)) h
      | none => .bad)
    | _, _ => .bad)
  | k => bmV0 k o vs h
/-- repr of a list or a tuple -/
def conM : MV → Bool
  | .tup _ => true
  | .lst _ => true
  | .scr _ => true
  | .ref _ => true
  | _ => false
/-- keys of a dict as data -/
def datKx : Key → PyData
  | .inl i => .int i
  | .inr x => .str x
def datPx (f : MV → Option PyData) : List (Key × MV) → Option (List (PyData × PyData))
  | [] => some []
  | (k, v) :: r => match f v, datPx f r with
    | some d, some ds => some ((datKx k, d) :: ds)
    | _, _ => none
/-- a live dict as data -/
def datDx (h : MHeap) (v : MV) : Option (List (PyData × PyData)) := match v with
  | .ref n => match h[n]? with
    | some (.dct kvs) => datPx (datF h 7) kvs
    | _ => none
  | _ => none
def nodX : List (PyData × PyData) → Bool := fun ds => ds.all fun p => !p.2.hasDict
def rprV (h : MHeap) (v : MV) : Option Str := match datF h 8 v with
  | some d => if conM v = true ∧ d.showable = true ∧ d.hasDict = false ∧ d.depth ≤ 40 ∧ d.shown.length ≤ sizeLine then some d.shown else none
  | none => match datDx h v with
    | some ds => if (PyData.dict ds).showable = true ∧ nodX ds = true ∧ (PyData.dict ds).depth ≤ 40 ∧ (PyData.dict ds).shown.length ≤ sizeLine then some (PyData.dict ds).shown else none
    | none => none
/-- the other forms -/
def x1V (k : X1) (v : MV) (h : MHeap) : Rs MV :=
  match k with
  | .dof => match dctR h v with
    | some kvs => .ok (.ref h.length) (h ++ [.dct kvs])
    | none => .bad
  | .rpr => match rprV h v with
    | some x => .ok (.str x) h
    | none => .bad
  | .tix _ kvs => match v with
    | .str z => (match kvs.lookup z with
      | some k => .ok (keyV k) h
      | none => .bad)
    | _ => .bad
  | .mxd d => match lstOf h v with
    | some xs => (match intsM xs with
      | some ns => .ok (.int (if ns.length = 0 then d else maxI ns)) h
      | none => .bad)
    | none => .bad
  | .mnt => match lstOf h v with
    | some xs => (match prsI xs with
      | some (p :: ps) => .ok (prV (minPr p ps)) h
      | _ => .bad)
    | none => .bad
def sameM (a b : MV) : Bool := match a, b with
  | .non, .non => true
  | .bl a, .bl b => a == b
  | .int a, .int b => a == b
  | .str a, .str b => a == b
  | _, _ => false
def deqM (ks ls : List (Key × MV)) : Bool := ks.length == ls.length && ks.all fun p => match valM ls p.1 with
  | some q => sameM p.2 q
  | none => false
/-- tuples of ints: is the first greater -/
def lexG : List Int → List Int → Bool
  | [], _ => false
  | _ :: _, [] => true
  | a :: as, b :: bs => if a = b then lexG as bs else decide (b < a)
/-- texts of a tuple -/
def strsL : List MV → Option (List Str)
  | [] => some []
  | .str x :: xs => (strsL xs).map (x :: ·)
  | _ :: _ => none
def strT (xs : List MV) : Bool := !xs.isEmpty && (strsL xs).isSome
def x2P (k : X2) (x : MV) (h : MHeap) : Bool :=
  match k with
  | .dget => (dctR h x).isSome
  | .tpx => (match x with
    | .tup xs => strT xs
    | _ => false)
  | _ => true
def x2V (k : X2) (a b : MV) (h : MHeap) : Rs MV :=
  match k with
  | .tpx => match a, b with
    | .tup xs, .str z => (match strsL xs with
      | some ys => (match ys.findIdx? fun y => decide (y = z) with
        | some j => .ok (.int (j : Nat)) h
        | none => .bad)
      | none => .bad)
    | _, _ => .bad
  | .dix => (match dctR h a, keyM b with
    | some kvs, some k => ofOpt (valM kvs k) h
    | _, _ => .bad)
  | .din => (match keyM a, dctR h b with
    | some k, some kvs => .ok (.bl (valM kvs k).isSome) h
    | _, _ => .bad)
  | .dnin => (match keyM a, dctR h b with
    | some k, some kvs => .ok (.bl (!(valM kvs k).isSome)) h
    | _, _ => .bad)
  | .deq => (match dctOf h a, dctOf h b with
    | some ks, some ls => if deqM ks ls = true then .ok (.bl true) h else .bad
    | _, _ => .bad)
  | .dne => (match dctOf h a, dctOf h b with
    | some ks, some ls => if deqM ks ls = true then .ok (.bl false) h else .bad
    | _, _ => .bad)
  | .dget => (match dctR h a, keyM b with
    | some kvs, some k => .ok ((valM kvs k).getD .non) h
    | _, _ => .bad)
  | .tsl => (match a, b with
    | .tup xs, .int i => if 0 < i ∧ 0 < xs.length then .ok (.tup (cutM xs (some i) none)) h else .bad
    | _, _ => .bad)
  | .tgt => (match a, b with
    | .tup xs, .tup ys => (match intsM xs, intsM ys with
      | some ns, some ms => .ok (.bl (lexG ns ms)) h
      | _, _ => .bad)
    | _, _ => .bad)
  | .tlt => (match a, b with
    | .tup xs, .tup ys => (match intsM xs, intsM ys with
      | some ns, some ms => .ok (.bl (lexG ms ns)) h
      | _, _ => .bad)
    | _, _ => .bad)
  | .tin _ ks => (match a with
    | .str z => .ok (.bl (decide (z ∈ ks))) h
    | _ => .bad)
  | .tnin _ ks => (match a with
    | .str z => .ok (.bl (!decide (z ∈ ks))) h
    | _ => .bad)
  | .inr => (match a, b with
    | .int i, .int n => .ok (.bl (decide (0 ≤ i ∧ i < n))) h
    | _, _ => .bad)
  | .oeq c => (match a, b with
    | .ref n, .int _ => (match h[n]? with
      | some (.ins d _) => if d = c then .ok (.bl false) h else .bad
      | _ => .bad)
    | _, _ => .bad)
def x3P (k : X3) (x : MV) (h : MHeap) : Bool :=
  match k with
  | .dget => (dctR h x).isSome
def x3V (k : X3) (a b c : MV) (h : MHeap) : Rs MV :=
  match k with
  | .dget => (match dctR h a, keyM b with
    | some kvs, some k => .ok ((valM kvs k).getD c) h
    | _, _ => .bad)
def pairsM : List MV → Option (List (Key × MV))
  | [] => some []
  | [_] => none
  | x :: y :: r => match keyM x, pairsM r with
    | some k, some ps => some ((k, y) :: ps)
    | _, _ => none
/-- the keys of a dict, all ints -/
def intKs : List (Key × MV) → Option (List Int)
  | [] => some []
  | (.inl i, _) :: r => (intKs r).map (i :: ·)
  | _ => none
def rngL (lo c : Int) (n : Nat) : List MV := (List.range n).map fun i => .int (lo + (i : Nat) * c)
noncomputable def f1V (k : F1) (v : MV) (h : MHeap) : Rs (List MV) :=
  match k with
  | .rg1 => match v with
    | .int j => if bdG 0 j then .ok (rngL 0 1 j.toNat) h else .bad
    | _ => .bad
  | .pr => match lstOf h v with
    | some xs => (match prsI xs with
      | some ps => .ok ((ps.mergeSort leP).map prV) h
      | none => .bad)
    | none => .bad
  | .rev => match lstOf h v with
    | some xs => .ok xs.reverse h
    | none => .bad
  | .sk => match dctR h v with
    | some kvs => (match intKs kvs with
      | some ks => if ks.length < 64 then .ok ((sortI ks).map .int) h else .bad
      | none => .bad)
    | none => .bad
noncomputable def f2V (k : F2) (v w : MV) (h : MHeap) : Rs (List MV) :=
  match k with
  | .rg2 => match v, w with
    | .int i, .int j => if bdG i j then .ok (rngL i 1 (j - i).toNat) h else .bad
    | _, _ => .bad
  | .rg0s => match v, w with
    | .int j, .int c => if bdH 0 j c then .ok (rngL 0 c (cntR 0 j c)) h else .bad
    | _, _ => .bad
def chsM (z : Str) : List MV := z.cps.toList.map fun c => .str ⟨#[c]⟩
def enL (xs : List MV) : List MV := xs.zipIdx.map fun p => .tup [.int (p.2 : Nat), p.1]
noncomputable def i1V (k : I1) (v : MV) (h : MHeap) : Rs (List MV) :=
  match v with
  | .ref n => (match h[n]? with
    | some (.dlk kvs) => (match k with
      | .keys => .ok (kvs.map fun p => keyV p.1) h
      | .items => .ok (kvs.map fun p => .tup [keyV p.1, p.2]) h
      | .vals => .ok (kvs.map fun p => p.2) h
      | _ => .bad)
    | _ => .bad)
  | .str z => (match k with
    | .chs => .ok (chsM z) h
    | .est => .ok (enL (chsM z)) h
    | _ => .bad)
  | .int j => (match k with
    | .rrg => if bdR j then .ok (rngL (0 + ((j - 0).toNat : Nat) - 1) (-1) (j - 0).toNat) h else .bad
    | _ => .bad)
  | _ => .bad
open Classical in
noncomputable def lckR (n : Nat) (kvs : List (Key × MV)) (r : Rs MV) : Rs MV := match r with
  | .ok v h2 => if h2[n]? = some (.dlk kvs) then .ok v (h2.set n (.dct kvs)) else .bad
  | _ => .bad
open Classical in
noncomputable def lckO (n : Nat) (kvs : List (Key × MV)) (r : Out) : Out := match r with
  | .next σ h2 => if h2[n]? = some (.dlk kvs) then .next σ (h2.set n (.dct kvs)) else .bad
  | .ret σ h2 => if h2[n]? = some (.dlk kvs) then .ret σ (h2.set n (.dct kvs)) else .bad
  | .brk σ h2 => if h2[n]? = some (.dlk kvs) then .brk σ (h2.set n (.dct kvs)) else .bad
  | .cnt σ h2 => if h2[n]? = some (.dlk kvs) then .cnt σ (h2.set n (.dct kvs)) else .bad
  | _ => .bad
/-- the dict to be locked: its place, its pairs, whether it is locked already -/
def lckV (v : MV) (h : MHeap) : Option (Nat × List (Key × MV) × Bool) := match v with
  | .ref n => match h[n]? with
    | some (.dct kvs) => some (n, kvs, false)
    | some (.dlk kvs) => some (n, kvs, true)
    | _ => none
  | _ => none

/-! ### stores -/
def setAll : List Nat → List MV → MSt → Option MSt
  | [], [], σ => some σ
  | i :: is, v :: vs, σ => setAll is vs (σ.set i (some v))
  | _, _, _ => none
def setT (t : Tg) (v : MV) (σ : MSt) : Option MSt :=
  match t with
  | .nm i => some (σ.set i (some v))
  | .tp is => match v with
    | .tup xs => setAll is xs σ
    | .lst xs => setAll is xs σ
    | _ => none
def wipeM (σ : MSt) : List Nat → MSt
  | [] => σ
  | v :: vs => (wipeM σ vs).set v none
def putM (f : Str) (v : MV) : List (Str × MV) → List (Str × MV)
  | [] => [(f, v)]
  | (g, x) :: r => if g = f then (g, v) :: r else (g, x) :: putM f v r
def setIV (o i v : MV) (h : MHeap) : Option MHeap :=
  match o, i with
  | .ref n, .int k => match h[n]? with
    | some (.lst xs) => (match ixN xs.length k with
      | some j => some (h.set n (.lst (xs.set j v)))
      | none => none)
    | _ => none
  | _, _ => none
def setDV (o i v : MV) (h : MHeap) : Option MHeap :=
  match o with
  | .ref n => match h[n]?, keyM i with
    | some (.dct kvs), some k => if kvs.length < sizeLine then some (h.set n (.dct (putKM kvs k v))) else none
    | _, _ => none
  | _ => none
def setFV (na : Str → Str → Bool) (o : MV) (f : Str) (v : MV) (h : MHeap) : Option MHeap :=
  match o with
  | .ref n => match h[n]? with
    | some (.ins c fs) => if na c f = true ∧ fs.length < 1000 then some (h.set n (.ins c (putM f v fs))) else none
    | _ => none
  | _ => none

/-! ### freezing -/
def frzL (f : MHeap → MV → Option (MV × MHeap)) : MHeap → List MV → Option (List MV × MHeap)
  | h, [] => some ([], h)
  | h, x :: xs => match f h x with
    | some (y, h1) => (match frzL f h1 xs with
      | some (ys, h2) => some (y :: ys, h2)
      | none => none)
    | none => none
def frzV : Nat → MHeap → MV → Option (MV × MHeap)
  | 0, _, _ => none
  | k + 1, h, v => match v with
    | .ref n => (match h[n]? with
      | some (.lst xs) => (match frzL (frzV k) (h.set n .dead) xs with
        | some (ys, h') => some (.lst ys, h')
        | none => none)
      | _ => none)
    | .tup xs => (match frzL (frzV k) h xs with
      | some (ys, h') => some (.tup ys, h')
      | none => none)
    | .lst xs => (match frzL (frzV k) h xs with
      | some (ys, h') => some (.lst ys, h')
      | none => none)
    | v => some (v, h)

/-! ### what a loop walks -/
structure Src where
  xs : List MV
  live : List (Nat × List MV)
def Src.Ok (s : Src) (h : MHeap) : Prop := ∀ p ∈ s.live, h[p.1]? = some (.lst p.2)
def liveOf : MV → List MV → List (Nat × List MV)
  | .ref n, xs => [(n, xs)]
  | _, _ => []
open Classical in
noncomputable def compL (ok : MHeap → Prop) (f : MV → MHeap → Rs (Option MV)) : List MV → List MV → MHeap → Rs (List MV)
  | [], acc, h => if ok h then .ok acc h else .bad
  | x :: xs, acc, h => if ok h ∧ acc.length < sizeLine then (match f x h with
    | .ok (some v) h1 => compL ok f xs (acc ++ [v]) h1
    | .ok none h1 => compL ok f xs acc h1
    | _ => .bad) else .bad
open Classical in
noncomputable def dcpL (ok : MHeap → Prop) (f : MV → MHeap → Rs (Option (Key × MV))) : List MV → List (Key × MV) → MHeap → Rs (List (Key × MV))
  | [], acc, h => if ok h then .ok acc h else .bad
  | x :: xs, acc, h => if ok h ∧ acc.length < sizeLine then (match f x h with
    | .ok (some v) h1 => dcpL ok f xs (putKM acc v.1 v.2) h1
    | .ok none h1 => dcpL ok f xs acc h1
    | _ => .bad) else .bad
open Classical in
noncomputable def forL (ok : MHeap → Prop) (f : MV → MSt → MHeap → Out) : List MV → MSt → MHeap → Out
  | [], σ, h => if ok h then .next σ h else .bad
  | x :: xs, σ, h => if ok h then (match f x σ h with
    | .next σ1 h1 => forL ok f xs σ1 h1
    | .cnt σ1 h1 => forL ok f xs σ1 h1
    | .brk σ1 h1 => .next σ1 h1
    | o => o) else .bad

/-! ### the evaluator -/
structure Ct where
  cf : Str → List MV → MHeap → Rs MV
  ci : Str → List MV → MHeap → Rs MV
  con : Str → Option MV
  na : Str → Str → Bool
  mks : Bool
  xc : Option (Addr × Addr × Str) := none
  xn : Str → Str := fun _ => ""
  sub : Str → Str → Option Bool := fun _ _ => none
  isx : Str → Bool := fun _ => false
  rok : Bool := false
def zipM : List MV → List MV → List MV
  | x :: xs, y :: ys => .tup [x, y] :: zipM xs ys
  | _, _ => []
open Classical in
mutual
noncomputable def evE (C : Ct) : ME → MSt → MHeap → Rs MV
  | .var i, σ, h => match σ[i]? with
    | some (some v) => .ok v h
    | _ => .bad
  | .int i, _, h => .ok (.int i) h
  | .str s, _, h => .ok (.str s) h
  | .bl b, _, h => .ok (.bl b) h
  | .non, _, h => .ok .non h
  | .con x, _, h => ofOpt (C.con x) h
  | .bin op a b, σ, h => (evE C a σ h).bind fun x h1 => (evE C b σ h1).bind fun y h2 => binV op x y h2
  | .neg a, σ, h => (evE C a σ h).bind fun x h1 => match x with
    | .int i => .ok (.int (-i)) h1
    | _ => .bad
  | .not a, σ, h => (evE C a σ h).bind fun x h1 => match x with
    | .bl b => .ok (.bl (!b)) h1
    | _ => .bad
  | .cmp op a b, σ, h => (evE C a σ h).bind fun x h1 => (evE C b σ h1).bind fun y h2 => cmpV op x y h2
  | .chn op1 op2 a b c, σ, h => (evE C a σ h).bind fun x h1 => (evE C b σ h1).bind fun y h2 => (cmpV op1 x y h2).bind fun t h3 => match t with
    | .bl true => (evE C c σ h3).bind fun z h4 => cmpV op2 y z h4
    | .bl false => .ok (.bl false) h3
    | _ => .bad
  | .chn3 op1 op2 op3 a b c d, σ, h => (evE C a σ h).bind fun x h1 => (evE C b σ h1).bind fun y h2 => (cmpV op1 x y h2).bind fun t h3 => match t with
    | .bl true => (evE C c σ h3).bind fun z h4 => (cmpV op2 y z h4).bind fun t2 h5 => (match t2 with
      | .bl true => (evE C d σ h5).bind fun u h6 => cmpV op3 z u h6
      | .bl false => .ok (.bl false) h5
      | _ => .bad)
    | .bl false => .ok (.bl false) h3
    | _ => .bad
  | .and a b, σ, h => (evE C a σ h).bind fun x h1 => match x with
    | .bl true => evE C b σ h1
    | .bl false => .ok (.bl false) h1
    | _ => .bad
  | .or a b, σ, h => (evE C a σ h).bind fun x h1 => match x with
    | .bl true => .ok (.bl true) h1
    | .bl false => evE C b σ h1
    | _ => .bad
  | .ife c a b, σ, h => (evT C c σ h).bind fun t h1 => if t = true then evE C a σ h1 else evE C b σ h1
  | .tup es, σ, h => (evL C es σ h).bind fun vs h1 => if vs.length ≤ sizeLine then .ok (.tup vs) h1 else .bad
  | .idx a b, σ, h => (evE C a σ h).bind fun x h1 => (evE C b σ h1).bind fun y h2 => itemV x y h2
  | .mk m f, σ, h => (evF C f σ h).bind fun vs h1 => if m = true then .ok (.ref h1.length) (h1 ++ [.lst vs]) else .ok (.lst vs) h1
  | .frz e, σ, h => (evE C e σ h).bind fun v h1 => match frzV 40 h1 v with
    | some (y, h2) => .ok y h2
    | none => .bad
  | .call f es, σ, h => (evL C es σ h).bind fun vs h1 => C.cf f vs h1
  | .bc k es, σ, h => (evL C es σ h).bind fun vs h1 => bfV k vs h1
  | .mth o c m f es, σ, h => (evE C o σ h).bind fun v h1 => match v with
    | .ref n => (match h1[n]? with
      | some (.ins c' fs) => if c' = c ∧ fs.lookup m = none then (evL C es σ h1).bind fun vs h2 => C.cf f (.ref n :: vs) h2 else .bad
      | _ => .bad)
    | _ => .bad
  | .bm k o es, σ, h => (evE C o σ h).bind fun v h1 => if lstOf h1 v = none then .bad else (evL C es σ h1).bind fun vs h2 => bmV k v vs h2
  | .new c es, σ, h => if C.mks = false then .bad else (evL C es σ h).bind fun vs h1 => (C.ci c (.ref h1.length :: vs) (h1 ++ [.ins c []])).bind fun v h2 => match v with
    | .non => .ok (.ref h1.length) h2
    | _ => .bad
  | .kcl none key n es ks, σ, h => (evL C es σ h).bind fun vs h1 => (evL C ks σ h1).bind fun ws h2 => if vs.length = n then C.cf key (vs ++ ws) h2 else .bad
  | .kcl (some c) key n es ks, σ, h => if C.mks = false then .bad else (evL C ks σ h).bind fun ws h1 => (C.ci key (.ref h1.length :: ws) (h1 ++ [.ins c []])).bind fun v h2 => match v with
    | .non => .ok (.ref h1.length) h2
    | _ => .bad
  | .fld o f, σ, h => (evE C o σ h).bind fun v h1 => match v with
    | .ref n => (match h1[n]? with
      | some (.ins c fs) => if C.na c f = true then ofOpt (fs.lookup f) h1 else .bad
      | _ => .bad)
    | _ => .bad
  | .x1 k a, σ, h => (evE C a σ h).bind fun v h1 => x1V k v h1
  | .x2 k a b, σ, h => (evE C a σ h).bind fun x h1 => if x2P k x h1 = true then (evE C b σ h1).bind fun y h2 => x2V k x y h2 else .bad
  | .x3 k a b c, σ, h => (evE C a σ h).bind fun x h1 => if x3P k x h1 = true then (evE C b σ h1).bind fun y h2 => (evE C c σ h2).bind fun z h3 => x3V k x y z h3 else .bad
  | .dd es, σ, h => (evL C es σ h).bind fun vs h1 => match pairsM vs with
    | some ps => if ps.length ≤ 15 then .ok (.ref h1.length) (h1 ++ [.dct (mergeM [] ps)]) else .bad
    | none => .bad
  | .lck a e, σ, h => match evE C a σ h with
    | .ok v h1 => if h1 = h then (match lckV v h with
      | some (n, kvs, false) => lckR n kvs (evE C e σ (h.set n (.dlk kvs)))
      | some (_, _, true) => evE C e σ h
      | none => .bad) else .bad
    | _ => .bad
  | .xfl i f, σ, h => match C.xc, σ[i]? with
    | some (a, d, c), some (some (.xcp a' d' f' v)) => if a = a' ∧ d = d' ∧ f = f' ∧ C.isx c = true ∧ C.xn c = f then .ok v h else .bad
    | _, _ => .bad
  | .xis i q, σ, h => match C.xc, σ[i]? with
    | some (a, d, c), some (some (.xcp a' d' f' v)) => if a = a' ∧ d = d' ∧ C.isx c = true then ofOpt ((C.sub c q).map .bl) h else .bad
    | _, _ => .bad
  | .dcp own tg ke ve it cond, σ, h => (evI C it σ h).bind fun s h1 => (dcpL s.Ok (fun x h2 => match setT tg x (wipeM σ own) with
    | some σ1 => (evC C cond σ1 h2).bind fun t h3 => if t = true then (evE C ke σ1 h3).bind fun u h4 => (evE C ve σ1 h4).bind fun v h5 => (match keyM u with
      | some k => .ok (some (k, v)) h5
      | none => .bad) else .ok none h3
    | none => .bad) s.xs [] h1).bind fun kvs h2 => .ok (.ref h2.length) (h2 ++ [.dct kvs])
  | _, _, _ => .bad
noncomputable def evL (C : Ct) : ME → MSt → MHeap → Rs (List MV)
  | .nil, _, h => .ok [] h
  | .cons e es, σ, h => (evE C e σ h).bind fun v h1 => (evL C es σ h1).bind fun vs h2 => .ok (v :: vs) h2
  | _, _, _ => .bad
noncomputable def evT (C : Ct) : ME → MSt → MHeap → Rs Bool
  | .and a b, σ, h => (evT C a σ h).bind fun t h1 => if t = true then evT C b σ h1 else .ok false h1
  | .or a b, σ, h => (evT C a σ h).bind fun t h1 => if t = true then .ok true h1 else evT C b σ h1
  | .not a, σ, h => (evT C a σ h).bind fun t h1 => .ok (!t) h1
  | .cmp op a b, σ, h => (evE C a σ h).bind fun x h1 => (evE C b σ h1).bind fun y h2 => (cmpV op x y h2).bind fun z h3 => match z with
    | .bl t => .ok t h3
    | _ => .bad
  | .chn op1 op2 a b c, σ, h => (evE C a σ h).bind fun x h1 => (evE C b σ h1).bind fun y h2 => (cmpV op1 x y h2).bind fun t h3 => match t with
    | .bl true => (evE C c σ h3).bind fun z h4 => (cmpV op2 y z h4).bind fun u h5 => (match u with
      | .bl t => .ok t h5
      | _ => .bad)
    | .bl false => .ok false h3
    | _ => .bad
  | .tru e, σ, h => (evE C e σ h).bind fun v h1 => ofOpt (truM h1 v) h1
  | .x2 k a b, σ, h => (evE C a σ h).bind fun x h1 => if x2P k x h1 = true then (evE C b σ h1).bind fun y h2 => (x2V k x y h2).bind fun z h3 => (match z with
    | .bl t => .ok t h3
    | _ => .bad) else .bad
  | _, _, _ => .bad
noncomputable def evF (C : Ct) : ME → MSt → MHeap → Rs (List MV)
  | .fl es, σ, h => (evL C es σ h).bind fun vs h1 => if vs.length ≤ sizeLine then .ok vs h1 else .bad
  | .fc own tg elt it cond, σ, h => (evI C it σ h).bind fun s h1 => compL s.Ok (fun x h2 => match setT tg x (wipeM σ own) with
    | some σ1 => (evC C cond σ1 h2).bind fun t h3 => if t = true then (evE C elt σ1 h3).bind fun v h4 => .ok (some v) h4 else .ok none h3
    | none => .bad) s.xs [] h1
  | .fs a lo hi, σ, h => (evE C a σ h).bind fun x h1 => (evO C lo σ h1).bind fun l h2 => (evO C hi σ h2).bind fun u h3 => match lstOf h3 x with
    | some xs => .ok (cutM xs l u) h3
    | none => .bad
  | .fli a, σ, h => (evE C a σ h).bind fun x h1 => ofOpt (seqOf h1 x) h1
  | .fso a, σ, h => (evE C a σ h).bind fun x h1 => match lstOf h1 x with
    | some xs => (match intsM xs with
      | some ns => .ok ((sortI ns).map .int) h1
      | none => .bad)
    | none => .bad
  | .fca a b, σ, h => (evE C a σ h).bind fun x h1 => (evE C b σ h1).bind fun y h2 => match mlOf h2 x, mlOf h2 y with
    | some xs, some ys => if xs.length + ys.length ≤ sizeLine then .ok (xs ++ ys) h2 else .bad
    | _, _ => .bad
  | .fre a b, σ, h => (evE C a σ h).bind fun x h1 => (evE C b σ h1).bind fun y h2 => match mlOf h2 x, y with
    | some xs, .int k => if bdF k ∧ xs.length * k.toNat ≤ sizeLine then .ok (List.replicate k.toNat xs).flatten h2 else .bad
    | _, _ => .bad
  | .f1 k a, σ, h => (evE C a σ h).bind fun x h1 => f1V k x h1
  | .f2 k a b, σ, h => (evE C a σ h).bind fun x h1 => (evE C b σ h1).bind fun y h2 => f2V k x y h2
  | _, _, _ => .bad
noncomputable def evC (C : Ct) : ME → MSt → MHeap → Rs Bool
  | .nil, _, h => .ok true h
  | .cons e es, σ, h => (evT C e σ h).bind fun t h1 => if t = true then evC C es σ h1 else .ok false h1
  | _, _, _ => .bad
noncomputable def evO (C : Ct) : ME → MSt → MHeap → Rs (Option Int)
  | .nil, _, h => .ok none h
  | .cons e es, σ, h => (evE C e σ h).bind fun v h1 => match v with
    | .int i => .ok (some i) h1
    | _ => .bad
  | _, _, _ => .bad
noncomputable def evI (C : Ct) : ME → MSt → MHeap → Rs Src
  | .iv e, σ, h => (evE C e σ h).bind fun v h1 => match seqOf h1 v with
    | some xs => .ok ⟨xs, liveOf v xs⟩ h1
    | none => .bad
  | .ir1 a, σ, h => (evE C a σ h).bind fun v h1 => match v with
    | .int j => if bdR j then .ok ⟨rngL 0 1 j.toNat, []⟩ h1 else .bad
    | _ => .bad
  | .ir2 a b, σ, h => (evE C a σ h).bind fun v h1 => (evE C b σ h1).bind fun w h2 => match v, w with
    | .int i, .int j => if bdR i ∧ bdR j then .ok ⟨rngL i 1 (j - i).toNat, []⟩ h2 else .bad
    | _, _ => .bad
  | .irn a b, σ, h => (evE C a σ h).bind fun v h1 => (evE C b σ h1).bind fun w h2 => match v, w with
    | .int i, .int j => if bdR i ∧ bdR j then .ok ⟨rngL i (-1) (i - j).toNat, []⟩ h2 else .bad
    | _, _ => .bad
  | .ien e, σ, h => (evE C e σ h).bind fun v h1 => match seqOf h1 v with
    | some xs => .ok ⟨enL xs, liveOf v xs⟩ h1
    | none => .bad
  | .izip a b, σ, h => (evE C a σ h).bind fun v h1 => (evE C b σ h1).bind fun w h2 => match lstOf h2 v, lstOf h2 w with
    | some xs, some ys => .ok ⟨zipM xs ys, liveOf v xs ++ liveOf w ys⟩ h2
    | _, _ => match v, w with
      | .tup xs, .tup ys => .ok ⟨zipM xs ys, []⟩ h2
      | _, _ => .bad
  | .irv e, σ, h => (evE C e σ h).bind fun v h1 => match lstOf h1 v with
    | some xs => .ok ⟨xs.reverse, liveOf v xs⟩ h1
    | none => .bad
  | .i1 k e, σ, h => (evE C e σ h).bind fun v h1 => (i1V k v h1).bind fun xs h2 => .ok ⟨xs, []⟩ h2
  | _, _, _ => .bad
end

/-! ### statements -/
def whlL (c : MSt → MHeap → Rs Bool) (b : MSt → MHeap → Out) : Nat → MSt → MHeap → Out
  | 0, _, _ => .bad
  | k + 1, σ, h => (c σ h).out fun t h1 => if t = true then (match b σ h1 with
    | .next σ1 h2 => whlL c b k σ1 h2
    | .cnt σ1 h2 => whlL c b k σ1 h2
    | .brk σ1 h2 => .next σ1 h2
    | o => o) else .next σ h1
open Classical in
/-- the loop, as many turns as it takes -/
noncomputable def whl (c : MSt → MHeap → Rs Bool) (b : MSt → MHeap → Out) (σ : MSt) (h : MHeap) : Out :=
  if p : ∃ k, whlL c b k σ h ≠ .bad then whlL c b (choose p) σ h else .bad
/-- an except suite -/
noncomputable def runX (C : Ct) : MS → MSt → MHeap → Out
  | .skip, σ, h => .next σ h
  | .seq a b, σ, h => (runX C a σ h).seq (runX C b)
  | .asg i e, σ, h => (evE C e σ h).out fun v h1 => .next (σ.set i (some v)) h1
  | .ret e, σ, h => (evE C e σ h).out fun v h1 => .ret v h1
  | .retN, _, h => .ret .non h
  | .ite c a b, σ, h => (evT C c σ h).out fun t h1 => if t = true then runX C a σ h1 else runX C b σ h1
  | _, _, _ => .bad
/-- the name of the clause is gone -/
def wipeO (i : Nat) : Out → Out
  | .next σ h => .next (σ.set i none) h
  | .brk σ h => .brk (σ.set i none) h
  | .cnt σ h => .cnt (σ.set i none) h
  | .ret v h => .ret v h
  | _ => .bad
def flatX : MV → Bool
  | .int _ => true
  | .str _ => true
  | _ => false
open Classical in
/-- the suite of an except clause: it must not depend on the places -/
noncomputable def suiteR (C : Ct) (s : MS) (i : Nat) (σ : MSt) (c : Str) (v : MV) (h : MHeap) : Out :=
  if p : ∃ r, ∀ a d, wipeO i (runX { C with xc := some (a, d, c) } s (σ.set i (some (.xcp a d (C.xn c) v))) h) = r then choose p else .bad
noncomputable def caughtR (C : Ct) (i : Nat) (c : Str) (s : MS) (σ : MSt) (c' : Str) (v : MV) (h : MHeap) : Out :=
  match C.sub c' c with
  | some true => if flatX v = true then suiteR C s i σ c' v h else .bad
  | some false => .exc c' v h
  | none => .bad
def tkF (k : Tk) (σ : MSt) (v : MV) (h : MHeap) : Out :=
  match k with
  | .ex => .next σ h
  | .asg j => .next (σ.set j (some v)) h
  | .ret => .ret v h
open Classical in
noncomputable def run (C : Ct) : MS → MSt → MHeap → Out
  | .skip, σ, h => .next σ h
  | .seq a b, σ, h => (run C a σ h).seq (run C b)
  | .asg i e, σ, h => (evE C e σ h).out fun v h1 => .next (σ.set i (some v)) h1
  | .unp is e, σ, h => (evE C e σ h).out fun v h1 => match setT (.tp is) v σ with
    | some σ1 => .next σ1 h1
    | none => .bad
  | .par i j a b, σ, h => (evE C a σ h).out fun v h1 => (evE C b σ h1).out fun w h2 => .next ((σ.set i (some v)).set j (some w)) h2
  | .una o f j e, σ, h => (evE C e σ h).out fun v h1 => match v with
    | .tup [x, y] => (evE C o σ h1).out fun p h2 => (match setFV C.na p f x h2 with
      | some h3 => .next (σ.set j (some y)) h3
      | none => .bad)
    | _ => .bad
  | .setf o f e, σ, h => (evE C e σ h).out fun v h1 => (evE C o σ h1).out fun x h2 => match setFV C.na x f v h2 with
    | some h3 => .next σ h3
    | none => .bad
  | .seti o i e, σ, h => (evE C e σ h).out fun v h1 => (evE C o σ h1).out fun x h2 => (evE C i σ h2).out fun y h3 => match setIV x y v h3 with
    | some h4 => .next σ h4
    | none => .bad
  | .setd o i e, σ, h => (evE C e σ h).out fun v h1 => (evE C o σ h1).out fun x h2 => (evE C i σ h2).out fun y h3 => match setDV x y v h3 with
    | some h4 => .next σ h4
    | none => .bad
  | .lck a s, σ, h => match evE C a σ h with
    | .ok v h1 => if h1 = h then (match lckV v h with
      | some (n, kvs, false) => lckO n kvs (run C s σ (h.set n (.dlk kvs)))
      | some (_, _, true) => run C s σ h
      | none => .bad) else .bad
    | _ => .bad
  | .aug i op e, σ, h => match σ[i]? with
    | some (some x) => (evE C e σ h).out fun y h1 => (match op, x, y with
      | .Add, .int a, .int b => .next (σ.set i (some (.int (a + b)))) h1
      | .Sub, .int a, .int b => .next (σ.set i (some (.int (a - b)))) h1
      | _, _, _ => .bad)
    | _ => .bad
  | .ex e, σ, h => (evE C e σ h).out fun _ h1 => .next σ h1
  | .ret e, σ, h => (evE C e σ h).out fun v h1 => .ret v h1
  | .retN, _, h => .ret .non h
  | .ite c a b, σ, h => (evT C c σ h).out fun t h1 => if t = true then run C a σ h1 else run C b σ h1
  | .whl c b, σ, h => whl (evT C c) (run C b) σ h
  | .for_ tg it b, σ, h => (evI C it σ h).out fun s h1 => forL s.Ok (fun x σ1 h2 => match setT tg x σ1 with
    | some σ2 => run C b σ2 h2
    | none => .bad) s.xs σ h1
  | .brk, σ, h => .brk σ h
  | .cnt, σ, h => .cnt σ h
  | .never, _, _ => .bad
  | .rai c e, σ, h => if C.rok = true ∧ C.isx c = true then (evE C e σ h).out fun v h1 => if flatX v = true then .exc c v h1 else .bad else .bad
  | .tryA b i c s, σ, h => match run C b σ h with
    | .exc c' v h1 => caughtR C i c s (List.replicate σ.length none) c' v h1
    | o => o
  | .tryB k f es i c s, σ, h => match evL C es σ h with
    | .ok vs h1 => (match C.cf f vs h1 with
      | .ok v h2 => tkF k σ v h2
      | .exc c' v h2 => caughtR C i c s σ c' v h2
      | .bad => .bad)
    | _ => .bad

/-! ### programs -/
mutual
def below (L : Nat) : MV → Bool
  | .tup xs => belows L xs
  | .lst xs => belows L xs
  | .scr xs => belows L xs
  | .ref n => n < L
  | _ => true
def belows (L : Nat) : List MV → Bool
  | [] => true
  | x :: xs => below L x && belows L xs
end
def belowO (L : Nat) : MO → Bool
  | .lst xs => belows L xs
  | .dct kvs => kvs.all fun p => below L p.2
  | .dlk kvs => kvs.all fun p => below L p.2
  | .ins _ fs => fs.all fun p => below L p.2
  | .dead => true
/-- what is new since hm may be dropped -/
def Clean (hm h : MHeap) (v : MV) : Prop := below hm.length v = true ∧ ∀ (n : Nat) (o : MO), n < hm.length → h[n]? = some o → hm[n]? = some o ∨ belowO hm.length o = true
structure Fn where
  np : Nat
  nl : Nat
  raw : Bool
  body : MS
structure Pr where
  fn : Str → Option Fn
  init : Str → Option Str
  con : Str → Option MV
  na : Str → Str → Bool
  xn : Str → Str := fun _ => ""
  sub : Str → Str → Option Bool := fun _ _ => none
  isx : Str → Bool := fun _ => false
open Classical in
noncomputable def finV (raw : Bool) (hm : MHeap) (v : MV) (h : MHeap) : Rs MV :=
  if raw = true then .ok v h else if Clean hm h v then .ok v (h.take hm.length) else .bad
noncomputable def finO (raw : Bool) (hm : MHeap) : Out → Rs MV
  | .ret v h => finV raw hm v h
  | .next _ h => finV raw hm .non h
  | .exc c v h => .exc c v h
  | _ => .bad
noncomputable def callm (P : Pr) : Nat → Str → List MV → MHeap → Rs MV
  | 0, _, _, _ => .bad
  | n + 1, f, vs, h => match P.fn f with
    | some d => if vs.length = d.np then finO d.raw h (run ⟨callm P n, (match n with
        | 0 => fun _ _ _ => .bad
        | k + 1 => fun c vs h => match P.init c with
          | some g => callm P k g vs h
          | none => .bad), P.con, P.na, (match n with
        | 0 => false
        | _ + 1 => true), none, P.xn, P.sub, P.isx, (match n with
        | 0 => false
        | 1 => false
        | _ + 2 => true)⟩ d.body (vs.map some ++ List.replicate (d.nl - d.np) none) h) else .bad
    | none => .bad
end Mn
namespace Mn
open PySem PySem.Spec PyProof.Rows L2

/-! ### lists that go together -/
section
variable {α β : Type} {R : α → β → Prop}
theorem pr_get : ∀ {xs : List α} {ys : List β} {i : Nat} {x : α}, Paired R xs ys → xs[i]? = some x → ∃ y, ys[i]? = some y ∧ R x y
  | _, _, _, _, .nil, e => by simp at e
  | _, _, 0, _, .cons r _, e => by simp at e; subst e; exact ⟨_, rfl, r⟩
  | _, _, i + 1, x, .cons _ t, e => by
    obtain ⟨y, h1, h2⟩ := pr_get (i := i) (x := x) t (by simpa using e)
    exact ⟨y, by simpa using h1, h2⟩
theorem pr_set {x : α} {y : β} (r : R x y) : ∀ {xs : List α} {ys : List β} (i : Nat), Paired R xs ys → Paired R (xs.set i x) (ys.set i y)
  | _, _, _, .nil => .nil
  | _, _, 0, .cons _ t => .cons r t
  | _, _, i + 1, .cons q t => .cons q (pr_set r i t)
theorem pr_app : ∀ {xs xs' : List α} {ys ys' : List β}, Paired R xs ys → Paired R xs' ys' → Paired R (xs ++ xs') (ys ++ ys')
  | _, _, _, _, .nil, s => s
  | _, _, _, _, .cons r t, s => .cons r (pr_app t s)
theorem pr_take : ∀ {xs : List α} {ys : List β} (n : Nat), Paired R xs ys → Paired R (xs.take n) (ys.take n)
  | _, _, 0, _ => .nil
  | _, _, _ + 1, .nil => .nil
  | _, _, n + 1, .cons r t => .cons r (pr_take n t)
theorem pr_drop : ∀ {xs : List α} {ys : List β} (n : Nat), Paired R xs ys → Paired R (xs.drop n) (ys.drop n)
  | _, _, 0, r => r
  | _, _, _ + 1, .nil => .nil
  | _, _, n + 1, .cons r t => pr_drop n t
theorem pr_rev {xs : List α} {ys : List β} (h : Paired R xs ys) : Paired R xs.reverse ys.reverse := by
  induction h with
  | nil => exact .nil
  | cons r _ ih => rw [List.reverse_cons, List.reverse_cons]; exact pr_app ih (.cons r .nil)
theorem pr_dropLast {xs : List α} {ys : List β} (h : Paired R xs ys) : Paired R xs.dropLast ys.dropLast := by
  rw [List.dropLast_eq_take, List.dropLast_eq_take, h.length]
  exact pr_take _ h
theorem pr_rep {xs : List α} {ys : List β} (h : Paired R xs ys) : ∀ k : Nat, Paired R (List.replicate k xs).flatten (List.replicate k ys).flatten
  | 0 => .nil
  | k + 1 => by
    rw [List.replicate_succ, List.replicate_succ, List.flatten_cons, List.flatten_cons]
    exact pr_app h (pr_rep h k)
theorem pr_mono {R' : α → β → Prop} {xs : List α} {ys : List β} (h : Paired R xs ys) (m : ∀ a b, a ∈ xs → R a b → R' a b) : Paired R' xs ys := by
  induction h with
  | nil => exact .nil
  | cons r _ ih => exact .cons (m _ _ (by simp) r) (ih fun a b ha => m a b (by simp [ha]))
end

/-! ### values and what they are in the abstract heap -/
structure Om where
  ρ : Nat → Addr
  F : Addr → Prop
  G : Addr → Prop
/-- a list that never changes again -/
def Fz (K : PySem.W.Frag) (Ω : Om) (H : Hp) (a : Addr) (ys : List V) : Prop :=
  Ω.F a ∧ H a = some (.lst ys)
theorem Fz.sq {K : PySem.W.Frag} {Ω : Om} {H : Hp} {a : Addr} {ys : List V} (h : Fz K Ω H a ys) : SqL K H a ys := .inl (.inl h.2)
/-- the script: a list that the walk does not own -/
def Scr (K : PySem.W.Frag) (H : Hp) (a : Addr) (ys : List V) : Prop := (∃ o, H a = some (.frz o (.lst ys))) ∨
  ∃ (o : Obj) (its : Array Value) (n : Nat), K.lookup a = some o ∧ o.cls = .type "list" ∧ o.dict = none ∧ o.data = .seq its n ∧ its.size ≤ sizeLine ∧ Vals ys its.toList
theorem Scr.sq {K : PySem.W.Frag} {H : Hp} {a : Addr} {ys : List V} (h : Scr K H a ys) : SqL K H a ys := by
  rcases h with h | h
  · exact .inl (.inr h)
  · exact .inr h
/-- plain values -/
def flatR : MV → V → Prop
  | .int i, x => x = .int i
  | .str s, x => x = .str s
  | _, _ => False
mutual
def VRel (K : PySem.W.Frag) (ga : Str → Addr) (Ω : Om) (L : Nat) (H : Hp) : MV → V → Prop
  | .non, x => x = .non
  | .bl b, x => x = .bl b
  | .int i, x => x = .int i
  | .str s, x => x = .str s
  | .ty n, x => x = .ty n
  | .glo g, x => x = .ref (ga g)
  | .xcp a d f v, x => x = .ref a ∧ Ω.F d ∧ ∃ y, H d = some (.xd [(f, y)]) ∧ flatR v y
  | .ref n, x => n < L ∧ x = .ref (Ω.ρ n)
  | .tup xs, x => ∃ a ys, x = .ref a ∧ SqT K H a ys ∧ VRels K ga Ω L H xs ys
  | .lst xs, x => ∃ a ys, x = .ref a ∧ Fz K Ω H a ys ∧ VRels K ga Ω L H xs ys
  | .scr xs, x => ∃ a ys, x = .ref a ∧ Scr K H a ys ∧ VRels K ga Ω L H xs ys
def VRels (K : PySem.W.Frag) (ga : Str → Addr) (Ω : Om) (L : Nat) (H : Hp) : List MV → List V → Prop
  | [], ys => ys = []
  | x :: xs, ys => ∃ y ys', ys = y :: ys' ∧ VRel K ga Ω L H x y ∧ VRels K ga Ω L H xs ys'
end
section
variable {K : PySem.W.Frag} {ga : Str → Addr} {Ω Ω' Ω1 Ω2 : Om} {L L' : Nat} {H H' H1 H2 : Hp}
theorem vrels_iff : ∀ {xs : List MV} {ys : List V}, VRels K ga Ω L H xs ys ↔ Paired (VRel K ga Ω L H) xs ys
  | [], ys => by
    unfold VRels
    constructor
    · intro e; subst e; exact .nil
    · intro h; cases h; rfl
  | x :: xs, ys => by
    unfold VRels
    constructor
    · rintro ⟨y, ys', rfl, r, t⟩
      exact .cons r (vrels_iff.mp t)
    · intro h
      cases h with
      | cons r t => exact ⟨_, _, rfl, r, vrels_iff.mpr t⟩
/-- what has come behind: the first L objects are where they were, what is frozen stays -/
structure Ext (L : Nat) (Ω : Om) (H : Hp) (Ω' : Om) (H' : Hp) : Prop where
  at_ : ∀ n, n < L → Ω'.ρ n = Ω.ρ n
  fz : ∀ a, Ω.F a → Ω'.F a
  keep : ∀ a, Ω.F a → H' a = H a
  tup : ∀ a xs, H a = some (.tup xs) → H' a = some (.tup xs)
  frz : ∀ a o u, H a = some (.frz o u) → H' a = some (.frz o u)
  gd : Ω'.G = Ω.G
  gk : ∀ a, Ω.G a → H' a = H a
theorem Ext.refl (L : Nat) (Ω : Om) (H : Hp) : Ext L Ω H Ω H := ⟨fun _ _ => rfl, fun _ h => h, fun _ _ => rfl, fun _ _ h => h, fun _ _ _ h => h, rfl, fun _ _ => rfl⟩
theorem Ext.trans (a : Ext L Ω H Ω1 H1) (b : Ext L' Ω1 H1 Ω2 H2) (h : L ≤ L') : Ext L Ω H Ω2 H2 :=
  ⟨fun n hn => (b.at_ n (Nat.lt_of_lt_of_le hn h)).trans (a.at_ n hn), fun x hx => b.fz x (a.fz x hx), fun x hx => (b.keep x (a.fz x hx)).trans (a.keep x hx), fun x xs hx => b.tup x xs (a.tup x xs hx), fun x o u hx => b.frz x o u (a.frz x o u hx), b.gd.trans a.gd,
    fun x hx => (b.gk x (by rw [a.gd]; exact hx)).trans (a.gk x hx)⟩
theorem Ext.weak (a : Ext L' Ω H Ω' H') (h : L ≤ L') : Ext L Ω H Ω' H' := ⟨fun n hn => a.at_ n (Nat.lt_of_lt_of_le hn h), a.fz, a.keep, a.tup, a.frz, a.gd, a.gk⟩
theorem Fz.ext {a : Addr} {ys : List V} (h : Fz K Ω H a ys) (e : Ext L Ω H Ω' H') : Fz K Ω' H' a ys := by
  exact ⟨e.fz a h.1, (e.keep a h.1).trans h.2⟩
theorem sqt_ext {a : Addr} {ys : List V} (h : SqT K H a ys) (e : Ext L Ω H Ω' H') : SqT K H' a ys := by
  rcases h with (h | ⟨o, h⟩) | h
  · exact .inl (.inl (e.tup a _ h))
  · exact .inl (.inr ⟨o, e.frz a o _ h⟩)
  · exact .inr h
mutual
theorem VRel.ext (e : Ext L Ω H Ω' H') (hl : L ≤ L') : ∀ {v : MV} {x : V}, VRel K ga Ω L H v x → VRel K ga Ω' L' H' v x
  | .non, _, h => by unfold VRel at h ⊢; exact h
  | .bl _, _, h => by unfold VRel at h ⊢; exact h
  | .int _, _, h => by unfold VRel at h ⊢; exact h
  | .str _, _, h => by unfold VRel at h ⊢; exact h
  | .ty _, _, h => by unfold VRel at h ⊢; exact h
  | .glo _, _, h => by unfold VRel at h ⊢; exact h
  | .xcp .., _, h => by
    unfold VRel at h ⊢
    obtain ⟨h1, h2, y, h3, h4⟩ := h
    exact ⟨h1, e.fz _ h2, y, (e.keep _ h2).trans h3, h4⟩
  | .ref n, _, h => by
    unfold VRel at h ⊢
    exact ⟨Nat.lt_of_lt_of_le h.1 hl, by rw [e.at_ n h.1]; exact h.2⟩
  | .tup xs, _, h => by
    unfold VRel at h ⊢
    obtain ⟨a, ys, r, s, t⟩ := h
    exact ⟨a, ys, r, sqt_ext s e, VRels.ext e hl t⟩
  | .lst xs, _, h => by
    unfold VRel at h ⊢
    obtain ⟨a, ys, r, s, t⟩ := h
    exact ⟨a, ys, r, s.ext e, VRels.ext e hl t⟩
  | .scr xs, _, h => by
    unfold VRel at h ⊢
    obtain ⟨a, ys, r, s, t⟩ := h
    exact ⟨a, ys, r, s.elim (fun ⟨o, s⟩ => .inl ⟨o, e.frz a o _ s⟩) .inr, VRels.ext e hl t⟩
theorem VRels.ext (e : Ext L Ω H Ω' H') (hl : L ≤ L') : ∀ {xs : List MV} {ys : List V}, VRels K ga Ω L H xs ys → VRels K ga Ω' L' H' xs ys
  | [], _, h => by unfold VRels at h ⊢; exact h
  | x :: xs, _, h => by
    unfold VRels at h ⊢
    obtain ⟨y, ys', r, s, t⟩ := h
    exact ⟨y, ys', r, VRel.ext e hl s, VRels.ext e hl t⟩
end
/-! refs below L -/
mutual
theorem VRel.down : ∀ {v : MV} {x : V}, VRel K ga Ω L' H v x → below L v = true → VRel K ga Ω L H v x
  | .non, _, h, _ => by unfold VRel at h ⊢; exact h
  | .bl _, _, h, _ => by unfold VRel at h ⊢; exact h
  | .int _, _, h, _ => by unfold VRel at h ⊢; exact h
  | .str _, _, h, _ => by unfold VRel at h ⊢; exact h
  | .ty _, _, h, _ => by unfold VRel at h ⊢; exact h
  | .glo _, _, h, _ => by unfold VRel at h ⊢; exact h
  | .xcp .., _, h, _ => by unfold VRel at h ⊢; exact h
  | .ref n, _, h, b => by
    unfold VRel at h ⊢
    exact ⟨by unfold below at b; simpa using b, h.2⟩
  | .tup xs, _, h, b => by
    unfold VRel at h ⊢
    obtain ⟨a, ys, r, s, t⟩ := h
    exact ⟨a, ys, r, s, VRels.down t (by unfold below at b; exact b)⟩
  | .lst xs, _, h, b => by
    unfold VRel at h ⊢
    obtain ⟨a, ys, r, s, t⟩ := h
    exact ⟨a, ys, r, s, VRels.down t (by unfold below at b; exact b)⟩
  | .scr xs, _, h, b => by
    unfold VRel at h ⊢
    obtain ⟨a, ys, r, s, t⟩ := h
    exact ⟨a, ys, r, s, VRels.down t (by unfold below at b; exact b)⟩
theorem VRels.down : ∀ {xs : List MV} {ys : List V}, VRels K ga Ω L' H xs ys → belows L xs = true → VRels K ga Ω L H xs ys
  | [], _, h, _ => by unfold VRels at h ⊢; exact h
  | x :: xs, _, h, b => by
    unfold VRels at h ⊢
    unfold belows at b
    rw [Bool.and_eq_true] at b
    obtain ⟨y, ys', r, s, t⟩ := h
    exact ⟨y, ys', r, VRel.down s b.1, VRels.down t b.2⟩
end
mutual
theorem VRel.low : ∀ {v : MV} {x : V}, VRel K ga Ω L H v x → below L v = true
  | .non, _, _ => by unfold below; rfl
  | .bl _, _, _ => by unfold below; rfl
  | .int _, _, _ => by unfold below; rfl
  | .str _, _, _ => by unfold below; rfl
  | .ty _, _, _ => by unfold below; rfl
  | .glo _, _, _ => by unfold below; rfl
  | .xcp .., _, _ => by unfold below; rfl
  | .ref n, _, h => by
    unfold VRel at h
    unfold below
    exact decide_eq_true h.1
  | .tup xs, _, h => by
    unfold VRel at h
    unfold below
    obtain ⟨a, ys, r, s, t⟩ := h
    exact VRels.low t
  | .lst xs, _, h => by
    unfold VRel at h
    unfold below
    obtain ⟨a, ys, r, s, t⟩ := h
    exact VRels.low t
  | .scr xs, _, h => by
    unfold VRel at h
    unfold below
    obtain ⟨a, ys, r, s, t⟩ := h
    exact VRels.low t
theorem VRels.low : ∀ {xs : List MV} {ys : List V}, VRels K ga Ω L H xs ys → belows L xs = true
  | [], _, _ => by unfold belows; rfl
  | x :: xs, _, h => by
    unfold VRels at h
    unfold belows
    obtain ⟨y, ys', r, s, t⟩ := h
    rw [Bool.and_eq_true]
    exact ⟨VRel.low s, VRels.low t⟩
end

/-! ### objects, heaps, slots -/
def FRel (K : PySem.W.Frag) (ga : Str → Addr) (Ω : Om) (L : Nat) (H : Hp) : List (Str × MV) → List (Str × V) → Prop := Paired fun p q => p.1 = q.1 ∧ VRel K ga Ω L H p.2 q.2
def DRel (K : PySem.W.Frag) (ga : Str → Addr) (Ω : Om) (L : Nat) (H : Hp) : List (Key × MV) → List (Key × V) → Prop := Paired fun p q => p.1 = q.1 ∧ VRel K ga Ω L H p.2 q.2
def ORel (K : PySem.W.Frag) (ga : Str → Addr) (Ω : Om) (L : Nat) (H : Hp) (o : MO) (u : Option HO) : Prop :=
  match o with
  | .lst xs => ∃ ys, u = some (.lst ys) ∧ VRels K ga Ω L H xs ys
  | .dct kvs => ∃ kys, u = some (.dK kys) ∧ DRel K ga Ω L H kvs kys
  | .dlk kvs => ∃ o kys, u = some (.frz o (.dK kys)) ∧ DRel K ga Ω L H kvs kys
  | .ins c fs => ∃ dx ys, u = some (.ins (ga c) dx ys) ∧ FRel K ga Ω L H fs ys
  | .dead => ∃ w, u = some w
theorem FRel.ext {fs : List (Str × MV)} {ys : List (Str × V)} (e : Ext L Ω H Ω' H') (hl : L ≤ L') (h : FRel K ga Ω L H fs ys) : FRel K ga Ω' L' H' fs ys := pr_mono h fun _ _ _ r => ⟨r.1, r.2.ext e hl⟩
theorem DRel.ext {fs : List (Key × MV)} {ys : List (Key × V)} (e : Ext L Ω H Ω' H') (hl : L ≤ L') (h : DRel K ga Ω L H fs ys) : DRel K ga Ω' L' H' fs ys := pr_mono h fun _ _ _ r => ⟨r.1, r.2.ext e hl⟩
theorem ORel.ext {o : MO} {u : Option HO} (e : Ext L Ω H Ω' H') (hl : L ≤ L') (h : ORel K ga Ω L H o u) : ORel K ga Ω' L' H' o u := by
  cases o with
  | lst xs => obtain ⟨ys, r, t⟩ := h; exact ⟨ys, r, t.ext e hl⟩
  | dct xs => obtain ⟨ys, r, t⟩ := h; exact ⟨ys, r, t.ext e hl⟩
  | dlk xs => obtain ⟨o, ys, r, t⟩ := h; exact ⟨o, ys, r, t.ext e hl⟩
  | ins c fs => obtain ⟨dx, ys, r, t⟩ := h; exact ⟨dx, ys, r, t.ext e hl⟩
  | dead => exact h
structure HRel (K : PySem.W.Frag) (ga : Str → Addr) (Ω : Om) (hm : MHeap) (H : Hp) : Prop where
  obj : ∀ n o, hm[n]? = some o → ORel K ga Ω hm.length H o (H (Ω.ρ n))
  inj : ∀ n m, n < hm.length → m < hm.length → Ω.ρ n = Ω.ρ m → n = m
  nf : ∀ n o, hm[n]? = some o → o ≠ .dead → ¬ Ω.F (Ω.ρ n)
  ft : ∀ a, Ω.F a → ∃ u, H a = some u
  gr : ∀ n, n < hm.length → ¬ Ω.G (Ω.ρ n)
  gf : ∀ a, Ω.F a → ¬ Ω.G a
  gt : ∀ a, Ω.G a → ∃ u, H a = some u
def SRel (K : PySem.W.Frag) (ga : Str → Addr) (Ω : Om) (L : Nat) (H : Hp) (σm : MSt) (σ : L2.St) : Prop :=
  σm.length = σ.length ∧ ∀ (i : Nat) (v : MV), σm[i]? = some (some v) → ∃ x, σ[i]? = some (some x) ∧ VRel K ga Ω L H v x
theorem SRel.ext {σm : MSt} {σ : L2.St} (e : Ext L Ω H Ω' H') (hl : L ≤ L') (h : SRel K ga Ω L H σm σ) : SRel K ga Ω' L' H' σm σ :=
  ⟨h.1, fun i v hv => let ⟨x, h1, h2⟩ := h.2 i v hv; ⟨x, h1, h2.ext e hl⟩⟩
theorem SRel.set {σm : MSt} {σ : L2.St} {v : MV} {x : V} (i : Nat) (h : SRel K ga Ω L H σm σ) (r : VRel K ga Ω L H v x) : SRel K ga Ω L H (σm.set i (some v)) (σ.set i (some x)) := by
  refine ⟨by simpa using h.1, fun j w hw => ?_⟩
  by_cases hj : i = j
  · subst hj
    by_cases hi : i < σm.length
    · rw [List.getElem?_set_self hi] at hw
      cases hw
      exact ⟨x, by rw [List.getElem?_set_self (by rw [← h.1]; exact hi)], r⟩
    · rw [List.getElem?_eq_none (by simpa using hi)] at hw
      cases hw
  · rw [List.getElem?_set_ne hj] at hw ⊢
    exact h.2 j w hw
theorem SRel.wipe {σm : MSt} {σ : L2.St} (h : SRel K ga Ω L H σm σ) : ∀ vs : List Nat, SRel K ga Ω L H (wipeM σm vs) (wipe σ vs)
  | [] => h
  | v :: vs => by
    have q := SRel.wipe h vs
    unfold wipeM L2.wipe
    refine ⟨by simpa using q.1, fun j w hw => ?_⟩
    by_cases hj : v = j
    · subst hj
      by_cases hi : v < (wipeM σm vs).length
      · rw [List.getElem?_set_self hi] at hw; cases hw
      · rw [List.getElem?_eq_none (by simpa using hi)] at hw; cases hw
    · rw [List.getElem?_set_ne hj] at hw ⊢
      exact q.2 j w hw
theorem SRel.nil (σ : L2.St) : SRel K ga Ω L H (List.replicate σ.length none) σ := by
  refine ⟨by simp, fun i v hv => ?_⟩
  rw [List.getElem?_replicate] at hv
  split at hv <;> cases hv

/-! ### the heap's steps -/
variable {hm : MHeap}
theorem HRel.there (h : HRel K ga Ω hm H) {n : Nat} (hn : n < hm.length) : ∃ u, H (Ω.ρ n) = some u := by
  have q := h.obj n _ (List.getElem?_eq_getElem hn)
  revert q
  generalize hm[n] = o
  intro q
  cases o with
  | lst xs => obtain ⟨ys, r, _⟩ := q; exact ⟨_, r⟩
  | dct xs => obtain ⟨ys, r, _⟩ := q; exact ⟨_, r⟩
  | dlk xs => obtain ⟨o, ys, r, _⟩ := q; exact ⟨_, r⟩
  | ins c fs => obtain ⟨dx, ys, r, _⟩ := q; exact ⟨_, r⟩
  | dead => exact q
/-- p is known to nobody -/
def Free (Ω : Om) (L : Nat) (p : Addr) : Prop := (∀ n, n < L → Ω.ρ n ≠ p) ∧ ¬ Ω.F p ∧ ¬ Ω.G p
theorem HRel.free (h : HRel K ga Ω hm H) {p : Addr} (hp : H p = none) : Free Ω hm.length p :=
  ⟨fun n hn e => (by obtain ⟨u, q⟩ := h.there hn; rw [e, hp] at q; cases q), fun f => (by obtain ⟨u, q⟩ := h.ft p f; rw [hp] at q; cases q), fun f => (by obtain ⟨u, q⟩ := h.gt p f; rw [hp] at q; cases q)⟩
/-- the abstract heap grows by what Ω does not know -/
theorem HRel.grow (h : HRel K ga Ω hm H) (e : Ext hm.length Ω H Ω H') (k : ∀ n, n < hm.length → H' (Ω.ρ n) = H (Ω.ρ n)) : HRel K ga Ω hm H' := by
  refine ⟨fun n o q => ?_, h.inj, h.nf, fun a f => ?_, h.gr, h.gf, fun a g => ?_⟩
  · have hn : n < hm.length := (List.getElem?_eq_some_iff.mp q).1
    rw [k n hn]
    exact (h.obj n o q).ext e (Nat.le_refl _)
  · rw [e.keep a f]; exact h.ft a f
  · rw [e.gk a g]; exact h.gt a g
theorem ext_new (h : HRel K ga Ω hm H) {p : Addr} {o : HO} (hp : H p = none) : Ext hm.length Ω H Ω (upd H p o) := by
  have hf := h.free hp
  refine ⟨fun _ _ => rfl, fun _ f => f, fun a f => upd_ne fun e => hf.2.1 (e ▸ f), fun a xs q => ?_, fun a ob u q => ?_, rfl, fun a g => upd_ne fun e => hf.2.2 (e ▸ g)⟩
  · rw [upd_ne (ne_of_none q hp)]; exact q
  · rw [upd_ne (ne_of_none q hp)]; exact q
theorem HRel.new (h : HRel K ga Ω hm H) {p : Addr} {o : HO} (hp : H p = none) : HRel K ga Ω hm (upd H p o) :=
  h.grow (ext_new h hp) fun n hn => upd_ne (h.free hp |>.1 n hn)
/-- p is frozen -/
def Om.fzAt (Ω : Om) (p : Addr) : Om := ⟨Ω.ρ, fun a => Ω.F a ∨ a = p, Ω.G⟩
def Om.put (Ω : Om) (n : Nat) (p : Addr) : Om := ⟨fun m => if m = n then p else Ω.ρ m, Ω.F, Ω.G⟩
theorem ext_fz (Ω : Om) (p : Addr) (H : Hp) (L : Nat) : Ext L Ω H (Ω.fzAt p) H := ⟨fun _ _ => rfl, fun _ f => .inl f, fun _ _ => rfl, fun _ _ q => q, fun _ _ _ q => q, rfl, fun _ _ => rfl⟩
theorem ext_put (Ω : Om) (p : Addr) (H : Hp) (L : Nat) : Ext L Ω H (Ω.put L p) H :=
  ⟨fun n hn => if_neg (Nat.ne_of_lt hn), fun _ f => f, fun _ _ => rfl, fun _ _ q => q, fun _ _ _ q => q, rfl, fun _ _ => rfl⟩
theorem HRel.fz (h : HRel K ga Ω hm H) {p : Addr} {u : HO} (hp : H p = some u) (hf : Free Ω hm.length p) : HRel K ga (Ω.fzAt p) hm H := by
  refine ⟨fun n o q => (h.obj n o q).ext (ext_fz Ω p H _) (Nat.le_refl _), h.inj, fun n o q d f => ?_, fun a f => ?_, h.gr, fun a f => ?_, h.gt⟩
  · rcases f with f | f
    · exact h.nf n o q d f
    · exact hf.1 n (List.getElem?_eq_some_iff.mp q).1 f
  · rcases f with f | f
    · exact h.ft a f
    · subst f; exact ⟨u, hp⟩
  · rcases f with f | f
    · exact h.gf a f
    · subst f; exact hf.2.2
/-- a new object of ours -/
theorem HRel.snoc (h : HRel K ga Ω hm H) {p : Addr} {o : MO} (hf : Free Ω hm.length p) (ho : ORel K ga (Ω.put hm.length p) (hm.length + 1) H o (H p)) : HRel K ga (Ω.put hm.length p) (hm ++ [o]) H := by
  have e := ext_put Ω p H hm.length
  have hl : (hm ++ [o]).length = hm.length + 1 := by simp
  have old : ∀ n, n < hm.length → (Ω.put hm.length p).ρ n = Ω.ρ n := fun n hn => e.at_ n hn
  have new : (Ω.put hm.length p).ρ hm.length = p := if_pos rfl
  refine ⟨fun n q hq => ?_, fun n m hn hmm r => ?_, fun n q hq hd f => ?_, fun a f => h.ft a f, fun n hn => ?_, h.gf, h.gt⟩
  · rw [hl]
    by_cases hn : n < hm.length
    · rw [List.getElem?_append_left hn] at hq
      rw [old n hn]
      exact (h.obj n q hq).ext e (Nat.le_succ _)
    · have hn' : n = hm.length := by
        have := (List.getElem?_eq_some_iff.mp hq).1
        omega
      subst hn'
      rw [List.getElem?_append_right (Nat.le_refl _)] at hq
      simp at hq
      subst hq
      rw [new]
      exact ho
  · rw [hl] at hn hmm
    by_cases h1 : n < hm.length
    · rw [old n h1] at r
      by_cases h2 : m < hm.length
      · rw [old m h2] at r
        exact h.inj n m h1 h2 r
      · have : m = hm.length := by omega
        subst this
        rw [new] at r
        exact absurd r (hf.1 n h1)
    · have : n = hm.length := by omega
      subst this
      rw [new] at r
      by_cases h2 : m < hm.length
      · rw [old m h2] at r
        exact absurd r.symm (hf.1 m h2)
      · omega
  · by_cases hn : n < hm.length
    · rw [List.getElem?_append_left hn] at hq
      rw [old n hn] at f
      exact h.nf n q hq hd f
    · have hn' : n = hm.length := by
        have := (List.getElem?_eq_some_iff.mp hq).1
        omega
      subst hn'
      rw [new] at f
      exact hf.2.1 f
  · rw [hl] at hn
    by_cases h1 : n < hm.length
    · rw [old n h1]; exact h.gr n h1
    · have : n = hm.length := by omega
      subst this
      rw [new]
      exact hf.2.2
/-- an object of ours is written -/
theorem HRel.set (h : HRel K ga Ω hm H) {n : Nat} {o : MO} {u : HO} (hn : n < hm.length) (hl : ∃ q, hm[n]? = some q ∧ q ≠ .dead) (ho : ORel K ga Ω hm.length H o (some u)) (mu : Mut (H (Ω.ρ n))) :
    HRel K ga Ω (hm.set n o) (upd H (Ω.ρ n) u) ∧ Ext hm.length Ω H Ω (upd H (Ω.ρ n) u) := by
  obtain ⟨q, hq, hd⟩ := hl
  have hf := h.nf n q hq hd
  have e : Ext hm.length Ω H Ω (upd H (Ω.ρ n) u) := by
    refine ⟨fun _ _ => rfl, fun _ f => f, fun a f => upd_ne fun e => hf (e ▸ f), fun a xs r => ?_, fun a ob v r => ?_, rfl, fun a g => upd_ne fun e => h.gr n hn (e ▸ g)⟩
    · exact (upd_ne fun e => by subst e; rw [r] at mu; exact mu).trans r
    · exact (upd_ne fun e => by subst e; rw [r] at mu; exact mu).trans r
  refine ⟨⟨fun m p hp => ?_, fun a b ha hb => by simp only [List.length_set] at ha hb; exact h.inj a b ha hb, fun m p hp dd f => ?_, fun a f => ?_, fun m hm' => h.gr m (by simpa using hm'), h.gf, fun a g => by rw [e.gk a g]; exact h.gt a g⟩, e⟩
  · rw [List.length_set]
    by_cases hmn : n = m
    · subst hmn
      rw [List.getElem?_set_self hn] at hp
      cases hp
      rw [upd_same]
      exact ho.ext e (Nat.le_refl _)
    · rw [List.getElem?_set_ne hmn] at hp
      have hm' : m < hm.length := (List.getElem?_eq_some_iff.mp hp).1
      rw [upd_ne fun e => hmn (h.inj _ _ hm' hn e).symm]
      exact (h.obj m p hp).ext e (Nat.le_refl _)
  · by_cases hmn : n = m
    · subst hmn; exact hf f
    · rw [List.getElem?_set_ne hmn] at hp
      exact h.nf m p hp dd f
  · rw [e.keep a f]; exact h.ft a f
/-- an object of ours dies (frozen) -/
theorem HRel.kill (h : HRel K ga Ω hm H) {n : Nat} (hn : n < hm.length) : HRel K ga (Ω.fzAt (Ω.ρ n)) (hm.set n .dead) H := by
  have e := ext_fz Ω (Ω.ρ n) H hm.length
  refine ⟨fun m p hp => ?_, fun a b ha hb => by simp only [List.length_set] at ha hb; exact h.inj a b ha hb, fun m p hp dd f => ?_, fun a f => ?_, fun m hm' => h.gr m (by simpa using hm'), fun a f => ?_, h.gt⟩
  · rw [List.length_set]
    by_cases hmn : n = m
    · subst hmn
      rw [List.getElem?_set_self hn] at hp
      cases hp
      exact h.there hn
    · rw [List.getElem?_set_ne hmn] at hp
      exact (h.obj m p hp).ext e (Nat.le_refl _)
  · by_cases hmn : n = m
    · subst hmn
      rw [List.getElem?_set_self hn] at hp
      cases hp
      exact dd rfl
    · rw [List.getElem?_set_ne hmn] at hp
      have hm' : m < hm.length := (List.getElem?_eq_some_iff.mp hp).1
      rcases f with f | f
      · exact h.nf m p hp dd f
      · exact hmn (h.inj _ _ hm' hn f).symm
  · rcases f with f | f
    · exact h.ft a f
    · subst f; exact h.there hn
  · rcases f with f | f
    · exact h.gf a f
    · subst f; exact h.gr n hn
/-- what is new is dropped -/
theorem HRel.take {hm' : MHeap} {v : MV} (h0 : HRel K ga Ω hm H) (h : HRel K ga Ω' hm' H') (e : Ext hm.length Ω H Ω' H') (hl : hm.length ≤ hm'.length) (c : Clean hm hm' v) : HRel K ga Ω' (hm'.take hm.length) H' := by
  have hlen : (hm'.take hm.length).length = hm.length := by simp [hl]
  refine ⟨fun n o q => ?_, fun n m hn hmm r => h.inj n m (by rw [hlen] at hn; omega) (by rw [hlen] at hmm; omega) r, fun n o q d f => ?_, h.ft, fun n hn => h.gr n (by rw [hlen] at hn; omega), h.gf, h.gt⟩
  · have hn : n < hm.length := by rw [← hlen]; exact (List.getElem?_eq_some_iff.mp q).1
    have q' : hm'[n]? = some o := by rw [List.getElem?_take_of_lt hn] at q; exact q
    rw [hlen]
    have big := h.obj n o q'
    have lowO : belowO hm.length o = true := by
      rcases c.2 n o hn q' with z | z
      · have old := h0.obj n o z
        cases o with
        | lst xs => obtain ⟨ys, _, t⟩ := old; exact t.low
        | dct kvs =>
          obtain ⟨kys, _, t⟩ := old
          unfold belowO
          rw [List.all_eq_true]
          intro p hp
          obtain ⟨i, hi⟩ := List.mem_iff_getElem?.mp hp
          obtain ⟨y, _, r⟩ := pr_get t hi
          exact r.2.low
        | dlk kvs =>
          obtain ⟨o, kys, _, t⟩ := old
          unfold belowO
          rw [List.all_eq_true]
          intro p hp
          obtain ⟨i, hi⟩ := List.mem_iff_getElem?.mp hp
          obtain ⟨y, _, r⟩ := pr_get t hi
          exact r.2.low
        | ins cc fs =>
          obtain ⟨dx, ys, _, t⟩ := old
          unfold belowO
          rw [List.all_eq_true]
          intro p hp
          obtain ⟨i, hi⟩ := List.mem_iff_getElem?.mp hp
          obtain ⟨y, _, r⟩ := pr_get t hi
          exact r.2.low
        | dead => rfl
      · exact z
    cases o with
    | lst xs => obtain ⟨ys, r, t⟩ := big; exact ⟨ys, r, t.down lowO⟩
    | dct kvs =>
      obtain ⟨kys, r, t⟩ := big
      unfold belowO at lowO
      rw [List.all_eq_true] at lowO
      exact ⟨kys, r, pr_mono t fun a b ha z => ⟨z.1, z.2.down (lowO a ha)⟩⟩
    | dlk kvs =>
      obtain ⟨oo, kys, r, t⟩ := big
      unfold belowO at lowO
      rw [List.all_eq_true] at lowO
      exact ⟨oo, kys, r, pr_mono t fun a b ha z => ⟨z.1, z.2.down (lowO a ha)⟩⟩
    | ins cc fs =>
      obtain ⟨dx, ys, r, t⟩ := big
      unfold belowO at lowO
      rw [List.all_eq_true] at lowO
      exact ⟨dx, ys, r, pr_mono t fun a b ha z => ⟨z.1, z.2.down (lowO a ha)⟩⟩
    | dead => exact big
  · have hn : n < hm.length := by rw [← hlen]; exact (List.getElem?_eq_some_iff.mp q).1
    exact h.nf n o (by rw [List.getElem?_take_of_lt hn] at q; exact q) d f
end
section
variable {K : PySem.W.Frag} {ga : Str → Addr}
/-! ### a list in the making is guarded -/
mutual
theorem VRel.om {Ω Ω' : Om} {L : Nat} {H : Hp} (h1 : Ω'.ρ = Ω.ρ) (h2 : Ω'.F = Ω.F) : ∀ {v : MV} {x : V}, VRel K ga Ω L H v x → VRel K ga Ω' L H v x
  | .non, _, h => by unfold VRel at h ⊢; exact h
  | .bl _, _, h => by unfold VRel at h ⊢; exact h
  | .int _, _, h => by unfold VRel at h ⊢; exact h
  | .str _, _, h => by unfold VRel at h ⊢; exact h
  | .ty _, _, h => by unfold VRel at h ⊢; exact h
  | .glo _, _, h => by unfold VRel at h ⊢; exact h
  | .xcp .., _, h => by
    unfold VRel at h ⊢
    rw [h2]; exact h
  | .ref n, _, h => by
    unfold VRel at h ⊢
    rw [h1]; exact h
  | .tup xs, _, h => by
    unfold VRel at h ⊢
    obtain ⟨a, ys, r, s, t⟩ := h
    exact ⟨a, ys, r, s, VRels.om h1 h2 t⟩
  | .lst xs, _, h => by
    unfold VRel at h ⊢
    obtain ⟨a, ys, r, s, t⟩ := h
    exact ⟨a, ys, r, ⟨by rw [h2]; exact s.1, s.2⟩, VRels.om h1 h2 t⟩
  | .scr xs, _, h => by
    unfold VRel at h ⊢
    obtain ⟨a, ys, r, s, t⟩ := h
    exact ⟨a, ys, r, s, VRels.om h1 h2 t⟩
theorem VRels.om {Ω Ω' : Om} {L : Nat} {H : Hp} (h1 : Ω'.ρ = Ω.ρ) (h2 : Ω'.F = Ω.F) : ∀ {xs : List MV} {ys : List V}, VRels K ga Ω L H xs ys → VRels K ga Ω' L H xs ys
  | [], _, h => by unfold VRels at h ⊢; exact h
  | x :: xs, _, h => by
    unfold VRels at h ⊢
    obtain ⟨y, ys', r, s, t⟩ := h
    exact ⟨y, ys', r, VRel.om h1 h2 s, VRels.om h1 h2 t⟩
end
section
variable {Ω Ω' : Om} {L : Nat} {H H' : Hp} {hm : MHeap}
theorem ORel.om {o : MO} {u : Option HO} (h1 : Ω'.ρ = Ω.ρ) (h2 : Ω'.F = Ω.F) (h : ORel K ga Ω L H o u) : ORel K ga Ω' L H o u := by
  cases o with
  | lst xs => obtain ⟨ys, r, t⟩ := h; exact ⟨ys, r, t.om h1 h2⟩
  | dct xs => obtain ⟨ys, r, t⟩ := h; exact ⟨ys, r, pr_mono t fun _ _ _ q => ⟨q.1, q.2.om h1 h2⟩⟩
  | dlk xs => obtain ⟨o, ys, r, t⟩ := h; exact ⟨o, ys, r, pr_mono t fun _ _ _ q => ⟨q.1, q.2.om h1 h2⟩⟩
  | ins c fs => obtain ⟨dx, ys, r, t⟩ := h; exact ⟨dx, ys, r, pr_mono t fun _ _ _ q => ⟨q.1, q.2.om h1 h2⟩⟩
  | dead => exact h
theorem SRel.om {σm : MSt} {σ : L2.St} (h1 : Ω'.ρ = Ω.ρ) (h2 : Ω'.F = Ω.F) (h : SRel K ga Ω L H σm σ) : SRel K ga Ω' L H σm σ :=
  ⟨h.1, fun i v hv => let ⟨x, a, b⟩ := h.2 i v hv; ⟨x, a, b.om h1 h2⟩⟩
def Om.gd (Ω : Om) (D : Addr) : Om := ⟨Ω.ρ, Ω.F, fun a => Ω.G a ∨ a = D⟩
def Om.un (Ω : Om) (G : Addr → Prop) : Om := ⟨Ω.ρ, Ω.F, G⟩
theorem HRel.gd (h : HRel K ga Ω hm H) {D : Addr} {u : HO} (fr : Free Ω hm.length D) (hD : H D = some u) : HRel K ga (Ω.gd D) hm H :=
  ⟨fun n o q => (show ORel K ga _ hm.length H o (H (Ω.ρ n)) from ORel.om (Ω := Ω) rfl rfl (h.obj n o q)), h.inj, h.nf, h.ft, fun n hn g => g.elim (h.gr n hn) (fr.1 n hn), fun a f g => g.elim (h.gf a f) (fun e => fr.2.1 (e ▸ f)), fun a g => g.elim (h.gt a) (fun e => ⟨u, e ▸ hD⟩)⟩
theorem HRel.un (h : HRel K ga Ω hm H) (G : Addr → Prop) (hG : ∀ a, G a → Ω.G a) : HRel K ga (Ω.un G) hm H :=
  ⟨fun n o q => (show ORel K ga _ hm.length H o (H (Ω.ρ n)) from ORel.om (Ω := Ω) rfl rfl (h.obj n o q)), h.inj, h.nf, h.ft, fun n hn g => h.gr n hn (hG _ g), fun a f g => h.gf a f (hG a g), fun a g => h.gt a (hG a g)⟩
/-- behind a guard -/
theorem Ext.un (e : Ext L (Ω.gd D) H Ω' H') : Ext L Ω H (Ω'.un Ω.G) H' := ⟨e.at_, e.fz, e.keep, e.tup, e.frz, rfl, fun a g => e.gk a (.inl g)⟩
/-- what is known to nobody is written -/
theorem HRel.poke (h : HRel K ga Ω hm H) {D : Addr} {xs ys : List V} (fr : Free Ω hm.length D) (hD : H D = some (.lst xs)) : Ext hm.length Ω H Ω (upd H D (.lst ys)) ∧ HRel K ga Ω hm (upd H D (.lst ys)) := by
  have e : Ext hm.length Ω H Ω (upd H D (.lst ys)) := by
    refine ⟨fun _ _ => rfl, fun _ f => f, fun a f => upd_ne fun e => fr.2.1 (e ▸ f), fun a zs q => ?_, fun a o u q => ?_, rfl, fun a g => upd_ne fun e => fr.2.2 (e ▸ g)⟩
    · exact (upd_ne fun e => by subst e; rw [hD] at q; cases q).trans q
    · exact (upd_ne fun e => by subst e; rw [hD] at q; cases q).trans q
  exact ⟨e, h.grow e fun n hn => upd_ne (fr.1 n hn)⟩
end

/-- what has come behind, whatever is guarded -/
def Ext0 (L : Nat) (Ω : Om) (H : Hp) (Ω' : Om) (H' : Hp) : Prop := Ext L (Ω.un fun _ => False) H (Ω'.un fun _ => False) H'
theorem Ext.z {L : Nat} {Ω Ω' : Om} {H H' : Hp} (e : Ext L Ω H Ω' H') : Ext0 L Ω H Ω' H' := ⟨e.at_, e.fz, e.keep, e.tup, e.frz, rfl, fun _ f => f.elim⟩
theorem VRel.ext0 {L L' : Nat} {Ω Ω' : Om} {H H' : Hp} {v : MV} {x : V} (h : VRel K ga Ω L H v x) (e : Ext0 L Ω H Ω' H') (hl : L ≤ L') : VRel K ga Ω' L' H' v x :=
  VRel.om (Ω := Ω'.un fun _ => False) (Ω' := Ω') rfl rfl (VRel.ext e hl (VRel.om (Ω := Ω) (Ω' := Ω.un fun _ => False) rfl rfl h))
theorem VRels.ext0 {L L' : Nat} {Ω Ω' : Om} {H H' : Hp} {v : List MV} {x : List V} (h : VRels K ga Ω L H v x) (e : Ext0 L Ω H Ω' H') (hl : L ≤ L') : VRels K ga Ω' L' H' v x :=
  VRels.om (Ω := Ω'.un fun _ => False) (Ω' := Ω') rfl rfl (VRels.ext e hl (VRels.om (Ω := Ω) (Ω' := Ω.un fun _ => False) rfl rfl h))
end

/-! ### a dict under a lock -/
section
variable {K : PySem.W.Frag} {ga : Str → Addr} {Ω Ω' : Om} {L L' : Nat} {H H' : Hp} {d : Addr} {o : Obj} {ks : List (Key × V)} {u : HO}
mutual
theorem VRel.unl (hd : H d = some (.frz o (.dK ks))) : ∀ {v : MV} {x : V}, VRel K ga Ω L H v x → VRel K ga Ω L (upd H d u) v x
  | .non, _, h => by unfold VRel at h ⊢; exact h
  | .bl _, _, h => by unfold VRel at h ⊢; exact h
  | .int _, _, h => by unfold VRel at h ⊢; exact h
  | .str _, _, h => by unfold VRel at h ⊢; exact h
  | .ty _, _, h => by unfold VRel at h ⊢; exact h
  | .glo _, _, h => by unfold VRel at h ⊢; exact h
  | .xcp .., _, h => by
    unfold VRel at h ⊢
    obtain ⟨h1, h2, y, h3, h4⟩ := h
    exact ⟨h1, h2, y, (upd_ne fun e => by subst e; rw [hd] at h3; cases h3).trans h3, h4⟩
  | .ref n, _, h => by unfold VRel at h ⊢; exact h
  | .tup xs, _, h => by
    unfold VRel at h ⊢
    obtain ⟨a, ys, r, s, t⟩ := h
    refine ⟨a, ys, r, ?_, VRels.unl hd t⟩
    rcases s with (s | ⟨o', s⟩) | s
    · exact .inl (.inl ((upd_ne fun e => by subst e; rw [hd] at s; cases s).trans s))
    · exact .inl (.inr ⟨o', (upd_ne fun e => by subst e; rw [hd] at s; cases s).trans s⟩)
    · exact .inr s
  | .lst xs, _, h => by
    unfold VRel at h ⊢
    obtain ⟨a, ys, r, s, t⟩ := h
    refine ⟨a, ys, r, ⟨s.1, ?_⟩, VRels.unl hd t⟩
    have s2 := s.2
    exact (upd_ne fun e => by subst e; rw [hd] at s2; cases s2).trans s2
  | .scr xs, _, h => by
    unfold VRel at h ⊢
    obtain ⟨a, ys, r, s, t⟩ := h
    refine ⟨a, ys, r, ?_, VRels.unl hd t⟩
    rcases s with ⟨o', s⟩ | s
    · exact .inl ⟨o', (upd_ne fun e => by subst e; rw [hd] at s; cases s).trans s⟩
    · exact .inr s
theorem VRels.unl (hd : H d = some (.frz o (.dK ks))) : ∀ {xs : List MV} {ys : List V}, VRels K ga Ω L H xs ys → VRels K ga Ω L (upd H d u) xs ys
  | [], _, h => by unfold VRels at h ⊢; exact h
  | x :: xs, _, h => by
    unfold VRels at h ⊢
    obtain ⟨y, ys', r, s, t⟩ := h
    exact ⟨y, ys', r, VRel.unl hd s, VRels.unl hd t⟩
end
theorem ORel.unl (hd : H d = some (.frz o (.dK ks))) {m : MO} {w : Option HO} (h : ORel K ga Ω L H m w) : ORel K ga Ω L (upd H d u) m w := by
  cases m with
  | lst xs => obtain ⟨ys, r, t⟩ := h; exact ⟨ys, r, t.unl hd⟩
  | dct xs => obtain ⟨ys, r, t⟩ := h; exact ⟨ys, r, pr_mono t fun _ _ _ r => ⟨r.1, r.2.unl hd⟩⟩
  | dlk xs => obtain ⟨o, ys, r, t⟩ := h; exact ⟨o, ys, r, pr_mono t fun _ _ _ r => ⟨r.1, r.2.unl hd⟩⟩
  | ins c fs => obtain ⟨dx, ys, r, t⟩ := h; exact ⟨dx, ys, r, pr_mono t fun _ _ _ r => ⟨r.1, r.2.unl hd⟩⟩
  | dead => exact h
theorem SRel.unl (hd : H d = some (.frz o (.dK ks))) {σm : MSt} {σ : L2.St} (h : SRel K ga Ω L H σm σ) : SRel K ga Ω L (upd H d u) σm σ :=
  ⟨h.1, fun i v hv => let ⟨x, h1, h2⟩ := h.2 i v hv; ⟨x, h1, h2.unl hd⟩⟩
/-- a dict of ours is locked -/
theorem HRel.lock {hm : MHeap} {n : Nat} {kvs : List (Key × MV)} (h : HRel K ga Ω hm H) (q : hm[n]? = some (.dct kvs)) : ∃ kys, H (Ω.ρ n) = some (.dK kys) ∧
    ∀ o, HRel K ga Ω (hm.set n (.dlk kvs)) (upd H (Ω.ρ n) (.frz o (.dK kys))) ∧ Ext hm.length Ω H Ω (upd H (Ω.ρ n) (.frz o (.dK kys))) := by
  have hn : n < hm.length := (List.getElem?_eq_some_iff.mp q).1
  obtain ⟨kys, r, t⟩ := h.obj n _ q
  exact ⟨kys, r, fun o => h.set hn ⟨_, q, fun e => by cases e⟩ ⟨o, kys, rfl, t⟩ (by rw [r]; trivial)⟩
/-- the way back -/
theorem HRel.unlock {hm h2 : MHeap} {n : Nat} {kvs : List (Key × MV)} {kys : List (Key × V)} {H2 : Hp} {Ω2 : Om} {o : Obj} (h : HRel K ga Ω hm H) (q : hm[n]? = some (.dct kvs)) (hk : H (Ω.ρ n) = some (.dK kys)) (hl : hm.length ≤ h2.length)
    (e : Ext hm.length Ω (upd H (Ω.ρ n) (.frz o (.dK kys))) Ω2 H2) (r2 : HRel K ga Ω2 h2 H2) (q2 : h2[n]? = some (.dlk kvs)) :
    H2 (Ω.ρ n) = some (.frz o (.dK kys)) ∧ Ext hm.length Ω H Ω2 (upd H2 (Ω.ρ n) (.dK kys)) ∧ HRel K ga Ω2 (h2.set n (.dct kvs)) (upd H2 (Ω.ρ n) (.dK kys)) := by
  have hn : n < hm.length := (List.getElem?_eq_some_iff.mp q).1
  have e0 : H2 (Ω.ρ n) = some (.frz o (.dK kys)) := e.frz _ _ _ upd_same
  have ρn : Ω2.ρ n = Ω.ρ n := e.at_ n hn
  have hf := h.nf n _ q fun e => by cases e
  have ex : Ext hm.length Ω H Ω2 (upd H2 (Ω.ρ n) (.dK kys)) := by
    refine ⟨e.at_, e.fz, fun a f => ?_, fun a xs z => ?_, fun a ob v z => ?_, e.gd, fun a g => ?_⟩
    · have ne : a ≠ Ω.ρ n := fun z => hf (z ▸ f)
      rw [upd_ne ne, e.keep a f, upd_ne ne]
    · have ne : a ≠ Ω.ρ n := fun y => by subst y; rw [hk] at z; cases z
      rw [upd_ne ne]
      exact e.tup a xs (by rw [upd_ne ne]; exact z)
    · have ne : a ≠ Ω.ρ n := fun y => by subst y; rw [hk] at z; cases z
      rw [upd_ne ne]
      exact e.frz a ob v (by rw [upd_ne ne]; exact z)
    · have ne : a ≠ Ω.ρ n := fun y => h.gr n hn (y ▸ g)
      rw [upd_ne ne, e.gk a g, upd_ne ne]
  refine ⟨e0, ex, ?_⟩
  have hn2 : n < h2.length := (List.getElem?_eq_some_iff.mp q2).1
  refine ⟨fun m p hp => ?_, fun a b ha hb => by simp only [List.length_set] at ha hb; exact r2.inj a b ha hb, fun m p hp dd f => ?_, fun a f => ?_, fun m hm' => r2.gr m (by simpa using hm'), r2.gf, fun a g => ?_⟩
  · rw [List.length_set]
    by_cases hmn : n = m
    · subst hmn
      rw [List.getElem?_set_self hn2] at hp
      cases hp
      rw [ρn, upd_same]
      obtain ⟨kys', rk, t⟩ := h.obj n _ q
      rw [hk] at rk
      cases rk
      exact ⟨kys, rfl, DRel.ext ex hl t⟩
    · rw [List.getElem?_set_ne hmn] at hp
      have hm' : m < h2.length := (List.getElem?_eq_some_iff.mp hp).1
      rw [upd_ne fun z => hmn (r2.inj _ _ hm' hn2 (z.trans ρn.symm)).symm]
      exact (r2.obj m p hp).unl e0
  · by_cases hmn : n = m
    · subst hmn
      exact r2.nf n _ q2 (fun e => by cases e) f
    · rw [List.getElem?_set_ne hmn] at hp
      exact r2.nf m p hp dd f
  · by_cases z : a = Ω.ρ n
    · subst z; exact ⟨_, upd_same⟩
    · rw [upd_ne z]; exact r2.ft a f
  · by_cases z : a = Ω.ρ n
    · subst z; exact ⟨_, upd_same⟩
    · rw [upd_ne z]; exact r2.gt a g
end
end Mn
namespace Mn
open PySem PySem.Spec PyProof.Rows L2

theorem PE_imp {X : Cx} {e : Expr} {t t' : TE} (h : PE X e t) (i : ∀ σ H Q, t' σ H Q → t σ H Q) : PE X e t' := ⟨fun pins s σ H Q I q => h.run pins s σ H Q I (i σ H Q q)⟩
theorem PT_imp {X : Cx} {e : Expr} {t t' : TT} (h : PT X e t) (i : ∀ σ H Q, t' σ H Q → t σ H Q) : PT X e t' := ⟨fun pins s σ H Q I q => h.run pins s σ H Q I (i σ H Q q)⟩
theorem PW_imp {X : Cx} {e : Expr} {t t' : TT} (h : PW X e t) (i : ∀ σ H Q, t' σ H Q → t σ H Q) : PW X e t' := ⟨fun wh pins s σ H Q I q => h.run wh pins s σ H Q I (i σ H Q q)⟩
theorem PA_imp {X : Cx} {e : List Expr} {t t' : TA} (h : PA X e t) (i : ∀ σ H Q, t' σ H Q → t σ H Q) : PA X e t' := ⟨fun pos pins s σ H Q I q => h.run pos pins s σ H Q I (i σ H Q q)⟩
theorem PS_imp {X : Cx} {e : Stmt} {t t' : TS} (h : PS X e t) (i : ∀ D σ H, t' D σ H → t D σ H) : PS X e t' := ⟨fun pins s σ H D I q => h.run pins s σ H D I (i D σ H q)⟩
theorem PSs_imp {X : Cx} {e : List Stmt} {t t' : TS} (h : PSs X e t) (i : ∀ D σ H, t' D σ H → t D σ H) : PSs X e t' := ⟨fun pins s σ H D I q => h.run pins s σ H D I (i D σ H q)⟩
theorem PE_bad {X : Cx} {e : Expr} {t : TE} (i : ∀ σ H Q, ¬ t σ H Q) : PE X e t := ⟨fun _ _ σ H Q _ q => (i σ H Q q).elim⟩

section
variable {K : PySem.W.Frag} {ga xf : Str → Addr} {xn : Str → Str}
/-- what a result is worth -/
def Post {α : Type} (K : PySem.W.Frag) (ga : Str → Addr) (xn : Str → Str) (E : XK) (L : Nat) (Ω : Om) (H : Hp) (r : Rs α) (k : Om → Hp → α → MHeap → Prop) : Prop :=
  match r with
  | .ok a h => ∀ Ω' H', L ≤ h.length → Ext L Ω H Ω' H' → HRel K ga Ω' h H' → k Ω' H' a h
  | .exc c v h => ∀ Ω' H' d x, L ≤ h.length → Ext L Ω H Ω' H' → HRel K ga Ω' h H' → VRel K ga Ω' h.length H' v x → Free Ω' h.length d → H' d = some (.xd [(xn c, x)]) → E (.ref (ga c)) (some d) H'
  | .bad => False
variable {α β : Type} {E : XK} {L : Nat} {Ω : Om} {H : Hp}
theorem Post.bind {r : Rs α} {f : α → MHeap → Rs β} {k : Om → Hp → β → MHeap → Prop} (p : Post K ga xn E L Ω H (r.bind f) k) : Post K ga xn E L Ω H r fun Ω1 H1 a h1 => Post K ga xn E h1.length Ω1 H1 (f a h1) k := by
  cases r with
  | bad => exact p
  | exc c v h => exact p
  | ok a h =>
    intro Ω1 H1 l1 e1 r1
    have p' : Post K ga xn E L Ω H (f a h) k := p
    revert p'
    cases f a h with
    | bad => exact fun p => p
    | exc c v h2 => exact fun p Ω2 H2 d x l2 e2 r2 v2 f2 q2 => p Ω2 H2 d x (Nat.le_trans l1 l2) (e1.trans e2 l1) r2 v2 f2 q2
    | ok b h2 => exact fun p Ω2 H2 l2 e2 r2 => p Ω2 H2 (Nat.le_trans l1 l2) (e1.trans e2 l1) r2
theorem Post.mono {r : Rs α} {k k' : Om → Hp → α → MHeap → Prop} (p : Post K ga xn E L Ω H r k) (m : ∀ Ω' H' a h, L ≤ h.length → Ext L Ω H Ω' H' → HRel K ga Ω' h H' → k Ω' H' a h → k' Ω' H' a h) : Post K ga xn E L Ω H r k' := by
  cases r with
  | bad => exact p
  | exc c v h => exact p
  | ok a h => exact fun Ω1 H1 l1 e1 r1 => m Ω1 H1 a h l1 e1 r1 (p Ω1 H1 l1 e1 r1)
/-- later -/
theorem Post.later {L' : Nat} {Ω' : Om} {H' : Hp} {r : Rs α} {k : Om → Hp → α → MHeap → Prop} (p : Post K ga xn E L Ω H r k) (e : Ext L Ω H Ω' H') (hl : L ≤ L') : Post K ga xn E L' Ω' H' r k := by
  cases r with
  | bad => exact p
  | exc c v h => exact fun Ω2 H2 d x l2 e2 => p Ω2 H2 d x (Nat.le_trans hl l2) (e.trans e2 hl)
  | ok b h => exact fun Ω2 H2 l2 e2 => p Ω2 H2 (Nat.le_trans hl l2) (e.trans e2 hl)
/-- now -/
theorem Post.here {a : α} {h : MHeap} {k : Om → Hp → α → MHeap → Prop} (p : Post K ga xn E h.length Ω H (.ok a h) k) (r : HRel K ga Ω h H) : k Ω H a h := p Ω H (Nat.le_refl _) (Ext.refl _ _ _) r

def Kv (K : PySem.W.Frag) (ga : Str → Addr) (Q : VK) : Om → Hp → MV → MHeap → Prop := fun Ω H v h => ∀ x, VRel K ga Ω h.length H v x → Q x H
def Kl (K : PySem.W.Frag) (ga : Str → Addr) (Q : List V → Hp → Prop) : Om → Hp → List MV → MHeap → Prop := fun Ω H vs h => ∀ xs, VRels K ga Ω h.length H vs xs → Q xs H
def Kb (Q : Bool → Hp → Prop) : Om → Hp → Bool → MHeap → Prop := fun _ H b _ => Q b H
def TEm (K : PySem.W.Frag) (ga : Str → Addr) (xn : Str → Str) (E : XK) (C : Ct) (e : ME) : TE := fun σ H Q => ∃ Ω σm hm, HRel K ga Ω hm H ∧ SRel K ga Ω hm.length H σm σ ∧ Post K ga xn E hm.length Ω H (evE C e σm hm) (Kv K ga Q)
def TLm (K : PySem.W.Frag) (ga : Str → Addr) (xn : Str → Str) (E : XK) (C : Ct) (e : ME) : TA := fun σ H Q => ∃ Ω σm hm, HRel K ga Ω hm H ∧ SRel K ga Ω hm.length H σm σ ∧ Post K ga xn E hm.length Ω H (evL C e σm hm) (Kl K ga Q)
def TTm (K : PySem.W.Frag) (ga : Str → Addr) (xn : Str → Str) (E : XK) (C : Ct) (e : ME) : TT := fun σ H Q => ∃ Ω σm hm, HRel K ga Ω hm H ∧ SRel K ga Ω hm.length H σm σ ∧ Post K ga xn E hm.length Ω H (evT C e σm hm) (Kb Q)
/-- a new list, known to nobody -/
def TFm (K : PySem.W.Frag) (ga : Str → Addr) (xn : Str → Str) (E : XK) (C : Ct) (e : ME) : TE := fun σ H Q => ∃ Ω σm hm, HRel K ga Ω hm H ∧ SRel K ga Ω hm.length H σm σ ∧
  Post K ga xn E hm.length Ω H (evF C e σm hm) fun Ω H vs h => ∀ p ys, Free Ω h.length p → H p = some (.lst ys) → VRels K ga Ω h.length H vs ys → Q (.ref p) H
/-- a bound of a slice -/
def TOm (K : PySem.W.Frag) (ga : Str → Addr) (xn : Str → Str) (E : XK) (C : Ct) (e : ME) : TO := fun σ H Q => ∃ Ω σm hm, HRel K ga Ω hm H ∧ SRel K ga Ω hm.length H σm σ ∧ Post K ga xn E hm.length Ω H (evO C e σm hm) fun _ H o _ => Q o H
/-- several tests -/
def TCm (K : PySem.W.Frag) (ga : Str → Addr) (xn : Str → Str) (E : XK) (C : Ct) (e : ME) : TT := fun σ H Q => ∃ Ω σm hm, HRel K ga Ω hm H ∧ SRel K ga Ω hm.length H σm σ ∧ Post K ga xn E hm.length Ω H (evC C e σm hm) (Kb Q)

variable {C : Ct} {σm : MSt} {σ : L2.St} {hm : MHeap} {e : ME}
theorem te_of {Q : VK} {k : Om → Hp → MV → MHeap → Prop} (hr : HRel K ga Ω hm H) (sr : SRel K ga Ω hm.length H σm σ) (p : Post K ga xn E hm.length Ω H (evE C e σm hm) k)
    (c : ∀ Ω1 H1 v h1 x, hm.length ≤ h1.length → Ext hm.length Ω H Ω1 H1 → HRel K ga Ω1 h1 H1 → SRel K ga Ω1 h1.length H1 σm σ → VRel K ga Ω1 h1.length H1 v x → k Ω1 H1 v h1 → Q x H1) : TEm K ga xn E C e σ H Q :=
  ⟨Ω, σm, hm, hr, sr, p.mono fun Ω1 H1 v h1 l1 e1 r1 k1 x vx => c Ω1 H1 v h1 x l1 e1 r1 (sr.ext e1 l1) vx k1⟩
theorem tl_of {Q : List V → Hp → Prop} {k : Om → Hp → List MV → MHeap → Prop} (hr : HRel K ga Ω hm H) (sr : SRel K ga Ω hm.length H σm σ) (p : Post K ga xn E hm.length Ω H (evL C e σm hm) k)
    (c : ∀ Ω1 H1 v h1 x, hm.length ≤ h1.length → Ext hm.length Ω H Ω1 H1 → HRel K ga Ω1 h1 H1 → SRel K ga Ω1 h1.length H1 σm σ → VRels K ga Ω1 h1.length H1 v x → k Ω1 H1 v h1 → Q x H1) : TLm K ga xn E C e σ H Q :=
  ⟨Ω, σm, hm, hr, sr, p.mono fun Ω1 H1 v h1 l1 e1 r1 k1 x vx => c Ω1 H1 v h1 x l1 e1 r1 (sr.ext e1 l1) vx k1⟩
theorem tt_of {Q : Bool → Hp → Prop} {k : Om → Hp → Bool → MHeap → Prop} (hr : HRel K ga Ω hm H) (sr : SRel K ga Ω hm.length H σm σ) (p : Post K ga xn E hm.length Ω H (evT C e σm hm) k)
    (c : ∀ Ω1 H1 b h1, hm.length ≤ h1.length → Ext hm.length Ω H Ω1 H1 → HRel K ga Ω1 h1 H1 → SRel K ga Ω1 h1.length H1 σm σ → k Ω1 H1 b h1 → Q b H1) : TTm K ga xn E C e σ H Q :=
  ⟨Ω, σm, hm, hr, sr, p.mono fun Ω1 H1 b h1 l1 e1 r1 k1 => c Ω1 H1 b h1 l1 e1 r1 (sr.ext e1 l1) k1⟩
theorem tc_of {Q : Bool → Hp → Prop} {k : Om → Hp → Bool → MHeap → Prop} (hr : HRel K ga Ω hm H) (sr : SRel K ga Ω hm.length H σm σ) (p : Post K ga xn E hm.length Ω H (evC C e σm hm) k)
    (c : ∀ Ω1 H1 b h1, hm.length ≤ h1.length → Ext hm.length Ω H Ω1 H1 → HRel K ga Ω1 h1 H1 → SRel K ga Ω1 h1.length H1 σm σ → k Ω1 H1 b h1 → Q b H1) : TCm K ga xn E C e σ H Q :=
  ⟨Ω, σm, hm, hr, sr, p.mono fun Ω1 H1 b h1 l1 e1 r1 k1 => c Ω1 H1 b h1 l1 e1 r1 (sr.ext e1 l1) k1⟩
theorem to_of {Q : Option Int → Hp → Prop} {k : Om → Hp → Option Int → MHeap → Prop} (hr : HRel K ga Ω hm H) (sr : SRel K ga Ω hm.length H σm σ) (p : Post K ga xn E hm.length Ω H (evO C e σm hm) k)
    (c : ∀ Ω1 H1 b h1, hm.length ≤ h1.length → Ext hm.length Ω H Ω1 H1 → HRel K ga Ω1 h1 H1 → SRel K ga Ω1 h1.length H1 σm σ → k Ω1 H1 b h1 → Q b H1) : TOm K ga xn E C e σ H Q :=
  ⟨Ω, σm, hm, hr, sr, p.mono fun Ω1 H1 b h1 l1 e1 r1 k1 => c Ω1 H1 b h1 l1 e1 r1 (sr.ext e1 l1) k1⟩
theorem tf_of {Q : VK} {k : Om → Hp → List MV → MHeap → Prop} (hr : HRel K ga Ω hm H) (sr : SRel K ga Ω hm.length H σm σ) (p : Post K ga xn E hm.length Ω H (evF C e σm hm) k)
    (c : ∀ Ω1 H1 vs h1 p ys, hm.length ≤ h1.length → Ext hm.length Ω H Ω1 H1 → HRel K ga Ω1 h1 H1 → SRel K ga Ω1 h1.length H1 σm σ → Free Ω1 h1.length p → H1 p = some (.lst ys) → VRels K ga Ω1 h1.length H1 vs ys → k Ω1 H1 vs h1 → Q (.ref p) H1) : TFm K ga xn E C e σ H Q :=
  ⟨Ω, σm, hm, hr, sr, p.mono fun Ω1 H1 v h1 l1 e1 r1 k1 q ys fr hq vx => c Ω1 H1 v h1 q ys l1 e1 r1 (sr.ext e1 l1) fr hq vx k1⟩
end

/-! ### values read -/
section
variable {K : PySem.W.Frag} {ga : Str → Addr} {Ω : Om} {L : Nat} {H : Hp} {x : V}
theorem v_non : VRel K ga Ω L H .non x ↔ x = .non := by unfold VRel; exact Iff.rfl
theorem v_bl {b : Bool} : VRel K ga Ω L H (.bl b) x ↔ x = .bl b := by unfold VRel; exact Iff.rfl
theorem v_int {i : Int} : VRel K ga Ω L H (.int i) x ↔ x = .int i := by unfold VRel; exact Iff.rfl
theorem v_str {s : Str} : VRel K ga Ω L H (.str s) x ↔ x = .str s := by unfold VRel; exact Iff.rfl
theorem v_ref {n : Nat} : VRel K ga Ω L H (.ref n) x ↔ n < L ∧ x = .ref (Ω.ρ n) := by unfold VRel; exact Iff.rfl
theorem v_tup {xs : List MV} : VRel K ga Ω L H (.tup xs) x ↔ ∃ a ys, x = .ref a ∧ SqT K H a ys ∧ VRels K ga Ω L H xs ys := by unfold VRel; exact Iff.rfl
theorem v_lst {xs : List MV} : VRel K ga Ω L H (.lst xs) x ↔ ∃ a ys, x = .ref a ∧ Fz K Ω H a ys ∧ VRels K ga Ω L H xs ys := by unfold VRel; exact Iff.rfl
theorem v_scr {xs : List MV} : VRel K ga Ω L H (.scr xs) x ↔ ∃ a ys, x = .ref a ∧ Scr K H a ys ∧ VRels K ga Ω L H xs ys := by unfold VRel; exact Iff.rfl
theorem v_xcp {a d : Addr} {f : Str} {v : MV} : VRel K ga Ω L H (.xcp a d f v) x ↔ x = .ref a ∧ Ω.F d ∧ ∃ y, H d = some (.xd [(f, y)]) ∧ flatR v y := by unfold VRel; exact Iff.rfl
theorem vs_len {xs : List MV} {ys : List V} (h : VRels K ga Ω L H xs ys) : xs.length = ys.length := (vrels_iff.mp h).length
theorem vs_ints : ∀ {xs : List MV} {ys : List V} {ns : List Int}, VRels K ga Ω L H xs ys → intsM xs = some ns → ys = ns.map V.int
  | [], ys, ns, h, e => by
    unfold VRels at h
    unfold intsM at e
    cases e
    exact h
  | x :: xs, ys, ns, h, e => by
    unfold VRels at h
    obtain ⟨y, ys', rfl, r, t⟩ := h
    cases x with
    | int i =>
      unfold intsM at e
      cases q : intsM xs with
      | none => rw [q] at e; cases e
      | some ms =>
        rw [q] at e
        cases e
        rw [v_int.mp r, vs_ints t q]
        rfl
    | _ => unfold intsM at e; cases e
theorem flat_rel {m : MV} (r : VRel K ga Ω L H m x) (f : flatM m = true) : flatV x = true := by
  cases m with
  | non => rw [v_non.mp r]; rfl
  | bl b => rw [v_bl.mp r]; rfl
  | int b => rw [v_int.mp r]; rfl
  | str b => rw [v_str.mp r]; rfl
  | _ => cases f
theorem eqM_rel {m n : MV} {y : V} (r : VRel K ga Ω L H m x) (q : VRel K ga Ω L H n y) (f : flatM m = true) (g : flatM n = true) : eqM m n = eqV x y := by
  cases m with
  | non => rw [v_non.mp r]; cases n with
    | non => rw [v_non.mp q]; rfl
    | bl b => rw [v_bl.mp q]; rfl
    | int b => rw [v_int.mp q]; rfl
    | str b => rw [v_str.mp q]; rfl
    | _ => cases g
  | bl b => rw [v_bl.mp r]; cases n with
    | non => rw [v_non.mp q]; rfl
    | bl b => rw [v_bl.mp q]; rfl
    | int b => rw [v_int.mp q]; rfl
    | str b => rw [v_str.mp q]; rfl
    | _ => cases g
  | int b => rw [v_int.mp r]; cases n with
    | non => rw [v_non.mp q]; rfl
    | bl b => rw [v_bl.mp q]; rfl
    | int b => rw [v_int.mp q]; rfl
    | str b => rw [v_str.mp q]; rfl
    | _ => cases g
  | str b => rw [v_str.mp r]; cases n with
    | non => rw [v_non.mp q]; rfl
    | bl b => rw [v_bl.mp q]; rfl
    | int b => rw [v_int.mp q]; rfl
    | str b => rw [v_str.mp q]; rfl
    | _ => cases g
  | _ => cases f
theorem inM_rel {m : MV} (r : VRel K ga Ω L H m x) (f : flatM m = true) : ∀ {xs : List MV} {ys : List V}, VRels K ga Ω L H xs ys → xs.all flatM = true → ys.all flatV = true ∧ inM m xs = inV x ys
  | [], ys, h, g => by unfold VRels at h; subst h; exact ⟨rfl, rfl⟩
  | z :: xs, ys, h, g => by
    unfold VRels at h
    obtain ⟨y, ys', rfl, q, t⟩ := h
    rw [List.all_cons, Bool.and_eq_true] at g
    obtain ⟨h1, h2⟩ := inM_rel r f t g.2
    refine ⟨by rw [List.all_cons, flat_rel q g.1, h1]; rfl, ?_⟩
    unfold inM inV at h2 ⊢
    rw [List.any_cons, List.any_cons, h2, eqM_rel q r g.1 f]
variable {hm : MHeap}
theorem seq_rel {m : MV} {xs : List MV} (hr : HRel K ga Ω hm H) (r : VRel K ga Ω hm.length H m x) (s : seqOf hm m = some xs) : ∃ a ys, x = .ref a ∧ (SqL K H a ys ∨ SqT K H a ys) ∧ VRels K ga Ω hm.length H xs ys := by
  cases m with
  | tup zs =>
    obtain ⟨a, ys, e, t, q⟩ := v_tup.mp r
    cases s
    exact ⟨a, ys, e, .inr t, q⟩
  | lst zs =>
    obtain ⟨a, ys, e, t, q⟩ := v_lst.mp r
    cases s
    exact ⟨a, ys, e, .inl t.sq, q⟩
  | scr zs =>
    obtain ⟨a, ys, e, t, q⟩ := v_scr.mp r
    cases s
    exact ⟨a, ys, e, .inl t.sq, q⟩
  | ref n =>
    obtain ⟨hn, e⟩ := v_ref.mp r
    unfold seqOf at s
    cases q : hm[n]? with
    | none => simp [q] at s
    | some o =>
      have ob := hr.obj n o q
      cases o with
      | lst zs =>
        simp [q] at s
        subst s
        obtain ⟨ys, r1, r2⟩ := ob
        exact ⟨_, ys, e, .inl (SqL.of r1), r2⟩
      | _ => simp [q] at s
  | _ => cases s
theorem lst_rel {m : MV} {xs : List MV} (hr : HRel K ga Ω hm H) (r : VRel K ga Ω hm.length H m x) (s : lstOf hm m = some xs) : ∃ a ys, x = .ref a ∧ SqL K H a ys ∧ VRels K ga Ω hm.length H xs ys := by
  cases m with
  | lst zs =>
    obtain ⟨a, ys, e, t, q⟩ := v_lst.mp r
    cases s
    exact ⟨a, ys, e, t.sq, q⟩
  | scr zs =>
    obtain ⟨a, ys, e, t, q⟩ := v_scr.mp r
    cases s
    exact ⟨a, ys, e, t.sq, q⟩
  | ref n =>
    obtain ⟨hn, e⟩ := v_ref.mp r
    unfold lstOf at s
    cases q : hm[n]? with
    | none => simp [q] at s
    | some o =>
      have ob := hr.obj n o q
      cases o with
      | lst zs =>
        simp [q] at s
        subst s
        obtain ⟨ys, r1, r2⟩ := ob
        exact ⟨_, ys, e, SqL.of r1, r2⟩
      | _ => simp [q] at s
  | _ => cases s
theorem ml_rel {m : MV} {xs : List MV} (hr : HRel K ga Ω hm H) (r : VRel K ga Ω hm.length H m x) (s : mlOf hm m = some xs) : ∃ a ys, x = .ref a ∧ H a = some (.lst ys) ∧ VRels K ga Ω hm.length H xs ys := by
  cases m with
  | lst zs =>
    obtain ⟨a, ys, e, t, q⟩ := v_lst.mp r
    cases s
    exact ⟨a, ys, e, t.2, q⟩
  | ref n =>
    obtain ⟨hn, e⟩ := v_ref.mp r
    unfold mlOf at s
    cases q : hm[n]? with
    | none => simp [q] at s
    | some o =>
      have ob := hr.obj n o q
      cases o with
      | lst zs =>
        simp [q] at s
        subst s
        obtain ⟨ys, r1, r2⟩ := ob
        exact ⟨_, ys, e, r1, r2⟩
      | _ => simp [q] at s
  | _ => cases s
theorem dct_rel {m : MV} {kvs : List (Key × MV)} (hr : HRel K ga Ω hm H) (r : VRel K ga Ω hm.length H m x) (s : dctOf hm m = some kvs) : ∃ a kys, x = .ref a ∧ H a = some (.dK kys) ∧ DRel K ga Ω hm.length H kvs kys := by
  cases m with
  | ref n =>
    obtain ⟨hn, e⟩ := v_ref.mp r
    unfold dctOf at s
    cases q : hm[n]? with
    | none => simp [q] at s
    | some o =>
      have ob := hr.obj n o q
      cases o with
      | dct zs =>
        simp [q] at s
        subst s
        obtain ⟨ys, r1, r2⟩ := ob
        exact ⟨_, ys, e, r1, r2⟩
      | _ => simp [q] at s
  | _ => cases s
theorem at_rel {xs : List MV} {ys : List V} {i : Int} {v : MV} (h : VRels K ga Ω L H xs ys) (e : atI xs i = some v) : ∃ y, atI ys i = some y ∧ VRel K ga Ω L H v y := by
  unfold atI at e ⊢
  rw [vs_len h] at e
  cases q : ixN ys.length i with
  | none => rw [q] at e; cases e
  | some j =>
    rw [q] at e
    exact pr_get (vrels_iff.mp h) e
theorem cut_rel {xs : List MV} {ys : List V} {lo hi : Option Int} (h : VRels K ga Ω L H xs ys) : VRels K ga Ω L H (cutM xs lo hi) (cutV ys lo hi) := by
  unfold cutM cutV
  rw [vs_len h]
  exact vrels_iff.mpr (pr_take _ (pr_drop _ (vrels_iff.mp h)))
mutual
theorem dat_rel {r : Nat → Option (List PyData)} (hr : ∀ n ds, n < L → r n = some ds → ∃ ys, SqL K H (Ω.ρ n) ys ∧ DpAll K H ys ds) : ∀ {m : MV} {x : V} {d : PyData}, VRel K ga Ω L H m x → datG r m = some d → Dp K H x d
  | .non, x, d, h, e => by unfold datG at e; cases e; rw [v_non.mp h]; exact .non
  | .bl b, x, d, h, e => by unfold datG at e; cases e; rw [v_bl.mp h]; exact .bl b
  | .int i, x, d, h, e => by unfold datG at e; cases e; rw [v_int.mp h]; exact .int i
  | .str s, x, d, h, e => by unfold datG at e; cases e; rw [v_str.mp h]; exact .str s
  | .tup xs, x, d, h, e => by
    unfold datG at e
    obtain ⟨a, ys, rfl, s, t⟩ := v_tup.mp h
    cases q : datGs r xs with
    | none => rw [q] at e; cases e
    | some ds =>
      rw [q] at e
      cases e
      exact .tup s (dats_rel hr t q)
  | .lst xs, x, d, h, e => by
    unfold datG at e
    obtain ⟨a, ys, rfl, s, t⟩ := v_lst.mp h
    cases q : datGs r xs with
    | none => rw [q] at e; cases e
    | some ds =>
      rw [q] at e
      cases e
      exact .lst s.sq (dats_rel hr t q)
  | .scr xs, x, d, h, e => by
    unfold datG at e
    obtain ⟨a, ys, rfl, s, t⟩ := v_scr.mp h
    cases q : datGs r xs with
    | none => rw [q] at e; cases e
    | some ds =>
      rw [q] at e
      cases e
      exact .lst s.sq (dats_rel hr t q)
  | .ref n, x, d, h, e => by
    unfold datG at e
    obtain ⟨hn, rfl⟩ := v_ref.mp h
    cases q : r n with
    | none => rw [q] at e; cases e
    | some ds =>
      rw [q] at e
      cases e
      obtain ⟨ys, s, t⟩ := hr n ds hn q
      exact .lst s t
  | .xcp .., _, _, _, e => by unfold datG at e; cases e
  | .glo _, _, _, _, e => by unfold datG at e; cases e
  | .ty _, _, _, _, e => by unfold datG at e; cases e
theorem dats_rel {r : Nat → Option (List PyData)} (hr : ∀ n ds, n < L → r n = some ds → ∃ ys, SqL K H (Ω.ρ n) ys ∧ DpAll K H ys ds) : ∀ {xs : List MV} {ys : List V} {ds : List PyData}, VRels K ga Ω L H xs ys → datGs r xs = some ds → DpAll K H ys ds
  | [], ys, ds, h, e => by unfold datGs at e; cases e; unfold VRels at h; subst h; exact .nil
  | m :: xs, ys, ds, h, e => by
    unfold VRels at h
    obtain ⟨y, ys', rfl, q, t⟩ := h
    unfold datGs at e
    cases q1 : datG r m with
    | none => simp [q1] at e
    | some d =>
      cases q2 : datGs r xs with
      | none => simp [q1, q2] at e
      | some ds' =>
        simp [q1, q2] at e
        subst e
        exact .cons (dat_rel hr q q1) (dats_rel hr t q2)
end
theorem datL_rel {f : MV → Option PyData} (hf : ∀ {m : MV} {x : V} {d : PyData}, VRel K ga Ω L H m x → f m = some d → Dp K H x d) : ∀ {xs : List MV} {ys : List V} {ds : List PyData}, VRels K ga Ω L H xs ys → datL f xs = some ds → DpAll K H ys ds
  | [], ys, ds, h, e => by unfold datL at e; cases e; unfold VRels at h; subst h; exact .nil
  | m :: xs, ys, ds, h, e => by
    unfold VRels at h
    obtain ⟨y, ys', rfl, q, t⟩ := h
    unfold datL at e
    cases q1 : f m with
    | none => simp [q1] at e
    | some d =>
      cases q2 : datL f xs with
      | none => simp [q1, q2] at e
      | some ds' =>
        simp [q1, q2] at e
        subst e
        exact .cons (hf q q1) (datL_rel hf t q2)
theorem datF_rel (hr : HRel K ga Ω hm H) : ∀ (k : Nat) {m : MV} {x : V} {d : PyData}, VRel K ga Ω hm.length H m x → datF hm k m = some d → Dp K H x d
  | 0, m, x, d, h, e => dat_rel (r := fun _ => none) (fun _ _ _ q => by cases q) h e
  | k + 1, m, x, d, h, e => by
    refine dat_rel (fun n ds hn q => ?_) h e
    cases z : hm[n]? with
    | none => simp [z] at q
    | some o =>
      have ob := hr.obj n o z
      cases o with
      | lst zs =>
        simp only [z] at q
        obtain ⟨ys, r1, r2⟩ := ob
        exact ⟨ys, SqL.of r1, datL_rel (fun h e => datF_rel hr k h e) r2 q⟩
      | _ => simp [z] at q
end
end Mn
namespace Mn
open PySem PySem.Spec PyProof.Rows L2
/-! ### exception classes -/
/-- what the own __init__ of an exception class leaves: one field -/
def spXI (C : Addr) (f : Str) : Sp := fun vs H Q _ => ∃ (a : Addr) (v : V), vs = [.ref a, v] ∧ H a = some (exo a C none) ∧ ∀ d, H d = none → d ≠ a → Q .non (upd (upd H d (exd d [(f, v)])) a (exo a C (some d)))
/-- what is read of a caught exception -/
structure XFx (K : PySem.W.Frag) (C : Addr) (f : Str) : Prop where
  xf : XfC K C
  no : PySem.W.findIn K (.ref C) f = some none
  cl : (PySem.W.clsIn K C).isSome = true
  ha : PySem.W.findIn K (.ref C) "__class__" = some (some (.builtin "object.__class__"))
  hn : PySem.W.specialIn K (.builtin "object.__class__") "__get__" = some (some (.builtin "getset_descriptor.__get__"))
  ht : PySem.W.takesIn K (.builtin "object.__class__") = some true
  hm : PySem.W.mroIn K C (.type "object") = some true
def xfxB (K : PySem.W.Frag) (C : Addr) (f : Str) : Bool := xfB K C && (decide (PySem.W.findIn K (.ref C) f = some none) && ((PySem.W.clsIn K C).isSome && (decide (PySem.W.findIn K (.ref C) "__class__" = some (some (.builtin "object.__class__"))) &&
  (decide (PySem.W.specialIn K (.builtin "object.__class__") "__get__" = some (some (.builtin "getset_descriptor.__get__"))) && (decide (PySem.W.takesIn K (.builtin "object.__class__") = some true) && decide (PySem.W.mroIn K C (.type "object") = some true))))))
theorem xfxB_ok {K : PySem.W.Frag} {C : Addr} {f : Str} (h : xfxB K C f = true) : XFx K C f := by
  unfold xfxB at h
  simp only [Bool.and_eq_true, decide_eq_true_eq] at h
  obtain ⟨h1, h2, h3, h4, h5, h6, h7⟩ := h
  exact ⟨xfB_ok h1, h2, h3, h4, h5, h6, h7⟩
/-- the class's own facts, from what the text's top leaves -/
def oexB (K : PySem.W.Frag) (C : Addr) : Bool := (match K.lookup C with
  | some ⟨.type "type", _, .cls cd, sl⟩ => (match cd.mro, sl.toList with
    | .ref C' :: bm, [_, _, _, _, some (.builtin m), _] => C' == C && m == "ValueError.__new__" && !cd.hasDel && cd.hasDict && PySem.HandSPX.refsVE bm
    | _, _ => false)
  | _ => false) && (decide (PySem.W.findIn K (.ref C) "__setattr__" = some (some (.builtin "object.__setattr__"))) && (decide (PySem.W.subIn K (.ref C) (.type "BaseException") = some true) && (decide (PySem.W.typeIn K (.ref C) = some (.type "type")) && PySem.W.keepIn K (.ref C))))
theorem oexB_ok {K : PySem.W.Frag} {C : Addr} (h : oexB K C = true) : OexC K C := by
  unfold oexB at h
  simp only [Bool.and_eq_true, decide_eq_true_eq] at h
  obtain ⟨q, h1, h2, h3, h4⟩ := h
  refine ⟨?_, h1, h2, h3, h4⟩
  split at q
  · rename_i dd cd sl ho
    split at q
    · rename_i C' bm k0 k1 k2 k3 m k5 hm hs
      simp only [Bool.and_eq_true, beq_iff_eq, Bool.not_eq_true'] at q
      obtain ⟨⟨⟨⟨rfl, rfl⟩, hdel⟩, hdi⟩, hr⟩ := q
      obtain ⟨nm, bs, mro, ns, qn, hd, sn, sub, ab, col, del⟩ := cd
      dsimp only at hm hdel hdi
      subst hm hdel hdi
      have e : sl = #[k0, k1, k2, k3, some (.builtin "ValueError.__new__"), k5] := by
        obtain ⟨l⟩ := sl
        simp only at hs
        rw [hs]
      subst e
      exact ⟨nm, qn, ns, bs, bm, sn, sub, ab, col, dd, k0, k1, k2, k3, k5, ho, hr⟩
    · cases q
  · cases q
/-- B.__init__ of an own class B that has ValueError's -/
structure BasI (K : PySem.W.Frag) (C : Addr) : Prop where
  sp : PySem.W.specialIn K (.ref C) "__getattribute__" = some (some (.builtin "type.__getattribute__"))
  rd : PySem.W.readsIn K C (.type "type") = true
  fi : PySem.W.findCls K (.ref C) (.type "type") "__init__" = some (.val (.builtin "ValueError.__init__"))
def basB (K : PySem.W.Frag) (C : Addr) : Bool := decide (PySem.W.specialIn K (.ref C) "__getattribute__" = some (some (.builtin "type.__getattribute__"))) && (PySem.W.readsIn K C (.type "type") && (match PySem.W.findCls K (.ref C) (.type "type") "__init__" with
  | some (.val (.builtin x)) => x == "ValueError.__init__"
  | _ => false))
theorem basB_ok {K : PySem.W.Frag} {C : Addr} (h : basB K C = true) : BasI K C := by
  unfold basB at h
  simp only [Bool.and_eq_true, decide_eq_true_eq] at h
  obtain ⟨h1, h2, h3⟩ := h
  refine ⟨h1, h2, ?_⟩
  split at h3
  · rename_i x e
    rw [beq_iff_eq] at h3
    rw [e, h3]
  · cases h3
section
variable {X : Cx} {e : Expr} {es : List Expr} {ta : TA} {x : Str} {p1 p2 pos : Pos} {B : Addr}
/-- x.__init__(self, ..) -/
theorem pe_basinit {pl : Sem Bool} (hg : Gl X x) (hm : X.mg x = some (.ref B)) (T : BasI X.K B) (ha : PA X (e :: es) ta) (hdb : (x == ("__debug__" : Str)) = false)
    (hc : eval (.Call (.Attribute (.Name x p1) "__init__" p2) (e :: es) [] pos) X.env = (do
      let ov ← eval (.Name x p1) X.env
      standAt p2.atName
      let (f, first) ← holding [ov] (getMethod ov "__init__" pl)
      callWith pos f first (backTo pos (starEach (e :: es) X.env)) (backToKw pos (keywordEach [] X.env))))
    (he : starEach (e :: es) X.env = (false, eval e X.env) :: starEach es X.env) (hpl : (backTo pos (starEach es X.env)).any (·.1) = false) :
    PE X (.Call (.Attribute (.Name x p1) "__init__" p2) (e :: es) [] pos) (tVeI X.K ta) := by
  refine ⟨fun pins s σ H Q I q0 => ?_⟩
  refine PySem.W.methodCall_KW (ld_glob I hg hm ?_ hdb) hc
  refine PySem.W.method_cls I.kIn T.sp (PySem.W.cls_value I.kIn T.rd T.fi rfl ?_)
  show wpAny _ _ (callWith pos (.builtin "ValueError.__init__") [] (backTo pos (starEach (e :: es) X.env)) []) _ _ _
  refine PyProof.Rows.callWith_method1 (thn (ha.run pos pins _ σ H _ (I.tok _) q0) fun us s1 z => ?_) he hpl
  obtain ⟨vs, H1, I1, r1, a, C, ws, ev, hl, hT, ea, q⟩ := z
  subst ev
  cases r1 with
  | @cons _ u0 _ ur ra rw' =>
    obtain rfl : u0 = Value.ref a := ra
    refine oinit_ok hT I1 ea ?_ fun s' J => ⟨.non, H1, J, rfl, q⟩
    rw [← Paired.length rw', sizeLine_eq]
    omega
end
/-! ### an instance == an int: the identity decides -/
section
variable {M : Model} {prog : Program} {w : World} {A : Around} {E : Value → Shared → Prop} {s : Shared} {K : PySem.W.Frag} {x C dx : Addr} {od : Option Obj}
theorem objeq_int {b : Int} {u : Tok} {Q : Fin → Shared → Prop} (hq : Q (.done (.ret .notImplemented)) s) : wpAny M A (Builtin.«object.__eq__» ⟨[.ref x, .int b u], []⟩) Q E s := by
  unfold Builtin.«object.__eq__»
  repeat (first | with_reducible refine wpAny_of_eq (rfl : isSame (.ref x) (.int b u) = pure false) ?_ | wp_step)
  exact hq
theorem inteq_obj {b : Int} {u : Tok} (J : s.heap.get? x = some (PySem.W.instObj C dx)) {Q : Fin → Shared → Prop} (hq : Q (.done (.ret .notImplemented)) s) : wpAny (model prog w) A (Builtin.«int.__eq__» ⟨[.int b u, .ref x], []⟩) Q E s := by
  obtain ⟨hp, g, d, tk, os⟩ := s
  have hl : hp.get? x = some (PySem.W.instObj C dx) := J
  unfold PySem.W.instObj at hl
  wp_walk using wpAny_loadPart' hl, wpAny_load hl
  exact hq
theorem call_oeq {b : Int} {u : Tok} {Q : Value → Shared → Prop} {ox : Obj} (X : K.In s.heap) (I : PySem.W.InstAt s.heap x ox C od) (hm : PySem.W.mroIn K C (.type "object") = some true) (hq : Q .notImplemented s) :
    wpAny (model prog w) A (call (.builtin "object.__eq__") [.ref x, .int b u]) Q E s :=
  wpAny_call (codeAny_call_builtin F.cmp_object.eq.plain F.cmpEntry_eq (PySem.W.check_slot F.cmpKind_eq F.cmpSplit_eq (I.type.andThen (PySem.W.looks_mroIn X hm)) (F.cmpArgs_eq _ _) (objeq_int hq)))
theorem sub_intR : PySem.W.subIn K (.type "int") (.ref C) = some false := by
  have e : fastBuiltinMro "int" = some [.type "int", .type "object"] := by decide +kernel
  show (fastBuiltinMro "int").map (·.contains (.ref C)) = some false
  rw [e]
  first
    | rfl
    | simp
theorem oneThing_ri {op : CmpOp} {b : Int} {u : Tok} : oneThing? op (.ref x) (.int b u) = none := rfl
theorem call_ieq {b : Int} {u : Tok} {Q : Value → Shared → Prop} (J : s.heap.get? x = some (PySem.W.instObj C dx)) (hq : Q .notImplemented s) :
    wpAny (model prog w) A (call (.builtin "int.__eq__") [.int b u, .ref x]) Q E s :=
  wpAny_call_entry F.slot_int_eq_refl (show s.TypeIs (.int b u) "int" from rfl) F.entry_int_eq (inteq_obj J ⟨_, rfl, hq⟩) (F.args_int_eq_2 _ _)
theorem rc_oint (hu : A.units < cLine) (X : K.In s.heap) (J : s.heap.get? x = some (PySem.W.instObj C dx)) (I : PySem.W.InstAt s.heap x (PySem.W.instObj C dx) C od) (hm : PySem.W.mroIn K C (.type "object") = some true) (hs : PySem.W.findIn K (.ref C) "__eq__" = some (some (.builtin "object.__eq__"))) {b : Int} {u : Tok}
    {Q : Value → Shared → Prop} (h : Q (.bool false) s) : wpAny (model prog w) A (richCompare .Eq (.ref x) (.int b u)) Q E s := by
  have one : wpAny (model prog w) A (tryCompare (.ref x) "__eq__" (.int b u)) (fun r s' => r = none ∧ s' = s) E s := by
    unfold tryCompare
    exact wpAny_bind (HN.ifBound_objEq X I hs (call_oeq X I hm (wpAny_pure ⟨rfl, rfl⟩)))
  have two : wpAny (model prog w) A (tryCompare (.int b u) "__eq__" (.ref x)) (fun r s' => r = none ∧ s' = s) E s :=
    wpAny_tryCompare_declines (show s.TypeIs (.int b u) "int" from rfl) F.slot_int_eq_refl (call_ieq J ⟨rfl, rfl, rfl⟩)
  simp only [richCompare, cmpInfo_Eq, oneThing_ri]
  refine wpAny_holding (wpAny_bind (wpAny_cRoomFor hu ?_))
  refine wpAny_bind (I.type.here ?_)
  refine wpAny_bind (wpAny_typeOf (show s.TypeIs (.int b u) "int" from rfl) ?_)
  split
  · refine wpAny_bind ((PySem.W.looks_subIn X sub_intR).here ?_)
    simp only [Bool.false_eq_true, if_false, Bool.not_false, if_true]
    refine wpAny_bind (m := tryCompare (.ref x) _ (.int b u)) (wpAny_mono one (fun r s1 z => ?_) fun _ _ e => e)
    obtain ⟨z1, z2⟩ := z
    subst z1
    subst z2
    refine wpAny_bind (m := tryCompare (.int b u) _ (.ref x)) (wpAny_mono two (fun r s2 z => ?_) fun _ _ e => e)
    obtain ⟨z1, z2⟩ := z
    subst z1
    subst z2
    exact wpAny_bind (wpAny_rule (wpAny_bind (wpAny_of_eq (rfl : isSame (.ref x) (.int b u) = pure false) (wpAny_pure h))))
  · rename_i q
    exact absurd (by simp) q
end
def rOeq (K : PySem.W.Frag) (C : Addr) : R2 := fun x y H Q => ∃ a dx fs i, x = .ref a ∧ y = .int i ∧ H a = some (.ins C dx fs) ∧ PySem.W.mroIn K C (.type "object") = some true ∧ PySem.W.findIn K (.ref C) "__eq__" = some (some (.builtin "object.__eq__")) ∧ Q (.bl false) H
theorem op_oeq {X : Cx} {C : Addr} (hu : X.A.units + 64 < cLine) : OpR X (compareOp .Eq) (rOeq X.K C) := by
  intro pins s σ H x y v u Q I rx ry h
  obtain ⟨a, dx, fs, i, rfl, rfl, ha, hm, hs, q⟩ := h
  obtain rfl : v = Value.ref a := rx
  obtain ⟨t, rfl⟩ := ry
  obtain ⟨mA, O, _⟩ := ins_get I.hok ha
  obtain ⟨od, J, _⟩ := O.look
  have z : EP X pins σ Q (.bool false) s := ⟨V.bl false, H, I, rfl, q⟩
  exact rc_oint (Nat.lt_of_le_of_lt (Nat.le_add_right _ _) hu) I.kIn O.obj J hm hs z
end Mn
namespace Mn
open PySem PySem.Spec PyProof.Rows L2
def gN {α : Type} (nm ps : List Str) (vals : List α) : List α := ps.filterMap fun p => (nm.zip vals).lookup p
theorem for_kw {β : Type} {ok : Str → Bool} {e : β} {f : Str × Value → List (Str × Value) × β → Sem (ForInStep (List (Str × Value) × β))}
    (hf : ∀ x s, ok x.1 = true → (s.1.lookup x.1).isSome = false → f x s = pure (.yield (s.1 ++ [(x.1, x.2)], s.2))) :
    ∀ (l : List (Str × Value)) (S : List (Str × Value)), (∀ x ∈ l, ok x.1 = true) → (l.map (·.1)).Nodup → (∀ x ∈ l, S.lookup x.1 = none) → forIn l (S, e) f = pure (S ++ l, e)
  | [], S, _, _, _ => by rw [List.forIn_nil, List.append_nil]
  | x :: l, S, h1, h2, h3 => by
    rw [List.forIn_cons, hf x (S, e) (h1 x (List.mem_cons_self ..)) (by rw [h3 x (List.mem_cons_self ..)]; rfl), pure_bind]
    rw [List.map_cons, List.nodup_cons] at h2
    show forIn l (S ++ [(x.1, x.2)], e) f = _
    rw [for_kw hf l _ (fun y hy => h1 y (List.mem_cons_of_mem _ hy)) h2.2 fun y hy => ?_]
    · rw [List.append_assoc]; rfl
    · rw [List.lookup_append, h3 y (List.mem_cons_of_mem _ hy)]
      have hne : y.1 ≠ x.1 := fun q => h2.1 (q ▸ List.mem_map.mpr ⟨y, hy, rfl⟩)
      have : (y.1 == x.1) = false := by simpa using hne
      simp [List.lookup, this]
theorem looks_kwo {M : Model} {h : Heap} {β : Type} {e : β} {ms : List (Str × Value)} {f : Str → List (Str × Value) × β → Sem (ForInStep (List (Str × Value) × β))}
    (h1 : ∀ x s, (s.1.lookup x).isNone = false → f x s = pure (.yield (s.1, s.2))) (h2 : ∀ q ∈ ms, ∀ s, (s.1.lookup q.1).isNone = true → PySem.W.Looks M h (f q.1 s) (.yield (s.1 ++ [q], s.2))) :
    ∀ (l : List Str) (S : List (Str × Value)) (ms' : List (Str × Value)), l.Nodup → (∀ q ∈ ms', q ∈ ms) → ms'.map (·.1) = l.filter (fun n => (S.lookup n).isNone) → PySem.W.Looks M h (forIn l (S, e) f) (S ++ ms', e)
  | [], S, ms', _, _, hm => by
    have : ms' = [] := by simpa using hm
    subst this
    rw [List.forIn_nil, List.append_nil]
    exact .of_pure rfl
  | x :: l, S, ms', hn, hsub, hm => by
    rw [List.nodup_cons] at hn
    rw [List.forIn_cons]
    cases hx : (S.lookup x).isNone with
    | false =>
      rw [h1 x (S, e) hx, pure_bind]
      rw [show (x :: l).filter (fun n => (S.lookup n).isNone) = l.filter (fun n => (S.lookup n).isNone) from List.filter_cons_of_neg (by show ¬ (S.lookup x).isNone = true; rw [hx]; decide)] at hm
      exact looks_kwo h1 h2 l S ms' hn.2 hsub hm
    | true =>
      rw [show (x :: l).filter (fun n => (S.lookup n).isNone) = x :: l.filter (fun n => (S.lookup n).isNone) from List.filter_cons_of_pos (by exact hx)] at hm
      cases ms' with
      | nil => cases hm
      | cons q ms' =>
        rw [List.map_cons, List.cons.injEq] at hm
        obtain ⟨rfl, hm⟩ := hm
        refine (h2 q (hsub q (List.mem_cons_self ..)) (S, e) hx).andThen ?_
        show PySem.W.Looks M h (forIn l (S ++ [q], e) f) _
        have := looks_kwo (e := e) h1 h2 l (S ++ [q]) ms' hn.2 (fun y hy => hsub y (List.mem_cons_of_mem _ hy)) (by
          rw [hm]
          refine List.filter_congr fun y hy => ?_
          have hne : y ≠ q.1 := fun z => hn.1 (z ▸ hy)
          have hb : (y == q.1) = false := by simpa using hne
          rw [List.lookup_append]
          simp [List.lookup, hb])
        rw [List.append_assoc] at this
        exact this
theorem lk_zn {α : Type} {x : Str} : ∀ {ns : List Str} {vs : List α}, x ∉ ns → (ns.zip vs).lookup x = none
  | [], _, _ => rfl
  | _ :: _, [], _ => rfl
  | n :: ns, v :: vs, h => by
    rw [List.mem_cons, not_or] at h
    have hb : (x == n) = false := by simpa using h.1
    rw [List.zip_cons_cons, List.lookup_cons, hb]
    exact lk_zn h.2
theorem lk_zs {α : Type} {x : Str} : ∀ {ns : List Str} {vs : List α}, vs.length = ns.length → x ∈ ns → ((ns.zip vs).lookup x).isSome = true
  | [], _, _, h => by cases h
  | _ :: _, [], hl, _ => by cases hl
  | n :: ns, v :: vs, hl, h => by
    rw [List.zip_cons_cons, List.lookup_cons]
    cases hb : x == n with
    | true => rfl
    | false =>
      rcases List.mem_cons.mp h with e | h
      · rw [e] at hb; simp at hb
      · exact lk_zs (by simpa using hl) h
theorem fm_zip {L : List (Str × Value)} : ∀ {ps : List Str}, (∀ p ∈ ps, (L.lookup p).isSome = true) → ps.filterMap (fun n => (L.lookup n).map fun x => (n, x)) = ps.zip (ps.filterMap fun p => L.lookup p)
  | [], _ => rfl
  | p :: ps, h => by
    have hp := h p (List.mem_cons_self ..)
    cases hq : L.lookup p with
    | none => rw [hq] at hp; cases hp
    | some v =>
      rw [List.filterMap_cons_some (by rw [hq]; rfl), show (p :: ps).filterMap (fun p => L.lookup p) = v :: ps.filterMap (fun p => L.lookup p) from List.filterMap_cons_some (f := fun p => L.lookup p) hq, List.zip_cons_cons, fm_zip fun q hq => h q (List.mem_cons_of_mem _ hq)]
theorem gN_rel {nm : List Str} {A : List V} {B : List Value} (r : Vals A B) : ∀ {ps : List Str}, Vals (gN nm ps A) (gN nm ps B)
  | [] => .nil
  | p :: ps => by
    have key : ∀ {nm : List Str} {A : List V} {B : List Value}, Vals A B → ((nm.zip A).lookup p = none ∧ (nm.zip B).lookup p = none) ∨ ∃ x y, (nm.zip A).lookup p = some x ∧ (nm.zip B).lookup p = some y ∧ RelV x y := by
      intro nm
      induction nm with
      | nil => exact fun _ => .inl ⟨rfl, rfl⟩
      | cons n nm ih =>
        intro A B r
        cases r with
        | nil => exact .inl ⟨rfl, rfl⟩
        | cons a r =>
          rw [List.zip_cons_cons, List.zip_cons_cons, List.lookup_cons, List.lookup_cons]
          cases p == n with
          | true => exact .inr ⟨_, _, rfl, rfl, a⟩
          | false => exact ih r
    unfold gN
    rcases key (nm := nm) r with ⟨e1, e2⟩ | ⟨x, y, e1, e2, hr⟩
    · rw [List.filterMap_cons_none (f := fun p => (nm.zip A).lookup p) e1, List.filterMap_cons_none (f := fun p => (nm.zip B).lookup p) e2]
      exact gN_rel r
    · rw [List.filterMap_cons_some (f := fun p => (nm.zip A).lookup p) e1, List.filterMap_cons_some (f := fun p => (nm.zip B).lookup p) e2]
      exact .cons hr (gN_rel r)
def kwn (p : Arguments) : List Str := p.kwonlyargs.map (·.arg)
def psn (p : Arguments) : List Str := p.args.map (·.arg)
/-- a def with keyword-only parameters, called with keywords ks; msn lack -/
def kwB (p : Arguments) (ks msn ps : List Str) : Bool :=
  p.posonlyargs.isEmpty && p.vararg.isNone && p.kwarg.isNone && decide (ps = psn p ++ kwn p) && decide (psn p ++ kwn p).Nodup && decide ks.Nodup && (ks.all fun k => decide (k ∈ kwn p)) && decide (msn = (kwn p).filter fun n => !decide (n ∈ ks))
theorem bind_kw {K : PySem.W.Frag} {M : Model} {h : Heap} {x qual : Str} {params : Arguments} {body : List Stmt} {scope : Scope} {kV : Value} {doc pm : Value} {an : Option Addr} {cdv ct : Value} {us ws : List Value} {ks ps : List Str} {ms : List (Str × Value)} (X : K.In h)
    (hc : kwB params ks (ms.map (·.1)) ps = true) (l1 : us.length = (psn params).length) (l2 : ws.length = ks.length) (hD : ms = [] ∨ ∃ D, kV = .ref D ∧ ∀ q ∈ ms, PySem.W.nsIn K D q.1 = some (some q.2)) :
    PySem.W.Looks M h (bindArgs (PySem.W.fnOf x qual params body scope .none kV doc pm an cdv ct) ⟨us, ks.zip ws⟩) (ps.zip (gN (psn params ++ ks ++ ms.map (·.1)) ps (us ++ ws ++ ms.map (·.2)))) := by
  obtain ⟨po, args, va, kwo, kd, kwarg, dfl⟩ := params
  unfold kwB at hc
  simp only [Bool.and_eq_true, decide_eq_true_eq, List.isEmpty_iff, Option.isNone_iff_eq_none, List.all_eq_true, decide_eq_true_eq] at hc
  obtain ⟨⟨⟨⟨⟨⟨⟨rfl, rfl⟩, rfl⟩, hps⟩, hnd⟩, hkn⟩, hks⟩, hms⟩ := hc
  obtain ⟨n1, n2, n3⟩ := List.nodup_append.mp hnd
  have hz : (ks.zip ws).map (·.1) = ks := List.map_fst_zip (by omega)
  unfold psn at *
  unfold kwn at *
  unfold bindArgs
  simp only [PySem.W.fnOf, List.map_nil, List.nil_append]
  rw [for_kw (ok := fun n => ((List.map (fun x => x.arg) args).contains n || (List.map (fun x => x.arg) kwo).contains n)) (fun x s h1 h2 => by rw [if_pos h1, if_neg (by rw [h2]; decide)]) _ _ ?_ (by rw [hz]; exact hkn) ?_]
  rotate_left
  · intro y hy
    have := hks y.1 (by rw [← hz]; exact List.mem_map.mpr ⟨y, hy, rfl⟩)
    simp only [Bool.or_eq_true, List.contains_iff_mem]
    exact .inr this
  · intro y hy
    have := hks y.1 (by rw [← hz]; exact List.mem_map.mpr ⟨y, hy, rfl⟩)
    exact lk_zn fun z => n3 _ z _ this rfl
  have e1 : seqItems? Value.none = pure none := rfl
  have hpos : ∀ n ∈ List.map (fun x => x.arg) args, (List.lookup n ((List.map (fun x => x.arg) args).zip us ++ ks.zip ws)).isSome = true := fun n hn => by
    rw [List.lookup_append]
    have := lk_zs (α := Value) (vs := us) l1 hn
    cases q : ((List.map (fun x => x.arg) args).zip us).lookup n with
    | none => rw [q] at this; cases this
    | some v => rfl
  simp only [pure_bind, e1, Option.isNone_none, Option.getD_none, Array.toList_empty, List.length_nil, List.isEmpty_nil, Nat.zero_sub, List.drop_nil, Nat.sub_zero]
  rw [if_neg (by rw [l1]; simp), if_neg (by
    rw [List.take_length, List.filter_eq_nil_iff.mpr fun n hn => by
      have := hpos n hn
      cases q : List.lookup n ((List.map (fun x => x.arg) args).zip us ++ ks.zip ws) with
      | none => rw [q] at this; cases this
      | some v => exact Bool.false_ne_true]
    decide)]
  rw [List.zip_nil_right, List.forIn_nil, pure_bind]
  have hlk : ∀ n ∈ kwo.map (fun x => x.arg), (List.lookup n ((args.map fun x => x.arg).zip us ++ ks.zip ws)).isNone = !decide (n ∈ ks) := fun n hn => by
    rw [List.lookup_append, lk_zn fun z => n3 _ z _ hn rfl, Option.none_or]
    by_cases hm : n ∈ ks
    · have := lk_zs (α := Value) (vs := ws) l2 hm
      cases q : (ks.zip ws).lookup n with
      | none => rw [q] at this; cases this
      | some v => simp [hm]
    · rw [lk_zn hm]; simp [hm]
  refine (looks_kwo (ms := ms) (fun x s hx => by rw [if_neg (by rw [hx]; decide)]) (fun q hq s hx => ?_) _ _ ms n2 (fun _ h => h) ?_).andThen ?_
  · rw [if_pos hx]
    rcases hD with e | ⟨D, rfl, hD⟩
    · rw [e] at hq; cases hq
    · exact (PySem.W.looks_nsIn X (hD q hq)).andThen (.of_pure rfl)
  · rw [hms]
    exact List.filter_congr fun n hn => (hlk n hn).symm
  · rw [if_neg (by show ¬ (false = true); decide)]
    refine .of_pure (congrArg pure ?_)
    have hzm : (ms.map (·.1)).zip (ms.map (·.2)) = ms := by
      rw [List.zip_map']
      simp
    have hall : ∀ p ∈ ps, (List.lookup p ((args.map fun x => x.arg).zip us ++ ks.zip ws ++ ms)).isSome = true := fun p hp => by
      rw [hps] at hp
      rw [List.lookup_append]
      rcases List.mem_append.mp hp with hp | hp
      · have := hpos p hp
        cases q : List.lookup p ((List.map (fun x => x.arg) args).zip us ++ ks.zip ws) with
        | none => rw [q] at this; cases this
        | some v => rfl
      · cases q : List.lookup p ((List.map (fun x => x.arg) args).zip us ++ ks.zip ws) with
        | some v => rfl
        | none =>
          have h3 := hlk p hp
          rw [q] at h3
          have hm : p ∈ ms.map (·.1) := by
            rw [hms]
            exact List.mem_filter.mpr ⟨hp, h3.symm⟩
          rw [Option.none_or]
          have := lk_zs (α := Value) (ns := ms.map (·.1)) (vs := ms.map (·.2)) (by simp) hm
          rw [hzm] at this
          exact this
    have hz3 : (args.map (fun x => x.arg) ++ ks ++ ms.map (·.1)).zip (us ++ ws ++ ms.map (·.2)) = (args.map fun x => x.arg).zip us ++ ks.zip ws ++ ms := by
      rw [List.zip_append (by simp [l1, l2]), List.zip_append l1.symm]
      rw [hzm]
    unfold gN
    rw [hz3, ← fm_zip hall, hps]
/-- a call with keywords binds -/
theorem kbn_of {K : PySem.W.Frag} {x qual : Str} {params : Arguments} {body : List Stmt} {scope : Scope} {kws : List (Str × V)} {f : Addr} {fd : FuncData} {ps : List Str} (F : FunD K x qual params body scope [] kws f fd) (ks : List Str) (ms : List (Str × V))
    (hc : kwB params ks (ms.map (·.1)) ps = true) (hms : ∀ q ∈ ms, q ∈ kws) :
    ∃ mv : List Value, KBn K fd ps (psn params).length ks (fun us ws => gN (psn params ++ ks ++ ms.map (·.1)) ps (us ++ ws ++ mv)) (fun vs zs => gN (psn params ++ ks ++ ms.map (·.1)) ps (vs ++ zs ++ ms.map (·.2))) := by
  obtain ⟨oc, od, dV, kV, doc, pm, an, cdv, ct, osl, rfl, lk, hcd, hD, hK⟩ := F.ex
  rcases hD with ⟨_, rfl⟩ | ⟨e, _⟩
  · have main : ∀ (mv : List Value), mv.length = ms.length → Vals (ms.map (·.2)) mv → (ms = [] ∨ ∃ D, kV = .ref D ∧ ∀ q ∈ (ms.map (·.1)).zip mv, PySem.W.nsIn K D q.1 = some (some q.2)) →
        KBn K _ ps (psn params).length ks (fun us ws => gN (psn params ++ ks ++ ms.map (·.1)) ps (us ++ ws ++ mv)) (fun vs zs => gN (psn params ++ ks ++ ms.map (·.1)) ps (vs ++ zs ++ ms.map (·.2))) := fun mv hl rk hD => by
      have q1 : ((ms.map (·.1)).zip mv).map (·.1) = ms.map (·.1) := List.map_fst_zip (by simp [hl])
      have q2 : ((ms.map (·.1)).zip mv).map (·.2) = mv := List.map_snd_zip (by simp [hl])
      refine ⟨fun s us ws X l1 l2 => BindsTo.of_looks fun M => ?_, fun r1 r2 => gN_rel ((r1.append r2).append rk)⟩
      have := bind_kw (M := M) (x := x) (qual := qual) (body := body) (scope := scope) (kV := kV) (doc := doc) (pm := pm) (an := an) (cdv := cdv) (ct := ct) (us := us) (ws := ws) (ks := ks) (ps := ps) (ms := (ms.map (·.1)).zip mv) X (by rw [q1]; exact hc) l1 l2 (by
        rcases hD with rfl | h
        · exact .inl rfl
        · exact .inr h)
      rw [q1, q2] at this
      exact this
    cases ms with
    | nil => exact ⟨[], main [] rfl .nil (.inl rfl)⟩
    | cons m ms =>
      rcases hK with e | ⟨D, rfl, hq⟩
      · have := hms m (List.mem_cons_self ..)
        rw [e] at this; cases this
      · obtain ⟨mv, hl, rk, hks⟩ := kwd_vals (ms := m :: ms) fun q hm => hq q (hms q hm)
        exact ⟨mv, main mv hl rk (.inr ⟨D, rfl, hks⟩)⟩
  · exact absurd rfl e
end Mn
namespace Mn
open PySem PySem.Spec PyProof.Rows L2

/-! ### plain syntax -/
def notStar : Expr → Bool
  | .Starred .. => false
  | _ => true
def notSlice : Expr → Bool
  | .Slice .. => false
  | _ => true
def notSet : Expr → Bool
  | .Set .. => false
  | _ => true
def notComp : Expr → Bool
  | .ListComp .. => false
  | .SetComp .. => false
  | .DictComp .. => false
  | _ => true
def notCall : Expr → Bool
  | .Call .. => false
  | _ => true
def plainTest : Expr → Bool
  | .UnaryOp .. => false
  | .BoolOp .. => false
  | .IfExp .. => false
  | .Compare .. => false
  | _ => true
theorem star_one {e : Expr} {es : List Expr} {env : Env} (h : notStar e = true) : starEach (e :: es) env = (false, eval e env) :: starEach es env := by
  cases e <;> first | rfl | cases h
theorem star_any {env : Env} {pos : Pos} : ∀ {es : List Expr}, es.all notStar = true → (backTo pos (starEach es env)).any (·.1) = false
  | [], _ => rfl
  | e :: es, h => by
    rw [List.all_cons, Bool.and_eq_true] at h
    rw [star_one h.1]
    show ((false, _) :: backTo pos (starEach es env)).any (·.1) = false
    rw [List.any_cons, star_any h.2]
    rfl
theorem star_all {env : Env} {pos : Pos} : ∀ {es : List Expr}, es.all notStar = true → (backTo pos (starEach es env)).all (fun x => !x.1) = true
  | [], _ => rfl
  | e :: es, h => by
    rw [List.all_cons, Bool.and_eq_true] at h
    rw [star_one h.1]
    show ((false, _) :: backTo pos (starEach es env)).all (fun x => !x.1) = true
    rw [List.all_cons, star_all h.2]
    rfl
theorem plain_ix {e : Expr} (h : notSlice e = true) : PlainIx e := by
  intro o i
  cases e <;> first | rfl | cases h
theorem plain_ixT {e : Expr} (h : notSlice e = true) : PlainIxT e := by
  intro o i
  cases e <;> first | rfl | cases h
theorem no_mark {op : CmpOp} {e : Expr} (h : notSet e = true) : behindInMarks op e = false := by
  cases e <;> first | rfl | cases h
theorem no_last {o1 o2 : CmpOp} {b e : Expr} (h : notSet e = true) : lastMarks [o1, o2] [b, e] = false := by
  show lastMarks [o2] [e] = false
  show behindInMarks o2 e = false
  exact no_mark h
theorem attr_plain {e : Expr} {m : Str} {env : Env} (h : notCall e = true) : attributeBase e m env (eval e env) = eval e env := by
  cases e <;> first | rfl | cases h
theorem plain_true {e : Expr} {env : Env} (h : plainTest e = true) : ∀ whole, isTrue e env whole = (do let v ← whole; standAt e.pos; holding [v] (truthy v)) := by
  intro whole
  cases e <;> first | rfl | cases h
theorem no_fold {e : Expr} {env : Env} (h : notSet e = true) : ∀ x, foldedSetIterable e env x = pure x := by
  intro x
  cases e <;> first | rfl | cases h

/-! ### the context -/
/-- how a def or class is called by keywords: n positional values, the keywords' names -/
structure Ksh where
  cls : Bool
  key : Str
  fn : Str
  n : Nat
  ks : List Str
structure Gs where
  fns : List Str
  mes : List (Str × Str × Str)
  nws : List Str
  blt : List Str
  xc : Bool := false
  rp : Bool := false
  xcs : List Str := []
  xns : List Str := []
  eqs : List Str := []
  tbs : List (Str × List (Str × Key)) := []
  ksh : List Ksh := []
variable {P : Program} {w : World} {K : PySem.W.Frag} {mg : Str → Option Value} {base : Heap} {ga : Str → Addr} {xn : Str → Str}
structure CO (P : Program) (w : World) (K : PySem.W.Frag) (mg : Str → Option Value) (base : Heap) (hot : Bool × Bool) (n : Nat) (N : List Str) (sc : Scope) (fnc : Str → Bool) (E : XK) (X : Cx) : Prop where
  pP : X.prog = P
  pw : X.w = w
  pK : X.K = K
  pm : X.mg = mg
  pb : X.base = base
  pN : X.N = N
  ps : X.env.scope = sc
  pf : X.fn = fnc
  calm : hot.1 = false → X.calm = true
  room : hot.1 = false → Room n X.A
  gds : hot.2 = true → X.A.guards = some []
  units : X.A.units + 64 < cLine
  nd : N.Nodup
  tk : Takes X fun c d _ H => E c d H
theorem hu_of2 {A : Around} (h : A.units + 64 < cLine) : A.units + 1 < cLine := Nat.lt_of_le_of_lt (by omega) h
theorem CO.cold {hot : Bool × Bool} {n : Nat} {N : List Str} {sc : Scope} {fnc : Str → Bool} {E : XK} {X : Cx} (co : CO P w K mg base hot n N sc fnc E X) (h : hot.1 = false) : CO P w K mg base (false, hot.2) n N sc fnc E X := by
  obtain ⟨a, b⟩ := hot
  obtain rfl : a = false := h
  exact co
theorem CO.warm {a rp : Bool} {n : Nat} {N : List Str} {sc : Scope} {fnc : Str → Bool} {E : XK} {X : Cx} (co : CO P w K mg base (false, rp) n N sc fnc E X) (h : a = false) : CO P w K mg base (a, rp) n N sc fnc E X := by subst h; exact co
/-- a def's promise: what the evaluator says -/
def spM (K : PySem.W.Frag) (ga : Str → Addr) (xn : Str → Str) (g : List MV → MHeap → Rs MV) : Sp := fun vs H Q E => ∃ Ω hm ms, HRel K ga Ω hm H ∧ VRels K ga Ω hm.length H ms vs ∧ Post K ga xn E hm.length Ω H (g ms hm) (Kv K ga Q)
/-- a table of the module: text keys, flat values -/
def TabF (K : PySem.W.Frag) (w : World) (mg : Str → Option Value) (x : Str) (kvs : List (Str × Key)) : Prop :=
  ∃ (a : Addr) (es : Array DictEntry) (n : Nat), mg x = some (.ref a) ∧ KDict K w a es n ∧ ∀ z : Str, ∃ r, PySem.W.nsIn K a z = some r ∧ (match kvs.lookup z with
    | some k => ∃ u, r = some u ∧ RelV (match k with
      | .inl i => V.int i
      | .inr y => V.str y) u
    | none => r = none)
/-- a constant that is a tuple of texts stands as it was made -/
def KTup (K : PySem.W.Frag) (v : MV) (v' : V) : Prop := ∀ p xs, v' = .ref p → v = .tup xs → strT xs = true → ∃ o, K.lookup p = some o ∧ o.cls = .type "tuple" ∧ o.dict = none
/-- what the call by keywords (cf) and the call of the def (sf) have in common -/
def KRl (K : PySem.W.Frag) (ga : Str → Addr) (cf sf : List MV → MHeap → Rs MV) (n m : Nat) (gV : List V → List V → List V) : Prop :=
  ∀ Ω L H vs ws xs zs h, VRels K ga Ω L H vs xs → VRels K ga Ω L H ws zs → vs.length = n → cf (vs ++ ws) h = .bad ∨ (ws.length = m ∧ ∃ ms, VRels K ga Ω L H ms (gV xs zs) ∧ cf (vs ++ ws) h = sf ms h)
structure GF (P : Program) (w : World) (K : PySem.W.Frag) (mg : Str → Option Value) (base : Heap) (ga : Str → Addr) (xn : Str → Str) (G : Gs) (C : Ct) (n : Nat) : Prop where
  fns : ∀ f ∈ G.fns, ∃ a fd ps, FnOk P w K mg base (L2.CX P w) n a fd ps (spM K ga xn (C.cf f)) ∧ mg f = some (.ref a) ∧ PySem.W.keepIn K (.ref a) = true ∧ Binds K fd ps []
  mes : ∀ c m f, (c, m, f) ∈ G.mes → ∃ a fd ps, FnOk P w K mg base (L2.CX P w) n a fd ps (spM K ga xn (C.cf f)) ∧ Cls K (ga c) ∧ Meth K (ga c) m a ∧ Binds K fd ps []
  nws : ∀ c ∈ G.nws, C.mks = true → ∃ k a fd ps, k + 1 ≤ n ∧ FnOk P w K mg base (L2.CX P w) k a fd ps (spM K ga xn (C.ci c)) ∧ Mk K (ga c) a ∧ mg c = some (.ref (ga c)) ∧ Binds K fd ps []
  con : ∀ x v, C.con x = some v → ∃ u v', mg x = some u ∧ RelV v' u ∧ (∀ Ω L H, VRel K ga Ω L H v v') ∧ KTup K v v'
  blt : ∀ x ∈ G.blt, mg x = none
  na : ∀ c f, C.na c f = true → Cls K (ga c) ∧ NoAttr K (ga c) f
  rai : ∀ c ∈ G.xcs, C.rok = true → 2 ≤ n ∧ ∃ fI fd ps, FnOk P w K mg base (L2.CX P w) 1 fI fd ps (spXI (ga c) (xn c)) ∧ OexC K (ga c) ∧ PySem.W.findIn K (.ref (ga c)) "__init__" = some (some (.ref fI)) ∧ PySem.W.typeIn K (.ref fI) = some (.type "function") ∧ Binds K fd ps [] ∧ mg c = some (.ref (ga c))
  xnm : ∀ c ∈ G.xns, mg c = some (.ref (ga c))
  xis : ∀ c, C.isx c = true → XFx K (ga c) (xn c)
  xve : ∀ c b, C.sub c "ValueError" = some b → PySem.W.kitOne K (.ref (ga c)) (.type "ValueError") = some b
  xsub : ∀ c q b, C.sub c q = some b → q ≠ "ValueError" → PySem.W.kitOne K (.ref (ga c)) (.ref (ga q)) = some b ∧ PySem.W.exmOne K (.ref (ga c)) (.ref (ga q)) = some b
  xnn : C.xn = xn
  eqo : ∀ c ∈ G.eqs, PySem.W.mroIn K (ga c) (.type "object") = some true ∧ PySem.W.findIn K (.ref (ga c)) "__eq__" = some (some (.builtin "object.__eq__"))
  tbs : ∀ t ∈ G.tbs, TabF K w mg t.1 t.2
  ksf : ∀ s ∈ G.ksh, s.cls = false → ∃ k sf a fd ps g gV, k ≤ n ∧ FnOk P w K mg base (L2.CX P w) k a fd ps (spM K ga xn sf) ∧ mg s.fn = some (.ref a) ∧ PySem.W.keepIn K (.ref a) = true ∧ KBn K fd ps s.n s.ks g gV ∧ KRl K ga (C.cf s.key) sf s.n s.ks.length gV
  ksc : ∀ s ∈ G.ksh, s.cls = true → C.mks = true → ∃ k sf a fd ps g gV, k + 1 ≤ n ∧ FnOk P w K mg base (L2.CX P w) k a fd ps (spM K ga xn sf) ∧ Mk K (ga s.fn) a ∧ mg s.fn = some (.ref (ga s.fn)) ∧ KBn K fd ps 1 s.ks g gV ∧ KRl K ga (C.ci s.key) sf 1 s.ks.length gV
variable {G : Gs} {C : Ct} {hot : Bool × Bool} {rp : Bool} {n : Nat} {N : List Str} {sc : Scope} {fnc : Str → Bool} {E : XK} {X : Cx}
theorem CO.pass (co : CO P w K mg base hot n N sc fnc E X) : Passes (L2.CX X.prog X.w) X E := passes_call (W := fun c d _ H => E c d H) co.tk fun _ _ _ _ h => h

/-! ### names and constants -/
section
variable {a b c e : Expr} {ea eb ec : ME} {pos : Pos}
theorem me_var {i : Nat} {x : Str} (co : CO P w K mg base hot n N sc fnc E X) (hN : N[i]? = some x) (hv : Vis sc x) (h1 : (x == ("__debug__" : Str)) = false) (h2 : (x == ("__classdict__" : Str)) = false) : PE X (.Name x pos) (TEm K ga xn E C (.var i)) := by
  refine PE_imp (pe_var (i := i) (by rw [co.pN]; exact hN) (by rw [co.ps]; exact hv) h1 h2) ?_
  rintro σ H Q ⟨Ω, σm, hm, hr, sr, p⟩
  unfold evE at p
  cases q : σm[i]? with
  | none => simp only [q] at p; exact p.elim
  | some o =>
    cases o with
    | none => simp only [q] at p; exact p.elim
    | some v =>
      simp only [q] at p
      obtain ⟨y, hy, vy⟩ := sr.2 i v q
      exact ⟨y, hy, p.here hr y vy⟩
theorem me_int {i : Int} {k : Nat} : PE X (.Constant (.int i) k pos) (TEm K ga xn E C (.int i)) := by
  refine PE_imp pe_int ?_
  rintro σ H Q ⟨Ω, σm, hm, hr, sr, p⟩
  unfold evE at p
  exact p.here hr _ (v_int.mpr rfl)
theorem me_bl {i : Bool} {k : Nat} : PE X (.Constant (.bool i) k pos) (TEm K ga xn E C (.bl i)) := by
  refine PE_imp pe_bl ?_
  rintro σ H Q ⟨Ω, σm, hm, hr, sr, p⟩
  unfold evE at p
  exact p.here hr _ (v_bl.mpr rfl)
theorem me_non {k : Nat} : PE X (.Constant .none k pos) (TEm K ga xn E C .non) := by
  refine PE_imp pe_non ?_
  rintro σ H Q ⟨Ω, σm, hm, hr, sr, p⟩
  unfold evE at p
  exact p.here hr _ (v_non.mpr rfl)
theorem me_str {i : Str} {k : Nat} : PE X (.Constant (.str i) k pos) (TEm K ga xn E C (.str i)) := by
  refine PE_imp pe_str ?_
  rintro σ H Q ⟨Ω, σm, hm, hr, sr, p⟩
  unfold evE at p
  exact p.here hr _ (v_str.mpr rfl)
theorem me_con {x : Str} (co : CO P w K mg base hot n N sc fnc E X) (gf : GF P w K mg base ga xn G C n) (hg : sc.names.lookup x = some .globalImplicit) (h1 : (x == ("__debug__" : Str)) = false) : PE X (.Name x pos) (TEm K ga xn E C (.con x)) := by
  cases q : C.con x with
  | none =>
    refine PE_bad ?_
    rintro σ H Q ⟨Ω, σm, hm, hr, sr, p⟩
    unfold evE at p
    rw [q] at p
    exact p
  | some v =>
    obtain ⟨u, v', h3, h4, h5, _⟩ := gf.con x v q
    refine PE_imp (pe_glob (v := v') (u := u) (by show X.env.scope.names.lookup x = _; rw [co.ps]; exact hg) (by rw [co.pm]; exact h3) h4 h1) ?_
    rintro σ H Q ⟨Ω, σm, hm, hr, sr, p⟩
    unfold evE at p
    rw [q] at p
    exact Post.here (show Post K ga xn E hm.length Ω H (.ok v hm) _ from p) hr _ (h5 _ _ _)

/-! ### operators -/
def rBin (K : PySem.W.Frag) (ga : Str → Addr) (xn : Str → Str) (E : XK) (op : Operator) : R2 := fun x y H Q => ∃ Ω h a b, HRel K ga Ω h H ∧ VRel K ga Ω h.length H a x ∧ VRel K ga Ω h.length H b y ∧ Post K ga xn E h.length Ω H (binV op a b h) (Kv K ga Q)
theorem mulOk {i : Str} {j : Int} (h : 0 ≤ j ∧ j ≤ 1000 ∧ i.length ≤ 1000) : MulOk i j := by
  refine ⟨?_, fun h1 h2 => ?_, fun h1 h2 => ?_⟩
  · rw [decide_eq_false (by omega), decide_eq_false (by omega)]; rfl
  · have m : (i.length : Int) * j ≤ 1000 * 1000 := Int.mul_le_mul (by omega) (by omega) (by omega) (by omega)
    have := Int.le_ediv_of_mul_le (a := (i.length : Int)) (b := 2 ^ 63 - 1) (c := j) (by omega) (by omega)
    omega
  · have m : i.length * j.toNat ≤ 1000 * 1000 := Nat.mul_le_mul (by omega) (by omega)
    unfold Builtin.Str.tooLong
    refine decide_eq_false ?_
    have e : sizeLine = 16777216 := rfl
    omega
theorem op_bin (hK : X.K = K) {op : Operator} : OpR X (binaryOp op) (rBin K ga xn E op) := by
  rintro pins s σ H x y v u Q I rx ry ⟨Ω, h, a, b, hr, va, vb, p⟩
  subst hK
  unfold binV at p
  split at p
  · rw [v_int] at va vb; exact op_add pins s σ H x y v u Q I rx ry ⟨_, _, va, vb, p.here hr _ (v_int.mpr rfl)⟩
  · split at p
    · rw [v_str] at va vb; exact op_add_str pins s σ H x y v u Q I rx ry ⟨_, _, va, vb, by assumption, p.here hr _ (v_str.mpr rfl)⟩
    · exact p.elim
  · split at p
    · rename_i hc
      obtain ⟨a1, ys1, e1, t1, q1⟩ := v_tup.mp va
      obtain ⟨a2, ys2, e2, t2, q2⟩ := v_tup.mp vb
      have l1 := vs_len q1
      have l2 := vs_len q2
      refine op_catT pins s σ H x y v u Q I rx ry ⟨a1, a2, ys1, ys2, e1, e2, t1, t2, fun z => hc.1 (by rw [l1, z]; rfl), by omega, fun z => ?_, fun z p' hp => ?_⟩
      · subst z
        refine p.here hr _ (v_tup.mpr ⟨a1, ys1, rfl, t1, ?_⟩)
        have := vrels_iff.mpr (pr_app (vrels_iff.mp q1) (vrels_iff.mp q2))
        rw [List.append_nil] at this
        exact this
      · have hn := hr.new (o := .tup (ys1 ++ ys2)) hp
        have ex := ext_new (o := .tup (ys1 ++ ys2)) hr hp
        exact (p Ω _ (Nat.le_refl _) ex hn) _ (v_tup.mpr ⟨p', ys1 ++ ys2, rfl, SqT.of upd_same, VRels.ext ex (Nat.le_refl _) (vrels_iff.mpr (pr_app (vrels_iff.mp q1) (vrels_iff.mp q2)))⟩)
    · exact p.elim
  · rw [v_int] at va vb; exact op_sub pins s σ H x y v u Q I rx ry ⟨_, _, va, vb, p.here hr _ (v_int.mpr rfl)⟩
  · split at p
    · rename_i hc
      rw [v_int] at va vb
      refine op_mul pins s σ H x y v u Q I rx ry ⟨_, _, va, vb, ?_, p.here hr _ (v_int.mpr rfl)⟩
      rcases hc with hc | hc
      · exact .inl ⟨by omega, by omega⟩
      · exact .inr ⟨by omega, by omega⟩
    · exact p.elim
  · split at p
    · rename_i hc
      obtain rfl := v_str.mp va
      obtain rfl := v_int.mp vb
      obtain ⟨t, rfl⟩ := rx
      obtain ⟨t', rfl⟩ := ry
      exact SB.mul (mulOk hc) fun t2 k => ⟨.str _, H, I.tok _, ⟨_, rfl⟩, p.here hr _ (v_str.mpr rfl)⟩
    · exact p.elim
  · split at p
    · rename_i hc; rw [v_int] at va vb; exact op_fdivW pins s σ H x y v u Q I rx ry ⟨_, _, va, vb, wide_div (b := 64) hc.1 (by have h1 := hc.1; have h2 := hc.2; omega) (by decide) (by decide), p.here hr _ (v_int.mpr rfl)⟩
    · exact p.elim
  · split at p
    · rw [v_int] at va vb; exact op_mod pins s σ H x y v u Q I rx ry ⟨_, _, va, vb, by assumption, p.here hr _ (v_int.mpr rfl)⟩
    · exact p.elim
  · split at p
    · rename_i hc
      rw [v_int] at va vb
      exact op_shl pins s σ H x y v u Q I rx ry ⟨_, _, va, vb, ⟨hc.1, hc.2.1, by have h2 := hc.2.2; omega⟩, p.here hr _ (v_int.mpr rfl)⟩
    · exact p.elim
  · split at p
    · rename_i hc
      rw [v_int] at va vb
      exact op_pow pins s σ H x y v u Q I rx ry ⟨_, _, va, vb, ⟨hc.1, hc.2.1, by have h2 := hc.2.2; omega⟩, p.here hr _ (v_int.mpr rfl)⟩
    · exact p.elim
  · split at p
    · rw [v_int] at va vb; exact op_shr pins s σ H x y v u Q I rx ry ⟨_, _, va, vb, by assumption, p.here hr _ (v_int.mpr rfl)⟩
    · exact p.elim
  · rw [v_int] at va vb; exact op_and pins s σ H x y v u Q I rx ry ⟨_, _, va, vb, p.here hr _ (v_int.mpr rfl)⟩
  · rw [v_int] at va vb; exact op_or pins s σ H x y v u Q I rx ry ⟨_, _, va, vb, p.here hr _ (v_int.mpr rfl)⟩
  · rw [v_int] at va vb; exact op_xor pins s σ H x y v u Q I rx ry ⟨_, _, va, vb, p.here hr _ (v_int.mpr rfl)⟩
  · exact p.elim
theorem me_bin {op : Operator} (co : CO P w K mg base hot n N sc fnc E X) (ha : PE X a (TEm K ga xn E C ea)) (hb : PE X b (TEm K ga xn E C eb)) : PE X (.BinOp a op b pos) (TEm K ga xn E C (.bin op ea eb)) := by
  refine PE_imp (pe_op (op_bin (ga := ga) (xn := xn) (E := E) co.pK) ha hb) ?_
  rintro σ H Q ⟨Ω, σm, hm, hr, sr, p⟩
  unfold evE at p
  refine te_of hr sr (Post.bind p) fun Ω1 H1 v h1 x l1 e1 r1 s1 vx p1 => ?_
  refine te_of r1 s1 (Post.bind p1) fun Ω2 H2 v2 h2 y l2 e2 r2 s2 vy p2 => ?_
  exact ⟨Ω2, h2, v, v2, r2, vx.ext e2 l2, vy, p2⟩
theorem me_neg (ha : PE X a (TEm K ga xn E C ea)) : PE X (.UnaryOp .USub a pos) (TEm K ga xn E C (.neg ea)) := by
  refine PE_imp (pe_un un_neg ha) ?_
  rintro σ H Q ⟨Ω, σm, hm, hr, sr, p⟩
  unfold evE at p
  refine te_of hr sr (Post.bind p) fun Ω1 H1 v h1 x l1 e1 r1 s1 vx p1 => ?_
  cases v with
  | int i => exact ⟨i, v_int.mp vx, p1.here r1 _ (v_int.mpr rfl)⟩
  | _ => exact p1.elim
theorem me_not (ha : PE X a (TEm K ga xn E C ea)) : PE X (.UnaryOp .Not a pos) (TEm K ga xn E C (.not ea)) := by
  refine PE_imp (pe_not ha) ?_
  rintro σ H Q ⟨Ω, σm, hm, hr, sr, p⟩
  unfold evE at p
  refine te_of hr sr (Post.bind p) fun Ω1 H1 v h1 x l1 e1 r1 s1 vx p1 => ?_
  cases v with
  | bl i => exact ⟨i, v_bl.mp vx, p1.here r1 _ (v_bl.mpr rfl)⟩
  | _ => exact p1.elim
def rCmp (K : PySem.W.Frag) (ga : Str → Addr) (xn : Str → Str) (E : XK) (op : CmpOp) : R2 := fun x y H Q => ∃ Ω h a b, HRel K ga Ω h H ∧ VRel K ga Ω h.length H a x ∧ VRel K ga Ω h.length H b y ∧ Post K ga xn E h.length Ω H (cmpV op a b h) (Kv K ga Q)
theorem isNon_rel {Ω : Om} {L : Nat} {H : Hp} {m : MV} {x : V} (h : VRel K ga Ω L H m x) : isNon m = decide (x = .non) := by
  cases m with
  | non => rw [v_non.mp h]; rfl
  | bl b => rw [v_bl.mp h]; rfl
  | int b => rw [v_int.mp h]; rfl
  | str b => rw [v_str.mp h]; rfl
  | tup b => obtain ⟨a, _, e, _⟩ := v_tup.mp h; rw [e]; rfl
  | lst b => obtain ⟨a, _, e, _⟩ := v_lst.mp h; rw [e]; rfl
  | scr b => obtain ⟨a, _, e, _⟩ := v_scr.mp h; rw [e]; rfl
  | ref b => rw [(v_ref.mp h).2]; rfl
  | xcp a d f v => rw [(v_xcp.mp h).1]; rfl
  | glo b => unfold VRel at h; rw [h]; rfl
  | ty b => unfold VRel at h; rw [h]; rfl
theorem eq_rel {Ω : Om} {H : Hp} {h : MHeap} {a b : MV} {x y : V} {t : Bool} (hr : HRel K ga Ω h H) (va : VRel K ga Ω h.length H a x) (vb : VRel K ga Ω h.length H b y) (q : eqR a b h = some t) :
    (∃ i j : Str, x = .str i ∧ y = .str j ∧ (i == j) = t) ∨ ∃ d e, Dp K H x d ∧ Dp K H y e ∧ SeqAt.shaped d = true ∧ SeqAt.shaped e = true ∧ PyData.eqv d e = t := by
  unfold eqR at q
  cases qs : strsM a b with
  | some u =>
    rw [qs] at q
    cases q
    unfold strsM at qs
    split at qs
    · cases qs
      exact .inl ⟨_, _, v_str.mp va, v_str.mp vb, rfl⟩
    · cases qs
  | none =>
    rw [qs] at q
    simp only at q
    right
    cases q1 : datF h 8 a with
    | none => simp [q1] at q
    | some d =>
      cases q2 : datF h 8 b with
      | none => simp [q1, q2] at q
      | some e =>
        simp only [q1, q2] at q
        split at q
        · rename_i hs
          cases q
          exact ⟨d, e, datF_rel hr 8 va q1, datF_rel hr 8 vb q2, hs.1, hs.2, rfl⟩
        · cases q
theorem op_cmp (hK : X.K = K) (hu : X.A.units + 64 < cLine) {op : CmpOp} : OpR X (compareOp op) (rCmp K ga xn E op) := by
  rintro pins s σ H x y v u Q I rx ry ⟨Ω, h, a, b, hr, va, vb, p⟩
  subst hK
  cases op with
  | Eq =>
    unfold cmpV at p
    cases q : eqR a b h with
    | none => simp only [q] at p; exact p.elim
    | some t =>
      simp only [q] at p
      rcases eq_rel hr va vb q with ⟨i, j, ex, ey, et⟩ | ⟨d, e, d1, d2, s1, s2, et⟩
      · exact op_eq pins s σ H x y v u Q I rx ry ⟨by rw [ex, ey]; rfl, by rw [ex, ey, dec_str, et]; exact p.here hr _ (v_bl.mpr rfl)⟩
      exact op_eqD hu pins s σ H x y v u Q I rx ry ⟨d, e, d1, d2, s1, s2, by rw [et]; exact p.here hr _ (v_bl.mpr rfl)⟩
  | NotEq =>
    unfold cmpV at p
    cases q : eqR a b h with
    | none => simp only [q] at p; exact p.elim
    | some t =>
      simp only [q] at p
      rcases eq_rel hr va vb q with ⟨i, j, ex, ey, et⟩ | ⟨d, e, d1, d2, s1, s2, et⟩
      · exact op_ne pins s σ H x y v u Q I rx ry ⟨by rw [ex, ey]; rfl, by rw [ex, ey, dec_str, et]; exact p.here hr _ (v_bl.mpr rfl)⟩
      exact op_neD hu pins s σ H x y v u Q I rx ry ⟨d, e, d1, d2, s1, s2, by rw [et]; exact p.here hr _ (v_bl.mpr rfl)⟩
  | Lt =>
    unfold cmpV at p
    simp only at p
    split at p
    · rw [v_int] at va vb; exact op_lt pins s σ H x y v u Q I rx ry ⟨_, _, va, vb, p.here hr _ (v_bl.mpr rfl)⟩
    · exact p.elim
  | LtE =>
    unfold cmpV at p
    simp only at p
    split at p
    · rw [v_int] at va vb; exact op_le pins s σ H x y v u Q I rx ry ⟨_, _, va, vb, p.here hr _ (v_bl.mpr rfl)⟩
    · rw [v_str] at va vb; exact op_le_str pins s σ H x y v u Q I rx ry ⟨_, _, va, vb, p.here hr _ (v_bl.mpr rfl)⟩
    · exact p.elim
  | Gt =>
    unfold cmpV at p
    simp only at p
    split at p
    · rw [v_int] at va vb; exact op_gt pins s σ H x y v u Q I rx ry ⟨_, _, va, vb, p.here hr _ (v_bl.mpr rfl)⟩
    · exact p.elim
  | GtE =>
    unfold cmpV at p
    simp only at p
    split at p
    · rw [v_int] at va vb; exact op_ge pins s σ H x y v u Q I rx ry ⟨_, _, va, vb, p.here hr _ (v_bl.mpr rfl)⟩
    · exact p.elim
  | Is =>
    unfold cmpV at p
    simp only at p
    split at p
    · rw [v_non] at vb
      refine op_isN pins s σ H x y v u Q I rx ry ⟨vb, ?_⟩
      rw [← isNon_rel va]
      exact p.here hr _ (v_bl.mpr rfl)
    · split at p
      · rw [v_bl] at va vb
        exact op_isBl pins s σ H x y v u Q I rx ry ⟨_, _, va, vb, p.here hr _ (v_bl.mpr rfl)⟩
      · exact p.elim
    · exact p.elim
  | IsNot =>
    unfold cmpV at p
    simp only at p
    split at p
    · rw [v_non] at vb
      refine op_notN pins s σ H x y v u Q I rx ry ⟨vb, ?_⟩
      rw [← isNon_rel va]
      exact p.here hr _ (v_bl.mpr rfl)
    · split at p
      · rw [v_bl] at va vb
        exact op_notBl pins s σ H x y v u Q I rx ry ⟨_, _, va, vb, p.here hr _ (v_bl.mpr rfl)⟩
      · exact p.elim
    · exact p.elim
  | In =>
    unfold cmpV at p
    cases q : seqOf h b with
    | none => simp only [q] at p; exact p.elim
    | some xs =>
      simp only [q] at p
      split at p
      · rename_i hc
        obtain ⟨a', ys, e1, t1, q1⟩ := seq_rel hr vb q
        obtain ⟨f1, f2⟩ := inM_rel va hc.1 q1 hc.2
        refine op_in_seq pins s σ H x y v u Q I rx ry ⟨a', ys, e1, t1, flat_rel va hc.1, f1, ?_⟩
        rw [← f2]
        exact p.here hr _ (v_bl.mpr rfl)
      · exact p.elim
  | NotIn =>
    unfold cmpV at p
    cases q : seqOf h b with
    | none => simp only [q] at p; exact p.elim
    | some xs =>
      simp only [q] at p
      split at p
      · rename_i hc
        obtain ⟨a', ys, e1, t1, q1⟩ := seq_rel hr vb q
        obtain ⟨f1, f2⟩ := inM_rel va hc.1 q1 hc.2
        refine op_notIn_seq pins s σ H x y v u Q I rx ry ⟨a', ys, e1, t1, flat_rel va hc.1, f1, ?_⟩
        rw [← f2]
        exact p.here hr _ (v_bl.mpr rfl)
      · exact p.elim
theorem me_cmp {op : CmpOp} (co : CO P w K mg base hot n N sc fnc E X) (ha : PE X a (TEm K ga xn E C ea)) (hb : PE X b (TEm K ga xn E C eb)) (hs : notSet b = true) : PE X (.Compare a [op] [b] pos) (TEm K ga xn E C (.cmp op ea eb)) := by
  refine PE_imp (pe_cmpR (op_cmp (ga := ga) (xn := xn) (E := E) co.pK co.units) ha hb (no_mark hs)) ?_
  rintro σ H Q ⟨Ω, σm, hm, hr, sr, p⟩
  unfold evE at p
  refine te_of hr sr (Post.bind p) fun Ω1 H1 v h1 x l1 e1 r1 s1 vx p1 => ?_
  refine te_of r1 s1 (Post.bind p1) fun Ω2 H2 v2 h2 y l2 e2 r2 s2 vy p2 => ?_
  exact ⟨Ω2, h2, v, v2, r2, vx.ext e2 l2, vy, p2⟩
theorem mt_cmp {op : CmpOp} (co : CO P w K mg base hot n N sc fnc E X) (ha : PE X a (TEm K ga xn E C ea)) (hb : PE X b (TEm K ga xn E C eb)) (hs : notSet b = true) : PT X (.Compare a [op] [b] pos) (TTm K ga xn E C (.cmp op ea eb)) := by
  refine PT_imp (pt_cmpR (op_cmp (ga := ga) (xn := xn) (E := E) co.pK co.units) ha hb (no_mark hs)) ?_
  rintro σ H Q ⟨Ω, σm, hm, hr, sr, p⟩
  unfold evT at p
  refine te_of hr sr (Post.bind p) fun Ω1 H1 v h1 x l1 e1 r1 s1 vx p1 => ?_
  refine te_of r1 s1 (Post.bind p1) fun Ω2 H2 v2 h2 y l2 e2 r2 s2 vy p2 => ?_
  refine ⟨Ω2, h2, v, v2, r2, vx.ext e2 l2, vy, (Post.bind p2).mono fun Ω3 H3 z h3 l3 e3 r3 p3 c vc => ?_⟩
  cases z with
  | bl t => exact ⟨t, v_bl.mp vc, p3.here r3⟩
  | _ => exact p3.elim
theorem me_chn {o1 o2 : CmpOp} (co : CO P w K mg base hot n N sc fnc E X) (ha : PE X a (TEm K ga xn E C ea)) (hb : PE X b (TEm K ga xn E C eb)) (hc : PE X c (TEm K ga xn E C ec)) (hs : notSet c = true) : PE X (.Compare a [o1, o2] [b, c] pos) (TEm K ga xn E C (.chn o1 o2 ea eb ec)) := by
  refine PE_imp (pe_chain (op_cmp (ga := ga) (xn := xn) (E := E) co.pK co.units) (op_cmp (ga := ga) (xn := xn) (E := E) co.pK co.units) ha hb hc (no_last hs)) ?_
  rintro σ H Q ⟨Ω, σm, hm, hr, sr, p⟩
  unfold evE at p
  refine te_of hr sr (Post.bind p) fun Ω1 H1 v h1 x l1 e1 r1 s1 vx p1 => ?_
  refine te_of r1 s1 (Post.bind p1) fun Ω2 H2 v2 h2 y l2 e2 r2 s2 vy p2 => ?_
  refine ⟨Ω2, h2, v, v2, r2, vx.ext e2 l2, vy, (Post.bind p2).mono fun Ω3 H3 z h3 l3 e3 r3 p3 c' vc => ?_⟩
  cases z with
  | bl t =>
    refine ⟨t, v_bl.mp vc, ?_⟩
    cases t with
    | true =>
      rw [if_pos rfl]
      refine te_of r3 (s2.ext e3 l3) (Post.bind p3) fun Ω4 H4 v4 h4 z4 l4 e4 r4 s4 v4' p4 => ?_
      exact ⟨Ω4, h4, v2, v4, r4, vy.ext (e3.trans e4 l3) (Nat.le_trans l3 l4), v4', p4⟩
    | false =>
      rw [if_neg Bool.false_ne_true]
      exact p3.here r3 _ (v_bl.mpr rfl)
  | _ => exact p3.elim
theorem mt_chn {o1 o2 : CmpOp} (co : CO P w K mg base hot n N sc fnc E X) (ha : PE X a (TEm K ga xn E C ea)) (hb : PE X b (TEm K ga xn E C eb)) (hc : PE X c (TEm K ga xn E C ec)) (hs : notSet c = true) : PT X (.Compare a [o1, o2] [b, c] pos) (TTm K ga xn E C (.chn o1 o2 ea eb ec)) := by
  refine PT_imp (pt_chain (op_cmp (ga := ga) (xn := xn) (E := E) co.pK co.units) (op_cmp (ga := ga) (xn := xn) (E := E) co.pK co.units) ha hb hc (no_last hs)) ?_
  rintro σ H Q ⟨Ω, σm, hm, hr, sr, p⟩
  unfold evT at p
  refine te_of hr sr (Post.bind p) fun Ω1 H1 v h1 x l1 e1 r1 s1 vx p1 => ?_
  refine te_of r1 s1 (Post.bind p1) fun Ω2 H2 v2 h2 y l2 e2 r2 s2 vy p2 => ?_
  refine ⟨Ω2, h2, v, v2, r2, vx.ext e2 l2, vy, (Post.bind p2).mono fun Ω3 H3 z h3 l3 e3 r3 p3 c' vc => ?_⟩
  cases z with
  | bl t =>
    refine ⟨t, v_bl.mp vc, ?_⟩
    cases t with
    | true =>
      rw [if_pos rfl]
      refine te_of r3 (s2.ext e3 l3) (Post.bind p3) fun Ω4 H4 v4 h4 z4 l4 e4 r4 s4 v4' p4 => ?_
      refine ⟨Ω4, h4, v2, v4, r4, vy.ext (e3.trans e4 l3) (Nat.le_trans l3 l4), v4', (Post.bind p4).mono fun Ω5 H5 z5 h5 l5 e5 r5 p5 c5 vc5 => ?_⟩
      cases z5 with
      | bl t => exact ⟨t, v_bl.mp vc5, p5.here r5⟩
      | _ => exact p5.elim
    | false =>
      rw [if_neg Bool.false_ne_true]
      exact ⟨false, rfl, p3.here r3⟩
  | _ => exact p3.elim
theorem mt_tru (co : CO P w K mg base hot n N sc fnc E X) (ha : PE X a (TEm K ga xn E C ea)) (hp : plainTest a = true) : PT X a (TTm K ga xn E C (.tru ea)) := by
  refine PT_imp (pt_truth ha (plain_true hp)) ?_
  rintro σ H Q ⟨Ω, σm, hm, hr, sr, p⟩
  rw [co.pK]
  unfold evT at p
  refine te_of hr sr (Post.bind p) fun Ω1 H1 v h1 x l1 e1 r1 s1 vx p1 => ?_
  cases q : truM h1 v with
  | none => rw [q] at p1; exact False.elim p1
  | some t =>
    rw [q] at p1
    refine ⟨t, ?_, Post.here (show Post K ga xn E h1.length Ω1 H1 (.ok t h1) _ from p1) r1⟩
    cases v with
    | non => rw [v_non.mp vx]; cases q; rfl
    | bl b => rw [v_bl.mp vx]; cases q; rfl
    | int i => rw [v_int.mp vx]; cases q; rfl
    | str y =>
      rw [v_str.mp vx]
      simp only [truM] at q
      split at q
      · rename_i hy
        cases q
        exact ⟨hy, rfl⟩
      · cases q
    | tup xs =>
      obtain ⟨a', ys, e, t1, q1⟩ := v_tup.mp vx
      rw [e]
      cases q
      refine .inr (.inl ⟨ys, t1, ?_⟩)
      have := vs_len q1
      cases xs <;> cases ys <;> first | rfl | (simp at this)
    | lst xs =>
      obtain ⟨a', ys, e, t1, q1⟩ := v_lst.mp vx
      rw [e]
      cases q
      refine .inl ⟨ys, t1.sq, ?_⟩
      have := vs_len q1
      cases xs <;> cases ys <;> first | rfl | (simp at this)
    | scr xs =>
      obtain ⟨a', ys, e, t1, q1⟩ := v_scr.mp vx
      rw [e]
      cases q
      refine .inl ⟨ys, t1.sq, ?_⟩
      have := vs_len q1
      cases xs <;> cases ys <;> first | rfl | (simp at this)
    | ref m =>
      obtain ⟨hn, e⟩ := v_ref.mp vx
      rw [e]
      unfold truM at q
      cases z : h1[m]? with
      | none => simp [z] at q
      | some o =>
        have ob := r1.obj m o z
        cases o with
        | lst xs =>
          simp only [z] at q
          cases q
          obtain ⟨ys, q2, q1⟩ := ob
          refine .inl ⟨ys, SqL.of q2, ?_⟩
          have := vs_len q1
          cases xs <;> cases ys <;> first | rfl | (simp at this)
        | dct xs =>
          simp only [z] at q
          cases q
          obtain ⟨ys, q2, q1⟩ := ob
          refine .inr (.inr ⟨ys, q2, ?_⟩)
          have := q1.length
          cases xs <;> cases ys <;> first | rfl | (simp at this)
        | _ => simp [z] at q
    | _ => cases q
theorem me_and {bs : List Expr} (ha : PE X a (TEm K ga xn E C ea)) (hb : PE X (.BoolOp .And (b :: bs) pos) (TEm K ga xn E C eb)) : PE X (.BoolOp .And (a :: b :: bs) pos) (TEm K ga xn E C (.and ea eb)) := by
  refine PE_imp (pe_and ha hb) ?_
  rintro σ H Q ⟨Ω, σm, hm, hr, sr, p⟩
  unfold evE at p
  refine te_of hr sr (Post.bind p) fun Ω1 H1 v h1 x l1 e1 r1 s1 vx p1 => ?_
  cases v with
  | bl t =>
    refine ⟨t, v_bl.mp vx, ?_⟩
    cases t with
    | true => rw [if_pos rfl]; exact ⟨Ω1, σm, h1, r1, s1, p1⟩
    | false => rw [if_neg Bool.false_ne_true]; exact p1.here r1 _ (v_bl.mpr rfl)
  | _ => exact p1.elim
theorem me_or {bs : List Expr} (ha : PE X a (TEm K ga xn E C ea)) (hb : PE X (.BoolOp .Or (b :: bs) pos) (TEm K ga xn E C eb)) : PE X (.BoolOp .Or (a :: b :: bs) pos) (TEm K ga xn E C (.or ea eb)) := by
  refine PE_imp (pe_or ha hb) ?_
  rintro σ H Q ⟨Ω, σm, hm, hr, sr, p⟩
  unfold evE at p
  refine te_of hr sr (Post.bind p) fun Ω1 H1 v h1 x l1 e1 r1 s1 vx p1 => ?_
  cases v with
  | bl t =>
    refine ⟨t, v_bl.mp vx, ?_⟩
    cases t with
    | true => rw [if_pos rfl]; exact p1.here r1 _ (v_bl.mpr rfl)
    | false => rw [if_neg Bool.false_ne_true]; exact ⟨Ω1, σm, h1, r1, s1, p1⟩
  | _ => exact p1.elim
theorem mw_and {bs : List Expr} (ha : PT X a (TTm K ga xn E C ea)) (hb : PW X (.BoolOp .And (b :: bs) pos) (TTm K ga xn E C eb)) : PW X (.BoolOp .And (a :: b :: bs) pos) (TTm K ga xn E C (.and ea eb)) := by
  refine PW_imp (pw_and ha hb) ?_
  rintro σ H Q ⟨Ω, σm, hm, hr, sr, p⟩
  unfold evT at p
  refine tt_of hr sr (Post.bind p) fun Ω1 H1 t h1 l1 e1 r1 s1 p1 => ?_
  cases t with
  | true => rw [if_pos rfl] at p1 ⊢; exact ⟨Ω1, σm, h1, r1, s1, p1⟩
  | false => rw [if_neg Bool.false_ne_true] at p1 ⊢; exact p1.here r1
theorem mw_or {bs : List Expr} (ha : PT X a (TTm K ga xn E C ea)) (hb : PW X (.BoolOp .Or (b :: bs) pos) (TTm K ga xn E C eb)) : PW X (.BoolOp .Or (a :: b :: bs) pos) (TTm K ga xn E C (.or ea eb)) := by
  refine PW_imp (pw_or ha hb) ?_
  rintro σ H Q ⟨Ω, σm, hm, hr, sr, p⟩
  unfold evT at p
  refine tt_of hr sr (Post.bind p) fun Ω1 H1 t h1 l1 e1 r1 s1 p1 => ?_
  cases t with
  | true => rw [if_pos rfl] at p1 ⊢; exact p1.here r1
  | false => rw [if_neg Bool.false_ne_true] at p1 ⊢; exact ⟨Ω1, σm, h1, r1, s1, p1⟩
theorem mt_not (ha : PT X a (TTm K ga xn E C ea)) : PT X (.UnaryOp .Not a pos) (TTm K ga xn E C (.not ea)) := by
  refine PT_imp (pt_not ha) ?_
  rintro σ H Q ⟨Ω, σm, hm, hr, sr, p⟩
  unfold evT at p
  exact tt_of hr sr (Post.bind p) fun Ω1 H1 t h1 l1 e1 r1 s1 p1 => p1.here r1
theorem me_ife (hc : PT X c (TTm K ga xn E C ec)) (ha : PE X a (TEm K ga xn E C ea)) (hb : PE X b (TEm K ga xn E C eb)) : PE X (.IfExp c a b pos) (TEm K ga xn E C (.ife ec ea eb)) := by
  refine PE_imp (pe_ifExp hc ha hb) ?_
  rintro σ H Q ⟨Ω, σm, hm, hr, sr, p⟩
  unfold evE at p
  refine tt_of hr sr (Post.bind p) fun Ω1 H1 t h1 l1 e1 r1 s1 p1 => ?_
  cases t with
  | true => rw [if_pos rfl] at p1 ⊢; exact ⟨Ω1, σm, h1, r1, s1, p1⟩
  | false => rw [if_neg Bool.false_ne_true] at p1 ⊢; exact ⟨Ω1, σm, h1, r1, s1, p1⟩
end
end Mn
namespace Mn
open PySem PySem.Spec PyProof.Rows L2
variable {P : Program} {w : World} {K : PySem.W.Frag} {mg : Str → Option Value} {base : Heap} {ga : Str → Addr} {xn : Str → Str}
variable {G : Gs} {C : Ct} {hot : Bool × Bool} {rp : Bool} {n : Nat} {N : List Str} {sc : Scope} {fnc : Str → Bool} {E : XK} {X : Cx}
section
variable {a b c e : Expr} {es : List Expr} {ea eb ec : ME} {pos : Pos}

/-! ### argument lists, tuples, items -/
theorem ma_nil : PA X [] (TLm K ga xn E C .nil) := by
  refine PA_imp pa_nil ?_
  rintro σ H Q ⟨Ω, σm, hm, hr, sr, p⟩
  unfold evL at p
  exact p.here hr _ (by unfold VRels; rfl)
theorem ma_cons (ha : PE X a (TEm K ga xn E C ea)) (hb : PA X es (TLm K ga xn E C eb)) (hs : notStar a = true) : PA X (a :: es) (TLm K ga xn E C (.cons ea eb)) := by
  refine PA_imp (pa_cons ha hb (star_one hs)) ?_
  rintro σ H Q ⟨Ω, σm, hm, hr, sr, p⟩
  unfold evL at p
  refine te_of hr sr (Post.bind p) fun Ω1 H1 v h1 x l1 e1 r1 s1 vx p1 => ?_
  refine tl_of r1 s1 (Post.bind p1) fun Ω2 H2 vs h2 xs l2 e2 r2 s2 vxs p2 => ?_
  exact p2.here r2 _ (by unfold VRels; exact ⟨x, xs, rfl, vx.ext e2 l2, vxs⟩)
theorem me_tup {k : Nat} (h : PA X es (TLm K ga xn E C ea)) : PE X (.Tuple es k pos) (TEm K ga xn E C (.tup ea)) := by
  refine PE_imp (pe_tup h) ?_
  rintro σ H Q ⟨Ω, σm, hm, hr, sr, p⟩
  unfold evE at p
  refine tl_of hr sr (Post.bind p) fun Ω1 H1 vs h1 xs l1 e1 r1 s1 vxs p1 => ?_
  split at p1
  · rename_i hz
    have hl := vs_len vxs
    refine ⟨by omega, fun p' hp => ?_⟩
    have ex := ext_new (o := .tup xs) r1 hp
    exact p1 Ω1 _ (Nat.le_refl _) ex (r1.new hp) _ (v_tup.mpr ⟨p', xs, rfl, SqT.of upd_same, vxs.ext ex (Nat.le_refl _)⟩)
  · exact p1.elim
def rItem (K : PySem.W.Frag) (ga : Str → Addr) (xn : Str → Str) (E : XK) : R2 := fun x y H Q => ∃ Ω h a b, HRel K ga Ω h H ∧ VRel K ga Ω h.length H a x ∧ VRel K ga Ω h.length H b y ∧ Post K ga xn E h.length Ω H (itemV a b h) (Kv K ga Q)
theorem ofOpt_at {Ω : Om} {H : Hp} {h : MHeap} {xs : List MV} {ys : List V} {i : Int} {Q : VK} (hr : HRel K ga Ω h H) (q : VRels K ga Ω h.length H xs ys) (p : Post K ga xn E h.length Ω H (ofOpt (atI xs i) h) (Kv K ga Q)) : ∃ y, atI ys i = some y ∧ Q y H := by
  cases z : atI xs i with
  | none => rw [z] at p; exact False.elim p
  | some v =>
    rw [z] at p
    obtain ⟨y, hy, vy⟩ := at_rel q z
    exact ⟨y, hy, Post.here (show Post K ga xn E h.length Ω H (.ok v h) _ from p) hr y vy⟩
theorem ix_item (hK : X.K = K) : IxR X (rItem K ga xn E) := by
  rintro value slice pins s σ H x y v u Q I rx ry ⟨Ω, h, a, b, hr, va, vb, p⟩ hs
  subst hK
  unfold itemV at p
  split at p
  · split at p
    · rename_i hz
      split at p
      · rename_i c hc
        rw [v_str] at va
        rw [v_int] at vb
        exact ix_str value slice pins s σ H x y v u Q I rx ry ⟨_, _, c, va, vb, hz, hc, p.here hr _ (v_str.mpr rfl)⟩ hs
      · exact p.elim
    · exact p.elim
  · obtain ⟨a1, ys1, e1, t1, q1⟩ := v_tup.mp va
    rw [v_int] at vb
    obtain ⟨y', h1, h2⟩ := ofOpt_at hr q1 p
    exact ix_tup value slice pins s σ H x y v u Q I rx ry ⟨a1, ys1, _, y', e1, vb, t1, h1, h2⟩ hs
  · obtain ⟨a1, ys1, e1, t1, q1⟩ := v_lst.mp va
    rw [v_int] at vb
    obtain ⟨y', h1, h2⟩ := ofOpt_at hr q1 p
    exact ix_list value slice pins s σ H x y v u Q I rx ry ⟨a1, ys1, _, y', e1, vb, t1.sq, h1, h2⟩ hs
  · obtain ⟨a1, ys1, e1, t1, q1⟩ := v_scr.mp va
    rw [v_int] at vb
    obtain ⟨y', h1, h2⟩ := ofOpt_at hr q1 p
    exact ix_list value slice pins s σ H x y v u Q I rx ry ⟨a1, ys1, _, y', e1, vb, t1.sq, h1, h2⟩ hs
  · rename_i m
    obtain ⟨hn, e1⟩ := v_ref.mp va
    cases z : h[m]? with
    | none => simp only [z] at p; exact p.elim
    | some o =>
      have ob := hr.obj m o z
      cases o with
      | lst xs =>
        simp only [z] at p
        obtain ⟨ys, r1, r2⟩ := ob
        split at p
        · rw [v_int] at vb
          obtain ⟨y', h1, h2⟩ := ofOpt_at hr r2 p
          exact ix_list value slice pins s σ H x y v u Q I rx ry ⟨_, ys, _, y', e1, vb, SqL.of r1, h1, h2⟩ hs
        · exact p.elim
      | _ => simp only [z] at p; exact p.elim
  · exact p.elim
theorem me_idx (co : CO P w K mg base hot n N sc fnc E X) (ha : PE X a (TEm K ga xn E C ea)) (hb : PE X b (TEm K ga xn E C eb)) (hs : notSlice b = true) : PE X (.Subscript a b pos) (TEm K ga xn E C (.idx ea eb)) := by
  refine PE_imp (pe_ix (ix_item (ga := ga) (xn := xn) (E := E) co.pK) ha hb (plain_ix hs)) ?_
  rintro σ H Q ⟨Ω, σm, hm, hr, sr, p⟩
  unfold evE at p
  refine te_of hr sr (Post.bind p) fun Ω1 H1 v h1 x l1 e1 r1 s1 vx p1 => ?_
  refine te_of r1 s1 (Post.bind p1) fun Ω2 H2 v2 h2 y l2 e2 r2 s2 vy p2 => ?_
  exact ⟨Ω2, h2, v, v2, r2, vx.ext e2 l2, vy, p2⟩

/-! ### new lists -/
theorem me_mk {m : Bool} (h : PE X e (TFm K ga xn E C ea)) : PE X e (TEm K ga xn E C (.mk m ea)) := by
  refine PE_imp h ?_
  rintro σ H Q ⟨Ω, σm, hm, hr, sr, p⟩
  unfold evE at p
  refine tf_of hr sr (Post.bind p) fun Ω1 H1 vs h1 q ys l1 e1 r1 s1 fr hq vx p1 => ?_
  cases m with
  | true =>
    rw [if_pos rfl] at p1
    have ex := ext_put Ω1 q H1 h1.length
    have hl : (h1 ++ [MO.lst vs]).length = h1.length + 1 := by simp
    have r2 := r1.snoc (o := .lst vs) fr ⟨ys, hq, vx.ext ex (Nat.le_succ _)⟩
    exact p1 _ _ (by omega) ex r2 _ (v_ref.mpr ⟨by omega, by show V.ref q = .ref (if h1.length = h1.length then q else _); rw [if_pos rfl]⟩)
  | false =>
    rw [if_neg Bool.false_ne_true] at p1
    have ex := ext_fz Ω1 q H1 h1.length
    exact p1 _ _ (Nat.le_refl _) ex (r1.fz hq fr) _ (v_lst.mpr ⟨q, ys, rfl, ⟨.inr rfl, hq⟩, vx.ext ex (Nat.le_refl _)⟩)
/-- what a rule that lays a list asks -/
theorem lay {Ω : Om} {H : Hp} {h : MHeap} {vs : List MV} {ys : List V} {Q : VK} (hr : HRel K ga Ω h H) (vx : VRels K ga Ω h.length H vs ys)
    (p : Post K ga xn E h.length Ω H (.ok vs h) fun Ω H vs h => ∀ p ys, Free Ω h.length p → H p = some (.lst ys) → VRels K ga Ω h.length H vs ys → Q (.ref p) H) : ∀ q, H q = none → Q (.ref q) (upd H q (.lst ys)) := fun q hq => by
  have ex := ext_new (o := .lst ys) hr hq
  exact p Ω _ (Nat.le_refl _) ex (hr.new hq) q ys (hr.free hq) upd_same (vx.ext ex (Nat.le_refl _))
theorem mf_fl (h : PA X es (TLm K ga xn E C ea)) : PE X (.List es pos) (TFm K ga xn E C (.fl ea)) := by
  refine PE_imp (pe_lst h) ?_
  rintro σ H Q ⟨Ω, σm, hm, hr, sr, p⟩
  unfold evF at p
  refine tl_of hr sr (Post.bind p) fun Ω1 H1 vs h1 xs l1 e1 r1 s1 vxs p1 => ?_
  split at p1
  · rename_i hz
    have hl := vs_len vxs
    exact ⟨by omega, lay r1 vxs p1⟩
  · exact p1.elim
end
end Mn
namespace Mn
open PySem PySem.Spec PyProof.Rows L2
variable {P : Program} {w : World} {K : PySem.W.Frag} {mg : Str → Option Value} {base : Heap} {ga : Str → Addr} {xn : Str → Str}
variable {G : Gs} {C : Ct} {hot : Bool × Bool} {rp : Bool} {n : Nat} {N : List Str} {sc : Scope} {fnc : Str → Bool} {E : XK} {X : Cx}

/-! ### freezing -/
section
variable {H : Hp}
def FrzOk (K : PySem.W.Frag) (ga : Str → Addr) (H : Hp) (f : MHeap → MV → Option (MV × MHeap)) : Prop := ∀ Ω h v x y h', HRel K ga Ω h H → VRel K ga Ω h.length H v x → f h v = some (y, h') →
  ∃ Ω', Ext h.length Ω H Ω' H ∧ HRel K ga Ω' h' H ∧ h'.length = h.length ∧ VRel K ga Ω' h.length H y x
theorem frzL_ok {f : MHeap → MV → Option (MV × MHeap)} (hf : FrzOk K ga H f) : ∀ (xs : List MV) (Ω : Om) (h : MHeap) (ys : List V) (zs : List MV) (h' : MHeap), HRel K ga Ω h H → VRels K ga Ω h.length H xs ys → frzL f h xs = some (zs, h') →
    ∃ Ω', Ext h.length Ω H Ω' H ∧ HRel K ga Ω' h' H ∧ h'.length = h.length ∧ VRels K ga Ω' h.length H zs ys
  | [], Ω, h, ys, zs, h', hr, vx, e => by
    unfold frzL at e
    cases e
    exact ⟨Ω, Ext.refl _ _ _, hr, rfl, vx⟩
  | x :: xs, Ω, h, ys, zs, h', hr, vx, e => by
    unfold frzL at e
    unfold VRels at vx
    obtain ⟨y, ys', rfl, r, t⟩ := vx
    cases q : f h x with
    | none => simp [q] at e
    | some p =>
      obtain ⟨y1, h1⟩ := p
      obtain ⟨Ω1, e1, r1, l1, v1⟩ := hf Ω h x y y1 h1 hr r q
      simp only [q] at e
      cases q2 : frzL f h1 xs with
      | none => simp [q2] at e
      | some p2 =>
        obtain ⟨zs2, h2⟩ := p2
        simp only [q2] at e
        cases e
        have t1 : VRels K ga Ω1 h1.length H xs ys' := by rw [l1]; exact t.ext e1 (Nat.le_refl _)
        obtain ⟨Ω2, e2, r2, l2, v2⟩ := frzL_ok hf xs Ω1 h1 ys' zs2 _ r1 t1 q2
        rw [l1] at e2 l2 v2
        refine ⟨Ω2, e1.trans e2 (Nat.le_refl _), r2, l2, ?_⟩
        unfold VRels
        exact ⟨y, ys', rfl, v1.ext e2 (Nat.le_refl _), v2⟩
theorem frzV_ok : ∀ k : Nat, FrzOk K ga H (frzV k)
  | 0, Ω, h, v, x, y, h', hr, vx, e => by cases e
  | k + 1, Ω, h, v, x, y, h', hr, vx, e => by
    have ih := frzL_ok (frzV_ok k)
    cases v with
    | ref m =>
      obtain ⟨hn, ex⟩ := v_ref.mp vx
      simp only [frzV] at e
      cases z : h[m]? with
      | none => simp [z] at e
      | some o =>
        have ob := hr.obj m o z
        cases o with
        | lst xs =>
          simp only [z] at e
          obtain ⟨ys, r1, r2⟩ := ob
          cases q : frzL (frzV k) (h.set m .dead) xs with
          | none => simp [q] at e
          | some p =>
            obtain ⟨zs, h2⟩ := p
            simp only [q] at e
            cases e
            have e0 := ext_fz Ω (Ω.ρ m) H h.length
            have hl : (h.set m MO.dead).length = h.length := by simp
            obtain ⟨Ω2, e2, r3, l2, v2⟩ := ih xs (Ω.fzAt (Ω.ρ m)) (h.set m .dead) ys zs _ (hr.kill hn) (by rw [hl]; exact r2.ext e0 (Nat.le_refl _)) q
            rw [hl] at e2 l2 v2
            refine ⟨Ω2, e0.trans e2 (Nat.le_refl _), r3, l2, v_lst.mpr ⟨Ω.ρ m, ys, ex, ⟨e2.fz _ (.inr rfl), r1⟩, v2⟩⟩
        | _ => simp [z] at e
    | tup xs =>
      simp only [frzV] at e
      obtain ⟨a, ys, ex, t, q1⟩ := v_tup.mp vx
      cases q : frzL (frzV k) h xs with
      | none => simp [q] at e
      | some p =>
        obtain ⟨zs, h2⟩ := p
        simp only [q] at e
        cases e
        obtain ⟨Ω2, e2, r3, l2, v2⟩ := ih xs Ω h ys zs _ hr q1 q
        exact ⟨Ω2, e2, r3, l2, v_tup.mpr ⟨a, ys, ex, sqt_ext t e2, v2⟩⟩
    | lst xs =>
      simp only [frzV] at e
      obtain ⟨a, ys, ex, t, q1⟩ := v_lst.mp vx
      cases q : frzL (frzV k) h xs with
      | none => simp [q] at e
      | some p =>
        obtain ⟨zs, h2⟩ := p
        simp only [q] at e
        cases e
        obtain ⟨Ω2, e2, r3, l2, v2⟩ := ih xs Ω h ys zs _ hr q1 q
        exact ⟨Ω2, e2, r3, l2, v_lst.mpr ⟨a, ys, ex, t.ext e2, v2⟩⟩
    | _ =>
      simp only [frzV] at e
      cases e
      exact ⟨Ω, Ext.refl _ _ _, hr, rfl, vx⟩
end
section
variable {a b c e o : Expr} {es : List Expr} {ea eb ec : ME} {pos p apos : Pos}
theorem me_frz (h : PE X e (TEm K ga xn E C ea)) : PE X e (TEm K ga xn E C (.frz ea)) := by
  refine PE_imp h ?_
  rintro σ H Q ⟨Ω, σm, hm, hr, sr, p⟩
  unfold evE at p
  refine te_of hr sr (Post.bind p) fun Ω1 H1 v h1 x l1 e1 r1 s1 vx p1 => ?_
  cases q : frzV 40 h1 v with
  | none => simp only [q] at p1; exact p1.elim
  | some z =>
    obtain ⟨y, h2⟩ := z
    simp only [q] at p1
    obtain ⟨Ω2, e2, r2, l2, v2⟩ := frzV_ok 40 Ω1 h1 v x y h2 r1 vx q
    exact p1 Ω2 H1 (Nat.le_of_eq l2.symm) e2 r2 x (by rw [l2]; exact v2)

/-! ### more new lists -/
theorem mo_none : PO X none (TOm K ga xn E C .nil) := by
  refine ⟨fun pins s σ H Q I h => ?_⟩
  obtain ⟨Ω, σm, hm, hr, sr, p⟩ := h
  unfold evO at p
  exact po_none.run pins s σ H Q I (p.here hr)
theorem mo_some (h : PE X e (TEm K ga xn E C ea)) : PO X (some e) (TOm K ga xn E C (.cons ea .nil)) := by
  refine ⟨fun pins s σ H Q I q => (po_some h).run pins s σ H Q I ?_⟩
  obtain ⟨Ω, σm, hm, hr, sr, p⟩ := q
  unfold evO at p
  refine te_of hr sr (Post.bind p) fun Ω1 H1 v h1 x l1 e1 r1 s1 vx p1 => ?_
  cases v with
  | int i => exact ⟨i, v_int.mp vx, p1.here r1⟩
  | _ => exact p1.elim
theorem mf_fs {lo hi : Option Expr} {el eh : ME} {p2 : Pos} (co : CO P w K mg base hot n N sc fnc E X) (ha : PE X a (TEm K ga xn E C ea)) (hl : PO X lo (TOm K ga xn E C el)) (hh : PO X hi (TOm K ga xn E C eh)) :
    PE X (.Subscript a (.Slice lo hi none p2) pos) (TFm K ga xn E C (.fs ea el eh)) := by
  refine PE_imp (pe_slice sl_list ha hl hh) ?_
  rintro σ H Q ⟨Ω, σm, hm, hr, sr, p⟩
  unfold evF at p
  refine te_of hr sr (Post.bind p) fun Ω1 H1 v h1 x l1 e1 r1 s1 vx p1 => ?_
  refine to_of r1 s1 (Post.bind p1) fun Ω2 H2 l h2 l2 e2 r2 s2 p2 => ?_
  refine to_of r2 s2 (Post.bind p2) fun Ω3 H3 u h3 l3 e3 r3 s3 p3 => ?_
  have vx3 := vx.ext (e2.trans e3 l2) (Nat.le_trans l2 l3)
  cases q : lstOf h3 v with
  | none => simp only [q] at p3; exact p3.elim
  | some xs =>
    simp only [q] at p3
    obtain ⟨a', ys, ex, t, r⟩ := lst_rel r3 vx3 q
    rw [co.pK]
    exact ⟨a', ys, ex, t, lay r3 (cut_rel r) p3⟩
/-- t[i:], a tuple -/
theorem me_tsl {lo : Expr} {el : ME} {p2 : Pos} (co : CO P w K mg base hot n N sc fnc E X) (ha : PE X a (TEm K ga xn E C ea)) (hl : PE X lo (TEm K ga xn E C el)) :
    PE X (.Subscript a (.Slice (some lo) none none p2) pos) (TEm K ga xn E C (.x2 .tsl ea el)) := by
  refine PE_imp (pe_slice sl_tup ha (mo_some hl) (mo_none (K := K) (ga := ga) (xn := xn) (E := E) (C := C))) ?_
  rintro σ H Q ⟨Ω, σm, hm, hr, sr, p⟩
  have e : evE C (.x2 .tsl ea el) σm hm = (evE C ea σm hm).bind fun x h1 => (evO C (.cons el .nil) σm h1).bind fun l h2 => (evO C .nil σm h2).bind fun u h3 => match x, l with
      | .tup xs, some i => if 0 < i ∧ 0 < xs.length then .ok (.tup (cutM xs l u)) h3 else .bad
      | _, _ => .bad := by
    rw [evE]
    congr 1
    funext x h1
    rw [show x2P .tsl x h1 = true from rfl, if_pos rfl, evO]
    cases evE C el σm h1 with
    | ok y h2 => cases y <;> cases x <;> rfl
    | exc c v h => rfl
    | bad => rfl
  rw [e] at p
  refine te_of hr sr (Post.bind p) fun Ω1 H1 v h1 x l1 e1 r1 s1 vx p1 => ?_
  refine to_of r1 s1 (Post.bind p1) fun Ω2 H2 l h2 l2 e2 r2 s2 p2 => ?_
  refine to_of r2 s2 (Post.bind p2) fun Ω3 H3 u h3 l3 e3 r3 s3 p3 => ?_
  have vx3 := vx.ext (e2.trans e3 l2) (Nat.le_trans l2 l3)
  cases v with
  | tup xs =>
    cases l with
    | none => exact p3.elim
    | some i =>
      simp only at p3
      split at p3
      · rename_i hz
        obtain ⟨a', ys, ex, t, r⟩ := v_tup.mp vx3
        have hl' := vs_len r
        rw [co.pK]
        refine ⟨a', ys, ex, t, fun hh => ?_, fun q hq => ?_⟩
        · have h0 := hh.1
          unfold HT.sIx at h0
          simp only at h0
          split at h0 <;> omega
        · have ex2 := ext_new (o := .tup (cutV ys (some i) u)) r3 hq
          exact p3 Ω3 _ (Nat.le_refl _) ex2 (r3.new hq) _ (v_tup.mpr ⟨q, _, rfl, SqT.of upd_same, (cut_rel r).ext ex2 (Nat.le_refl _)⟩)
      · exact p3.elim
  | _ => exact p3.elim
theorem mf_fca (ha : PE X a (TEm K ga xn E C ea)) (hb : PE X b (TEm K ga xn E C eb)) : PE X (.BinOp a .Add b pos) (TFm K ga xn E C (.fca ea eb)) := by
  refine PE_imp (pe_op op_cat ha hb) ?_
  rintro σ H Q ⟨Ω, σm, hm, hr, sr, p⟩
  unfold evF at p
  refine te_of hr sr (Post.bind p) fun Ω1 H1 v h1 x l1 e1 r1 s1 vx p1 => ?_
  refine te_of r1 s1 (Post.bind p1) fun Ω2 H2 u h2 y l2 e2 r2 s2 vy p2 => ?_
  split at p2
  · rename_i xs ys q1 q2
    split at p2
    · rename_i hz
      obtain ⟨a1, ys1, ex1, t1, rr1⟩ := ml_rel r2 (vx.ext e2 l2) q1
      obtain ⟨a2, ys2, ex2, t2, rr2⟩ := ml_rel r2 vy q2
      have n1 := vs_len rr1
      have n2 := vs_len rr2
      exact ⟨a1, a2, ys1, ys2, ex1, ex2, t1, t2, by omega, lay r2 (vrels_iff.mpr (pr_app (vrels_iff.mp rr1) (vrels_iff.mp rr2))) p2⟩
    · exact p2.elim
  · exact p2.elim
theorem mf_fre (ha : PE X a (TEm K ga xn E C ea)) (hb : PE X b (TEm K ga xn E C eb)) : PE X (.BinOp a .Mult b pos) (TFm K ga xn E C (.fre ea eb)) := by
  refine PE_imp (pe_op op_rep ha hb) ?_
  rintro σ H Q ⟨Ω, σm, hm, hr, sr, p⟩
  unfold evF at p
  refine te_of hr sr (Post.bind p) fun Ω1 H1 v h1 x l1 e1 r1 s1 vx p1 => ?_
  refine te_of r1 s1 (Post.bind p1) fun Ω2 H2 u h2 y l2 e2 r2 s2 vy p2 => ?_
  split at p2
  · rename_i xs k q1
    split at p2
    · rename_i hz
      obtain ⟨a1, ys1, ex1, t1, rr1⟩ := ml_rel r2 (vx.ext e2 l2) q1
      have n1 := vs_len rr1
      rw [v_int] at vy
      exact ⟨a1, k, ys1, ex1, vy, t1, hz.1.1, hz.1.2, by rw [← n1]; exact hz.2, lay r2 (vrels_iff.mpr (pr_rep (vrels_iff.mp rr1) _)) p2⟩
    · exact p2.elim
  · exact p2.elim

/-! ### calls of one's own -/
theorem me_call0 {f : Str} (co : CO P w K mg base (false, rp) n N sc fnc E X) (gf : GF P w K mg base ga xn G C n) (hf : f ∈ G.fns) (hg : sc.names.lookup f = some .globalImplicit) (h1 : (f == ("__debug__" : Str)) = false) :
    PE X (.Call (.Name f p) [] [] pos) (TEm K ga xn E C (.call f .nil)) := by
  obtain ⟨a, fd, ps, F, hm, hk, hb⟩ := gf.fns f hf
  have ps0 := co.pass
  have rm := co.room rfl
  obtain ⟨pP, pw, pK, pm, pb, pN, pc, _, _, _, _, _, _, _⟩ := co
  subst pP pw pK pm pb
  refine PE_imp (pe_call0 F rm (by show X.env.scope.names.lookup f = _; rw [pc]; exact hg) hm hk hb .nil ps0 h1) ?_
  rintro σ H Q ⟨Ω, σm, hm, hr, sr, p⟩
  unfold evE at p
  unfold evL at p
  exact ⟨Ω, hm, [], hr, by unfold VRels; rfl, p⟩
theorem me_call {f : Str} (co : CO P w K mg base (false, rp) n N sc fnc E X) (gf : GF P w K mg base ga xn G C n) (hf : f ∈ G.fns) (hg : sc.names.lookup f = some .globalImplicit) (h1 : (f == ("__debug__" : Str)) = false)
    (ha : PA X (a :: es) (TLm K ga xn E C ea)) (hs : (a :: es).all notStar = true) : PE X (.Call (.Name f p) (a :: es) [] pos) (TEm K ga xn E C (.call f ea)) := by
  obtain ⟨ad, fd, ps, F, hm, hk, hb⟩ := gf.fns f hf
  have ps0 := co.pass
  have rm := co.room rfl
  obtain ⟨pP, pw, pK, pm, pb, pN, pc, _, _, _, _, _, _, _⟩ := co
  subst pP pw pK pm pb
  rw [List.all_cons, Bool.and_eq_true] at hs
  refine PE_imp (pe_call F rm (by show X.env.scope.names.lookup f = _; rw [pc]; exact hg) hm hk hb .nil ps0 ha h1 (star_one hs.1) (star_any hs.2)) ?_
  rintro σ H Q ⟨Ω, σm, hm, hr, sr, p⟩
  unfold evE at p
  refine tl_of hr sr (Post.bind p) fun Ω1 H1 vs h1 xs l1 e1 r1 s1 vxs p1 => ?_
  rw [List.append_nil]
  exact ⟨Ω1, h1, vs, r1, vxs, p1⟩
/-- the tree of a method's call -/
theorem meth_tree {m : Str} {args : List Expr} {env : Env} (hb : attributeBase o m env (eval o env) = eval o env) (hs : args.all notStar = true) (hl : args.length < 30) (hline : (apos.endLine == pos.line) = true) :
    eval (.Call (.Attribute o m apos) args [] pos) env = (do
      let ov ← eval o env
      standAt apos.atName
      let (f, first) ← holding [ov] (getMethod ov m (do return (← importBound o env).getD true))
      callWith pos f first (backTo pos (starEach args env)) (backToKw pos (keywordEach [] env))) := by
  have hf : methodCallForm (args.length + ([] : List Keyword).length) (backTo pos (starEach args env)) (backToKw pos (keywordEach [] env)) = true := by
    unfold methodCallForm
    rw [star_all hs]
    show (true && true && decide (args.length + 0 + 0 < 30)) = true
    rw [decide_eq_true (by omega)]
    rfl
  show (do
    let ov ← attributeBase o m env (eval o env)
    standAt apos.atName
    methodCall o m apos pos env ov (args.length + ([] : List Keyword).length) (backTo pos (starEach args env)) (backToKw pos (keywordEach [] env))) = _
  rw [hb]
  unfold methodCall calleeOf methodCallPos
  rw [hf]
  simp only [hline, if_true, Bool.or_true]
  rfl
theorem lk_none {Ω : Om} {L : Nat} {H : Hp} {fs : List (Str × MV)} {ys : List (Str × V)} (h : FRel K ga Ω L H fs ys) (m : Str) (e : fs.lookup m = none) : ys.lookup m = none := by
  induction h with
  | nil => rfl
  | @cons p q fs ys r t ih =>
    obtain ⟨f, v⟩ := p
    obtain ⟨g, x⟩ := q
    obtain rfl : f = g := r.1
    rw [List.lookup_cons] at e ⊢
    cases z : m == f with
    | true => simp [z] at e
    | false => simp only [z] at e ⊢; exact ih e
theorem lk_some {Ω : Om} {L : Nat} {H : Hp} {fs : List (Str × MV)} {ys : List (Str × V)} (h : FRel K ga Ω L H fs ys) {m : Str} {v : MV} (e : fs.lookup m = some v) : ∃ x, ys.lookup m = some x ∧ VRel K ga Ω L H v x := by
  induction h with
  | nil => cases e
  | @cons p q fs ys r t ih =>
    obtain ⟨f, u⟩ := p
    obtain ⟨g, x⟩ := q
    obtain rfl : f = g := r.1
    rw [List.lookup_cons] at e ⊢
    cases z : m == f with
    | true => simp only [z] at e ⊢; cases e; exact ⟨x, rfl, r.2⟩
    | false => simp only [z] at e ⊢; exact ih e
theorem me_mth0 {c m f : Str} (co : CO P w K mg base (false, rp) n N sc fnc E X) (gf : GF P w K mg base ga xn G C n) (hf : (c, m, f) ∈ G.mes) (ho : PE X o (TEm K ga xn E C eb)) (hc : notCall o = true) (hline : (apos.endLine == pos.line) = true) :
    PE X (.Call (.Attribute o m apos) [] [] pos) (TEm K ga xn E C (.mth eb c m f .nil)) := by
  obtain ⟨ad, fd, ps, F, hcl, hm, hb⟩ := gf.mes c m f hf
  have ps0 := co.pass
  have rm := co.room rfl
  obtain ⟨pP, pw, pK, pm, pb, pN, pc, _, _, _, _, _, _, _⟩ := co
  subst pP pw pK pm pb
  have tree := meth_tree (o := o) (m := m) (apos := apos) (pos := pos) (args := []) (env := X.env) (attr_plain hc) rfl (by decide) hline
  refine PE_imp (pe_meth0 ho hcl hm F rm hb .nil ps0 tree) ?_
  rintro σ H Q ⟨Ω, σm, hm, hr, sr, p⟩
  unfold evE at p
  refine te_of hr sr (Post.bind p) fun Ω1 H1 v h1 x l1 e1 r1 s1 vx p1 => ?_
  cases v with
  | ref k =>
    obtain ⟨hn, ex⟩ := v_ref.mp vx
    cases z : h1[k]? with
    | none => simp only [z] at p1; exact p1.elim
    | some ob =>
      have or_ := r1.obj k ob z
      cases ob with
      | ins c' fs =>
        simp only [z] at p1
        split at p1
        · rename_i hcf
          obtain ⟨rfl, hnone⟩ := hcf
          obtain ⟨dx, ys, q1, q2⟩ := or_
          refine ⟨_, dx, ys, ex, q1, lk_none q2 m hnone, ?_⟩
          unfold evL at p1
          exact ⟨Ω1, h1, [.ref k], r1, by unfold VRels; exact ⟨x, [], rfl, vx, by unfold VRels; rfl⟩, p1⟩
        · exact p1.elim
      | _ => simp only [z] at p1; exact p1.elim
  | _ => exact p1.elim
theorem me_mth {c m f : Str} (co : CO P w K mg base (false, rp) n N sc fnc E X) (gf : GF P w K mg base ga xn G C n) (hf : (c, m, f) ∈ G.mes) (ho : PE X o (TEm K ga xn E C eb)) (ha : PA X (a :: es) (TLm K ga xn E C ea)) (hs : (a :: es).all notStar = true) (hl : (a :: es).length < 30)
    (hc : notCall o = true) (hline : (apos.endLine == pos.line) = true) : PE X (.Call (.Attribute o m apos) (a :: es) [] pos) (TEm K ga xn E C (.mth eb c m f ea)) := by
  obtain ⟨ad, fd, ps, F, hcl, hm, hb⟩ := gf.mes c m f hf
  have ps0 := co.pass
  have rm := co.room rfl
  obtain ⟨pP, pw, pK, pm, pb, pN, pc, _, _, _, _, _, _, _⟩ := co
  subst pP pw pK pm pb
  have tree := meth_tree (o := o) (m := m) (apos := apos) (pos := pos) (args := a :: es) (env := X.env) (attr_plain hc) hs hl hline
  rw [List.all_cons, Bool.and_eq_true] at hs
  refine PE_imp (pe_meth ho hcl hm F rm hb .nil ps0 ha (star_one hs.1) (star_any hs.2) tree) ?_
  rintro σ H Q ⟨Ω, σm, hm, hr, sr, p⟩
  unfold evE at p
  refine te_of hr sr (Post.bind p) fun Ω1 H1 v h1 x l1 e1 r1 s1 vx p1 => ?_
  cases v with
  | ref k =>
    obtain ⟨hn, ex⟩ := v_ref.mp vx
    cases z : h1[k]? with
    | none => simp only [z] at p1; exact p1.elim
    | some ob =>
      have or_ := r1.obj k ob z
      cases ob with
      | ins c' fs =>
        simp only [z] at p1
        split at p1
        · rename_i hcf
          obtain ⟨rfl, hnone⟩ := hcf
          obtain ⟨dx, ys, q1, q2⟩ := or_
          refine ⟨_, dx, ys, ex, q1, lk_none q2 m hnone, ?_⟩
          refine tl_of r1 s1 (Post.bind p1) fun Ω2 H2 vs h2 xs l2 e2 r2 s2 vxs p2 => ?_
          rw [List.append_nil]
          exact ⟨Ω2, h2, .ref k :: vs, r2, by unfold VRels; exact ⟨x, xs, rfl, vx.ext e2 l2, vxs⟩, p2⟩
        · exact p1.elim
      | _ => simp only [z] at p1; exact p1.elim
  | _ => exact p1.elim
theorem me_fld {f : Str} (co : CO P w K mg base hot n N sc fnc E X) (gf : GF P w K mg base ga xn G C n) (ho : PE X o (TEm K ga xn E C eb)) (hc : notCall o = true) : PE X (.Attribute o f pos) (TEm K ga xn E C (.fld eb f)) := by
  refine PE_imp (pe_fld ho (attr_plain hc)) ?_
  rintro σ H Q ⟨Ω, σm, hm, hr, sr, p⟩
  rw [co.pK]
  unfold evE at p
  refine te_of hr sr (Post.bind p) fun Ω1 H1 v h1 x l1 e1 r1 s1 vx p1 => ?_
  cases v with
  | ref k =>
    obtain ⟨hn, ex⟩ := v_ref.mp vx
    cases z : h1[k]? with
    | none => simp only [z] at p1; exact p1.elim
    | some ob =>
      have or_ := r1.obj k ob z
      cases ob with
      | ins c' fs =>
        simp only [z] at p1
        split at p1
        · rename_i hcf
          obtain ⟨dx, ys, q1, q2⟩ := or_
          obtain ⟨c1, c2⟩ := gf.na c' f hcf
          cases y : fs.lookup f with
          | none => rw [y] at p1; exact False.elim p1
          | some u =>
            rw [y] at p1
            obtain ⟨x', hx', vx'⟩ := lk_some q2 y
            exact ⟨_, _, dx, ys, x', ex, q1, c1, c2, hx', Post.here (show Post K ga xn E h1.length Ω1 H1 (.ok u h1) _ from p1) r1 _ vx'⟩
        · exact p1.elim
      | _ => simp only [z] at p1; exact p1.elim
  | _ => exact p1.elim
/-- C(..): a new instance, then its __init__ -/
theorem made {ci : List MV → MHeap → Rs MV} {c : Str} {Ω : Om} {H : Hp} {h : MHeap} {vs : List MV} {xs : List V} {Q : VK} (hr : HRel K ga Ω h H) (vx : VRels K ga Ω h.length H vs xs)
    (p : Post K ga xn E h.length Ω H ((ci (.ref h.length :: vs) (h ++ [.ins c []])).bind fun v h2 => match v with
      | .non => .ok (.ref h.length) h2
      | _ => .bad) (Kv K ga Q)) :
    ∀ x dx, H x = none → H dx = none → dx ≠ x → spM K ga xn ci (.ref x :: (xs ++ [])) (upd (upd H dx (.own x)) x (.ins (ga c) dx [])) (fun v H2 => v = .non ∧ Q (.ref x) H2) E := fun x dx hx hd hne => by
  rw [List.append_nil]
  have e1 := ext_new (o := .own x) hr hd
  have r1 := hr.new (o := .own x) hd
  have hx1 : upd H dx (.own x) x = none := by rw [upd_ne (Ne.symm hne)]; exact hx
  have e2 := ext_new (o := .ins (ga c) dx []) r1 hx1
  have r2 := r1.new (o := .ins (ga c) dx []) hx1
  have fr : Free Ω h.length x := hr.free hx
  have e3 := ext_put Ω x (upd (upd H dx (.own x)) x (.ins (ga c) dx [])) h.length
  have r3 := r2.snoc (o := .ins c []) fr ⟨dx, [], upd_same, .nil⟩
  have e := (e1.trans e2 (Nat.le_refl _)).trans e3 (Nat.le_refl _)
  have hl : (h ++ [MO.ins c []]).length = h.length + 1 := by simp
  have hv : VRel K ga (Ω.put h.length x) (h ++ [MO.ins c []]).length (upd (upd H dx (.own x)) x (.ins (ga c) dx [])) (.ref h.length) (.ref x) :=
    v_ref.mpr ⟨by omega, by show V.ref x = .ref (if h.length = h.length then x else _); rw [if_pos rfl]⟩
  refine ⟨_, h ++ [.ins c []], .ref h.length :: vs, r3, ?_, ?_⟩
  · unfold VRels
    exact ⟨_, _, rfl, hv, vx.ext e (by omega)⟩
  · revert p
    cases ci (.ref h.length :: vs) (h ++ [.ins c []]) with
    | bad => exact fun p => p
    | exc cc v h2 => exact fun p Ω' H' d x' l1 x1 k1 k2 k3 => p Ω' H' d x' (by omega) (e.trans x1 (by omega)) k1 k2 k3
    | ok v h2 =>
      intro p Ω' H' l1 x1 k1 y vy
      cases v with
      | non =>
        refine ⟨v_non.mp vy, ?_⟩
        exact p Ω' H' (by omega) (e.trans x1 (by omega)) k1 _ (hv.ext x1 l1)
      | _ => exact False.elim p
theorem me_new0 {c : Str} (co : CO P w K mg base (false, rp) n N sc fnc E X) (gf : GF P w K mg base ga xn G C n) (hf : c ∈ G.nws) (hg : sc.names.lookup c = some .globalImplicit) (h1 : (c == ("__debug__" : Str)) = false) :
    PE X (.Call (.Name c p) [] [] pos) (TEm K ga xn E C (.new c .nil)) := by
  cases hk : C.mks with
  | false =>
    refine PE_bad ?_
    rintro σ H Q ⟨Ω, σm, hm, hr, sr, p⟩
    unfold evE at p
    rw [if_pos hk] at p
    exact p
  | true =>
    obtain ⟨k, a, fd, ps, hle, F, M, hm, hb⟩ := gf.nws c hf hk
    have ps0 := co.pass
    have rm := co.room rfl
    obtain ⟨pP, pw, pK, pm, pb, pN, pc, _, _, _, _, _, _, _⟩ := co
    subst pP pw pK pm pb
    refine PE_imp (pe_make0 M F (rm.mono hle) (by show X.env.scope.names.lookup c = _; rw [pc]; exact hg) hm hb .nil ps0 h1) ?_
    rintro σ H Q ⟨Ω, σm, hm, hr, sr, p⟩
    unfold evE at p
    rw [if_neg (by rw [hk]; exact Bool.false_ne_true.symm)] at p
    unfold evL at p
    exact made hr (by unfold VRels; rfl) p
theorem me_new {c : Str} (co : CO P w K mg base (false, rp) n N sc fnc E X) (gf : GF P w K mg base ga xn G C n) (hf : c ∈ G.nws) (hg : sc.names.lookup c = some .globalImplicit) (h1 : (c == ("__debug__" : Str)) = false)
    (ha : PA X (a :: es) (TLm K ga xn E C ea)) (hs : (a :: es).all notStar = true) : PE X (.Call (.Name c p) (a :: es) [] pos) (TEm K ga xn E C (.new c ea)) := by
  cases hk : C.mks with
  | false =>
    refine PE_bad ?_
    rintro σ H Q ⟨Ω, σm, hm, hr, sr, p⟩
    unfold evE at p
    rw [if_pos hk] at p
    exact p
  | true =>
    obtain ⟨k, ad, fd, ps, hle, F, M, hm, hb⟩ := gf.nws c hf hk
    have ps0 := co.pass
    have rm := co.room rfl
    obtain ⟨pP, pw, pK, pm, pb, pN, pc, _, _, _, _, _, _, _⟩ := co
    subst pP pw pK pm pb
    rw [List.all_cons, Bool.and_eq_true] at hs
    refine PE_imp (pe_make M F (rm.mono hle) (by show X.env.scope.names.lookup c = _; rw [pc]; exact hg) hm hb .nil ps0 ha h1 (star_one hs.1) (star_any hs.2)) ?_
    rintro σ H Q ⟨Ω, σm, hm, hr, sr, p⟩
    unfold evE at p
    rw [if_neg (by rw [hk]; exact Bool.false_ne_true.symm)] at p
    refine tl_of hr sr (Post.bind p) fun Ω1 H1 vs h1 xs l1 e1 r1 s1 vxs p1 => ?_
    exact made r1 vxs p1
end
end Mn
namespace Mn
open PySem PySem.Spec PyProof.Rows L2
variable {P : Program} {w : World} {K : PySem.W.Frag} {mg : Str → Option Value} {base : Heap} {ga : Str → Addr} {xn : Str → Str}
variable {G : Gs} {C : Ct} {hot : Bool × Bool} {rp : Bool} {n : Nat} {N : List Str} {sc : Scope} {fnc : Str → Bool} {E : XK} {X : Cx}

/-! ### built-in calls -/
def rBf (K : PySem.W.Frag) (ga : Str → Addr) (xn : Str → Str) (E : XK) (k : Bf) : List V → Hp → VK → Prop := fun xs H Q => ∃ Ω h vs, HRel K ga Ω h H ∧ VRels K ga Ω h.length H vs xs ∧ Post K ga xn E h.length Ω H (bfV k vs h) (Kv K ga Q)
section
variable {Ω : Om} {H : Hp} {L : Nat} {xs : List V}
theorem vs_one {v : MV} (h : VRels K ga Ω L H [v] xs) : ∃ x, xs = [x] ∧ VRel K ga Ω L H v x := by
  unfold VRels at h
  obtain ⟨y, ys, rfl, r, t⟩ := h
  unfold VRels at t
  subst t
  exact ⟨y, rfl, r⟩
theorem vs_two {v u : MV} (h : VRels K ga Ω L H [v, u] xs) : ∃ x y, xs = [x, y] ∧ VRel K ga Ω L H v x ∧ VRel K ga Ω L H u y := by
  unfold VRels at h
  obtain ⟨y, ys, rfl, r, t⟩ := h
  obtain ⟨z, rfl, q⟩ := vs_one t
  exact ⟨y, z, rfl, r, q⟩
theorem vs_nil (h : VRels K ga Ω L H [] xs) : xs = [] := by
  unfold VRels at h
  exact h
end
theorem foldmax : ∀ (xs : List Int) (a : Int), a ≤ xs.foldl max a ∧ (∀ y ∈ xs, y ≤ xs.foldl max a) ∧ (xs.foldl max a = a ∨ xs.foldl max a ∈ xs)
  | [], a => ⟨Int.le_refl _, (fun y h => by cases h), .inl rfl⟩
  | x :: xs, a => by
    obtain ⟨h1, h2, h3⟩ := foldmax xs (max a x)
    rw [List.foldl_cons]
    refine ⟨by omega, fun y hy => ?_, ?_⟩
    · rcases List.mem_cons.mp hy with rfl | hy
      · omega
      · exact h2 y hy
    · rcases h3 with h3 | h3
      · rw [h3]
        by_cases z : a ≤ x
        · right; rw [Int.max_eq_right z]; exact List.mem_cons_self
        · left; exact Int.max_eq_left (by omega)
      · right; exact List.mem_cons_of_mem _ h3
theorem foldmin : ∀ (xs : List Int) (a : Int), xs.foldl min a ≤ a ∧ (∀ y ∈ xs, xs.foldl min a ≤ y) ∧ (xs.foldl min a = a ∨ xs.foldl min a ∈ xs)
  | [], a => ⟨Int.le_refl _, (fun y h => by cases h), .inl rfl⟩
  | x :: xs, a => by
    obtain ⟨h1, h2, h3⟩ := foldmin xs (min a x)
    rw [List.foldl_cons]
    refine ⟨by omega, fun y hy => ?_, ?_⟩
    · rcases List.mem_cons.mp hy with rfl | hy
      · omega
      · exact h2 y hy
    · rcases h3 with h3 | h3
      · rw [h3]
        by_cases z : a ≤ x
        · left; exact Int.min_eq_left z
        · right; rw [Int.min_eq_right (by omega)]; exact List.mem_cons_self
      · right; exact List.mem_cons_of_mem _ h3
theorem maxI_is {ns : List Int} {m : Int} (hm : m ∈ ns) (hu : ∀ y ∈ ns, y ≤ m) : m = maxI ns := by
  cases ns with
  | nil => cases hm
  | cons x xs =>
    show m = xs.foldl max x
    obtain ⟨h1, h2, h3⟩ := foldmax xs x
    have a : xs.foldl max x ≤ m := by
      rcases h3 with h3 | h3
      · rw [h3]; exact hu x List.mem_cons_self
      · exact hu _ (List.mem_cons_of_mem _ h3)
    have b : m ≤ xs.foldl max x := by
      rcases List.mem_cons.mp hm with rfl | hm
      · exact h1
      · exact h2 m hm
    omega
theorem minI_is {ns : List Int} {m : Int} (hm : m ∈ ns) (hu : ∀ y ∈ ns, m ≤ y) : m = minI ns := by
  cases ns with
  | nil => cases hm
  | cons x xs =>
    show m = xs.foldl min x
    obtain ⟨h1, h2, h3⟩ := foldmin xs x
    have a : m ≤ xs.foldl min x := by
      rcases h3 with h3 | h3
      · rw [h3]; exact hu x List.mem_cons_self
      · exact hu _ (List.mem_cons_of_mem _ h3)
    have b : xs.foldl min x ≤ m := by
      rcases List.mem_cons.mp hm with rfl | hm
      · exact h1
      · exact h2 m hm
    omega
theorem bf_len (hK : X.K = K) : CallR X (.builtin "len") (rBf K ga xn E .len) := by
  rintro pins s σ H xs us Q I r ⟨Ω, h, vs, hr, vl, p⟩
  subst hK
  unfold bfV at p
  simp only at p
  split at p
  · split at p
    · rename_i hz
      obtain ⟨x, rfl, vx⟩ := vs_one vl
      rw [v_str] at vx
      exact call_len pins s σ H _ us Q I r ⟨_, _, rfl, by subst vx; exact ⟨hz, rfl⟩, p.here hr _ (v_int.mpr rfl)⟩
    · exact p.elim
  · rename_i v _
    obtain ⟨x, rfl, vx⟩ := vs_one vl
    cases q : seqOf h v with
    | some zs =>
      simp only [q] at p
      obtain ⟨a, ys, rfl, t, t2⟩ := seq_rel hr vx q
      refine call_len_seq pins s σ H _ us Q I r ⟨a, ys, rfl, t, ?_⟩
      rw [← vs_len t2]
      exact p.here hr _ (v_int.mpr rfl)
    | none =>
      simp only [q] at p
      cases q2 : dctOf h v with
      | none => simp only [q2] at p; exact p.elim
      | some kvs =>
        simp only [q2] at p
        obtain ⟨a, ys, rfl, t, t2⟩ := dct_rel hr vx q2
        refine call_lenD pins s σ H _ us Q I r ⟨a, ys, rfl, t, ?_⟩
        rw [← t2.length]
        exact p.here hr _ (v_int.mpr rfl)
  · exact p.elim
theorem bf_int : CallR X (.type "int") (rBf K ga xn E .int) := by
  rintro pins s σ H xs us Q I r ⟨Ω, h, vs, hr, vl, p⟩
  unfold bfV at p
  simp only at p
  split at p
  · obtain ⟨x, rfl, vx⟩ := vs_one vl
    rw [v_int] at vx
    subst vx
    exact call_int1 pins s σ H _ us Q I r (.inl ⟨_, rfl, p.here hr _ (v_int.mpr rfl)⟩)
  · obtain ⟨x, rfl, vx⟩ := vs_one vl
    rw [v_bl] at vx
    subst vx
    exact call_int1 pins s σ H _ us Q I r (.inr ⟨_, rfl, p.here hr _ (v_int.mpr rfl)⟩)
  · exact p.elim
theorem bf_abs : CallR X (.builtin "abs") (rBf K ga xn E .abs) := by
  rintro pins s σ H xs us Q I r ⟨Ω, h, vs, hr, vl, p⟩
  unfold bfV at p
  simp only at p
  split at p
  · obtain ⟨x, rfl, vx⟩ := vs_one vl
    rw [v_int] at vx
    subst vx
    exact call_abs pins s σ H _ us Q I r ⟨_, rfl, p.here hr _ (v_int.mpr rfl)⟩
  · exact p.elim
theorem bf_max2 (hc : X.calm = true) : CallR X (.builtin "max") (rBf K ga xn E .max2) := by
  rintro pins s σ H xs us Q I r ⟨Ω, h, vs, hr, vl, p⟩
  unfold bfV at p
  simp only at p
  split at p
  · obtain ⟨x, y, rfl, vx, vy⟩ := vs_two vl
    rw [v_int] at vx vy
    subst vx vy
    exact call_max2 hc pins s σ H _ us Q I r ⟨_, _, rfl, p.here hr _ (v_int.mpr rfl)⟩
  · exact p.elim
theorem bf_min2 (hc : X.calm = true) : CallR X (.builtin "min") (rBf K ga xn E .min2) := by
  rintro pins s σ H xs us Q I r ⟨Ω, h, vs, hr, vl, p⟩
  unfold bfV at p
  simp only at p
  split at p
  · obtain ⟨x, y, rfl, vx, vy⟩ := vs_two vl
    rw [v_int] at vx vy
    subst vx vy
    exact call_min2 hc pins s σ H _ us Q I r ⟨_, _, rfl, p.here hr _ (v_int.mpr rfl)⟩
  · exact p.elim
theorem bf_str : CallR X (.type "str") (rBf K ga xn E .str) := by
  rintro pins s σ H xs us Q I r ⟨Ω, h, vs, hr, vl, p⟩
  unfold bfV at p
  simp only at p
  split at p
  · split at p
    · rename_i hz
      obtain ⟨x, rfl, vx⟩ := vs_one vl
      rw [v_int] at vx
      subst vx
      exact call_str_int pins s σ H _ us Q I r ⟨_, rfl, hz, p.here hr _ (v_str.mpr rfl)⟩
    · exact p.elim
  · exact p.elim
  · exact p.elim
/-- a list of ints, read -/
theorem ints_of {Ω : Om} {H : Hp} {h : MHeap} {v : MV} {x : V} {zs : List MV} {ns : List Int} (hr : HRel K ga Ω h H) (vx : VRel K ga Ω h.length H v x) (q : lstOf h v = some zs) (q2 : intsM zs = some ns) : ∃ a, x = .ref a ∧ SqL K H a (ns.map V.int) := by
  obtain ⟨a, ys, e, t, t2⟩ := lst_rel hr vx q
  rw [vs_ints t2 q2] at t
  exact ⟨a, e, t⟩
theorem bf_sum (hK : X.K = K) (hc : X.calm = true) : CallR X (.builtin "sum") (rBf K ga xn E .sum) := by
  rintro pins s σ H xs us Q I r ⟨Ω, h, vs, hr, vl, p⟩
  subst hK
  unfold bfV at p
  simp only at p
  split at p
  · obtain ⟨x, rfl, vx⟩ := vs_one vl
    split at p
    · rename_i zs q
      split at p
      · rename_i ns q2
        obtain ⟨a, rfl, t⟩ := ints_of hr vx q q2
        exact cr_sum hc pins s σ H _ us Q I r ⟨a, ns, rfl, t, p.here hr _ (v_int.mpr rfl)⟩
      · exact p.elim
    · exact p.elim
  · exact p.elim
theorem bf_maxL (hK : X.K = K) (hc : X.calm = true) : CallR X (.builtin "max") (rBf K ga xn E .maxL) := by
  rintro pins s σ H xs us Q I r ⟨Ω, h, vs, hr, vl, p⟩
  subst hK
  unfold bfV at p
  simp only at p
  split at p
  · obtain ⟨x, rfl, vx⟩ := vs_one vl
    split at p
    · rename_i zs q
      split at p
      · rename_i ns q2
        split at p
        · rename_i hz
          obtain ⟨a, rfl, t⟩ := ints_of hr vx q q2
          refine cr_max hc pins s σ H _ us Q I r ⟨a, ns, rfl, t, hz, fun m h1 h2 => ?_⟩
          rw [maxI_is h1 h2]
          exact p.here hr _ (v_int.mpr rfl)
        · exact p.elim
      · exact p.elim
    · exact p.elim
  · exact p.elim
theorem bf_minL (hK : X.K = K) (hc : X.calm = true) : CallR X (.builtin "min") (rBf K ga xn E .minL) := by
  rintro pins s σ H xs us Q I r ⟨Ω, h, vs, hr, vl, p⟩
  subst hK
  unfold bfV at p
  simp only at p
  split at p
  · obtain ⟨x, rfl, vx⟩ := vs_one vl
    split at p
    · rename_i zs q
      split at p
      · rename_i ns q2
        split at p
        · rename_i hz
          obtain ⟨a, rfl, t⟩ := ints_of hr vx q q2
          refine cr_min hc pins s σ H _ us Q I r ⟨a, ns, rfl, t, hz, fun m h1 h2 => ?_⟩
          rw [minI_is h1 h2]
          exact p.here hr _ (v_int.mpr rfl)
        · exact p.elim
      · exact p.elim
    · exact p.elim
  · exact p.elim
theorem vs_bls {Ω : Om} {L : Nat} {H : Hp} : ∀ {xs : List MV} {ys : List V} {ns : List Bool}, VRels K ga Ω L H xs ys → blsM xs = some ns → ys = ns.map V.bl
  | [], ys, ns, h, e => by
    unfold VRels at h
    unfold blsM at e
    cases e
    exact h
  | x :: xs, ys, ns, h, e => by
    unfold VRels at h
    obtain ⟨y, ys', rfl, r, t⟩ := h
    cases x with
    | bl i =>
      unfold blsM at e
      cases q : blsM xs with
      | none => rw [q] at e; cases e
      | some ms =>
        rw [q] at e
        cases e
        rw [v_bl.mp r, vs_bls t q]
        rfl
    | _ => unfold blsM at e; cases e
theorem bf_all (hK : X.K = K) (hc : X.calm = true) : CallR X (.builtin "all") (rBf K ga xn E .all) := by
  rintro pins s σ H xs us Q I r ⟨Ω, h, vs, hr, vl, p⟩
  subst hK
  unfold bfV at p
  simp only at p
  split at p
  · obtain ⟨x, rfl, vx⟩ := vs_one vl
    split at p
    · rename_i zs q
      split at p
      · rename_i ns q2
        obtain ⟨a, ys, rfl, t, t2⟩ := lst_rel hr vx q
        rw [vs_bls t2 q2] at t
        exact cr_all hc pins s σ H _ us Q I r ⟨a, ns, rfl, t, p.here hr _ (v_bl.mpr rfl)⟩
      · exact p.elim
    · exact p.elim
  · exact p.elim
theorem bf_any (hK : X.K = K) (hc : X.calm = true) : CallR X (.builtin "any") (rBf K ga xn E .any) := by
  rintro pins s σ H xs us Q I r ⟨Ω, h, vs, hr, vl, p⟩
  subst hK
  unfold bfV at p
  simp only at p
  split at p
  · obtain ⟨x, rfl, vx⟩ := vs_one vl
    split at p
    · rename_i zs q
      split at p
      · rename_i ns q2
        obtain ⟨a, ys, rfl, t, t2⟩ := lst_rel hr vx q
        rw [vs_bls t2 q2] at t
        exact cr_any hc pins s σ H _ us Q I r ⟨a, ns, rfl, t, p.here hr _ (v_bl.mpr rfl)⟩
      · exact p.elim
    · exact p.elim
  · exact p.elim
theorem bf_tuple (hK : X.K = K) : CallR X (.type "tuple") (rBf K ga xn E .tuple) := by
  rintro pins s σ H xs us Q I r ⟨Ω, h, vs, hr, vl, p⟩
  subst hK
  unfold bfV at p
  simp only at p
  split at p
  · obtain ⟨x, rfl, vx⟩ := vs_one vl
    obtain ⟨a, ys, rfl, t, q⟩ := v_tup.mp vx
    exact call_tuple_of pins s σ H _ us Q I r ⟨a, ys, rfl, .inr ⟨t, p.here hr _ vx⟩⟩
  · obtain ⟨x, rfl, vx⟩ := vs_one vl
    split at p
    · rename_i zs q
      obtain ⟨a, ys, rfl, t, q⟩ := lst_rel hr vx q
      refine call_tuple_of pins s σ H _ us Q I r ⟨a, ys, rfl, .inl ⟨t, fun l hl => ?_⟩⟩
      have ex := ext_new (o := .tup ys) hr hl
      exact p Ω _ (Nat.le_refl _) ex (hr.new hl) _ (v_tup.mpr ⟨l, ys, rfl, SqT.of upd_same, q.ext ex (Nat.le_refl _)⟩)
    · exact p.elim
  · exact p.elim
/-! ### isinstance -/
def isTy : Bf → Option String
  | .isInt => some "int"
  | .isBool => some "bool"
  | .isList => some "list"
  | .isTuple => some "tuple"
  | .isStr => some "str"
  | .isDict => some "dict"
  | _ => none
theorem ty_rel {Ω : Om} {H : Hp} {h : MHeap} {v : MV} {x : V} {k : Bf} {T : String} {b : Bool} (hr : HRel K ga Ω h H) (vx : VRel K ga Ω h.length H v x) (hk : isTy k = some T) (q : tyIs k h v = some b) :
    ∃ t, TyX K H x t ∧ PySem.W.kitOne K t (.type T) = some b := by
  have lst : tyL k = some b → PySem.W.kitOne K (.type "list") (.type T) = some b := by
    intro e
    clear q vx
    cases k <;> cases hk <;> cases e <;> exact kit_ty (by decide +kernel)
  cases v with
  | non =>
    rw [v_non.mp vx]
    refine ⟨_, .base .non, ?_⟩
    cases k <;> cases hk <;> cases q <;> exact kit_ty (by decide +kernel)
  | bl c =>
    rw [v_bl.mp vx]
    refine ⟨_, .base (.bl c), ?_⟩
    cases k <;> cases hk <;> cases q <;> exact kit_ty (by decide +kernel)
  | int c =>
    rw [v_int.mp vx]
    refine ⟨_, .base (.int c), ?_⟩
    cases k <;> cases hk <;> cases q <;> exact kit_ty (by decide +kernel)
  | str c =>
    rw [v_str.mp vx]
    refine ⟨_, .base (.str c), ?_⟩
    cases k <;> cases hk <;> cases q <;> exact kit_ty (by decide +kernel)
  | tup xs =>
    obtain ⟨a, ys, rfl, t, _⟩ := v_tup.mp vx
    have hT : TyX K H (.ref a) (.type "tuple") := by
      rcases t with (t | ⟨o, t⟩) | ⟨o, its, m, t, tc, _⟩
      · exact .base (.tup t)
      · exact .fTuple t
      · exact .kTuple t tc
    refine ⟨_, hT, ?_⟩
    cases k <;> cases hk <;> cases q <;> exact kit_ty (by decide +kernel)
  | lst xs =>
    obtain ⟨a, ys, rfl, t, _⟩ := v_lst.mp vx
    exact ⟨_, .base (.lst t.2), lst q⟩
  | scr xs =>
    obtain ⟨a, ys, rfl, t, _⟩ := v_scr.mp vx
    rcases t with ⟨o, t⟩ | ⟨o, its, n, t, tc, _⟩
    · exact ⟨_, .base (.frz t), lst q⟩
    · exact ⟨_, .kList t tc, lst q⟩
  | ref m =>
    obtain ⟨hn, e⟩ := v_ref.mp vx
    subst e
    cases z : h[m]? with
    | none => simp [tyIs, z] at q
    | some o =>
      have ob := hr.obj m o z
      cases o with
      | lst xs =>
        simp only [tyIs, z] at q
        obtain ⟨ys, r1, r2⟩ := ob
        exact ⟨_, .base (.lst r1), lst q⟩
      | dct xs =>
        simp only [tyIs, z] at q
        obtain ⟨ys, r1, r2⟩ := ob
        refine ⟨_, .base (.dK r1), ?_⟩
        clear vx
        cases k <;> cases hk <;> cases q <;> exact kit_ty (by decide +kernel)
      | _ => simp [tyIs, z] at q
  | _ => cases q
section
variable {a b c e o : Expr} {es : List Expr} {ea eb ec : ME} {pos p p2 apos : Pos}
theorem me_bcB {k : Bf} {x : Str} {id : String} (co : CO P w K mg base hot n N sc fnc E X) (gf : GF P w K mg base ga xn G C n) (hx : x ∈ G.blt) (hg : sc.names.lookup x = some .globalImplicit) (hv : bootBuiltins x = some (.builtin id)) (hn : x ≠ "__name__") (hdb : (x == ("__debug__" : Str)) = false)
    (hc : CallR X (.builtin id) (rBf K ga xn E k)) (ha : PA X (a :: es) (TLm K ga xn E C ea)) (hs : (a :: es).all notStar = true) : PE X (.Call (.Name x p) (a :: es) [] pos) (TEm K ga xn E C (.bc k ea)) := by
  rw [List.all_cons, Bool.and_eq_true] at hs
  refine PE_imp (pe_callB hc (by show X.env.scope.names.lookup x = _; rw [co.ps]; exact hg) (by rw [co.pm]; exact gf.blt x hx) hv ha hn hdb (star_one hs.1) (star_any hs.2)) ?_
  rintro σ H Q ⟨Ω, σm, hm, hr, sr, p⟩
  unfold evE at p
  exact tl_of hr sr (Post.bind p) fun Ω1 H1 vs h1 xs l1 e1 r1 s1 vxs p1 => ⟨Ω1, h1, vs, r1, vxs, p1⟩
theorem me_bcT {k : Bf} {x : Str} {id : String} (co : CO P w K mg base hot n N sc fnc E X) (gf : GF P w K mg base ga xn G C n) (hx : x ∈ G.blt) (hg : sc.names.lookup x = some .globalImplicit) (hv : bootBuiltins x = some (.type id)) (hn : x ≠ "__name__") (hdb : (x == ("__debug__" : Str)) = false)
    (hc : CallR X (.type id) (rBf K ga xn E k)) (ha : PA X (a :: es) (TLm K ga xn E C ea)) (hs : (a :: es).all notStar = true) : PE X (.Call (.Name x p) (a :: es) [] pos) (TEm K ga xn E C (.bc k ea)) := by
  rw [List.all_cons, Bool.and_eq_true] at hs
  refine PE_imp (pe_callTy hc (by show X.env.scope.names.lookup x = _; rw [co.ps]; exact hg) (by rw [co.pm]; exact gf.blt x hx) hv ha hn hdb (star_one hs.1) (star_any hs.2)) ?_
  rintro σ H Q ⟨Ω, σm, hm, hr, sr, p⟩
  unfold evE at p
  exact tl_of hr sr (Post.bind p) fun Ω1 H1 vs h1 xs l1 e1 r1 s1 vxs p1 => ⟨Ω1, h1, vs, r1, vxs, p1⟩
theorem me_isi {k : Bf} {T : String} {t : Str} (co : CO P w K mg base hot n N sc fnc E X) (gf : GF P w K mg base ga xn G C n) (hk : isTy k = some T) (hx : ("isinstance" : Str) ∈ G.blt) (ht : t ∈ G.blt) (hg : sc.names.lookup ("isinstance" : Str) = some .globalImplicit) (hgt : sc.names.lookup t = some .globalImplicit)
    (hv : bootBuiltins t = some (.type T)) (hn : t ≠ "__name__") (hdb : (t == ("__debug__" : Str)) = false) (ha : PE X a (TEm K ga xn E C ea)) (hs : notStar a = true) :
    PE X (.Call (.Name "isinstance" p) [a, .Name t p2] [] pos) (TEm K ga xn E C (.bc k (.cons ea .nil))) := by
  have hb : PE X (.Name t p2) (tC (.ty T)) := pe_bltn (v := .ty T) (u := .type T) (by show X.env.scope.names.lookup t = _; rw [co.ps]; exact hgt) (by rw [co.pm]; exact gf.blt t ht) hv rfl hn hdb
  refine PE_imp (pe_callB call_isi (by show X.env.scope.names.lookup _ = _; rw [co.ps]; exact hg) (by rw [co.pm]; exact gf.blt _ hx) (by decide +kernel) (pa_cons ha (pa_cons hb pa_nil rfl) (star_one hs)) (by decide) (by decide) (star_one hs) rfl) ?_
  rintro σ H Q ⟨Ω, σm, hm, hr, sr, p⟩
  unfold evE evL evL at p
  refine te_of hr sr (Post.bind (Post.bind p)) fun Ω1 H1 v h1 x l1 e1 r1 s1 vx p1 => ?_
  have p2 : Post K ga xn E h1.length Ω1 H1 (bfV k [v] h1) (Kv K ga Q) := (Post.bind p1).here r1 |>.here r1
  rw [co.pK]
  have p3 : Post K ga xn E h1.length Ω1 H1 (match tyIs k h1 v with | some b => Rs.ok (.bl b) h1 | none => .bad) (Kv K ga Q) := by
    cases k <;> first | exact p2 | cases hk
  cases q : tyIs k h1 v with
  | none => simp only [q] at p3; exact p3.elim
  | some b =>
    simp only [q] at p3
    obtain ⟨t', h2, h3⟩ := ty_rel r1 vx hk q
    exact ⟨x, .ty T, t', _, b, rfl, .ty T, h2, h3, p3.here r1 _ (v_bl.mpr rfl)⟩

/-! ### list(x), sorted(x) -/
theorem mf_fli (co : CO P w K mg base hot n N sc fnc E X) (gf : GF P w K mg base ga xn G C n) (hx : ("list" : Str) ∈ G.blt) (hg : sc.names.lookup ("list" : Str) = some .globalImplicit) (ha : PE X a (TEm K ga xn E C ea)) (hs : notStar a = true) :
    PE X (.Call (.Name "list" p) [a] [] pos) (TFm K ga xn E C (.fli ea)) := by
  refine PE_imp (pe_callTy call_list_of (by show X.env.scope.names.lookup _ = _; rw [co.ps]; exact hg) (by rw [co.pm]; exact gf.blt _ hx) (by decide +kernel) (pa_cons ha pa_nil (star_one hs)) (by decide) (by decide) (star_one hs) rfl) ?_
  rintro σ H Q ⟨Ω, σm, hm, hr, sr, p⟩
  unfold evF at p
  refine te_of hr sr (Post.bind p) fun Ω1 H1 v h1 x l1 e1 r1 s1 vx p1 => ?_
  rw [co.pK]
  cases q : seqOf h1 v with
  | none => rw [q] at p1; exact False.elim p1
  | some zs =>
    rw [q] at p1
    obtain ⟨a', ys, rfl, t, t2⟩ := seq_rel r1 vx q
    exact ⟨a', ys, rfl, t, lay r1 t2 p1⟩
theorem vs_mapint {Ω : Om} {L : Nat} {H : Hp} : ∀ ns : List Int, VRels K ga Ω L H (ns.map MV.int) (ns.map V.int)
  | [] => by unfold List.map VRels; rfl
  | i :: ns => by
    rw [List.map_cons, List.map_cons]
    unfold VRels
    exact ⟨_, _, rfl, v_int.mpr rfl, vs_mapint ns⟩
theorem sort_unique {ns ms : List Int} (h1 : ms.Perm ns) (h2 : ms.Pairwise (· ≤ ·)) : ms = sortI ns := by
  unfold sortI
  have p : (ns.mergeSort fun a b => decide (a ≤ b)).Perm ns := List.mergeSort_perm ns _
  have s := List.pairwise_mergeSort (le := fun a b : Int => decide (a ≤ b)) (fun a b c h h' => by simp at h h' ⊢; omega) (fun a b => by simp; omega) ns
  refine List.Perm.eq_of_pairwise (le := (· ≤ ·)) (fun a b _ _ h h' => Int.le_antisymm h h') h2 (s.imp fun h => by simpa using h) (h1.trans p.symm)
theorem mf_fso (co : CO P w K mg base hot n N sc fnc E X) (gf : GF P w K mg base ga xn G C n) (hx : ("sorted" : Str) ∈ G.blt) (hg : sc.names.lookup ("sorted" : Str) = some .globalImplicit) (ha : PE X a (TEm K ga xn E C ea)) (hs : notStar a = true) :
    PE X (.Call (.Name "sorted" p) [a] [] pos) (TFm K ga xn E C (.fso ea)) := by
  refine PE_imp (pe_callB cr_sortedI (by show X.env.scope.names.lookup _ = _; rw [co.ps]; exact hg) (by rw [co.pm]; exact gf.blt _ hx) (by decide +kernel) (pa_cons ha pa_nil (star_one hs)) (by decide) (by decide) (star_one hs) rfl) ?_
  rintro σ H Q ⟨Ω, σm, hm, hr, sr, p⟩
  unfold evF at p
  refine te_of hr sr (Post.bind p) fun Ω1 H1 v h1 x l1 e1 r1 s1 vx p1 => ?_
  rw [co.pK]
  split at p1
  · rename_i zs q
    split at p1
    · rename_i ns q2
      obtain ⟨a', rfl, t⟩ := ints_of r1 vx q q2
      refine ⟨a', ns, rfl, t, fun ms l h2 h3 hl => ?_⟩
      rw [sort_unique h2 h3]
      exact lay r1 (vs_mapint _) p1 l hl
    · exact p1.elim
  · exact p1.elim

/-! ### methods of lists -/
def rBm (K : PySem.W.Frag) (ga : Str → Addr) (xn : Str → Str) (E : XK) (k : Bm) : V → List V → Hp → VK → Prop := fun x xs H Q => ∃ Ω h v vs, HRel K ga Ω h H ∧ VRel K ga Ω h.length H v x ∧ VRels K ga Ω h.length H vs xs ∧ Post K ga xn E h.length Ω H (bmV k v vs h) (Kv K ga Q)
theorem set_post {Ω : Om} {H : Hp} {h : MHeap} {m : Nat} {xs zs : List MV} {ys : List V} {v : MV} {Q : VK} (hr : HRel K ga Ω h H) (z : h[m]? = some (.lst xs)) {ys0 : List V} (r1 : H (Ω.ρ m) = some (.lst ys0)) (t : VRels K ga Ω h.length H zs ys)
    (p : Post K ga xn E h.length Ω H (.ok v (h.set m (.lst zs))) (Kv K ga Q)) : ∀ x, VRel K ga Ω h.length H v x → Q x (upd H (Ω.ρ m) (.lst ys)) := fun x vx => by
  have hn := (List.getElem?_eq_some_iff.mp z).1
  obtain ⟨r2, ex⟩ := hr.set (o := .lst zs) (u := .lst ys) hn ⟨_, z, fun e => by cases e⟩ ⟨ys, rfl, t⟩ (by rw [r1]; trivial)
  exact p Ω _ (by rw [List.length_set]; exact Nat.le_refl _) ex r2 x (by rw [List.length_set]; exact vx.ext ex (Nat.le_refl _))
theorem bm_append : MtR X "list.append" (rBm K ga xn E .append) := by
  rintro pins s σ H x xs v us Q I rx rs ⟨Ω, h, mv, vs, hr, vx, vxs, p⟩
  replace p : Post K ga xn E h.length Ω H (bmV0 .append mv vs h) (Kv K ga Q) := p
  unfold bmV0 at p
  split at p
  · rename_i m
    split at p
    · rename_i zs z
      simp only at p
      split at p
      · split at p
        · rename_i y hz
          obtain ⟨hn, e⟩ := v_ref.mp vx
          obtain ⟨y', rfl, vy⟩ := vs_one vxs
          obtain ⟨ys, r1, r2⟩ := hr.obj m _ z
          have hl := vs_len r2
          exact mt_append pins s σ H x _ v us Q I rx rs ⟨_, ys, y', e, rfl, r1, by omega, set_post hr z r1 (vrels_iff.mpr (pr_app (vrels_iff.mp r2) (.cons vy .nil))) p _ (v_non.mpr rfl)⟩
        · exact p.elim
      · exact p.elim
    · exact p.elim
  · exact p.elim
theorem bm_pop : MtR X "list.pop" (rBm K ga xn E .pop) := by
  rintro pins s σ H x xs v us Q I rx rs ⟨Ω, h, mv, vs, hr, vx, vxs, p⟩
  replace p : Post K ga xn E h.length Ω H (bmV0 .pop mv vs h) (Kv K ga Q) := p
  unfold bmV0 at p
  split at p
  · rename_i m
    split at p
    · rename_i zs z
      simp only at p
      split at p
      · split at p
        · rename_i y hy
          obtain ⟨hn, e⟩ := v_ref.mp vx
          have e2 := vs_nil vxs
          obtain ⟨ys, r1, r2⟩ := hr.obj m _ z
          have hl := vs_len r2
          obtain ⟨y', hy', vy⟩ := pr_get (vrels_iff.mp r2) hy
          exact mt_pop pins s σ H x _ v us Q I rx rs ⟨_, ys, y', e, e2, r1, by rw [← hl]; exact hy', set_post hr z r1 (vrels_iff.mpr (pr_dropLast (vrels_iff.mp r2))) p _ vy⟩
        · exact p.elim
      · exact p.elim
    · exact p.elim
  · exact p.elim
theorem bm_pop0 : MtR X "list.pop" (rBm K ga xn E .pop0) := by
  rintro pins s σ H x xs v us Q I rx rs ⟨Ω, h, mv, vs, hr, vx, vxs, p⟩
  replace p : Post K ga xn E h.length Ω H (bmV0 .pop0 mv vs h) (Kv K ga Q) := p
  unfold bmV0 at p
  split at p
  · rename_i m
    split at p
    · rename_i zs z
      simp only at p
      split at p
      · split at p
        · rename_i y zs'
          obtain ⟨hn, e⟩ := v_ref.mp vx
          obtain ⟨i', rfl, vi⟩ := vs_one vxs
          obtain ⟨ys, r1, r2⟩ := hr.obj m _ z
          have r3 := r2
          unfold VRels at r3
          obtain ⟨y', ys', rfl, vy, t⟩ := r3
          rw [v_int] at vi
          subst vi
          exact mt_popAt pins s σ H x _ v us Q I rx rs ⟨_, _, 0, 0, y', e, rfl, r1, by decide, by decide, by simp [seqIndex?], rfl, set_post hr z r1 t p _ vy⟩
        · exact p.elim
      · exact p.elim
    · exact p.elim
  · exact p.elim
theorem bm_extend : MtR X "list.extend" (rBm K ga xn E .extend) := by
  rintro pins s σ H x xs v us Q I rx rs ⟨Ω, h, mv, vs, hr, vx, vxs, p⟩
  replace p : Post K ga xn E h.length Ω H (bmV0 .extend mv vs h) (Kv K ga Q) := p
  unfold bmV0 at p
  split at p
  · rename_i m
    split at p
    · rename_i zs z
      simp only at p
      split at p
      · split at p
        · rename_i ws q
          split at p
          · rename_i hz
            obtain ⟨hn, e⟩ := v_ref.mp vx
            obtain ⟨y', rfl, vy⟩ := vs_one vxs
            obtain ⟨ys, r1, r2⟩ := hr.obj m _ z
            obtain ⟨b', ys2, rfl, t1, t2⟩ := ml_rel hr vy q
            have hl := vs_len r2
            have hl2 := vs_len t2
            exact mt_extend pins s σ H x _ v us Q I rx rs ⟨_, b', ys, ys2, e, rfl, r1, t1, by omega, set_post hr z r1 (vrels_iff.mpr (pr_app (vrels_iff.mp r2) (vrels_iff.mp t2))) p _ (v_non.mpr rfl)⟩
          · exact p.elim
        · exact p.elim
      · exact p.elim
    · exact p.elim
  · exact p.elim
theorem bm_insert : MtR X "list.insert" (rBm K ga xn E .insert) := by
  rintro pins s σ H x xs v us Q I rx rs ⟨Ω, h, mv, vs, hr, vx, vxs, p⟩
  replace p : Post K ga xn E h.length Ω H (bmV0 .insert mv vs h) (Kv K ga Q) := p
  unfold bmV0 at p
  split at p
  · rename_i m
    split at p
    · rename_i zs z
      simp only at p
      split at p
      · split at p
        · rename_i hb
          obtain ⟨hn, e⟩ := v_ref.mp vx
          obtain ⟨y1, y2, rfl, vi, vy⟩ := vs_two vxs
          rw [v_int] at vi
          subst vi
          obtain ⟨ys, r1, r2⟩ := hr.obj m _ z
          have hl := vs_len r2
          exact mt_insert pins s σ H x _ v us Q I rx rs ⟨_, ys, _, y2, e, rfl, r1, by omega, hb.1, by omega, set_post hr z r1 (vrels_iff.mpr (pr_app (pr_app (pr_take _ (vrels_iff.mp r2)) (.cons vy .nil)) (pr_drop _ (vrels_iff.mp r2)))) p _ (v_non.mpr rfl)⟩
        · exact p.elim
      · exact p.elim
    · exact p.elim
  · exact p.elim
theorem prs_dp {Ω : Om} {L : Nat} {H : Hp} : ∀ {ms : List MV} {xs : List V} {ps : List (Int × Int)}, VRels K ga Ω L H ms xs → prsI ms = some ps → DpAll K H xs (ps.map dP)
  | [], xs, ps, r, e => by
    unfold VRels at r
    unfold prsI at e
    cases e
    subst r
    exact .nil
  | m :: ms, xs, ps, r, e => by
    unfold VRels at r
    obtain ⟨y, ys, rfl, r1, r2⟩ := r
    unfold prsI at e
    split at e
    · rename_i heq; cases heq
    · rename_i a b zs heq
      cases heq
      cases q : prsI ms with
      | none => rw [q] at e; cases e
      | some qs =>
        rw [q] at e
        cases e
        rw [List.map_cons]
        refine .cons ?_ (prs_dp r2 q)
        obtain ⟨t, zs, e1, e2, e3⟩ := v_tup.mp r1
        obtain ⟨x1, x2, rfl, v1, v2⟩ := vs_two e3
        rw [v_int] at v1 v2
        subst v1 v2 e1
        exact .tup e2 (.cons (.int _) (.cons (.int _) .nil))
    · cases e
theorem pr_erase {α β : Type} {R : α → β → Prop} : ∀ {xs : List α} {ys : List β}, Paired R xs ys → ∀ j, Paired R (xs.eraseIdx j) (ys.eraseIdx j)
  | _, _, .nil, _ => by simp; exact .nil
  | _, _, .cons r t, 0 => by simp; exact t
  | _, _, .cons r t, j + 1 => by simp; exact .cons r (pr_erase t j)
theorem bm_remove (hK : X.K = K) (hu : X.A.units + 64 < cLine) : MtR X "list.remove" (rBm K ga xn E .remove) := by
  rintro pins s σ H x xs v us Q I rx rs ⟨Ω, h, mv, vs, hr, vx, vxs, p⟩
  replace p : Post K ga xn E h.length Ω H (bmV0 .remove mv vs h) (Kv K ga Q) := p
  unfold bmV0 at p
  split at p
  · rename_i m
    split at p
    · rename_i zs z
      simp only at p
      split at p
      · rename_i ns i q
        split at p
        · rename_i j hj
          obtain ⟨hn, e⟩ := v_ref.mp vx
          obtain ⟨y', rfl, vy⟩ := vs_one vxs
          rw [v_int] at vy
          subst vy
          obtain ⟨ys, r1, r2⟩ := hr.obj m _ z
          have r3 := r1
          rw [vs_ints r2 q] at r3
          obtain ⟨hj1, hj2, hj3⟩ := List.findIdx?_eq_some_iff_getElem.mp hj
          refine mt_remove pins s σ H x _ v us Q I rx rs ⟨_, ns, i, j, e, rfl, r3, ?_, fun m hm he => ?_, ?_⟩
          · rw [List.getElem?_eq_getElem hj1, eq_of_beq hj2]
          · have := hj3 m hm
            rw [List.getElem?_eq_getElem (by omega)] at he
            rw [Option.some.inj he] at this
            simp at this
          · exact set_post hr z r1 (vs_mapint (ns.eraseIdx j)) p _ (v_non.mpr rfl)
        · exact p.elim
      · split at p
        · rename_i ps a b q _
          split at p
          · rename_i j hj
            obtain ⟨hn, e⟩ := v_ref.mp vx
            obtain ⟨y', rfl, vy⟩ := vs_one vxs
            obtain ⟨ys, r1, r2⟩ := hr.obj m _ z
            subst hK
            refine mt_removeP (by omega) pins s σ H x _ v us Q I rx rs ⟨_, y', ys, ps, (a, b), j, e, rfl, r1, prs_dp r2 q, ?_, hj, set_post hr z r1 (vrels_iff.mpr (pr_erase (vrels_iff.mp r2) j)) p _ (v_non.mpr rfl)⟩
            obtain ⟨t, zs, e1, e2, e3⟩ := v_tup.mp vy
            obtain ⟨x1, x2, rfl, v1, v2⟩ := vs_two e3
            rw [v_int] at v1 v2
            subst v1 v2 e1
            exact .tup e2 (.cons (.int _) (.cons (.int _) .nil))
          · exact p.elim
        · exact p.elim
    · exact p.elim
  · exact p.elim
theorem bm_index (hK : X.K = K) : MtR X "list.index" (rBm K ga xn E .index) := by
  rintro pins s σ H x xs v us Q I rx rs ⟨Ω, h, mv, vs, hr, vx, vxs, p⟩
  subst hK
  unfold bmV at p
  simp only at p
  split at p
  · rename_i zs u q
    split at p
    · rename_i hf
      split at p
      · rename_i j hj
        obtain ⟨a, ys, rfl, t, t2⟩ := lst_rel hr vx q
        obtain ⟨y', rfl, vy⟩ := vs_one vxs
        obtain ⟨f1, _⟩ := inM_rel vy hf.1 t2 hf.2
        unfold ixOf at hj
        obtain ⟨hj1, hj2, hj3⟩ := List.findIdx?_eq_some_iff_getElem.mp hj
        obtain ⟨z, hz, vz⟩ := pr_get (vrels_iff.mp t2) (List.getElem?_eq_getElem hj1)
        have fl : ∀ (i : Nat) (hi : i < zs.length), flatM zs[i] = true := fun i hi => (List.all_eq_true.mp hf.2) _ (List.getElem_mem hi)
        refine mt_index pins s σ H _ _ v us Q I rx rs ⟨a, ys, y', j, z, rfl, rfl, t, flat_rel vy hf.1, f1, hz, ?_, fun m z' hm he => ?_, p.here hr _ (v_int.mpr rfl)⟩
        · rw [← eqM_rel vz vy (fl j hj1) hf.1]; exact hj2
        · have hm' : m < zs.length := by omega
          obtain ⟨z2, hz2, vz2⟩ := pr_get (vrels_iff.mp t2) (List.getElem?_eq_getElem hm')
          rw [he] at hz2
          cases hz2
          rw [← eqM_rel vz2 vy (fl m hm') hf.1]
          have := hj3 m hm
          simpa using this
      · exact p.elim
    · exact p.elim
  · exact p.elim
theorem bm_count (hK : X.K = K) : MtR X "list.count" (rBm K ga xn E .count) := by
  rintro pins s σ H x xs v us Q I rx rs ⟨Ω, h, mv, vs, hr, vx, vxs, p⟩
  subst hK
  unfold bmV at p
  simp only at p
  split at p
  · rename_i zs i q
    split at p
    · rename_i ns q2
      obtain ⟨a, rfl, t⟩ := ints_of hr vx q q2
      obtain ⟨y', rfl, vy⟩ := vs_one vxs
      rw [v_int] at vy
      subst vy
      exact mt_lcount pins s σ H _ _ v us Q I rx rs ⟨a, ns, i, rfl, rfl, t, p.here hr _ (v_int.mpr rfl)⟩
    · exact p.elim
  · exact p.elim
theorem list_ty {Ω : Om} {H : Hp} {h : MHeap} {v : MV} {x : V} (hr : HRel K ga Ω h H) (vx : VRel K ga Ω h.length H v x) (q : ¬ lstOf h v = none) : tyV K "list" x H := by
  cases z : lstOf h v with
  | none => exact absurd z q
  | some xs =>
    obtain ⟨a, ys, rfl, t, _⟩ := lst_rel hr vx z
    exact .inl ⟨rfl, ys, t⟩
theorem me_bm1 {k : Bm} {m : Str} {id : String} (co : CO P w K mg base hot n N sc fnc E X) (slot : Slot "list" m id) (hty : typeOf (.builtin id) = pure (.type "method_descriptor")) (hm : MtR X id (rBm K ga xn E k)) (ho : PE X o (TEm K ga xn E C eb)) (ha : PE X a (TEm K ga xn E C ea)) (hs : notStar a = true)
    (hc : notCall o = true) (hline : (apos.endLine == pos.line) = true) : PE X (.Call (.Attribute o m apos) [a] [] pos) (TEm K ga xn E C (.bm k eb (.cons ea .nil))) := by
  have hs' : ([a] : List Expr).all notStar = true := by rw [List.all_cons, hs]; rfl
  refine PE_imp (pe_bm PySem.F.plainAttrs_list slot hty hm ho (pa_cons ha pa_nil (star_one hs)) (attr_plain hc) (by rw [star_all hs']; rfl) hline (star_one hs) rfl) ?_
  rintro σ H Q ⟨Ω, σm, hm, hr, sr, p⟩
  unfold evE at p
  refine te_of hr sr (Post.bind p) fun Ω1 H1 v h1 x l1 e1 r1 s1 vx p1 => ?_
  split at p1
  · exact p1.elim
  · rename_i hq
    rw [co.pK]
    refine ⟨list_ty r1 vx hq, ?_⟩
    unfold evL evL at p1
    refine te_of r1 s1 (Post.bind (Post.bind p1)) fun Ω2 H2 u h2 y l2 e2 r2 s2 vy p2 => ?_
    exact ⟨Ω2, h2, v, [u], r2, vx.ext e2 l2, by unfold VRels; exact ⟨y, [], rfl, vy, by unfold VRels; rfl⟩, (Post.bind p2).here r2 |>.here r2⟩
theorem me_bm2 {k : Bm} {m : Str} {id : String} {b2 : Expr} {eas : ME} (co : CO P w K mg base hot n N sc fnc E X) (slot : Slot "list" m id) (hty : typeOf (.builtin id) = pure (.type "method_descriptor")) (hm : MtR X id (rBm K ga xn E k)) (ho : PE X o (TEm K ga xn E C eb)) (ha : PA X [a, b2] (TLm K ga xn E C eas)) (hs : ([a, b2] : List Expr).all notStar = true)
    (hc : notCall o = true) (hline : (apos.endLine == pos.line) = true) : PE X (.Call (.Attribute o m apos) [a, b2] [] pos) (TEm K ga xn E C (.bm k eb eas)) := by
  have h1 := hs
  rw [List.all_cons, Bool.and_eq_true] at h1
  refine PE_imp (pe_bm PySem.F.plainAttrs_list slot hty hm ho ha (attr_plain hc) (by rw [star_all hs]; rfl) hline (star_one h1.1) (star_any h1.2)) ?_
  rintro σ H Q ⟨Ω, σm, hm, hr, sr, p⟩
  unfold evE at p
  refine te_of hr sr (Post.bind p) fun Ω1 H1 v h1 x l1 e1 r1 s1 vx p1 => ?_
  split at p1
  · exact p1.elim
  · rename_i hq
    rw [co.pK]
    refine ⟨list_ty r1 vx hq, ?_⟩
    refine tl_of r1 s1 (Post.bind p1) fun Ω2 H2 vs h2 ys l2 e2 r2 s2 vys p2 => ?_
    exact ⟨Ω2, h2, v, vs, r2, vx.ext e2 l2, vys, p2⟩
theorem me_bm0 {k : Bm} {m : Str} {id : String} (co : CO P w K mg base hot n N sc fnc E X) (slot : Slot "list" m id) (hty : typeOf (.builtin id) = pure (.type "method_descriptor")) (hm : MtR X id (rBm K ga xn E k)) (ho : PE X o (TEm K ga xn E C eb))
    (hc : notCall o = true) (hline : (apos.endLine == pos.line) = true) : PE X (.Call (.Attribute o m apos) [] [] pos) (TEm K ga xn E C (.bm k eb .nil)) := by
  refine PE_imp (pe_bm0 PySem.F.plainAttrs_list slot hty hm ho (attr_plain hc) hline) ?_
  rintro σ H Q ⟨Ω, σm, hm, hr, sr, p⟩
  unfold evE at p
  refine te_of hr sr (Post.bind p) fun Ω1 H1 v h1 x l1 e1 r1 s1 vx p1 => ?_
  split at p1
  · exact p1.elim
  · rename_i hq
    rw [co.pK]
    refine ⟨list_ty r1 vx hq, ?_⟩
    unfold evL at p1
    exact ⟨Ω1, h1, v, [], r1, vx, by unfold VRels; rfl, p1⟩
end
end Mn
namespace Mn
open PySem PySem.Spec PyProof.Rows L2
variable {P : Program} {w : World} {K : PySem.W.Frag} {mg : Str → Option Value} {base : Heap} {ga : Str → Addr} {xn : Str → Str}
variable {G : Gs} {C : Ct} {hot : Bool × Bool} {rp : Bool} {n : Nat} {N : List Str} {sc : Scope} {fnc : Str → Bool} {E : XK} {X : Cx}

/-! ### targets -/
def nameOk (N : List Str) (sc : Scope) (fnc : Str → Bool) (i : Nat) (x : Str) : Bool :=
  decide (N[i]? = some x) && (match sc.names.lookup x with
    | some .local => true
    | some .cell => fnc x
    | _ => false)
def chkNs (N : List Str) (sc : Scope) (fnc : Str → Bool) : List Nat → List Expr → Bool
  | [], [] => true
  | i :: is, .Name x _ :: es => nameOk N sc fnc i x && chkNs N sc fnc is es
  | _, _ => false
def chkTg (N : List Str) (sc : Scope) (fnc : Str → Bool) : Tg → Expr → Bool
  | .nm i, .Name x _ => nameOk N sc fnc i x
  | .tp is, .Tuple es _ _ => chkNs N sc fnc is es
  | _, _ => false
def gNs : List Nat → TGs
  | [] => gNil
  | i :: is => gCons (gName i) (gNs is)
def gTg (K : PySem.W.Frag) : Tg → TG
  | .nm i => gName i
  | .tp is => fun v σ H Q => gTup K is.length (gNs is) v σ H Q ∨ gUnl K is.length (gNs is) v σ H Q
theorem name_ok {i : Nat} {x : Str} {pos : Pos} (co : CO P w K mg base hot n N sc fnc E X) (h : nameOk N sc fnc i x = true) : X.N[i]? = some x ∧ L2.Loc X.env.scope x ∧ (X.fn x = true ∨ X.env.scope.names.lookup x = some .local) := by
  unfold nameOk at h
  rw [Bool.and_eq_true] at h
  obtain ⟨h1, h2⟩ := h
  rw [co.pN, co.ps, co.pf]
  refine ⟨of_decide_eq_true h1, ?_⟩
  unfold L2.Loc
  split at h2
  · rename_i q
    exact ⟨.inl q, .inr q⟩
  · rename_i q
    exact ⟨.inr q, .inl h2⟩
  · cases h2
theorem ns_ok (co : CO P w K mg base hot n N sc fnc E X) : ∀ {is : List Nat} {es : List Expr}, chkNs N sc fnc is es = true → PGs X es (gNs is) ∧ (assignEach es X.env).length = is.length ∧ (assignEach es X.env).findIdx? (·.1) = none
  | [], [], _ => ⟨pgs_nil, rfl, rfl⟩
  | i :: is, .Name x p :: es, h => by
    unfold chkNs at h
    rw [Bool.and_eq_true] at h
    obtain ⟨h1, h2, h3⟩ := name_ok (pos := p) co h.1
    obtain ⟨g1, g2, g3⟩ := ns_ok co h.2
    refine ⟨pgs_cons (pg_name (by rw [co.pN]; exact co.nd) h1 h2 h3) g1 rfl, ?_, ?_⟩
    · show (assignEach es X.env).length + 1 = is.length + 1
      rw [g2]
    · show List.findIdx? (·.1) ((false, assign (.Name x p) X.env) :: assignEach es X.env) = none
      rw [List.findIdx?_cons, g3]
      rfl
  | [], _ :: _, h => by unfold chkNs at h; cases h
  | _ :: _, [], h => by unfold chkNs at h; cases h
  | i :: is, e :: es, h => by
    cases e <;> first | (unfold chkNs at h; cases h; done) | skip
    rename_i x p
    unfold chkNs at h
    rw [Bool.and_eq_true] at h
    obtain ⟨h1, h2, h3⟩ := name_ok (pos := p) co h.1
    obtain ⟨g1, g2, g3⟩ := ns_ok co h.2
    refine ⟨pgs_cons (pg_name (by rw [co.pN]; exact co.nd) h1 h2 h3) g1 rfl, ?_, ?_⟩
    · show (assignEach es X.env).length + 1 = is.length + 1
      rw [g2]
    · show List.findIdx? (·.1) ((false, assign (.Name x p) X.env) :: assignEach es X.env) = none
      rw [List.findIdx?_cons, g3]
      rfl
theorem tg_ok {tg : Tg} {e : Expr} (co : CO P w K mg base (false, rp) n N sc fnc E X) (h : chkTg N sc fnc tg e = true) : PG X e (gTg K tg) := by
  cases tg with
  | nm i =>
    cases e <;> first | cases h | skip
    rename_i x p
    obtain ⟨h1, h2, h3⟩ := name_ok (pos := p) co h
    exact pg_name (by rw [co.pN]; exact co.nd) h1 h2 h3
  | tp is =>
    cases e <;> first | cases h | skip
    rename_i es k p
    obtain ⟨g1, g2, g3⟩ := ns_ok co h
    have h1 := pg_tup (k := k) (pos := p) (co.calm rfl) g1 g2 g3
    have h2 := pg_unl (k := k) (pos := p) (co.calm rfl) g1 g2 g3
    rw [co.pK] at h1 h2
    exact ⟨fun pins s σ H v u Q I r h => h.elim (fun h => h1.run pins s σ H v u Q I r h) fun h => h2.run pins s σ H v u Q I r h⟩
section
variable {Ω : Om} {L : Nat} {H : Hp}
theorem ns_set {Q : L2.St → Hp → Prop} : ∀ {is : List Nat} {vs : List MV} {xs : List V} {σm σm' : MSt} {σ : L2.St}, setAll is vs σm = some σm' → VRels K ga Ω L H vs xs → SRel K ga Ω L H σm σ → (∀ σ', SRel K ga Ω L H σm' σ' → Q σ' H) → gNs is xs σ H Q
  | [], [], xs, σm, σm', σ, e, vx, sr, q => by
    cases e
    exact ⟨vs_nil vx, q σ sr⟩
  | i :: is, v :: vs, xs, σm, σm', σ, e, vx, sr, q => by
    unfold VRels at vx
    obtain ⟨y, ys, rfl, r, t⟩ := vx
    exact ⟨y, ys, rfl, ns_set (is := is) e t (sr.set i r) q⟩
  | [], _ :: _, _, _, _, _, e, _, _, _ => by cases e
  | _ :: _, [], _, _, _, _, e, _, _, _ => by cases e
theorem setAll_len : ∀ {is : List Nat} {vs : List MV} {σm σm' : MSt}, setAll is vs σm = some σm' → vs.length = is.length
  | [], [], _, _, _ => rfl
  | i :: is, v :: vs, σm, σm', e => congrArg (· + 1) (setAll_len (is := is) (vs := vs) e)
  | [], _ :: _, _, _, e => by cases e
  | _ :: _, [], _, _, e => by cases e
theorem tg_set {tg : Tg} {v : MV} {x : V} {σm σm' : MSt} {σ : L2.St} {Q : L2.St → Hp → Prop} (e : setT tg v σm = some σm') (vx : VRel K ga Ω L H v x) (sr : SRel K ga Ω L H σm σ) (q : ∀ σ', SRel K ga Ω L H σm' σ' → Q σ' H) : gTg K tg x σ H Q := by
  cases tg with
  | nm i =>
    cases e
    exact q _ (sr.set i vx)
  | tp is =>
    unfold setT at e
    cases v with
    | tup xs =>
      obtain ⟨a, ys, rfl, t, r⟩ := v_tup.mp vx
      exact .inl ⟨a, ys, rfl, t, by rw [← vs_len r]; exact setAll_len e, ns_set e r sr q⟩
    | lst xs =>
      obtain ⟨a, ys, rfl, t, r⟩ := v_lst.mp vx
      exact .inr ⟨a, ys, rfl, t.sq, by rw [← vs_len r]; exact setAll_len e, ns_set e r sr q⟩
    | _ => cases e
end

/-! ### what is walked -/
/-- J walks s, from the state Ω1 H1 with L1 objects on -/
def SrcOf (K : PySem.W.Frag) (ga : Str → Addr) (Ω1 : Om) (H1 : Hp) (L1 : Nat) (J : It) (s : Src) : Prop := ∀ Ω h H, L1 ≤ h.length → Ext0 L1 Ω1 H1 Ω H → HRel K ga Ω h H → s.Ok h →
  J.stop s.xs.length H ∧ ∀ i x, s.xs[i]? = some x → J.go i H ∧ ∀ v H', J.yld i H v H' → Ext h.length Ω H Ω H' ∧ HRel K ga Ω h H' ∧ VRel K ga Ω h.length H' x v
def TIm (K : PySem.W.Frag) (ga : Str → Addr) (xn : Str → Str) (E : XK) (C : Ct) (e : ME) : TI := fun σ H R => ∃ Ω σm hm, HRel K ga Ω hm H ∧ SRel K ga Ω hm.length H σm σ ∧ Post K ga xn E hm.length Ω H (evI C e σm hm) fun Ω1 H1 s h1 => ∀ J, SrcOf K ga Ω1 H1 h1.length J s → R J H1
theorem PI_imp {tg iter : Expr} {t t' : TI} (h : PI X tg iter t) (i : ∀ σ H R, t' σ H R → t σ H R) : PI X tg iter t' := ⟨fun pins s σ H R I q => h.run pins s σ H R I (i σ H R q)⟩
section
variable {Ω1 : Om} {H1 : Hp} {h1 : MHeap}
/-- a list stays as it was where its source is said to be alive -/
theorem lst_live {v : MV} {x : V} {xs : List MV} (hr : HRel K ga Ω1 h1 H1) (vx : VRel K ga Ω1 h1.length H1 v x) (q : lstOf h1 v = some xs) : ∃ a, x = .ref a ∧ (∃ ys, SqL K H1 a ys) ∧ ∀ Ω h H, h1.length ≤ h.length → Ext0 h1.length Ω1 H1 Ω H → HRel K ga Ω h H →
    (∀ p ∈ liveOf v xs, h[p.1]? = some (.lst p.2)) → ∃ ys, SqL K H a ys ∧ VRels K ga Ω h.length H xs ys := by
  obtain ⟨a0, ys0, e0, t0, _⟩ := lst_rel hr vx q
  subst e0
  refine ⟨a0, rfl, ⟨ys0, t0⟩, fun Ω h H l e r ok => ?_⟩
  have vx' := vx.ext0 e l
  cases v with
  | ref m =>
    have z := ok (m, xs) (by simp [liveOf])
    obtain ⟨ys, r1, r2⟩ := r.obj m _ z
    obtain ⟨_, e2⟩ := v_ref.mp vx'
    cases e2
    exact ⟨ys, SqL.of r1, r2⟩
  | lst zs =>
    cases q
    obtain ⟨a, ys, e2, t, r2⟩ := v_lst.mp vx'
    cases e2
    exact ⟨ys, t.sq, r2⟩
  | scr zs =>
    cases q
    obtain ⟨a, ys, e2, t, r2⟩ := v_scr.mp vx'
    cases e2
    exact ⟨ys, t.sq, r2⟩
  | _ => cases q
end
def iSeq (K : PySem.W.Frag) (tl : TE) : TI := fun σ H R => tl σ H fun x H1 => ∃ a, x = .ref a ∧ (((∃ xs, SqL K H1 a xs) ∧ R (Itl K a) H1) ∨ ((∃ xs, SqT K H1 a xs) ∧ R (Itt K a) H1))
theorem pi_seq {tg l : Expr} {tl : TE} (hl : PE X l tl) : PI X tg l (iSeq X.K tl) := by
  constructor
  intro pins s σ H R I hyp
  refine thn (hl.run pins s σ H _ I hyp) ?_
  rintro v s1 ⟨x, H1, J1, r1, a, e, cases2⟩
  subst e
  cases r1
  have fresh := J1.hok.fresh (Nat.le_refl _)
  have new := fun b (hb : b ∈ [s1.heap.objs.size]) => (List.mem_singleton.mp hb)
  rcases cases2 with ⟨⟨xs, hq⟩, q⟩ | ⟨⟨xs, hq⟩, q⟩
  · obtain ⟨its, rv, pl, hz⟩ := J1.list hq
    refine wpAny_pyIter_list pl.isList ⟨s1.heap.objs.size, [s1.heap.objs.size], _, _, H1, rfl, J1.kept (t' := s1.toks) (fun b o e => Heap.get?_push_of_some _ e), turn_list a _, ?_, fun b hb => ?_, q⟩
    · exact ⟨_, Heap.get?_push_size _ rfl, rfl, rfl⟩
    · rw [new b hb]
      exact J1.fpOk (Nat.le_refl _) fresh
  · obtain ⟨its, rv, pl, hz⟩ := J1.tuple hq
    refine wpAny_pyIter_tuple (show s1.heap.IsTuple a its.toArray from pl) ⟨s1.heap.objs.size, [s1.heap.objs.size], _, _, H1, rfl, J1.kept (t' := s1.toks) (fun b o e => Heap.get?_push_of_some _ e), turn_tuple a _, ?_, fun b hb => ?_, q⟩
    · exact ⟨_, Heap.get?_push_size _ rfl, rfl, rfl⟩
    · rw [new b hb]
      exact J1.fpOk (Nat.le_refl _) fresh
section
variable {a b c e o tg : Expr} {es : List Expr} {ea eb ec : ME} {pos p p2 apos : Pos}
theorem mi_iv (co : CO P w K mg base hot n N sc fnc E X) (ha : PE X a (TEm K ga xn E C ea)) : PI X tg a (TIm K ga xn E C (.iv ea)) := by
  refine PI_imp (pi_seq ha) ?_
  rintro σ H R ⟨Ω, σm, hm, hr, sr, p⟩
  rw [co.pK]
  unfold evI at p
  refine te_of hr sr (Post.bind p) fun Ω1 H1 v h1 x l1 e1 r1 s1 vx p1 => ?_
  cases q : seqOf h1 v with
  | none => simp only [q] at p1; exact p1.elim
  | some xs =>
    simp only [q] at p1
    have p2 := p1.here r1
    have viaL : lstOf h1 v = some xs → ∃ a, x = .ref a ∧ (((∃ xs, SqL K H1 a xs) ∧ R (Itl K a) H1) ∨ ((∃ xs, SqT K H1 a xs) ∧ R (Itt K a) H1)) := fun q => by
      obtain ⟨a, e, t, liv⟩ := lst_live r1 vx q
      refine ⟨a, e, .inl ⟨t, p2 _ fun Ω h H l ex r ok => ?_⟩⟩
      obtain ⟨ys, h2, h3⟩ := liv Ω h H l ex r ok
      refine ⟨⟨ys, h2, by rw [vs_len h3]; exact Nat.le_refl _⟩, fun i y hy => ?_⟩
      obtain ⟨z, hz, vz⟩ := pr_get (vrels_iff.mp h3) hy
      refine ⟨⟨ys, z, h2, hz⟩, fun v' H' hyl => ?_⟩
      obtain ⟨rfl, hall⟩ := hyl
      have := hall ys h2
      rw [hz] at this
      cases this
      exact ⟨Ext.refl _ _ _, r, vz⟩
    cases v with
    | lst zs => exact viaL q
    | scr zs => exact viaL q
    | ref m => exact viaL q
    | tup zs =>
      cases q
      obtain ⟨a', ys, e, t, t2⟩ := v_tup.mp vx
      refine ⟨a', e, .inr ⟨⟨ys, t⟩, p2 _ fun Ω h H l ex r ok => ?_⟩⟩
      have h2 := sqt_ext t ex
      have h3 := t2.ext0 ex l
      refine ⟨⟨ys, h2, by rw [vs_len h3]; exact Nat.le_refl _⟩, fun i y hy => ?_⟩
      obtain ⟨z, hz, vz⟩ := pr_get (vrels_iff.mp h3) hy
      refine ⟨⟨ys, z, h2, hz⟩, fun v' H' hyl => ?_⟩
      obtain ⟨rfl, hall⟩ := hyl
      have := hall ys h2
      rw [hz] at this
      cases this
      exact ⟨Ext.refl _ _ _, r, vz⟩
    | _ => cases q
theorem rng_get {lo c : Int} {m i : Nat} {x : MV} (h : (rngL lo c m)[i]? = some x) : i < m ∧ x = .int (lo + (i : Nat) * c) := by
  unfold rngL at h
  rw [List.getElem?_map] at h
  cases q : (List.range m)[i]? with
  | none => rw [q] at h; cases h
  | some j =>
    rw [q] at h
    obtain ⟨h1, h2⟩ := List.getElem?_eq_some_iff.mp q
    simp at h1 h2
    subst h2
    cases h
    exact ⟨h1, rfl⟩
theorem rng_len (lo c : Int) (m : Nat) : (rngL lo c m).length = m := by simp [rngL]
theorem mi_r1 (co : CO P w K mg base hot n N sc fnc E X) (gf : GF P w K mg base ga xn G C n) (hx : ("range" : Str) ∈ G.blt) (hg : sc.names.lookup ("range" : Str) = some .globalImplicit) (ha : PE X a (TEm K ga xn E C ea)) (hs : notStar a = true) :
    PI X tg (.Call (.Name "range" p) [a] [] pos) (TIm K ga xn E C (.ir1 ea)) := by
  refine PI_imp (pi_range1 (by show X.env.scope.names.lookup _ = _; rw [co.ps]; exact hg) (by rw [co.pm]; exact gf.blt _ hx) (pa_cons ha pa_nil (star_one hs)) (star_one hs)) ?_
  rintro σ H R ⟨Ω, σm, hm, hr, sr, p⟩
  unfold evI at p
  refine te_of hr sr (Post.bind p) fun Ω1 H1 v h1 x l1 e1 r1 s1 vx p1 => ?_
  split at p1
  · rename_i j
    split at p1
    · rename_i hz
      rw [v_int] at vx
      subst vx
      refine ⟨j, rfl, hz.1, hz.2, p1.here r1 _ fun Ω h H l ex r ok => ⟨by rw [rng_len]; exact Nat.le_refl _, fun i y hy => ?_⟩⟩
      obtain ⟨h2, h3⟩ := rng_get hy
      refine ⟨h2, fun v' H' hyl => ?_⟩
      obtain ⟨rfl, rfl⟩ := hyl
      subst h3
      exact ⟨Ext.refl _ _ _, r, v_int.mpr (by rw [Int.mul_one])⟩
    · exact p1.elim
  · exact p1.elim
theorem mi_r2 (co : CO P w K mg base hot n N sc fnc E X) (gf : GF P w K mg base ga xn G C n) (hx : ("range" : Str) ∈ G.blt) (hg : sc.names.lookup ("range" : Str) = some .globalImplicit) (ha : PE X a (TEm K ga xn E C ea)) (hb : PE X b (TEm K ga xn E C eb)) (hs : notStar a = true) (hs2 : notStar b = true) :
    PI X tg (.Call (.Name "range" p) [a, b] [] pos) (TIm K ga xn E C (.ir2 ea eb)) := by
  refine PI_imp (pi_range2 (by show X.env.scope.names.lookup _ = _; rw [co.ps]; exact hg) (by rw [co.pm]; exact gf.blt _ hx) (pa_cons ha (pa_cons hb pa_nil (star_one hs2)) (star_one hs)) (by rw [star_one hs, star_one hs2]; rfl) (star_one hs2)) ?_
  rintro σ H R ⟨Ω, σm, hm, hr, sr, p⟩
  unfold evI at p
  refine te_of hr sr (Post.bind p) fun Ω1 H1 v h1 x l1 e1 r1 s1 vx p1 => ?_
  refine te_of r1 s1 (Post.bind p1) fun Ω2 H2 u h2 y l2 e2 r2 s2 vy p2 => ?_
  split at p2
  · rename_i i j
    split at p2
    · rename_i hz
      rw [v_int] at vx vy
      subst vx vy
      refine ⟨i, j, rfl, ⟨hz.1.1, hz.1.2, hz.2.1, hz.2.2⟩, p2.here r2 _ fun Ω h H l ex r ok => ⟨by rw [rng_len]; exact Nat.le_refl _, fun k y hy => ?_⟩⟩
      obtain ⟨h3, h4⟩ := rng_get hy
      refine ⟨h3, fun v' H' hyl => ?_⟩
      obtain ⟨rfl, rfl⟩ := hyl
      subst h4
      exact ⟨Ext.refl _ _ _, r, v_int.mpr (by rw [Int.mul_one])⟩
    · exact p2.elim
  · exact p2.elim
theorem mi_rn {k : Nat} {q1 q2 : Pos} (co : CO P w K mg base hot n N sc fnc E X) (gf : GF P w K mg base ga xn G C n) (hx : ("range" : Str) ∈ G.blt) (hg : sc.names.lookup ("range" : Str) = some .globalImplicit) (ha : PE X a (TEm K ga xn E C ea)) (hb : PE X b (TEm K ga xn E C eb)) (hs : notStar a = true) (hs2 : notStar b = true) :
    PI X tg (.Call (.Name "range" p) [a, b, .UnaryOp .USub (.Constant (.int 1) k q1) q2] [] pos) (TIm K ga xn E C (.irn ea eb)) := by
  have hc : PE X (.UnaryOp .USub (.Constant (.int 1) k q1) q2) (tUn (rU fun i => .int (-i)) (tC (.int 1))) := pe_un un_neg pe_int
  refine PI_imp (pi_range3 (by show X.env.scope.names.lookup _ = _; rw [co.ps]; exact hg) (by rw [co.pm]; exact gf.blt _ hx) (pa_cons ha (pa_cons hb (pa_cons hc pa_nil rfl) (star_one hs2)) (star_one hs)) (star_one hs) (by rw [star_one hs2]; rfl)) ?_
  rintro σ H R ⟨Ω, σm, hm, hr, sr, p⟩
  unfold evI at p
  refine te_of hr sr (Post.bind p) fun Ω1 H1 v h1 x l1 e1 r1 s1 vx p1 => ?_
  refine te_of r1 s1 (Post.bind p1) fun Ω2 H2 u h2 y l2 e2 r2 s2 vy p2 => ?_
  refine ⟨1, rfl, ?_⟩
  split at p2
  · rename_i i j
    split at p2
    · rename_i hz
      rw [v_int] at vx vy
      subst vx vy
      refine ⟨i, j, -1, (i - j).toNat, rfl, RgC.neg hz.1.1 hz.1.2 hz.2.1 hz.2.2, p2.here r2 _ fun Ω h H l ex r ok => ⟨by rw [rng_len]; exact Nat.le_refl _, fun k y hy => ?_⟩⟩
      obtain ⟨h3, h4⟩ := rng_get hy
      refine ⟨h3, fun v' H' hyl => ?_⟩
      obtain ⟨rfl, rfl⟩ := hyl
      subst h4
      exact ⟨Ext.refl _ _ _, r, v_int.mpr rfl⟩
    · exact p2.elim
  · exact p2.elim
theorem en_get : ∀ {xs : List MV} {i : Nat} {x : MV}, (enL xs)[i]? = some x → ∃ y, xs[i]? = some y ∧ x = .tup [.int (i : Nat), y] := by
  intro xs i x h
  unfold enL at h
  rw [List.getElem?_map] at h
  cases q : xs.zipIdx[i]? with
  | none => rw [q] at h; cases h
  | some p =>
    rw [q] at h
    rw [List.getElem?_zipIdx] at q
    cases q2 : xs[i]? with
    | none => rw [q2] at q; cases q
    | some y =>
      rw [q2] at q
      cases q
      cases h
      exact ⟨y, rfl, by simp⟩
/-- a new pair -/
theorem new_pair {Ω : Om} {h : MHeap} {H : Hp} {T : Addr} {u v : MV} {x y : V} (r : HRel K ga Ω h H) (hT : H T = none) (vu : VRel K ga Ω h.length H u x) (vv : VRel K ga Ω h.length H v y) :
    Ext h.length Ω H Ω (upd H T (.tup [x, y])) ∧ HRel K ga Ω h (upd H T (.tup [x, y])) ∧ VRel K ga Ω h.length (upd H T (.tup [x, y])) (.tup [u, v]) (.ref T) := by
  have ex := ext_new (o := .tup [x, y]) r hT
  refine ⟨ex, r.new hT, v_tup.mpr ⟨T, [x, y], rfl, SqT.of upd_same, ?_⟩⟩
  unfold VRels
  refine ⟨x, [y], rfl, vu.ext ex (Nat.le_refl _), ?_⟩
  unfold VRels
  exact ⟨y, [], rfl, vv.ext ex (Nat.le_refl _), by unfold VRels; rfl⟩
theorem mi_en {ts : List Expr} {k : Nat} {tp : Pos} (co : CO P w K mg base hot n N sc fnc E X) (gf : GF P w K mg base ga xn G C n) (hx : ("enumerate" : Str) ∈ G.blt) (hg : sc.names.lookup ("enumerate" : Str) = some .globalImplicit) (ha : PE X a (TEm K ga xn E C ea)) (hs : notStar a = true) :
    PI X (.Tuple ts k tp) (.Call (.Name "enumerate" p) [a] [] pos) (TIm K ga xn E C (.ien ea)) := by
  refine PI_imp (pi_enumA (by show X.env.scope.names.lookup _ = _; rw [co.ps]; exact hg) (by rw [co.pm]; exact gf.blt _ hx) (pa_cons ha pa_nil (star_one hs)) (star_one hs)) ?_
  rintro σ H R ⟨Ω, σm, hm, hr, sr, p⟩
  rw [co.pK]
  unfold evI at p
  refine te_of hr sr (Post.bind p) fun Ω1 H1 v h1 x l1 e1 r1 s1 vx p1 => ?_
  cases q : seqOf h1 v with
  | none => simp only [q] at p1; exact p1.elim
  | some xs =>
    simp only [q] at p1
    have p2 := p1.here r1
    have sz : (enL xs).length = xs.length := by simp [enL]
    have viaL : lstOf h1 v = some xs → ∃ a ys, [x] = [.ref a] ∧ ((SqL K H1 a ys ∧ R (Ite K a) H1) ∨ (SqT K H1 a ys ∧ R (IteT K a) H1)) := fun q => by
      obtain ⟨a', e, ⟨ys0, t⟩, liv⟩ := lst_live r1 vx q
      subst e
      refine ⟨a', ys0, rfl, .inl ⟨t, p2 _ fun Ω h H l ex r ok => ?_⟩⟩
      obtain ⟨ys, h2, h3⟩ := liv Ω h H l ex r ok
      refine ⟨⟨ys, h2, ?_⟩, fun i y hy => ?_⟩
      · rw [sz, vs_len h3]
        exact Nat.le_refl _
      · obtain ⟨y', hy', rfl⟩ := en_get hy
        obtain ⟨z, hz, vz⟩ := pr_get (vrels_iff.mp h3) hy'
        refine ⟨⟨ys, z, h2, hz⟩, fun v' H' hyl => ?_⟩
        obtain ⟨T, x', rfl, hT, rfl, hall⟩ := hyl
        have := hall ys h2
        rw [hz] at this
        cases this
        exact new_pair r hT (v_int.mpr rfl) vz
    cases v with
    | lst zs => exact viaL q
    | scr zs => exact viaL q
    | ref m => exact viaL q
    | tup zs =>
      cases q
      obtain ⟨a', ys, e, t, t2⟩ := v_tup.mp vx
      subst e
      refine ⟨a', ys, rfl, .inr ⟨t, p2 _ fun Ω h H l ex r ok => ?_⟩⟩
      have h2 := sqt_ext t ex
      have h3 := t2.ext0 ex l
      refine ⟨⟨ys, h2, ?_⟩, fun i y hy => ?_⟩
      · rw [sz, vs_len h3]
        exact Nat.le_refl _
      · obtain ⟨y', hy', rfl⟩ := en_get hy
        obtain ⟨z, hz, vz⟩ := pr_get (vrels_iff.mp h3) hy'
        refine ⟨⟨ys, z, h2, hz⟩, fun v' H' hyl => ?_⟩
        obtain ⟨T, x', rfl, hT, rfl, hall⟩ := hyl
        have := hall ys h2
        rw [hz] at this
        cases this
        exact new_pair r hT (v_int.mpr rfl) vz
    | _ => cases q
theorem zip_get : ∀ {xs ys : List MV} {i : Nat} {x : MV}, (zipM xs ys)[i]? = some x → ∃ a b, xs[i]? = some a ∧ ys[i]? = some b ∧ x = .tup [a, b]
  | [], _, _, _, h => by unfold zipM at h; simp at h
  | _ :: _, [], _, _, h => by unfold zipM at h; simp at h
  | u :: xs, v :: ys, 0, x, h => by unfold zipM at h; simp at h; exact ⟨u, v, rfl, rfl, h.symm⟩
  | u :: xs, v :: ys, i + 1, x, h => by
    unfold zipM at h
    obtain ⟨a, b, h1, h2, h3⟩ := zip_get (i := i) (x := x) (by simpa using h)
    exact ⟨a, b, by simpa using h1, by simpa using h2, h3⟩
theorem zip_len : ∀ (xs ys : List MV), xs.length ≤ (zipM xs ys).length ∨ ys.length ≤ (zipM xs ys).length
  | [], _ => .inl (Nat.zero_le _)
  | _ :: _, [] => .inr (Nat.zero_le _)
  | u :: xs, v :: ys => by
    unfold zipM
    rcases zip_len xs ys with h | h
    · left; simpa using h
    · right; simpa using h
open RZ in
theorem mi_zip {ts : List Expr} {k : Nat} {tp : Pos} (co : CO P w K mg base hot n N sc fnc E X) (gf : GF P w K mg base ga xn G C n) (hx : ("zip" : Str) ∈ G.blt) (hg : sc.names.lookup ("zip" : Str) = some .globalImplicit) (ha : PE X a (TEm K ga xn E C ea)) (hb : PE X b (TEm K ga xn E C eb)) (hs : notStar a = true) (hs2 : notStar b = true) :
    PI X (.Tuple ts k tp) (.Call (.Name "zip" p) [a, b] [] pos) (TIm K ga xn E C (.izip ea eb)) := by
  refine PI_imp (RZ.pi_zipA (by show X.env.scope.names.lookup _ = _; rw [co.ps]; exact hg) (by rw [co.pm]; exact gf.blt _ hx) (pa_cons ha (pa_cons hb pa_nil (star_one hs2)) (star_one hs)) (star_one hs) (by rw [star_one hs2]; rfl)) ?_
  rintro σ H R ⟨Ω, σm, hm, hr, sr, p⟩
  rw [co.pK]
  unfold evI at p
  refine te_of hr sr (Post.bind p) fun Ω1 H1 v h1 x l1 e1 r1 s1 vx p1 => ?_
  refine te_of r1 s1 (Post.bind p1) fun Ω2 H2 u h2 y l2 e2 r2 s2 vy p2 => ?_
  split at p2
  · rename_i xs ys q1 q2
    obtain ⟨a', ea', ⟨xs0, t1⟩, liv1⟩ := lst_live r2 (vx.ext e2 l2) q1
    obtain ⟨b', eb', ⟨ys0, t2⟩, liv2⟩ := lst_live r2 vy q2
    subst ea' eb'
    refine ⟨a', b', xs0, ys0, rfl, .inl ⟨t1, t2, p2.here r2 _ fun Ω h H l ex r ok => ?_⟩⟩
    obtain ⟨xv, h3, h4⟩ := liv1 Ω h H l ex r fun z hz => ok z (List.mem_append_left _ hz)
    obtain ⟨yv, h5, h6⟩ := liv2 Ω h H l ex r fun z hz => ok z (List.mem_append_right _ hz)
    refine ⟨⟨xv, yv, h3, h5, ?_⟩, fun i z hz => ?_⟩
    · rw [← vs_len h4, ← vs_len h6]
      exact zip_len xs ys
    · obtain ⟨u1, u2, g1, g2, rfl⟩ := zip_get hz
      obtain ⟨z1, hz1, vz1⟩ := pr_get (vrels_iff.mp h4) g1
      obtain ⟨z2, hz2, vz2⟩ := pr_get (vrels_iff.mp h6) g2
      refine ⟨⟨xv, yv, z1, z2, h3, h5, hz1, hz2⟩, fun v' H' hyl => ?_⟩
      obtain ⟨T, x', y', rfl, hT, rfl, hall1, hall2⟩ := hyl
      have w1 := hall1 xv h3
      rw [hz1] at w1
      cases w1
      have w2 := hall2 yv h5
      rw [hz2] at w2
      cases w2
      exact new_pair r hT vz1 vz2
  · split at p2
    · rename_i xs ys _
      obtain ⟨a', xv, ea', t1, t2⟩ := v_tup.mp (vx.ext e2 l2)
      obtain ⟨b', yv, eb', t3, t4⟩ := v_tup.mp vy
      subst ea' eb'
      refine ⟨a', b', xv, yv, rfl, .inr ⟨t1, t3, p2.here r2 _ fun Ω h H l ex r ok => ?_⟩⟩
      have h3 := sqt_ext t1 ex
      have h4 := t2.ext0 ex l
      have h5 := sqt_ext t3 ex
      have h6 := t4.ext0 ex l
      refine ⟨⟨xv, yv, h3, h5, ?_⟩, fun i z hz => ?_⟩
      · rw [← vs_len h4, ← vs_len h6]
        exact zip_len xs ys
      · obtain ⟨u1, u2, g1, g2, rfl⟩ := zip_get hz
        obtain ⟨z1, hz1, vz1⟩ := pr_get (vrels_iff.mp h4) g1
        obtain ⟨z2, hz2, vz2⟩ := pr_get (vrels_iff.mp h6) g2
        refine ⟨⟨xv, yv, z1, z2, h3, h5, hz1, hz2⟩, fun v' H' hyl => ?_⟩
        obtain ⟨T, x', y', rfl, hT, rfl, hall1, hall2⟩ := hyl
        have w1 := hall1 xv h3
        rw [hz1] at w1
        cases w1
        have w2 := hall2 yv h5
        rw [hz2] at w2
        cases w2
        exact new_pair r hT vz1 vz2
    · exact p2.elim
theorem mi_rv (co : CO P w K mg base hot n N sc fnc E X) (gf : GF P w K mg base ga xn G C n) (hx : ("reversed" : Str) ∈ G.blt) (hg : sc.names.lookup ("reversed" : Str) = some .globalImplicit) (ha : PE X a (TEm K ga xn E C ea)) (hs : notStar a = true) :
    PI X tg (.Call (.Name "reversed" p) [a] [] pos) (TIm K ga xn E C (.irv ea)) := by
  refine PI_imp (pi_reversed (by show X.env.scope.names.lookup _ = _; rw [co.ps]; exact hg) (by rw [co.pm]; exact gf.blt _ hx) (pa_cons ha pa_nil (star_one hs)) (star_one hs)) ?_
  rintro σ H R ⟨Ω, σm, hm, hr, sr, p⟩
  rw [co.pK]
  unfold evI at p
  refine te_of hr sr (Post.bind p) fun Ω1 H1 v h1 x l1 e1 r1 s1 vx p1 => ?_
  cases q : lstOf h1 v with
  | none => simp only [q] at p1; exact p1.elim
  | some xs =>
    simp only [q] at p1
    obtain ⟨a0, ys0, e0, t0, t00⟩ := lst_rel r1 vx q
    obtain ⟨a', e, _, liv⟩ := lst_live r1 vx q
    subst e
    cases e0
    have hl0 := vs_len t00
    refine ⟨_, ys0, rfl, t0, p1.here r1 _ fun Ω h H l ex r ok => ?_⟩
    obtain ⟨ys, h2, h3⟩ := liv Ω h H l ex r ok
    have hl := vs_len h3
    refine ⟨by show ys0.length ≤ xs.reverse.length; rw [List.length_reverse]; omega, fun i y hy => ?_⟩
    have hi : i < xs.length := by
      have := (List.getElem?_eq_some_iff.mp hy).1
      simpa using this
    rw [List.getElem?_reverse hi] at hy
    obtain ⟨z, hz, vz⟩ := pr_get (vrels_iff.mp h3) hy
    have e1 : xs.length - 1 - i = ys0.length - 1 - i := by omega
    rw [e1] at hz
    refine ⟨⟨by omega, ys, z, h2, hz⟩, fun v' H' hyl => ?_⟩
    obtain ⟨rfl, hall⟩ := hyl
    have := hall ys h2
    rw [hz] at this
    cases this
    exact ⟨Ext.refl _ _ _, r, vz⟩
end
end Mn
namespace Mn
open PySem PySem.Spec PyProof.Rows L2
variable {P : Program} {w : World} {K : PySem.W.Frag} {mg : Str → Option Value} {base : Heap} {ga : Str → Addr} {xn : Str → Str}
variable {G : Gs} {C : Ct} {hot : Bool × Bool} {rp : Bool} {n : Nat} {N : List Str} {sc : Scope} {fnc : Str → Bool} {E : XK} {X : Cx}

/-! ### comprehensions -/
def relab (scope sc : Scope) : Scope := { scope with names := scope.names.map fun (n, k) => if (k == .free && sc.kind == .function && sc.names.lookup n == some .cell) then (n, .cell) else (n, k) }
theorem relab_eq {scope : Scope} {env : Env} : relabel scope env = relab scope env.scope := rfl
def mkOwn (N : List Str) (is : List Nat) : List (Str × Nat) := is.filterMap fun i => N[i]?.map fun x => (x, i)
theorem CO.blk (co : CO P w K mg base (false, rp) n N sc fnc E X) (s : Shared) (H : Hp) (scope : Scope) (A : Addr) (cl : List (Str × Addr)) (fp : List Addr) :
    CO P w K mg base (false, rp) n N (relab scope sc) (fun x => scope.names.lookup x == some .cell) E0 (X.blk s H scope (compEnvC scope cl A X.env) fp) :=
  ⟨co.pP, co.pw, co.pK, co.pm, co.pb, co.pN, by show relabel scope X.env = _; rw [relab_eq, co.ps], rfl, co.calm, co.room, co.gds, co.units, co.nd, takes0⟩
theorem wipe_get (σ : L2.St) : ∀ (vs : List Nat) (i : Nat), (wipe σ vs)[i]? = if i ∈ vs ∧ i < σ.length then some none else σ[i]?
  | [], i => by simp [wipe]
  | v :: vs, i => by
    unfold wipe
    rw [List.getElem?_set, wipe_get σ vs i, wipe_length]
    by_cases h : v = i
    · subst h
      by_cases h2 : v < σ.length
      · simp [h2]
      · simp [h2]
    · have : i ≠ v := fun e => h e.symm
      simp [h, this]
theorem wipe_set {σ : L2.St} {vs : List Nat} {i : Nat} {a : Option V} (h : i ∈ vs) : wipe (σ.set i a) vs = wipe σ vs := by
  apply List.ext_getElem?
  intro j
  rw [wipe_get, wipe_get, List.length_set]
  by_cases e : i = j
  · subst e
    by_cases h2 : i < σ.length
    · rw [if_pos ⟨h, h2⟩, if_pos ⟨h, h2⟩]
    · rw [if_neg fun z => h2 z.2, if_neg fun z => h2 z.2, List.getElem?_eq_none (by simpa using h2), List.getElem?_eq_none (by omega)]
  · rw [List.getElem?_set_ne e]
theorem wipe_wipe {σ : L2.St} {vs : List Nat} : wipe (wipe σ vs) vs = wipe σ vs := by
  apply List.ext_getElem?
  intro j
  rw [wipe_get, wipe_get, wipe_length]
  split <;> rfl
def tgIn (vs : List Nat) : Tg → Bool
  | .nm i => decide (i ∈ vs)
  | .tp is => is.all fun i => decide (i ∈ vs)
section
variable {Ω : Om} {L : Nat} {H : Hp}
theorem ns_setW {vs0 : List Nat} {σ0 : L2.St} {Q : L2.St → Hp → Prop} : ∀ {is : List Nat} {vs : List MV} {xs : List V} {σm σm' : MSt} {σ : L2.St}, (is.all fun i => decide (i ∈ vs0)) = true → wipe σ vs0 = σ0 → setAll is vs σm = some σm' → VRels K ga Ω L H vs xs → SRel K ga Ω L H σm σ →
    (∀ σ', SRel K ga Ω L H σm' σ' → wipe σ' vs0 = σ0 → Q σ' H) → gNs is xs σ H Q
  | [], [], xs, σm, σm', σ, _, hw, e, vx, sr, q => by
    cases e
    exact ⟨vs_nil vx, q σ sr hw⟩
  | i :: is, v :: vs, xs, σm, σm', σ, hi, hw, e, vx, sr, q => by
    unfold VRels at vx
    obtain ⟨y, ys, rfl, r, t⟩ := vx
    rw [List.all_cons, Bool.and_eq_true] at hi
    exact ⟨y, ys, rfl, ns_setW (is := is) hi.2 (by rw [wipe_set (of_decide_eq_true hi.1)]; exact hw) e t (sr.set i r) q⟩
  | [], _ :: _, _, _, _, _, _, _, e, _, _, _ => by cases e
  | _ :: _, [], _, _, _, _, _, _, e, _, _, _ => by cases e
theorem tg_setW {vs0 : List Nat} {σ0 : L2.St} {tg : Tg} {v : MV} {x : V} {σm σm' : MSt} {σ : L2.St} {Q : L2.St → Hp → Prop} (hi : tgIn vs0 tg = true) (hw : wipe σ vs0 = σ0) (e : setT tg v σm = some σm') (vx : VRel K ga Ω L H v x) (sr : SRel K ga Ω L H σm σ)
    (q : ∀ σ', SRel K ga Ω L H σm' σ' → wipe σ' vs0 = σ0 → Q σ' H) : gTg K tg x σ H Q := by
  cases tg with
  | nm i =>
    cases e
    exact q _ (sr.set i vx) (by rw [wipe_set (of_decide_eq_true hi)]; exact hw)
  | tp is =>
    unfold setT at e
    cases v with
    | tup xs =>
      obtain ⟨a, ys, rfl, t, r⟩ := v_tup.mp vx
      exact .inl ⟨a, ys, rfl, t, by rw [← vs_len r]; exact setAll_len e, ns_setW hi hw e r sr q⟩
    | lst xs =>
      obtain ⟨a, ys, rfl, t, r⟩ := v_lst.mp vx
      exact .inr ⟨a, ys, rfl, t.sq, by rw [← vs_len r]; exact setAll_len e, ns_setW hi hw e r sr q⟩
    | _ => cases e
end
theorem mc_nil {X : Cx} : PTs X [] (TCm K ga xn E C .nil) := ⟨fun pins s σ H Q I h => by
  obtain ⟨Ω, σm, hm, hr, sr, p⟩ := h
  unfold evC at p
  exact pts_nil.run pins s σ H Q I (p.here hr)⟩
theorem mc_one {X : Cx} {c : Expr} {ec : ME} (h : PT X c (TTm K ga xn E C ec)) : PTs X [c] (TCm K ga xn E C (.cons ec .nil)) := ⟨fun pins s σ H Q I q => (pts_one h).run pins s σ H Q I (by
  obtain ⟨Ω, σm, hm, hr, sr, p⟩ := q
  unfold evC evC at p
  refine tt_of hr sr (Post.bind p) fun Ω1 H1 t h1 l1 e1 r1 s1 p1 => ?_
  cases t with
  | true => rw [if_pos rfl] at p1; exact p1.here r1
  | false => rw [if_neg Bool.false_ne_true] at p1; exact p1.here r1)⟩
/-- one turn's function -/
noncomputable def turnC (C : Ct) (tg : Tg) (own : List Nat) (σm : MSt) (cond elt : ME) : MV → MHeap → Rs (Option MV) := fun x h2 => match setT tg x (wipeM σm own) with
    | some σ1 => (evC C cond σ1 h2).bind fun t h3 => if t = true then (evE C elt σ1 h3).bind fun v h4 => .ok (some v) h4 else .ok none h3
    | none => .bad
theorem comp_reads {own : List Nat} {tg : Tg} {elt it cond : ME} {σ : L2.St} {H : Hp} {Q : VK} (hown : tgIn own tg = true) (h : TFm K ga xn E C (.fc own tg elt it cond) σ H Q) :
    tLc (TIm K ga xn E C it) (gTg K tg) (TCm K ga xn E0 C cond) (TEm K ga xn E0 C elt) own σ H Q := by
  obtain ⟨Ω, σm, hm, hr, sr, p⟩ := h
  unfold evF at p
  refine ⟨Ω, σm, hm, hr, sr, (Post.bind p).mono fun Ω1 H1 s h1 l1 e1 r1 p1 J hJ => ?_⟩
  intro D hD
  have sr1 := sr.ext e1 l1
  have eD := ext_new (o := .lst []) r1 hD
  have rD := r1.new (o := .lst []) hD
  have frD := r1.free hD
  let f := turnC C tg own σm cond elt
  let k : Om → Hp → List MV → MHeap → Prop := fun Ω H vs h => ∀ p ys, Free Ω h.length p → H p = some (.lst ys) → VRels K ga Ω h.length H vs ys → Q (.ref p) H
  have p1 : Post K ga xn E h1.length Ω1 H1 (compL s.Ok f s.xs [] h1) k := p1
  refine ⟨fun i m H => ∃ Ω h accm acc, h1.length ≤ h.length ∧ Ext h1.length Ω1 H1 Ω H ∧ HRel K ga Ω h H ∧ Free Ω h.length D ∧ H D = some (.lst acc) ∧ VRels K ga Ω h.length H accm acc ∧ i ≤ s.xs.length ∧ m = s.xs.length - i ∧
    Post K ga xn E h.length Ω H (compL s.Ok f (s.xs.drop i) accm h) k, ⟨_, Ω1, h1, [], [], Nat.le_refl _, eD, rD, frD, upd_same, by unfold VRels; rfl, Nat.zero_le _, rfl, ?_⟩, ?_⟩
  · rw [List.drop_zero]
    exact p1.later eD (Nat.le_refl _)
  · rintro i m H2 ⟨Ω2, h2, accm, acc, l2, e2, r2, fr2, hD2, va, hi, rfl, p2⟩
    by_cases hlt : i < s.xs.length
    · right
      rw [List.drop_eq_getElem_cons hlt] at p2
      unfold compL at p2
      split at p2
      · rename_i hok
        have rg := r2.gd fr2 hD2
        have ez : Ext0 h1.length Ω1 H1 (Ω2.gd D) H2 := e2.z
        obtain ⟨_, hgo⟩ := hJ (Ω2.gd D) h2 H2 l2 ez rg hok.1
        obtain ⟨hg, hy⟩ := hgo i _ (List.getElem?_eq_getElem hlt)
        refine ⟨hg, fun H' => ∃ Ω h accm acc, h1.length ≤ h.length ∧ Ext h1.length Ω1 H1 Ω H' ∧ HRel K ga Ω h H' ∧ Free Ω h.length D ∧ H' D = some (.lst acc) ∧ VRels K ga Ω h.length H' accm acc ∧
          Post K ga xn E h.length Ω H' (compL s.Ok f (s.xs.drop (i + 1)) accm h) k, fun H' ⟨Ω, h, am, ac, a1, a2, a3, a4, a5, a6, a7⟩ => ⟨s.xs.length - (i + 1), by omega, Ω, h, am, ac, a1, a2, a3, a4, a5, a6, hlt, rfl, a7⟩, fun v H3 hyl => ?_⟩
        obtain ⟨e3, r3, vx⟩ := hy v H3 hyl
        have srw : SRel K ga (Ω2.gd D) h2.length H3 (wipeM σm own) (wipe σ own) := ((SRel.om (Ω := Ω2) (Ω' := Ω2.gd D) rfl rfl (sr1.ext e2 l2)).ext e3 (Nat.le_refl _)).wipe own
        -- the way back from the guard
        have back : ∀ {Ω5 : Om} {H5 : Hp} {h5 : MHeap} {acc5 : List MV} {ac5 : List V}, h2.length ≤ h5.length → Ext h2.length (Ω2.gd D) H2 Ω5 H5 → HRel K ga Ω5 h5 H5 → VRels K ga Ω5 h5.length H5 acc5 ac5 →
            Post K ga xn E h2.length Ω2 H2 (compL s.Ok f (s.xs.drop (i + 1)) acc5 h5) k → ∃ Ω h accm acc, h1.length ≤ h.length ∧ Ext h1.length Ω1 H1 Ω (upd H5 D (.lst ac5)) ∧ HRel K ga Ω h (upd H5 D (.lst ac5)) ∧ Free Ω h.length D ∧ upd H5 D (.lst ac5) D = some (.lst acc) ∧ VRels K ga Ω h.length (upd H5 D (.lst ac5)) accm acc ∧
              Post K ga xn E h.length Ω (upd H5 D (.lst ac5)) (compL s.Ok f (s.xs.drop (i + 1)) accm h) k := fun {Ω5 H5 h5 acc5 ac5} l5 e5 r5 va5 p5 => by
          have gD : Ω5.G D := by rw [e5.gd]; exact .inr rfl
          have eu := e5.un
          have ru := r5.un Ω2.G fun a g => by rw [e5.gd]; exact .inl g
          have fr5 : Free (Ω5.un Ω2.G) h5.length D := ⟨fun n hn e => r5.gr n hn (by rw [show Ω5.ρ n = D from e]; exact gD), fun f => r5.gf D f gD, fr2.2.2⟩
          have hD5 : H5 D = some (.lst acc) := (e5.gk D (.inr rfl)).trans hD2
          obtain ⟨ep, rp⟩ := ru.poke (ys := ac5) fr5 hD5
          have e25 := eu.trans ep l5
          exact ⟨Ω5.un Ω2.G, h5, acc5, ac5, Nat.le_trans l2 l5, e2.trans e25 l2, rp, fr5, upd_same, (VRels.om (Ω := Ω5) (Ω' := Ω5.un Ω2.G) rfl rfl va5).ext ep (Nat.le_refl _), p5.later e25 l5⟩
        have va3 : VRels K ga (Ω2.gd D) h2.length H3 accm acc := (VRels.om (Ω := Ω2) (Ω' := Ω2.gd D) rfl rfl va).ext e3 (Nat.le_refl _)
        have p2 : Post K ga xn E h2.length Ω2 H2 (match turnC C tg own σm cond elt s.xs[i] h2 with
          | .ok (some v) h1 => compL s.Ok f (s.xs.drop (i + 1)) (accm ++ [v]) h1
          | .ok none h1 => compL s.Ok f (s.xs.drop (i + 1)) accm h1
          | _ => .bad) k := p2
        unfold turnC at p2
        cases qs : setT tg s.xs[i] (wipeM σm own) with
        | none => simp only [qs] at p2; exact p2.elim
        | some σ1 =>
          simp only [qs] at p2
          refine tg_setW (σ0 := wipe σ own) hown wipe_wipe qs vx srw fun σ' srs hw => ⟨hw, Ω2.gd D, σ1, h2, r3, srs, ?_⟩
          cases qc : evC C cond σ1 h2 with
          | bad => simp only [qc, Rs.bind] at p2; exact p2.elim
          | exc c v h => simp only [qc, Rs.bind] at p2; exact p2.elim
          | ok t h4 =>
            simp only [qc, Rs.bind] at p2
            intro Ω4 H4 l4 e4 r4
            cases t with
            | false =>
              simp only [Bool.false_eq_true, if_false] at p2
              have hD4 : H4 D = some (.lst acc) := ((e4.gk D (.inr rfl)).trans (e3.gk D (.inr rfl))).trans hD2
              have := back l4 (e3.trans e4 (Nat.le_refl _)) r4 (va3.ext e4 l4) p2
              have eq : upd H4 D (.lst acc) = H4 := by
                funext b
                by_cases hb : b = D
                · subst hb; rw [upd_same, hD4]
                · rw [upd_ne hb]
              rw [eq] at this
              exact this
            | true =>
              simp only [if_true] at p2
              show TEm K ga xn E0 C elt σ' H4 _
              refine ⟨Ω4, σ1, h4, r4, srs.ext e4 l4, ?_⟩
              cases qe : evE C elt σ1 h4 with
              | bad => simp only [qe, Rs.bind] at p2; exact p2.elim
              | exc c v h => simp only [qe, Rs.bind] at p2; exact p2.elim
              | ok v h5 =>
                simp only [qe, Rs.bind] at p2
                intro Ω5 H5 l5 e5 r5 y vy
                have e25 := (e3.trans e4 (Nat.le_refl _)).trans e5 l4
                have hD5 : H5 D = some (.lst acc) := (e25.gk D (.inr rfl)).trans hD2
                refine ⟨acc, hD5, by rw [← vs_len va]; exact hok.2, ?_⟩
                exact back (Nat.le_trans l4 l5) e25 r5 (vrels_iff.mpr (pr_app (vrels_iff.mp ((va3.ext e4 l4).ext e5 l5)) (.cons vy .nil))) p2
      · exact p2.elim
    · left
      have hi' : i = s.xs.length := by omega
      subst hi'
      rw [List.drop_length] at p2
      unfold compL at p2
      split at p2
      · rename_i hok
        obtain ⟨hst, _⟩ := hJ Ω2 h2 H2 l2 e2.z r2 hok
        exact ⟨hst, p2.here r2 D acc fr2 hD2 va⟩
      · exact p2.elim
end Mn
namespace Mn
open PySem PySem.Spec PyProof.Rows L2
variable {P : Program} {w : World} {K : PySem.W.Frag} {mg : Str → Option Value} {base : Heap} {ga : Str → Addr} {xn : Str → Str}
variable {G : Gs} {C : Ct} {hot : Bool × Bool} {rp : Bool} {n : Nat} {N : List Str} {sc : Scope} {fnc : Str → Bool} {E : XK} {X : Cx}
section
variable {a b c e o tg iter elt : Expr} {es ifs : List Expr} {ea eb ec : ME} {pos p p2 apos : Pos}
/-- a comprehension as a value -/
theorem mf_fc {own : List Nat} {t : Tg} {el it cond : ME} {scope : Scope} (co : CO P w K mg base (false, rp) n N sc fnc E X) (hi : PI X tg iter (TIm K ga xn E C it)) (hb : blkC N sc scope (mkOwn N own) = true) (ho : (mkOwn N own).map (·.2) = own) (hin : tgIn own t = true) (hset : notSet iter = true)
    (hg : ∀ X', CO P w K mg base (false, rp) n N (relab scope sc) (fun x => scope.names.lookup x == some .cell) E0 X' → PG X' tg (gTg K t) ∧ PTs X' ifs (TCm K ga xn E0 C cond) ∧ PE X' elt (TEm K ga xn E0 C el)) :
    PE X (.ListComp elt [⟨tg, iter, ifs, 0⟩] scope pos) (TFm K ga xn E C (.fc own t el it cond)) := by
  have ok : BlkOk X.N X.env.scope scope (mkOwn N own) := by rw [co.pN, co.ps]; exact blkOk_by hb
  refine PE_imp (pe_lc (co.calm rfl) (by rw [co.pN]; exact co.nd) hi ok (fun s H A cl fp => (hg _ (co.blk s H scope A cl fp)).1) (fun s H A cl fp => (hg _ (co.blk s H scope A cl fp)).2.1) (fun s H A cl fp => (hg _ (co.blk s H scope A cl fp)).2.2) (no_fold hset)) ?_
  intro σ H Q h
  rw [ho]
  exact comp_reads hin h

/-! ### statements -/
def PostS (K : PySem.W.Frag) (ga : Str → Addr) (xn : Str → Str) (E : XK) (L : Nat) (Ω : Om) (H : Hp) (r : Out) (D : Ends) : Prop :=
  match r with
  | .next σm h => ∀ Ω' H' σ, L ≤ h.length → Ext L Ω H Ω' H' → HRel K ga Ω' h H' → SRel K ga Ω' h.length H' σm σ → D.nx σ H'
  | .brk σm h => ∀ Ω' H' σ, L ≤ h.length → Ext L Ω H Ω' H' → HRel K ga Ω' h H' → SRel K ga Ω' h.length H' σm σ → D.bk σ H'
  | .cnt σm h => ∀ Ω' H' σ, L ≤ h.length → Ext L Ω H Ω' H' → HRel K ga Ω' h H' → SRel K ga Ω' h.length H' σm σ → D.ct σ H'
  | .ret v h => ∀ Ω' H' x, L ≤ h.length → Ext L Ω H Ω' H' → HRel K ga Ω' h H' → VRel K ga Ω' h.length H' v x → D.rt x H'
  | .exc c v h => ∀ Ω' H' d x, L ≤ h.length → Ext L Ω H Ω' H' → HRel K ga Ω' h H' → VRel K ga Ω' h.length H' v x → Free Ω' h.length d → H' d = some (.xd [(xn c, x)]) → E (.ref (ga c)) (some d) H'
  | .bad => False
def TSm (K : PySem.W.Frag) (ga : Str → Addr) (xn : Str → Str) (E : XK) (C : Ct) (s : MS) : TS := fun D σ H => ∃ Ω σm hm, HRel K ga Ω hm H ∧ SRel K ga Ω hm.length H σm σ ∧ PostS K ga xn E hm.length Ω H (run C s σm hm) D
section
variable {L L' : Nat} {Ω Ω' : Om} {H H' : Hp} {α : Type} {D : Ends}
theorem PostS.later {r : Out} (p : PostS K ga xn E L Ω H r D) (e : Ext L Ω H Ω' H') (hl : L ≤ L') : PostS K ga xn E L' Ω' H' r D := by
  cases r with
  | bad => exact p
  | exc c v h => exact fun Ω2 H2 d x l2 e2 => p Ω2 H2 d x (Nat.le_trans hl l2) (e.trans e2 hl)
  | _ => exact fun Ω2 H2 x l2 e2 => p Ω2 H2 x (Nat.le_trans hl l2) (e.trans e2 hl)
theorem PostS.out {r : Rs α} {f : α → MHeap → Out} (p : PostS K ga xn E L Ω H (r.out f) D) : Post K ga xn E L Ω H r fun Ω1 H1 a h1 => PostS K ga xn E h1.length Ω1 H1 (f a h1) D := by
  cases r with
  | bad => exact p
  | exc c v h => exact p
  | ok a h =>
    intro Ω1 H1 l1 e1 r1
    exact PostS.later (show PostS K ga xn E L Ω H (f a h) D from p) e1 l1
theorem PostS.next {σm : MSt} {σ : L2.St} {h : MHeap} (p : PostS K ga xn E h.length Ω H (.next σm h) D) (r : HRel K ga Ω h H) (sr : SRel K ga Ω h.length H σm σ) : D.nx σ H := p Ω H σ (Nat.le_refl _) (Ext.refl _ _ _) r sr
theorem PostS.seq {r : Out} {f : MSt → MHeap → Out} (p : PostS K ga xn E L Ω H (r.seq f) D) (N : L2.St → Hp → Prop) (hN : ∀ Ω1 H1 σm σ h1, L ≤ h1.length → Ext L Ω H Ω1 H1 → HRel K ga Ω1 h1 H1 → SRel K ga Ω1 h1.length H1 σm σ → PostS K ga xn E h1.length Ω1 H1 (f σm h1) D → N σ H1) :
    PostS K ga xn E L Ω H r { D with nx := N } := by
  cases r with
  | next σm h => exact fun Ω1 H1 σ l1 e1 r1 s1 => hN Ω1 H1 σm σ h l1 e1 r1 s1 (PostS.later (show PostS K ga xn E L Ω H (f σm h) D from p) e1 l1)
  | _ => exact p
end
theorem ms_nil : PSs X [] (TSm K ga xn E C .skip) := by
  refine PSs_imp pss_nil ?_
  rintro D σ H ⟨Ω, σm, hm, hr, sr, p⟩
  unfold run at p
  exact p.next hr sr
theorem ms_seq {st : Stmt} {ss : List Stmt} {s1 s2 : MS} (h1 : PS X st (TSm K ga xn E C s1)) (h2 : PSs X ss (TSm K ga xn E C s2)) : PSs X (st :: ss) (TSm K ga xn E C (.seq s1 s2)) := by
  refine PSs_imp (pss_cons h1 h2) ?_
  rintro D σ H ⟨Ω, σm, hm, hr, sr, p⟩
  unfold run at p
  exact ⟨Ω, σm, hm, hr, sr, p.seq _ fun Ω1 H1 σm1 σ1 h1 l1 e1 r1 s1 p1 => ⟨Ω1, σm1, h1, r1, s1, p1⟩⟩
theorem ms_pass : PS X (.Pass pos) (TSm K ga xn E C .skip) := by
  refine PS_imp ps_pass ?_
  rintro D σ H ⟨Ω, σm, hm, hr, sr, p⟩
  unfold run at p
  exact p.next hr sr
theorem ms_brk : PS X (.Break pos) (TSm K ga xn E C .brk) := by
  refine PS_imp ps_break ?_
  rintro D σ H ⟨Ω, σm, hm, hr, sr, p⟩
  unfold run at p
  exact p Ω H σ (Nat.le_refl _) (Ext.refl _ _ _) hr sr
theorem ms_cnt : PS X (.Continue pos) (TSm K ga xn E C .cnt) := by
  refine PS_imp ps_continue ?_
  rintro D σ H ⟨Ω, σm, hm, hr, sr, p⟩
  unfold run at p
  exact p Ω H σ (Nat.le_refl _) (Ext.refl _ _ _) hr sr
theorem ms_never {st : Stmt} : PS X st (TSm K ga xn E C .never) := by
  refine PS_imp ps_never ?_
  rintro D σ H ⟨Ω, σm, hm, hr, sr, p⟩
  unfold run at p
  exact p
theorem plain_swap {e : Expr} {t : Option Expr} {l : Nat} {env : Env} (h : notComp e = true) : swapsWith e t l env = pure false := by
  cases e <;> first | rfl | cases h
/-- a comprehension's value to a name that is a cell: stored as any value -/
def cellNm (sc : Scope) (x : Str) : Expr → Bool
  | .ListComp .. => decide (sc.names.lookup x ≠ some .local)
  | _ => false
theorem swap_cell {e : Expr} {x : Str} {p : Pos} {l : Nat} {env : Env} (h : cellNm env.scope x e = true) : swapsWith e (some (.Name x p)) l env = pure false := by
  cases e with
  | ListComp elt gs scope pos =>
    have hne : env.scope.names.lookup x ≠ some .local := of_decide_eq_true h
    have hk : (env.kindOf x == some .local) = false := by
      cases q : (env.kindOf x == some .local) with
      | false => rfl
      | true => exact absurd (eq_of_beq q) hne
    unfold swapsWith
    simp only [hk, Bool.and_false, Bool.false_and]
    try rfl
  | _ => cases h
theorem swap_no {e : Expr} {x : Str} {p : Pos} {l : Nat} {env : Env} (h : (notComp e || cellNm env.scope x e) = true) : swapsWith e (some (.Name x p)) l env = pure false := by
  rw [Bool.or_eq_true] at h
  rcases h with h | h
  · exact plain_swap h
  · exact swap_cell h
theorem ms_asg {i : Nat} {x : Str} (co : CO P w K mg base (false, rp) n N sc fnc E X) (hx : nameOk N sc fnc i x = true) (he : PE X e (TEm K ga xn E C ea)) (hc : (notComp e || cellNm sc x e) = true) : PS X (.Assign [.Name x p] e pos) (TSm K ga xn E C (.asg i ea)) := by
  obtain ⟨h1, h2, h3⟩ := name_ok (pos := p) co hx
  refine PS_imp (ps_set (by rw [co.pN]; exact co.nd) h1 h2 he (swap_no (by rw [co.ps]; exact hc)) h3) ?_
  rintro D σ H ⟨Ω, σm, hm, hr, sr, p⟩
  unfold run at p
  refine te_of hr sr (PostS.out p) fun Ω1 H1 v h1 x l1 e1 r1 s1 vx p1 => ?_
  exact p1.next r1 (s1.set i vx)
/-- x = [comprehension] on one line -/
theorem ms_asgC {m : Bool} {i : Nat} {y : Str} {py : Pos} {own : List Nat} {t : Tg} {el it cond : ME} {scope : Scope} (co : CO P w K mg base (false, rp) n N sc fnc E X) (hy : N[i]? = some y) (hyl : sc.names.lookup y = some .local) (hkind : sc.kind = .function) (hl : (py.line == pos.line) = true) (hany : (scope.names.any fun (n, k) => n == y && (k == .local || k == .cell)) = false)
    (hi : PI X tg iter (TIm K ga xn E C it)) (hb : blkC N sc scope (mkOwn N own) = true) (ho : (mkOwn N own).map (·.2) = own) (hin : tgIn own t = true) (hset : notSet iter = true)
    (hg : ∀ X', CO P w K mg base (false, rp) n N (relab scope sc) (fun x => scope.names.lookup x == some .cell) E0 X' → PG X' tg (gTg K t) ∧ PTs X' ifs (TCm K ga xn E0 C cond) ∧ PE X' elt (TEm K ga xn E0 C el)) :
    PS X (.Assign [.Name y py] (.ListComp elt [⟨tg, iter, ifs, 0⟩] scope pos) p) (TSm K ga xn E C (.asg i (.mk m (.fc own t el it cond)))) := by
  have ok : BlkOk X.N X.env.scope scope (mkOwn N own) := by rw [co.pN, co.ps]; exact blkOk_by hb
  refine PS_imp (ps_setLc (i := i) (co.calm rfl) (by rw [co.pN]; exact co.nd) (by rw [co.pN]; exact hy) (by rw [co.ps]; exact hyl) (sw_true (by rw [co.ps]; exact hkind) (by rw [co.ps]; exact hyl) hl hany) hi ok (fun s H A cl fp => (hg _ (co.blk s H scope A cl fp)).1)
    (fun s H A cl fp => (hg _ (co.blk s H scope A cl fp)).2.1) (fun s H A cl fp => (hg _ (co.blk s H scope A cl fp)).2.2) (no_fold hset)) ?_
  rintro D σ H ⟨Ω, σm, hm, hr, sr, p⟩
  unfold run at p
  rw [ho]
  show tLc _ _ _ _ _ σ H _
  refine comp_reads hin ?_
  unfold evE at p
  refine tf_of hr sr (Post.bind (PostS.out p)) fun Ω1 H1 vs h1 q ys l1 e1 r1 s1 fr hq vx p1 => ?_
  show D.nx (σ.set i (some (.ref q))) H1
  cases m with
  | true =>
    rw [if_pos rfl] at p1
    have ex := ext_put Ω1 q H1 h1.length
    have hl : (h1 ++ [MO.lst vs]).length = h1.length + 1 := by simp
    have r2 := r1.snoc (o := .lst vs) fr ⟨ys, hq, vx.ext ex (Nat.le_succ _)⟩
    have p2 := p1 _ _ (by omega) ex r2
    exact p2.next r2 ((s1.ext ex (by omega)).set i (v_ref.mpr ⟨by omega, by show V.ref q = .ref (if h1.length = h1.length then q else _); rw [if_pos rfl]⟩))
  | false =>
    rw [if_neg Bool.false_ne_true] at p1
    have ex := ext_fz Ω1 q H1 h1.length
    have r2 := r1.fz hq fr
    have p2 := p1 _ _ (Nat.le_refl _) ex r2
    exact p2.next r2 ((s1.ext ex (Nat.le_refl _)).set i (v_lst.mpr ⟨q, ys, rfl, ⟨.inr rfl, hq⟩, vx.ext ex (Nat.le_refl _)⟩))
def notTup : Expr → Bool
  | .Tuple .. => false
  | _ => true
/-- the names of a tuple of targets do not change their places with a tuple of values -/
def tupSw (sc : Scope) (ts : List Expr) (e : Expr) : Bool := notTup e || ts.any fun
  | .Name x _ => decide (sc.names.lookup x ≠ some .local)
  | _ => true
theorem tup_sw {sc : Scope} {ts : List Expr} {e : Expr} {env : Env} {k : Nat} (hs : env.scope = sc) (h : tupSw sc ts e = true) : swappedStores [.Tuple ts k p2] e env = pure none := by
  cases e with
  | Tuple vs k2 p3 =>
    unfold tupSw at h
    rw [show notTup (.Tuple vs k2 p3) = false from rfl, Bool.false_or] at h
    unfold swappedStores
    dsimp only
    split
    · rfl
    · split
      · rfl
      · rw [if_pos]
        rw [Bool.or_eq_true]
        left
        obtain ⟨t, ht, hb⟩ := List.any_eq_true.mp h
        rw [bne_iff_ne]
        refine Nat.ne_of_lt (List.length_filterMap_lt_length_iff_exists.mpr ⟨t, ht, ?_⟩)
        cases t with
        | Name x p =>
          have hx : sc.names.lookup x ≠ some .local := of_decide_eq_true hb
          have : env.kindOf x = sc.names.lookup x := by rw [← hs]; rfl
          simp only [this]
          rw [if_neg]
          rw [Bool.and_eq_true]
          exact fun z => hx (eq_of_beq z.1)
        | _ => rfl
  | _ => rfl
theorem ms_unp {is : List Nat} {ts : List Expr} {k : Nat} (co : CO P w K mg base (false, rp) n N sc fnc E X) (ht : chkTg N sc fnc (.tp is) (.Tuple ts k p2) = true) (he : PE X e (TEm K ga xn E C ea)) (hn : tupSw sc ts e = true) :
    PS X (.Assign [.Tuple ts k p2] e pos) (TSm K ga xn E C (.unp is ea)) := by
  refine PS_imp (ps_asg he (tg_ok co ht) (by cases e <;> rfl) (tup_sw co.ps hn)) ?_
  rintro D σ H ⟨Ω, σm, hm, hr, sr, p⟩
  unfold run at p
  refine te_of hr sr (PostS.out p) fun Ω1 H1 v h1 x l1 e1 r1 s1 vx p1 => ?_
  cases q : setT (.tp is) v σm with
  | none => simp only [q] at p1; exact p1.elim
  | some σ1 =>
    simp only [q] at p1
    exact tg_set q vx s1 fun σ' s' => p1.next r1 s'
theorem ms_ex (he : PE X e (TEm K ga xn E C ea)) (hc : notComp e = true) : PS X (.Expr e pos) (TSm K ga xn E C (.ex ea)) := by
  refine PS_imp (ps_expr he (plain_swap hc)) ?_
  rintro D σ H ⟨Ω, σm, hm, hr, sr, p⟩
  unfold run at p
  refine te_of hr sr (PostS.out p) fun Ω1 H1 v h1 x l1 e1 r1 s1 vx p1 => ?_
  exact p1.next r1 s1
theorem ms_ret (he : PE X e (TEm K ga xn E C ea)) : PS X (.Return (some e) pos) (TSm K ga xn E C (.ret ea)) := by
  refine PS_imp (ps_ret he) ?_
  rintro D σ H ⟨Ω, σm, hm, hr, sr, p⟩
  unfold run at p
  refine te_of hr sr (PostS.out p) fun Ω1 H1 v h1 x l1 e1 r1 s1 vx p1 => ?_
  exact p1 Ω1 H1 x (Nat.le_refl _) (Ext.refl _ _ _) r1 vx
theorem ms_retN : PS X (.Return none pos) (TSm K ga xn E C .retN) := by
  refine PS_imp ps_retN ?_
  rintro D σ H ⟨Ω, σm, hm, hr, sr, p⟩
  unfold run at p
  exact p Ω H _ (Nat.le_refl _) (Ext.refl _ _ _) hr (v_non.mpr rfl)
theorem ms_ite {sa sb : List Stmt} {s1 s2 : MS} (hc : PT X c (TTm K ga xn E C ec)) (h1 : PSs X sa (TSm K ga xn E C s1)) (h2 : PSs X sb (TSm K ga xn E C s2)) : PS X (.If c sa sb pos) (TSm K ga xn E C (.ite ec s1 s2)) := by
  refine PS_imp (ps_if hc h1 h2) ?_
  rintro D σ H ⟨Ω, σm, hm, hr, sr, p⟩
  unfold run at p
  refine tt_of hr sr (PostS.out p) fun Ω1 H1 t h1 l1 e1 r1 s1 p1 => ?_
  cases t with
  | true => rw [if_pos rfl] at p1 ⊢; exact ⟨Ω1, σm, h1, r1, s1, p1⟩
  | false => rw [if_neg Bool.false_ne_true] at p1 ⊢; exact ⟨Ω1, σm, h1, r1, s1, p1⟩
theorem set_field {Ω : Om} {H : Hp} {h h3 : MHeap} {x : V} {mx v : MV} {y : V} {f : Str} (gf : GF P w K mg base ga xn G C n) (hr : HRel K ga Ω h H) (vx : VRel K ga Ω h.length H mx x) (vy : VRel K ga Ω h.length H v y) (q : setFV C.na mx f v h = some h3) :
    ∃ a cA dx fs, x = .ref a ∧ H a = some (.ins cA dx fs) ∧ Cls K cA ∧ NoAttr K cA f ∧ fs.length < 1000 ∧ Ext h.length Ω H Ω (upd H a (.ins cA dx (putF f y fs))) ∧ HRel K ga Ω h3 (upd H a (.ins cA dx (putF f y fs))) ∧ h3.length = h.length := by
  unfold setFV at q
  cases mx <;> first | cases q | skip
  rename_i m
  obtain ⟨hn, rfl⟩ := v_ref.mp vx
  cases z : h[m]? with
  | none => simp [z] at q
  | some o =>
    have ob := hr.obj m o z
    cases o with
    | ins c fs =>
      simp only [z] at q
      split at q
      · rename_i hc
        cases q
        obtain ⟨dx, ys, r1, r2⟩ := ob
        obtain ⟨c1, c2⟩ := gf.na c f hc.1
        have hl : fs.length = ys.length := r2.length
        have put : ∀ {fs : List (Str × MV)} {ys : List (Str × V)}, FRel K ga Ω h.length H fs ys → FRel K ga Ω h.length H (putM f v fs) (putF f y ys) := by
          intro fs ys r
          induction r with
          | nil => exact .cons ⟨rfl, vy⟩ .nil
          | @cons p q fs ys r t ih =>
            obtain ⟨g, u⟩ := p
            obtain ⟨g', u'⟩ := q
            obtain rfl : g = g' := r.1
            unfold putM putF
            by_cases e : g = f
            · rw [if_pos e, if_pos e]; exact .cons ⟨rfl, vy⟩ t
            · rw [if_neg e, if_neg e]; exact .cons r ih
        obtain ⟨r3, ex⟩ := hr.set (o := .ins c (putM f v fs)) (u := .ins (ga c) dx (putF f y ys)) hn ⟨_, z, fun e => by cases e⟩ ⟨dx, _, rfl, put r2⟩ (by rw [r1]; trivial)
        exact ⟨_, ga c, dx, ys, rfl, r1, c1, c2, by omega, ex, r3, by simp⟩
      · cases q
    | _ => simp [z] at q
theorem ms_setf {f : Str} (co : CO P w K mg base (false, rp) n N sc fnc E X) (gf : GF P w K mg base ga xn G C n) (ho : PE X o (TEm K ga xn E C eb)) (he : PE X e (TEm K ga xn E C ea)) : PS X (.Assign [.Attribute o f p] e pos) (TSm K ga xn E C (.setf eb f ea)) := by
  refine PS_imp (ps_fld ho he (by cases e <;> rfl)) ?_
  rintro D σ H ⟨Ω, σm, hm, hr, sr, p⟩
  rw [co.pK]
  unfold run at p
  refine te_of hr sr (PostS.out p) fun Ω1 H1 v h1 y l1 e1 r1 s1 vy p1 => ?_
  refine te_of r1 s1 (PostS.out p1) fun Ω2 H2 mx h2 x l2 e2 r2 s2 vx p2 => ?_
  cases q : setFV C.na mx f v h2 with
  | none => simp only [q] at p2; exact p2.elim
  | some h3 =>
    simp only [q] at p2
    obtain ⟨a, cA, dx, fs, g1, g2, g3, g4, g5, ex, r3, hl⟩ := set_field gf r2 vx (vy.ext e2 l2) q
    exact ⟨a, cA, dx, fs, g1, g2, g3, g4, g5, p2 Ω2 _ σ (by omega) ex r3 (s2.ext ex (by omega))⟩
theorem sub_assign {i : Expr} {env : Env} (h : notSlice i = true) : ∀ v, assign (.Subscript o i p) env v = (do
      let ov ← holding [v] (eval o env)
      let iv ← holding [v, ov] (eval i env)
      standAt p
      holding [v, ov, iv] (setItem ov iv v)
      release [v, ov, iv] []) := by
  intro v
  cases i <;> first | rfl | cases h
theorem ms_seti {i : Expr} {ei : ME} (co : CO P w K mg base (false, rp) n N sc fnc E X) (ho : PE X o (TEm K ga xn E C eb)) (hi : PE X i (TEm K ga xn E C ei)) (he : PE X e (TEm K ga xn E C ea)) (hs : notSlice i = true) : PS X (.Assign [.Subscript o i p] e pos) (TSm K ga xn E C (.seti eb ei ea)) := by
  refine PS_imp (ps_asg he (pg_sub ho hi set_list (sub_assign hs)) (by cases e <;> rfl) (by cases e <;> rfl)) ?_
  rintro D σ H ⟨Ω, σm, hm, hr, sr, p⟩
  unfold run at p
  refine te_of hr sr (PostS.out p) fun Ω1 H1 v h1 y l1 e1 r1 s1 vy p1 => ?_
  refine te_of r1 s1 (PostS.out p1) fun Ω2 H2 mx h2 x l2 e2 r2 s2 vx p2 => ?_
  refine te_of r2 s2 (PostS.out p2) fun Ω3 H3 mi h3 xi l3 e3 r3 s3 vi p3 => ?_
  have vx3 := vx.ext e3 l3
  have vy3 := vy.ext (e2.trans e3 l2) (Nat.le_trans l2 l3)
  cases q : setIV mx mi v h3 with
  | none => simp only [q] at p3; exact p3.elim
  | some h4 =>
    simp only [q] at p3
    unfold setIV at q
    split at q
    · rename_i m k
      split at q
      · rename_i xs z
        split at q
        · rename_i j hj
          cases q
          obtain ⟨hn, rfl⟩ := v_ref.mp vx3
          rw [v_int] at vi
          subst vi
          obtain ⟨ys, g1, g2⟩ := r3.obj m _ z
          obtain ⟨r4, ex⟩ := r3.set (o := .lst (xs.set j v)) (u := .lst (ys.set j y)) hn ⟨_, z, fun e => by cases e⟩ ⟨_, rfl, vrels_iff.mpr (pr_set vy3 j (vrels_iff.mp g2))⟩ (by rw [g1]; trivial)
          exact ⟨_, ys, k, j, rfl, rfl, g1, by rw [← vs_len g2]; exact hj, p3 Ω3 _ σ (by rw [List.length_set]; exact Nat.le_refl _) ex r4 (s3.ext ex (by rw [List.length_set]; exact Nat.le_refl _))⟩
        · cases q
      · cases q
    · cases q
def rAug (op : Operator) : TIp := fun x y H Q => ∃ i j, x = .int i ∧ y = .int j ∧ ((op = .Add ∧ Q (.int (i + j)) H) ∨ (op = .Sub ∧ Q (.int (i - j)) H))
theorem ip_aug {op : Operator} : PIp X op (rAug op) := by
  rintro pins s σ H x y v u Q I r1 r2 ⟨i, j, h1, h2, h | h⟩
  · obtain ⟨rfl, q⟩ := h
    exact ip_add pins s σ H x y v u Q I r1 r2 ⟨i, j, h1, h2, q⟩
  · obtain ⟨rfl, q⟩ := h
    exact ip_sub pins s σ H x y v u Q I r1 r2 ⟨i, j, h1, h2, q⟩
theorem ms_aug {i : Nat} {x : Str} {op : Operator} (co : CO P w K mg base (false, rp) n N sc fnc E X) (hx : nameOk N sc fnc i x = true) (he : PE X e (TEm K ga xn E C ea)) : PS X (.AugAssign (.Name x p) op e pos) (TSm K ga xn E C (.aug i op ea)) := by
  obtain ⟨h1, h2, h3⟩ := name_ok (pos := p) co hx
  refine PS_imp (ps_aug (by rw [co.pN]; exact co.nd) h1 h2 he ip_aug h3) ?_
  rintro D σ H ⟨Ω, σm, hm, hr, sr, p⟩
  unfold run at p
  cases q : σm[i]? with
  | none => simp only [q] at p; exact p.elim
  | some ov =>
    cases ov with
    | none => simp only [q] at p; exact p.elim
    | some mv =>
      simp only [q] at p
      obtain ⟨x0, hx0, vx0⟩ := sr.2 i mv q
      refine ⟨x0, hx0, ?_⟩
      refine te_of hr sr (PostS.out p) fun Ω1 H1 v h1 y l1 e1 r1 s1 vy p1 => ?_
      have vx1 := vx0.ext e1 l1
      split at p1
      · rw [v_int] at vx1 vy
        exact ⟨_, _, vx1, vy, .inl ⟨rfl, p1.next r1 (s1.set i (v_int.mpr rfl))⟩⟩
      · rw [v_int] at vx1 vy
        exact ⟨_, _, vx1, vy, .inr ⟨rfl, p1.next r1 (s1.set i (v_int.mpr rfl))⟩⟩
      · exact p1.elim
/-- a, b = x, y -/
theorem par_stores {x y : Str} {px py pt : Pos} {kt k2 : Nat} {pt2 : Pos} {env : Env} (hk : env.scope.kind = .function) (hx : env.scope.names.lookup x = some .local) (hy : env.scope.names.lookup y = some .local) (hl : (py.line == px.line) = true) (hne : (x == y) = false)
    (f1 : ([a, b].all (foldedForSure 8)) = false) (f2 : ([a, b].all (constantsAlone 8)) = false) (s1 : notStar a = true) (s2 : notStar b = true) : swappedStores [.Tuple [.Name x px, .Name y py] kt pt] (.Tuple [a, b] k2 pt2) env = pure (some [x, y]) := by
  have hb : env.blockKind = .function := by unfold Env.blockKind; rw [hk]; rfl
  have kx : env.kindOf x = some .local := hx
  have ky : env.kindOf y = some .local := hy
  have st : ([a, b].any fun | .Starred .. => true | _ => false) = false := by
    cases a <;> cases b <;> first | rfl | exact Bool.noConfusion s1 | exact Bool.noConfusion s2
  have hne' : ¬ y = x := fun e => by subst e; simp at hne
  have dd : ([x, y] : List Str).eraseDups = [x, y] := by
    simp [List.eraseDups_cons, List.filter_cons, hne']
  unfold swappedStores
  simp only [hb, kx, ky, f1, f2, hl, Expr.pos, List.filterMap_cons, List.filterMap_nil, List.head?_cons, Option.map_some, Option.getD_some, beq_self_eq_true, Bool.and_self, Bool.true_and, if_true, dd, List.length_cons, List.length_nil]
  refine (if_neg (by decide)).trans ((if_neg ?_).trans ((if_neg (by decide)).trans ?_))
  · rw [Bool.not_eq_true]
    exact st
  · rfl
theorem ms_par {i j : Nat} {x y : Str} {px py pt : Pos} {kt k2 : Nat} {pt2 : Pos} (co : CO P w K mg base (false, rp) n N sc fnc E X) (hi : N[i]? = some x) (hj : N[j]? = some y) (hij : i ≠ j) (hk : sc.kind = .function) (hx : sc.names.lookup x = some .local) (hy : sc.names.lookup y = some .local) (hl : (py.line == px.line) = true) (hne : (x == y) = false)
    (f1 : ([a, b].all (foldedForSure 8)) = false) (f2 : ([a, b].all (constantsAlone 8)) = false) (s1 : notStar a = true) (s2 : notStar b = true) (ha : PE X a (TEm K ga xn E C ea)) (hb : PE X b (TEm K ga xn E C eb)) :
    PS X (.Assign [.Tuple [.Name x px, .Name y py] kt pt] (.Tuple [a, b] k2 pt2) pos) (TSm K ga xn E C (.par i j ea eb)) := by
  refine PS_imp (ps_par (co.calm rfl) (by rw [co.pN]; exact co.nd) (by rw [co.pN]; exact hi) (by rw [co.pN]; exact hj) hij (by rw [co.ps]; exact hx) (by rw [co.ps]; exact hy) (pa_cons ha (pa_cons hb pa_nil (star_one s2)) (star_one s1))
    (par_stores (by rw [co.ps]; exact hk) (by rw [co.ps]; exact hx) (by rw [co.ps]; exact hy) hl hne f1 f2 s1 s2)) ?_
  rintro D σ H ⟨Ω, σm, hm, hr, sr, p⟩
  unfold run at p
  refine te_of hr sr (PostS.out p) fun Ω1 H1 v h1 y l1 e1 r1 s1 vy p1 => ?_
  refine te_of r1 s1 (PostS.out p1) fun Ω2 H2 u h2 z l2 e2 r2 s2 vz p2 => ?_
  exact ⟨y, z, rfl, p2.next r2 ((s2.set i (vy.ext e2 l2)).set j vz)⟩

/-! ### loops -/
theorem ms_for {t : Tg} {it : ME} {body : List Stmt} {s1 : MS} (co : CO P w K mg base (false, rp) n N sc fnc E X) (hp : PassesOwn (model X.prog X.w) X.A X.env X.xe) (hi : PI X tg iter (TIm K ga xn E C it)) (hg : chkTg N sc fnc t tg = true) (hb : PSs X body (TSm K ga xn E C s1)) (hset : notSet iter = true) :
    PS X (.For tg iter body [] pos) (TSm K ga xn E C (.for_ t it s1)) := by
  refine PS_imp (ps_for hp (co.calm rfl) hi (tg_ok co hg) hb (no_fold hset)) ?_
  rintro D σ H ⟨Ω, σm, hm, hr, sr, p⟩
  unfold run at p
  refine ⟨Ω, σm, hm, hr, sr, (PostS.out p).mono fun Ω1 H1 s h1 l1 e1 r1 p1 J hJ => ?_⟩
  have sr1 := sr.ext e1 l1
  let f : MV → MSt → MHeap → Out := fun x σ1 h2 => match setT t x σ1 with
      | some σ2 => run C s1 σ2 h2
      | none => .bad
  have p1 : PostS K ga xn E h1.length Ω1 H1 (forL s.Ok f s.xs σm h1) D := p1
  refine ⟨fun i m σ H => ∃ Ω σm h, h1.length ≤ h.length ∧ Ext h1.length Ω1 H1 Ω H ∧ HRel K ga Ω h H ∧ SRel K ga Ω h.length H σm σ ∧ i ≤ s.xs.length ∧ m = s.xs.length - i ∧ PostS K ga xn E h.length Ω H (forL s.Ok f (s.xs.drop i) σm h) D,
    ⟨_, Ω1, σm, h1, Nat.le_refl _, Ext.refl _ _ _, r1, sr1, Nat.zero_le _, rfl, by rw [List.drop_zero]; exact p1⟩, ?_⟩
  rintro i m σ2 H2 ⟨Ω2, σm2, h2, l2, e2, r2, sr2, hi', rfl, p2⟩
  by_cases hlt : i < s.xs.length
  · right
    rw [List.drop_eq_getElem_cons hlt] at p2
    unfold forL at p2
    split at p2
    · rename_i hok
      obtain ⟨_, hgo⟩ := hJ Ω2 h2 H2 l2 e2.z r2 hok
      obtain ⟨hg1, hy⟩ := hgo i _ (List.getElem?_eq_getElem hlt)
      refine ⟨hg1, fun σ' H' => ∃ Ω σm h, h1.length ≤ h.length ∧ Ext h1.length Ω1 H1 Ω H' ∧ HRel K ga Ω h H' ∧ SRel K ga Ω h.length H' σm σ' ∧ PostS K ga xn E h.length Ω H' (forL s.Ok f (s.xs.drop (i + 1)) σm h) D,
        fun σ' H' ⟨Ω, σm, h, a1, a2, a3, a4, a5⟩ => ⟨s.xs.length - (i + 1), by omega, Ω, σm, h, a1, a2, a3, a4, hlt, rfl, a5⟩, fun v H3 hyl => ?_⟩
      obtain ⟨e3, r3, vx⟩ := hy v H3 hyl
      cases qs : setT t s.xs[i] σm2 with
      | none => simp only [f, qs] at p2; exact p2.elim
      | some σ4 =>
        simp only [f, qs] at p2
        refine tg_set qs vx (sr2.ext e3 (Nat.le_refl _)) fun σ' srs => ⟨Ω2, σ4, h2, r3, srs, ?_⟩
        have p3 := p2.later e3 (Nat.le_refl _)
        clear p2
        have go : ∀ {σm5 : MSt} {h5 : MHeap}, PostS K ga xn E h2.length Ω2 H3 (forL s.Ok f (s.xs.drop (i + 1)) σm5 h5) D → ∀ Ω5 H5 σ5, h2.length ≤ h5.length → Ext h2.length Ω2 H3 Ω5 H5 → HRel K ga Ω5 h5 H5 → SRel K ga Ω5 h5.length H5 σm5 σ5 →
            ∃ Ω σm h, h1.length ≤ h.length ∧ Ext h1.length Ω1 H1 Ω H5 ∧ HRel K ga Ω h H5 ∧ SRel K ga Ω h.length H5 σm σ5 ∧ PostS K ga xn E h.length Ω H5 (forL s.Ok f (s.xs.drop (i + 1)) σm h) D :=
          fun {σm5 h5} p5 Ω5 H5 σ5 l5 e5 r5 s5 => ⟨Ω5, σm5, h5, Nat.le_trans l2 l5, (e2.trans e3 l2).trans e5 l2, r5, s5, p5.later e5 l5⟩
        cases qr : run C s1 σ4 h2 with
        | next σ5 h5 => simp only [qr] at p3; exact go p3
        | cnt σ5 h5 => simp only [qr] at p3; exact go p3
        | brk σ5 h5 => simp only [qr] at p3; exact p3
        | ret v5 h5 => simp only [qr] at p3; exact p3
        | exc c5 v5 h5 => simp only [qr] at p3; exact p3
        | bad => simp only [qr] at p3; exact p3
    · exact p2.elim
  · left
    have hi2 : i = s.xs.length := by omega
    subst hi2
    rw [List.drop_length] at p2
    unfold forL at p2
    split at p2
    · rename_i hok
      obtain ⟨hst, _⟩ := hJ Ω2 h2 H2 l2 e2.z r2 hok
      exact ⟨hst, p2.next r2 sr2⟩
    · exact p2.elim
theorem ms_whl {body : List Stmt} {s1 : MS} (co : CO P w K mg base (false, rp) n N sc fnc E X) (hp : PassesOwn (model X.prog X.w) X.A X.env X.xe) (hc : PT X c (TTm K ga xn E C ec)) (hb : PSs X body (TSm K ga xn E C s1)) :
    PS X (.While c body [] pos) (TSm K ga xn E C (.whl ec s1)) := by
  refine PS_imp (ps_while hp hc hb) ?_
  rintro D σ H ⟨Ω, σm, hm, hr, sr, p⟩
  unfold run whl at p
  split at p
  · rename_i hk
    generalize Classical.choose hk = k at p
    refine ⟨fun m σ H => ∃ Ω σm h, HRel K ga Ω h H ∧ SRel K ga Ω h.length H σm σ ∧ PostS K ga xn E h.length Ω H (whlL (evT C ec) (run C s1) m σm h) D, ⟨k, Ω, σm, hm, hr, sr, p⟩, ?_⟩
    rintro m σ1 H1 ⟨Ω1, σm1, h1, r1, s1', p1⟩
    cases m with
    | zero => exact p1.elim
    | succ m =>
      unfold whlL at p1
      refine tt_of r1 s1' (PostS.out p1) fun Ω2 H2 t h2 l2 e2 r2 s2 p2 => ?_
      cases t with
      | false => rw [if_neg Bool.false_ne_true] at p2 ⊢; exact p2.next r2 s2
      | true =>
        rw [if_pos rfl] at p2 ⊢
        refine ⟨fun σ' H' => ∃ Ω σm h, HRel K ga Ω h H' ∧ SRel K ga Ω h.length H' σm σ' ∧ PostS K ga xn E h.length Ω H' (whlL (evT C ec) (run C s1) m σm h) D, fun σ' H' h' => ⟨m, Nat.lt_succ_self _, h'⟩, Ω2, σm1, h2, r2, s2, ?_⟩
        have go : ∀ {σm5 : MSt} {h5 : MHeap}, PostS K ga xn E h2.length Ω2 H2 (whlL (evT C ec) (run C s1) m σm5 h5) D → ∀ Ω5 H5 σ5, h2.length ≤ h5.length → Ext h2.length Ω2 H2 Ω5 H5 → HRel K ga Ω5 h5 H5 → SRel K ga Ω5 h5.length H5 σm5 σ5 →
            ∃ Ω σm h, HRel K ga Ω h H5 ∧ SRel K ga Ω h.length H5 σm σ5 ∧ PostS K ga xn E h.length Ω H5 (whlL (evT C ec) (run C s1) m σm h) D :=
          fun {σm5 h5} p5 Ω5 H5 σ5 l5 e5 r5 s5 => ⟨Ω5, σm5, h5, r5, s5, p5.later e5 l5⟩
        cases qr : run C s1 σm1 h2 with
        | next σ5 h5 => simp only [qr] at p2; exact go p2
        | cnt σ5 h5 => simp only [qr] at p2; exact go p2
        | brk σ5 h5 => simp only [qr] at p2; exact p2
        | ret v5 h5 => simp only [qr] at p2; exact p2
        | exc c5 v5 h5 => simp only [qr] at p2; exact p2
        | bad => simp only [qr] at p2; exact p2
  · exact p.elim
end
end Mn
namespace Mn
open PySem PySem.Spec PyProof.Rows L2
variable {P : Program} {w : World} {K : PySem.W.Frag} {mg : Str → Option Value} {base : Heap} {ga : Str → Addr} {xn : Str → Str}
variable {G : Gs} {C : Ct} {hot : Bool × Bool} {rp : Bool} {n : Nat} {N : List Str} {sc : Scope} {fnc : Str → Bool} {E : XK} {X : Cx}

/-! ### dicts: what goes together -/
section
variable {Ω : Om} {H : Hp} {L : Nat} {h : MHeap}
theorem dctR_rel {m : MV} {x : V} {kvs : List (Key × MV)} (hr : HRel K ga Ω h H) (r : VRel K ga Ω h.length H m x) (s : dctR h m = some kvs) : ∃ a kys, x = .ref a ∧ Rd H a (.dK kys) ∧ DRel K ga Ω h.length H kvs kys := by
  cases m with
  | ref n =>
    obtain ⟨hn, e⟩ := v_ref.mp r
    unfold dctR at s
    cases q : h[n]? with
    | none => simp [q] at s
    | some o =>
      have ob := hr.obj n o q
      cases o with
      | dct zs =>
        simp [q] at s
        subst s
        obtain ⟨ys, r1, r2⟩ := ob
        exact ⟨_, ys, e, .inl r1, r2⟩
      | dlk zs =>
        simp [q] at s
        subst s
        obtain ⟨o, ys, r1, r2⟩ := ob
        exact ⟨_, ys, e, .inr ⟨o, r1⟩, r2⟩
      | _ => simp [q] at s
  | _ => cases s
theorem key_rel {m : MV} {x : V} {k : Key} (r : VRel K ga Ω L H m x) (e : keyM m = some k) : x = kV k := by
  cases m with
  | int i => cases e; exact v_int.mp r
  | str i => cases e; exact v_str.mp r
  | _ => cases e
theorem keyV_rel {k : Key} : VRel K ga Ω L H (keyV k) (kV k) := by
  cases k with
  | inl i => exact v_int.mpr rfl
  | inr i => exact v_str.mpr rfl
theorem val_rel {k : Key} : ∀ {kvs : List (Key × MV)} {kys : List (Key × V)}, DRel K ga Ω L H kvs kys → (∀ v, valM kvs k = some v → ∃ y, valV kys k = some y ∧ VRel K ga Ω L H v y) ∧ (valM kvs k = none → valV kys k = none) := by
  intro kvs kys r
  induction r with
  | nil => exact ⟨(fun v e => by cases e), fun _ => rfl⟩
  | @cons p q ps qs r t ih =>
    obtain ⟨a, b⟩ := p
    obtain ⟨a', b'⟩ := q
    obtain rfl : a = a' := r.1
    unfold valM valV at ih ⊢
    rw [List.find?_cons, List.find?_cons]
    by_cases e : a = k
    · simp only [e, decide_true]
      exact ⟨(fun v z => by cases z; exact ⟨b', rfl, r.2⟩), (fun z => by cases z)⟩
    · simp only [e, decide_false]
      exact ih
theorem val_some {k : Key} {kvs : List (Key × MV)} {kys : List (Key × V)} (r : DRel K ga Ω L H kvs kys) : (valV kys k).isSome = (valM kvs k).isSome := by
  cases e : valM kvs k with
  | none => rw [(val_rel r).2 e]; rfl
  | some v => obtain ⟨y, h1, _⟩ := (val_rel r).1 v e; rw [h1]; rfl
theorem any_rel {k : Key} {kvs : List (Key × MV)} {kys : List (Key × V)} (r : DRel K ga Ω L H kvs kys) : (kys.any fun kv => decide (kv.1 = k)) = (kvs.any fun kv => decide (kv.1 = k)) := by
  induction r with
  | nil => rfl
  | @cons p q ps qs r t ih => rw [List.any_cons, List.any_cons, ih, r.1]
theorem mapk_rel {k : Key} {v : MV} {y : V} {kvs : List (Key × MV)} {kys : List (Key × V)} (r : DRel K ga Ω L H kvs kys) (vy : VRel K ga Ω L H v y) : DRel K ga Ω L H (kvs.map fun kv => if kv.1 = k then (kv.1, v) else kv) (kys.map fun kv => if kv.1 = k then (kv.1, y) else kv) := by
  induction r with
  | nil => exact .nil
  | @cons p q ps qs r t ih =>
    rw [List.map_cons, List.map_cons]
    refine .cons ?_ ih
    by_cases e : p.1 = k
    · rw [if_pos e, if_pos (by rw [← r.1]; exact e)]
      exact ⟨r.1, vy⟩
    · rw [if_neg e, if_neg (by rw [← r.1]; exact e)]
      exact r
theorem put_rel {k : Key} {v : MV} {y : V} {kvs : List (Key × MV)} {kys : List (Key × V)} (r : DRel K ga Ω L H kvs kys) (vy : VRel K ga Ω L H v y) : DRel K ga Ω L H (putKM kvs k v) (putK kys k y) := by
  unfold putKM putK
  rw [any_rel r]
  split
  · exact mapk_rel r vy
  · exact pr_app r (.cons ⟨rfl, vy⟩ .nil)
theorem merge_rel {ps : List (Key × MV)} {qs : List (Key × V)} (r : DRel K ga Ω L H ps qs) : ∀ {kvs : List (Key × MV)} {kys : List (Key × V)}, DRel K ga Ω L H kvs kys → DRel K ga Ω L H (mergeM kvs ps) (mergeK kys qs) := by
  induction r with
  | nil => exact fun q => q
  | @cons p q ps qs r t ih =>
    intro kvs kys s
    unfold mergeM mergeK at ih ⊢
    rw [List.foldl_cons, List.foldl_cons, ← r.1]
    exact ih (put_rel s r.2)
theorem putKM_len {k : Key} {v : MV} {kvs : List (Key × MV)} : kvs.length ≤ (putKM kvs k v).length := by
  unfold putKM
  split <;> simp
/-- a new object of ours, laid where nothing stood -/
theorem new_obj {o : MO} {u : HO} {Q : VK} (hr : HRel K ga Ω h H) (ho : ∀ p, H p = none → ORel K ga (Ω.put h.length p) (h.length + 1) (upd H p u) o (some u))
    (p : Post K ga xn E h.length Ω H (.ok (.ref h.length) (h ++ [o])) (Kv K ga Q)) : ∀ q, H q = none → Q (.ref q) (upd H q u) := fun q hq => by
  have ex := ext_new (o := u) hr hq
  have r1 := hr.new (o := u) hq
  have ep := ext_put Ω q (upd H q u) h.length
  have r2 := r1.snoc (o := o) (hr.free hq) (by rw [upd_same]; exact ho q hq)
  have hl : (h ++ [o]).length = h.length + 1 := by simp
  exact p _ _ (by omega) (ex.trans ep (Nat.le_refl _)) r2 _ (v_ref.mpr ⟨by omega, by show V.ref q = .ref (if h.length = h.length then q else _); rw [if_pos rfl]⟩)
theorem dnew_ext {p : Addr} {u : HO} {kvs : List (Key × MV)} {kys : List (Key × V)} (hr : HRel K ga Ω h H) (hp : H p = none) (r : DRel K ga Ω h.length H kvs kys) : DRel K ga (Ω.put h.length p) (h.length + 1) (upd H p u) kvs kys :=
  (r.ext (ext_new hr hp) (Nat.le_refl _)).ext (ext_put Ω p _ h.length) (Nat.le_succ _)
end

section
variable {a b c e o : Expr} {es : List Expr} {ea eb ec : ME} {pos p p2 apos : Pos}
theorem me_dix (co : CO P w K mg base hot n N sc fnc E X) (ha : PE X a (TEm K ga xn E C ea)) (hb : PE X b (TEm K ga xn E C eb)) (hs : notSlice b = true) : PE X (.Subscript a b pos) (TEm K ga xn E C (.x2 .dix ea eb)) := by
  refine PE_imp (pe_dget (hu_of2 co.units) ha hb (plain_ix hs)) ?_
  rintro σ H Q ⟨Ω, σm, hm, hr, sr, p⟩
  unfold evE at p
  refine te_of hr sr (Post.bind p) fun Ω1 H1 v h1 x l1 e1 r1 s1 vx p1 => ?_
  rw [show x2P .dix v h1 = true from rfl, if_pos rfl] at p1
  refine te_of r1 s1 (Post.bind p1) fun Ω2 H2 u h2 y l2 e2 r2 s2 vy p2 => ?_
  unfold x2V at p2
  simp only at p2
  split at p2
  · rename_i kvs k q1 q2
    obtain ⟨a', kys, rfl, hd, dr⟩ := dctR_rel r2 (vx.ext e2 l2) q1
    cases q3 : valM kvs k with
    | none => rw [q3] at p2; exact False.elim p2
    | some v2 =>
      rw [q3] at p2
      obtain ⟨z, h3, h4⟩ := (val_rel dr).1 v2 q3
      exact ⟨a', z, rfl, .inl ⟨kys, k, hd, key_rel vy q2, h3.symm⟩, Post.here (show Post K ga xn E h2.length Ω2 H2 (.ok v2 h2) _ from p2) r2 z h4⟩
  · exact p2.elim
theorem dget_at {Ω : Om} {H : Hp} {h : MHeap} {v u : MV} {x y : V} {kvs : List (Key × MV)} {k : Key} (r2 : HRel K ga Ω h H) (vx : VRel K ga Ω h.length H v x) (vy : VRel K ga Ω h.length H u y) (q1 : dctR h v = some kvs) (q2 : keyM u = some k) :
    ∃ a kys, x = .ref a ∧ DGet H a y (valV kys k) ∧ DRel K ga Ω h.length H kvs kys := by
  obtain ⟨a', kys, e, hd, dr⟩ := dctR_rel r2 vx q1
  exact ⟨a', kys, e, .inl ⟨kys, k, hd, key_rel vy q2, rfl⟩, dr⟩
theorem me_din (co : CO P w K mg base hot n N sc fnc E X) (ha : PE X a (TEm K ga xn E C ea)) (hb : PE X b (TEm K ga xn E C eb)) (hs : notSet b = true) : PE X (.Compare a [.In] [b] pos) (TEm K ga xn E C (.x2 .din ea eb)) := by
  refine PE_imp (pe_cmp (pc_din (hu_of2 co.units) ha hb) (no_mark hs)) ?_
  rintro σ H Q ⟨Ω, σm, hm, hr, sr, p⟩
  unfold evE at p
  refine te_of hr sr (Post.bind p) fun Ω1 H1 v h1 x l1 e1 r1 s1 vx p1 => ?_
  rw [show x2P .din v h1 = true from rfl, if_pos rfl] at p1
  refine te_of r1 s1 (Post.bind p1) fun Ω2 H2 u h2 y l2 e2 r2 s2 vy p2 => ?_
  unfold x2V at p2
  simp only at p2
  split at p2
  · rename_i k kvs q2 q1
    obtain ⟨a', kys, rfl, hd, dr⟩ := dget_at r2 vy (vx.ext e2 l2) q1 q2
    exact ⟨a', _, rfl, hd, p2.here r2 _ (v_bl.mpr (by rw [val_some dr]))⟩
  · exact p2.elim
theorem me_dnin (co : CO P w K mg base hot n N sc fnc E X) (ha : PE X a (TEm K ga xn E C ea)) (hb : PE X b (TEm K ga xn E C eb)) (hs : notSet b = true) : PE X (.Compare a [.NotIn] [b] pos) (TEm K ga xn E C (.x2 .dnin ea eb)) := by
  refine PE_imp (pe_cmp (pc_dnotin (hu_of2 co.units) ha hb) (no_mark hs)) ?_
  rintro σ H Q ⟨Ω, σm, hm, hr, sr, p⟩
  unfold evE at p
  refine te_of hr sr (Post.bind p) fun Ω1 H1 v h1 x l1 e1 r1 s1 vx p1 => ?_
  rw [show x2P .dnin v h1 = true from rfl, if_pos rfl] at p1
  refine te_of r1 s1 (Post.bind p1) fun Ω2 H2 u h2 y l2 e2 r2 s2 vy p2 => ?_
  unfold x2V at p2
  simp only at p2
  split at p2
  · rename_i k kvs q2 q1
    obtain ⟨a', kys, rfl, hd, dr⟩ := dget_at r2 vy (vx.ext e2 l2) q1 q2
    exact ⟨a', _, rfl, hd, p2.here r2 _ (v_bl.mpr (by rw [val_some dr]))⟩
  · exact p2.elim
theorem mt_din (co : CO P w K mg base hot n N sc fnc E X) (ha : PE X a (TEm K ga xn E C ea)) (hb : PE X b (TEm K ga xn E C eb)) (hs : notSet b = true) : PT X (.Compare a [.In] [b] pos) (TTm K ga xn E C (.x2 .din ea eb)) := by
  refine PT_imp (pt_cmp (pc_din (hu_of2 co.units) ha hb) (no_mark hs)) ?_
  rintro σ H Q ⟨Ω, σm, hm, hr, sr, p⟩
  unfold evT at p
  show tDIn _ _ σ H _
  refine te_of hr sr (Post.bind p) fun Ω1 H1 v h1 x l1 e1 r1 s1 vx p1 => ?_
  rw [show x2P .din v h1 = true from rfl, if_pos rfl] at p1
  refine te_of r1 s1 (Post.bind p1) fun Ω2 H2 u h2 y l2 e2 r2 s2 vy p2 => ?_
  unfold x2V at p2
  simp only at p2
  split at p2
  · rename_i k kvs q2 q1
    obtain ⟨a', kys, rfl, hd, dr⟩ := dget_at r2 vy (vx.ext e2 l2) q1 q2
    exact ⟨a', _, rfl, hd, _, rfl, by rw [val_some dr]; exact Post.here (show Post K ga xn E h2.length Ω2 H2 (.ok _ h2) _ from p2) r2⟩
  · exact p2.elim
theorem mt_dnin (co : CO P w K mg base hot n N sc fnc E X) (ha : PE X a (TEm K ga xn E C ea)) (hb : PE X b (TEm K ga xn E C eb)) (hs : notSet b = true) : PT X (.Compare a [.NotIn] [b] pos) (TTm K ga xn E C (.x2 .dnin ea eb)) := by
  refine PT_imp (pt_cmp (pc_dnotin (hu_of2 co.units) ha hb) (no_mark hs)) ?_
  rintro σ H Q ⟨Ω, σm, hm, hr, sr, p⟩
  unfold evT at p
  show tDNotIn _ _ σ H _
  refine te_of hr sr (Post.bind p) fun Ω1 H1 v h1 x l1 e1 r1 s1 vx p1 => ?_
  rw [show x2P .dnin v h1 = true from rfl, if_pos rfl] at p1
  refine te_of r1 s1 (Post.bind p1) fun Ω2 H2 u h2 y l2 e2 r2 s2 vy p2 => ?_
  unfold x2V at p2
  simp only at p2
  split at p2
  · rename_i k kvs q2 q1
    obtain ⟨a', kys, rfl, hd, dr⟩ := dget_at r2 vy (vx.ext e2 l2) q1 q2
    exact ⟨a', _, rfl, hd, _, rfl, by rw [val_some dr]; exact Post.here (show Post K ga xn E h2.length Ω2 H2 (.ok _ h2) _ from p2) r2⟩
  · exact p2.elim
theorem me_dget (co : CO P w K mg base hot n N sc fnc E X) (ha : PE X o (TEm K ga xn E C ea)) (hb : PE X b (TEm K ga xn E C eb)) (hc : notCall o = true) (hl : (apos.endLine == pos.line) = true) (hs : notStar b = true) : PE X (.Call (.Attribute o "get" apos) [b] [] pos) (TEm K ga xn E C (.x2 .dget ea eb)) := by
  have hs' : ([b] : List Expr).all notStar = true := by rw [List.all_cons, hs]; rfl
  refine PE_imp (pe_dget1 (hu_of2 co.units) ha hb ⟨attr_plain hc, by rw [star_all hs']; rfl, hl, by rw [star_one hs]; rfl⟩) ?_
  rintro σ H Q ⟨Ω, σm, hm, hr, sr, p⟩
  unfold evE at p
  refine te_of hr sr (Post.bind p) fun Ω1 H1 v h1 x l1 e1 r1 s1 vx p1 => ?_
  unfold x2P at p1
  cases q0 : dctR h1 v with
  | none => rw [q0] at p1; simp only [Option.isSome_none, Bool.false_eq_true, if_false] at p1; exact p1.elim
  | some kvs0 =>
    rw [q0] at p1
    simp only [Option.isSome_some, if_true] at p1
    obtain ⟨a0, kys0, rfl, hd0, _⟩ := dctR_rel r1 vx q0
    refine ⟨a0, rfl, .inl ⟨kys0, hd0⟩, ?_⟩
    refine te_of r1 s1 (Post.bind p1) fun Ω2 H2 u h2 y l2 e2 r2 s2 vy p2 => ?_
    unfold x2V at p2
    simp only at p2
    split at p2
    · rename_i kvs k q1 q2
      obtain ⟨a', kys, e, hd, dr⟩ := dget_at r2 (vx.ext e2 l2) vy q1 q2
      cases e
      refine ⟨_, hd, p2.here r2 _ ?_⟩
      cases q3 : valM kvs k with
      | none => rw [(val_rel dr).2 q3]; exact v_non.mpr rfl
      | some v2 => obtain ⟨z, h3, h4⟩ := (val_rel dr).1 v2 q3; rw [h3]; exact h4
    · exact p2.elim
theorem me_dget2 (co : CO P w K mg base hot n N sc fnc E X) (ha : PE X o (TEm K ga xn E C ea)) (hb : PE X b (TEm K ga xn E C eb)) (hcc : PE X c (TEm K ga xn E C ec)) (hc : notCall o = true) (hl : (apos.endLine == pos.line) = true) (hs : notStar b = true) (hs2 : notStar c = true) : PE X (.Call (.Attribute o "get" apos) [b, c] [] pos) (TEm K ga xn E C (.x3 .dget ea eb ec)) := by
  have hs' : ([b, c] : List Expr).all notStar = true := by rw [List.all_cons, List.all_cons, hs, hs2]; rfl
  refine PE_imp (pe_dget2 (hu_of2 co.units) ha hb hcc ⟨attr_plain hc, by rw [star_all hs']; rfl, hl, by rw [star_one hs, star_one hs2]; rfl⟩) ?_
  rintro σ H Q ⟨Ω, σm, hm, hr, sr, p⟩
  unfold evE at p
  refine te_of hr sr (Post.bind p) fun Ω1 H1 v h1 x l1 e1 r1 s1 vx p1 => ?_
  unfold x3P at p1
  cases q0 : dctR h1 v with
  | none => rw [q0] at p1; simp only [Option.isSome_none, Bool.false_eq_true, if_false] at p1; exact p1.elim
  | some kvs0 =>
    rw [q0] at p1
    simp only [Option.isSome_some, if_true] at p1
    obtain ⟨a0, kys0, rfl, hd0, _⟩ := dctR_rel r1 vx q0
    refine ⟨a0, rfl, .inl ⟨kys0, hd0⟩, ?_⟩
    refine te_of r1 s1 (Post.bind p1) fun Ω2 H2 u h2 y l2 e2 r2 s2 vy p2 => ?_
    refine te_of r2 s2 (Post.bind p2) fun Ω3 H3 u3 h3 y3 l3 e3 r3 s3 vy3 p3 => ?_
    unfold x3V at p3
    simp only at p3
    split at p3
    · rename_i kvs k q1 q2
      obtain ⟨a', kys, e, hd, dr⟩ := dget_at r3 ((vx.ext e2 l2).ext e3 l3) (vy.ext e3 l3) q1 q2
      cases e
      refine ⟨_, hd, p3.here r3 _ ?_⟩
      cases q3 : valM kvs k with
      | none => rw [(val_rel dr).2 q3]; exact vy3
      | some v2 => obtain ⟨z, h3, h4⟩ := (val_rel dr).1 v2 q3; rw [h3]; exact h4
    · exact p3.elim
theorem me_dof (co : CO P w K mg base hot n N sc fnc E X) (gf : GF P w K mg base ga xn G C n) (hx : ("dict" : Str) ∈ G.blt) (hg : sc.names.lookup ("dict" : Str) = some .globalImplicit) (ha : PE X a (TEm K ga xn E C ea)) (hs : notStar a = true) :
    PE X (.Call (.Name "dict" p) [a] [] pos) (TEm K ga xn E C (.x1 .dof ea)) := by
  refine PE_imp (pe_callTy call_dictD (by show X.env.scope.names.lookup _ = _; rw [co.ps]; exact hg) (by rw [co.pm]; exact gf.blt _ hx) (by decide +kernel) (pa_cons ha pa_nil (star_one hs)) (by decide) (by decide) (star_one hs) rfl) ?_
  rintro σ H Q ⟨Ω, σm, hm, hr, sr, p⟩
  unfold evE at p
  refine te_of hr sr (Post.bind p) fun Ω1 H1 v h1 x l1 e1 r1 s1 vx p1 => ?_
  unfold x1V at p1
  simp only at p1
  split at p1
  · rename_i kvs q1
    obtain ⟨a', kys, rfl, hd, dr⟩ := dctR_rel r1 vx q1
    exact ⟨a', kys, rfl, hd, new_obj (o := .dct kvs) r1 (fun q hq => ⟨kys, rfl, dnew_ext r1 hq dr⟩) p1⟩
  · exact p1.elim
/-! ### two dicts of flat values, equal -/
theorem flat_same {Ω : Om} {L : Nat} {H : Hp} {m q : MV} {x y : V} (vx : VRel K ga Ω L H m x) (vy : VRel K ga Ω L H q y) (f : sameM m q = true) : y = x ∧ flatB x = true := by
  cases m with
  | non => cases q with
    | non => rw [v_non.mp vx, v_non.mp vy]; exact ⟨rfl, rfl⟩
    | _ => simp [sameM] at f
  | bl a => cases q with
    | bl b => rw [v_bl.mp vx, v_bl.mp vy]; simp [sameM] at f; exact ⟨by rw [f], rfl⟩
    | _ => simp [sameM] at f
  | int a => cases q with
    | int b => rw [v_int.mp vx, v_int.mp vy]; simp [sameM] at f; exact ⟨by rw [f], rfl⟩
    | _ => simp [sameM] at f
  | str a => cases q with
    | str b => rw [v_str.mp vx, v_str.mp vy]; simp [sameM] at f; exact ⟨by rw [f], rfl⟩
    | _ => simp [sameM] at f
  | _ => simp [sameM] at f
theorem deq_rel {Ω : Om} {L : Nat} {H : Hp} {ks ls : List (Key × MV)} {kys lys : List (Key × V)} (dk : DRel K ga Ω L H ks kys) (dl : DRel K ga Ω L H ls lys) (e : deqM ks ls = true) : kys.length = lys.length ∧ ∀ p ∈ kys, valV lys p.1 = some p.2 ∧ flatB p.2 = true := by
  unfold deqM at e
  rw [Bool.and_eq_true] at e
  have hl : ks.length = ls.length := eq_of_beq e.1
  refine ⟨by have := dk.length; have := dl.length; omega, fun p hp => ?_⟩
  obtain ⟨i, hi⟩ := List.mem_iff_getElem?.mp hp
  have hi2 : i < ks.length := by rw [dk.length]; exact (List.getElem?_eq_some_iff.mp hi).1
  obtain ⟨y, hy, r⟩ := pr_get dk (List.getElem?_eq_getElem hi2)
  rw [hi] at hy
  cases hy
  have z := (List.all_eq_true.mp e.2) _ (List.getElem_mem hi2)
  cases q : valM ls ks[i].1 with
  | none => rw [q] at z; simp at z
  | some v =>
    rw [q] at z
    obtain ⟨y, h1, h2⟩ := (val_rel dl).1 v q
    obtain ⟨h3, h4⟩ := flat_same r.2 h2 z
    rw [← r.1, h1, h3]
    exact ⟨rfl, h4⟩
theorem me_deq (co : CO P w K mg base hot n N sc fnc E X) (ha : PE X a (TEm K ga xn E C ea)) (hb : PE X b (TEm K ga xn E C eb)) (hs : notSet b = true) : PE X (.Compare a [.Eq] [b] pos) (TEm K ga xn E C (.x2 .deq ea eb)) := by
  refine PE_imp (pe_cmpR (op_eq_dictA (Nat.lt_of_le_of_lt (Nat.le_add_right _ _) (hu_of2 co.units))) ha hb (no_mark hs)) ?_
  rintro σ H Q ⟨Ω, σm, hm, hr, sr, p⟩
  unfold evE at p
  refine te_of hr sr (Post.bind p) fun Ω1 H1 v h1 x l1 e1 r1 s1 vx p1 => ?_
  rw [show x2P .deq v h1 = true from rfl, if_pos rfl] at p1
  refine te_of r1 s1 (Post.bind p1) fun Ω2 H2 u h2 y l2 e2 r2 s2 vy p2 => ?_
  unfold x2V at p2
  simp only at p2
  split at p2
  · rename_i ks ls q1 q2
    split at p2
    · rename_i hz
      obtain ⟨a', kys, ea', ha', dk⟩ := dct_rel r2 (vx.ext e2 l2) q1
      obtain ⟨b', lys, eb', hb', dl⟩ := dct_rel r2 vy q2
      obtain ⟨h3, h4⟩ := deq_rel dk dl hz
      exact ⟨a', b', kys, lys, ea', eb', ha', hb', h3, h4, p2.here r2 _ (v_bl.mpr rfl)⟩
    · exact p2.elim
  · exact p2.elim
theorem me_dne (co : CO P w K mg base hot n N sc fnc E X) (ha : PE X a (TEm K ga xn E C ea)) (hb : PE X b (TEm K ga xn E C eb)) (hs : notSet b = true) : PE X (.Compare a [.NotEq] [b] pos) (TEm K ga xn E C (.x2 .dne ea eb)) := by
  refine PE_imp (pe_cmpR (op_ne_dictA (Nat.lt_of_le_of_lt (Nat.le_add_right _ _) (hu_of2 co.units))) ha hb (no_mark hs)) ?_
  rintro σ H Q ⟨Ω, σm, hm, hr, sr, p⟩
  unfold evE at p
  refine te_of hr sr (Post.bind p) fun Ω1 H1 v h1 x l1 e1 r1 s1 vx p1 => ?_
  rw [show x2P .dne v h1 = true from rfl, if_pos rfl] at p1
  refine te_of r1 s1 (Post.bind p1) fun Ω2 H2 u h2 y l2 e2 r2 s2 vy p2 => ?_
  unfold x2V at p2
  simp only at p2
  split at p2
  · rename_i ks ls q1 q2
    split at p2
    · rename_i hz
      obtain ⟨a', kys, ea', ha', dk⟩ := dct_rel r2 (vx.ext e2 l2) q1
      obtain ⟨b', lys, eb', hb', dl⟩ := dct_rel r2 vy q2
      obtain ⟨h3, h4⟩ := deq_rel dk dl hz
      exact ⟨a', b', kys, lys, ea', eb', ha', hb', h3, h4, p2.here r2 _ (v_bl.mpr rfl)⟩
    · exact p2.elim
  · exact p2.elim
theorem oeq_in {Ω : Om} {H : Hp} {h : MHeap} {u v : MV} {x y : V} {c : Str} {Q : VK} (gf : GF P w K mg base ga xn G C n) (hc : c ∈ G.eqs) (r2 : HRel K ga Ω h H) (vx : VRel K ga Ω h.length H v x) (vy : VRel K ga Ω h.length H u y) (p2 : Post K ga xn E h.length Ω H (x2V (.oeq c) v u h) (Kv K ga Q)) : rOeq K (ga c) x y H Q := by
  unfold x2V at p2
  simp only at p2
  split at p2
  · rename_i m i
    split at p2
    · rename_i d fs z
      split at p2
      · rename_i e
        subst e
        obtain ⟨hm, rfl⟩ := v_ref.mp vx
        have ob := r2.obj m _ z
        obtain ⟨dx, ys, w1, w2⟩ := ob
        obtain ⟨g1, g2⟩ := gf.eqo _ hc
        exact ⟨_, _, _, _, rfl, v_int.mp vy, w1, g1, g2, p2.here r2 _ (v_bl.mpr rfl)⟩
      · exact p2.elim
    · exact p2.elim
  · exact p2.elim
theorem me_oeq {c : Str} (co : CO P w K mg base hot n N sc fnc E X) (gf : GF P w K mg base ga xn G C n) (hc : c ∈ G.eqs) (ha : PE X a (TEm K ga xn E C ea)) (hb : PE X b (TEm K ga xn E C eb)) (hs : notSet b = true) : PE X (.Compare a [.Eq] [b] pos) (TEm K ga xn E C (.x2 (.oeq c) ea eb)) := by
  refine PE_imp (pe_cmpR (by rw [← co.pK] at *; exact op_oeq (C := ga c) co.units) ha hb (no_mark hs)) ?_
  rintro σ H Q ⟨Ω, σm, hm, hr, sr, p⟩
  unfold evE at p
  refine te_of hr sr (Post.bind p) fun Ω1 H1 v h1 x l1 e1 r1 s1 vx p1 => ?_
  rw [show x2P (.oeq c) v h1 = true from rfl, if_pos rfl] at p1
  refine te_of r1 s1 (Post.bind p1) fun Ω2 H2 u h2 y l2 e2 r2 s2 vy p2 => ?_
  have z := oeq_in gf hc r2 (vx.ext e2 l2) vy p2
  first | exact z | (rw [co.pK]; exact z)
theorem mt_x2 {op : CmpOp} {k : X2} {r : R2} (ho : OpR X (compareOp op) r) (ha : PE X a (TEm K ga xn E C ea)) (hb : PE X b (TEm K ga xn E C eb)) (hs : notSet b = true) (hk : ∀ v h, x2P k v h = true)
    (hi : ∀ {Ω : Om} {H : Hp} {h : MHeap} {v u : MV} {x y : V} {Q : VK}, HRel K ga Ω h H → VRel K ga Ω h.length H v x → VRel K ga Ω h.length H u y → Post K ga xn E h.length Ω H (x2V k v u h) (Kv K ga Q) → r x y H Q) : PT X (.Compare a [op] [b] pos) (TTm K ga xn E C (.x2 k ea eb)) := by
  refine PT_imp (pt_cmpR ho ha hb (no_mark hs)) ?_
  rintro σ H Q ⟨Ω, σm, hm, hr, sr, p⟩
  unfold evT at p
  refine te_of hr sr (Post.bind p) fun Ω1 H1 v h1 x l1 e1 r1 s1 vx p1 => ?_
  rw [hk, if_pos rfl] at p1
  refine te_of r1 s1 (Post.bind p1) fun Ω2 H2 u h2 y l2 e2 r2 s2 vy p2 => ?_
  refine hi r2 (vx.ext e2 l2) vy ((Post.bind p2).mono fun Ω3 H3 z h3 l3 e3 r3 p3 c vc => ?_)
  cases z with
  | bl t => exact ⟨t, v_bl.mp vc, p3.here r3⟩
  | _ => exact p3.elim
theorem mt_oeq {c : Str} (co : CO P w K mg base hot n N sc fnc E X) (gf : GF P w K mg base ga xn G C n) (hc : c ∈ G.eqs) (ha : PE X a (TEm K ga xn E C ea)) (hb : PE X b (TEm K ga xn E C eb)) (hs : notSet b = true) : PT X (.Compare a [.Eq] [b] pos) (TTm K ga xn E C (.x2 (.oeq c) ea eb)) :=
  mt_x2 (op_oeq (C := ga c) co.units) ha hb hs (fun _ _ => rfl) fun {Ω H h v u x y Q} r2 vx vy p2 => by
    have z := oeq_in gf hc r2 vx vy p2
    first | exact z | (rw [co.pK]; exact z)
theorem mt_deq (co : CO P w K mg base hot n N sc fnc E X) (ha : PE X a (TEm K ga xn E C ea)) (hb : PE X b (TEm K ga xn E C eb)) (hs : notSet b = true) : PT X (.Compare a [.Eq] [b] pos) (TTm K ga xn E C (.x2 .deq ea eb)) :=
  mt_x2 (op_eq_dictA (Nat.lt_of_le_of_lt (Nat.le_add_right _ _) (hu_of2 co.units))) ha hb hs (fun _ _ => rfl) fun {Ω H h v u x y Q} r2 vx vy p2 => by
    unfold x2V at p2
    simp only at p2
    split at p2
    · rename_i ks ls q1 q2
      split at p2
      · rename_i hz
        obtain ⟨a', kys, ea', ha', dk⟩ := dct_rel r2 vx q1
        obtain ⟨b', lys, eb', hb', dl⟩ := dct_rel r2 vy q2
        obtain ⟨h3, h4⟩ := deq_rel dk dl hz
        exact ⟨a', b', kys, lys, ea', eb', ha', hb', h3, h4, p2.here r2 _ (v_bl.mpr rfl)⟩
      · exact p2.elim
    · exact p2.elim
theorem mt_dne (co : CO P w K mg base hot n N sc fnc E X) (ha : PE X a (TEm K ga xn E C ea)) (hb : PE X b (TEm K ga xn E C eb)) (hs : notSet b = true) : PT X (.Compare a [.NotEq] [b] pos) (TTm K ga xn E C (.x2 .dne ea eb)) :=
  mt_x2 (op_ne_dictA (Nat.lt_of_le_of_lt (Nat.le_add_right _ _) (hu_of2 co.units))) ha hb hs (fun _ _ => rfl) fun {Ω H h v u x y Q} r2 vx vy p2 => by
    unfold x2V at p2
    simp only at p2
    split at p2
    · rename_i ks ls q1 q2
      split at p2
      · rename_i hz
        obtain ⟨a', kys, ea', ha', dk⟩ := dct_rel r2 vx q1
        obtain ⟨b', lys, eb', hb', dl⟩ := dct_rel r2 vy q2
        obtain ⟨h3, h4⟩ := deq_rel dk dl hz
        exact ⟨a', b', kys, lys, ea', eb', ha', hb', h3, h4, p2.here r2 _ (v_bl.mpr rfl)⟩
      · exact p2.elim
    · exact p2.elim
/-! ### locks -/
theorem me_lck (he : PE X e (TEm K ga xn E C ea)) : PE X e (TEm K ga xn E C (.lck eb ea)) := by
  refine ⟨fun pins s σ H Q I q => ?_⟩
  obtain ⟨Ω, σm, hm, hr, sr, p⟩ := q
  unfold evE at p
  split at p
  · rename_i v h1 q1
    split at p
    · rename_i hh
      subst hh
      split at p
      · rename_i nn kvs q2
        unfold lckV at q2
        split at q2
        · rename_i m
          split at q2
          · rename_i kvs' q3
            cases q2
            obtain ⟨kys, hk, hl⟩ := hr.lock q3
            refine (pe_lock he).run pins s σ H Q I ⟨Ω.ρ nn, _, hk, trivial, fun od => ?_⟩
            obtain ⟨r1, e1⟩ := hl od
            refine ⟨Ω, σm, _, r1, by rw [List.length_set]; exact sr.ext e1 (Nat.le_refl _), ?_⟩
            unfold lckR at p
            split at p
            · rename_i v2 h2 q4
              split at p
              · rename_i q5
                rw [q4]
                intro Ω2 H2 l2 e2 r2 x vx
                rw [List.length_set] at l2 e2
                obtain ⟨u1, u2, u3⟩ := hr.unlock q3 hk l2 e2 r2 q5
                exact ⟨u1, p Ω2 _ (by rw [List.length_set]; exact l2) u2 u3 x (by rw [List.length_set]; exact vx.unl u1)⟩
              · exact p.elim
            · exact p.elim
          · cases q2
          · cases q2
        · cases q2
      · exact he.run pins s σ H Q I ⟨Ω, σm, _, hr, sr, p⟩
      · exact p.elim
    · exact p.elim
  · exact p.elim
theorem ms_lck {st : Stmt} {s1 : MS} (hs : PS X st (TSm K ga xn E C s1)) : PS X st (TSm K ga xn E C (.lck eb s1)) := by
  refine ⟨fun pins s σ H D I q => ?_⟩
  obtain ⟨Ω, σm, hm, hr, sr, p⟩ := q
  unfold run at p
  split at p
  · rename_i v h1 q1
    split at p
    · rename_i hh
      subst hh
      split at p
      · rename_i nn kvs q2
        unfold lckV at q2
        split at q2
        · rename_i m
          split at q2
          · rename_i kvs' q3
            cases q2
            obtain ⟨kys, hk, hl⟩ := hr.lock q3
            refine (ps_lock hs).run pins s σ H D I ⟨Ω.ρ nn, _, hk, trivial, fun od => ?_⟩
            obtain ⟨r1, e1⟩ := hl od
            refine ⟨Ω, σm, _, r1, by rw [List.length_set]; exact sr.ext e1 (Nat.le_refl _), ?_⟩
            unfold lckO at p
            split at p
            · rename_i v2 h2 q4
              split at p
              · rename_i q5
                rw [q4]
                intro Ω2 H2 σ2 l2 e2 r2 s2
                rw [List.length_set] at l2 e2
                obtain ⟨u1, u2, u3⟩ := hr.unlock q3 hk l2 e2 r2 q5
                exact ⟨u1, p Ω2 _ σ2 (by rw [List.length_set]; exact l2) u2 u3 (by rw [List.length_set]; exact s2.unl u1)⟩
              · exact p.elim
            · rename_i v2 h2 q4
              split at p
              · rename_i q5
                rw [q4]
                intro Ω2 H2 x l2 e2 r2 vx
                rw [List.length_set] at l2 e2
                obtain ⟨u1, u2, u3⟩ := hr.unlock q3 hk l2 e2 r2 q5
                exact ⟨u1, p Ω2 _ x (by rw [List.length_set]; exact l2) u2 u3 (by rw [List.length_set]; exact vx.unl u1)⟩
              · exact p.elim
            · rename_i v2 h2 q4
              split at p
              · rename_i q5
                rw [q4]
                intro Ω2 H2 σ2 l2 e2 r2 s2
                rw [List.length_set] at l2 e2
                obtain ⟨u1, u2, u3⟩ := hr.unlock q3 hk l2 e2 r2 q5
                exact ⟨u1, p Ω2 _ σ2 (by rw [List.length_set]; exact l2) u2 u3 (by rw [List.length_set]; exact s2.unl u1)⟩
              · exact p.elim
            · rename_i v2 h2 q4
              split at p
              · rename_i q5
                rw [q4]
                intro Ω2 H2 σ2 l2 e2 r2 s2
                rw [List.length_set] at l2 e2
                obtain ⟨u1, u2, u3⟩ := hr.unlock q3 hk l2 e2 r2 q5
                exact ⟨u1, p Ω2 _ σ2 (by rw [List.length_set]; exact l2) u2 u3 (by rw [List.length_set]; exact s2.unl u1)⟩
              · exact p.elim
            · exact p.elim
          · cases q2
          · cases q2
        · cases q2
      · exact hs.run pins s σ H D I ⟨Ω, σm, _, hr, sr, p⟩
      · exact p.elim
    · exact p.elim
  · exact p.elim
end
end Mn
namespace Mn
open PySem PySem.Spec PyProof.Rows L2
variable {P : Program} {w : World} {K : PySem.W.Frag} {mg : Str → Option Value} {base : Heap} {ga : Str → Addr} {xn : Str → Str}
variable {G : Gs} {C : Ct} {hot : Bool × Bool} {rp : Bool} {n : Nat} {N : List Str} {sc : Scope} {fnc : Str → Bool} {E : XK} {X : Cx}
/-- what is known to nobody is written -/
theorem HRel.pokeM {Ω : Om} {hm : MHeap} {H : Hp} (h : HRel K ga Ω hm H) {D : Addr} {u : HO} (fr : Free Ω hm.length D) (mu : Mut (H D)) : Ext hm.length Ω H Ω (upd H D u) ∧ HRel K ga Ω hm (upd H D u) := by
  have e : Ext hm.length Ω H Ω (upd H D u) := by
    refine ⟨fun _ _ => rfl, fun _ f => f, fun a f => upd_ne fun e => fr.2.1 (e ▸ f), fun a zs q => ?_, fun a o u q => ?_, rfl, fun a g => upd_ne fun e => fr.2.2 (e ▸ g)⟩
    · exact (upd_ne fun e => by subst e; rw [q] at mu; exact mu).trans q
    · exact (upd_ne fun e => by subst e; rw [q] at mu; exact mu).trans q
  exact ⟨e, h.grow e fun n hn => upd_ne (fr.1 n hn)⟩
/-- under a guard -/
theorem Post.gd {α : Type} {L : Nat} {Ω : Om} {H : Hp} {D : Addr} {r : Rs α} {k : Om → Hp → α → MHeap → Prop} (p : Post K ga xn E L Ω H r k) : Post K ga xn E L (Ω.gd D) H r fun Ω2 H2 a h2 => k (Ω2.un Ω.G) H2 a h2 := by
  cases r with
  | bad => exact p
  | ok a h => exact fun Ω2 H2 l2 e2 r2 => p _ _ l2 e2.un (r2.un Ω.G fun a g => by rw [e2.gd]; exact .inl g)
  | exc c v h => exact fun Ω2 H2 d x l2 e2 r2 vx fr q => p _ _ d x l2 e2.un (r2.un Ω.G fun a g => by rw [e2.gd]; exact .inl g) (VRel.om (Ω := Ω2) (Ω' := Ω2.un Ω.G) rfl rfl vx) ⟨fr.1, fr.2.1, fun g => fr.2.2 (by rw [e2.gd]; exact .inl g)⟩ q
/-! ### a dict written out -/
def trsOf (K : PySem.W.Frag) (ga : Str → Addr) (xn : Str → Str) (E : XK) (C : Ct) : ME → List (TE × TE)
  | .cons k (.cons v r) => (TEm K ga xn E C k, TEm K ga xn E C v) :: trsOf K ga xn E C r
  | _ => []
def flatP (ps : List (V × V)) : List V := ps.flatMap fun p => [p.1, p.2]
def evenM : ME → Bool
  | .nil => true
  | .cons _ (.cons _ r) => evenM r
  | _ => false
theorem pairs_read : ∀ (es : ME) {Ω : Om} {H : Hp} {hm : MHeap} {σm : MSt} {σ : L2.St} {k : Om → Hp → List MV → MHeap → Prop} {R : List (V × V) → Hp → Prop}, evenM es = true → HRel K ga Ω hm H → SRel K ga Ω hm.length H σm σ → Post K ga xn E hm.length Ω H (evL C es σm hm) k →
    (∀ Ω2 H2 vs h2 ps, hm.length ≤ h2.length → Ext hm.length Ω H Ω2 H2 → HRel K ga Ω2 h2 H2 → VRels K ga Ω2 h2.length H2 vs (flatP ps) → k Ω2 H2 vs h2 → R ps H2) → tPairs (trsOf K ga xn E C es) σ H R
  | .nil, Ω, H, hm, σm, σ, k, R, _, hr, sr, p, c => by
    unfold evL at p
    exact c Ω H [] hm [] (Nat.le_refl _) (Ext.refl _ _ _) hr (by unfold flatP VRels; rfl) (p.here hr)
  | .cons e (.cons v r), Ω, H, hm, σm, σ, k, R, ev, hr, sr, p, c => by
    unfold evL evL at p
    show TEm K ga xn E C e σ H _
    refine te_of hr sr (Post.bind p) fun Ω1 H1 v1 h1 x l1 e1 r1 s1 vx p1 => ?_
    refine te_of r1 s1 (Post.bind (Post.bind p1)) fun Ω2 H2 v2 h2 y l2 e2 r2 s2 vy p2 => ?_
    refine pairs_read r ev r2 s2 (Post.bind p2) fun Ω3 H3 vs h3 ps l3 e3 r3 vps k3 => ?_
    refine c Ω3 H3 (v1 :: v2 :: vs) h3 ((x, y) :: ps) (Nat.le_trans l1 (Nat.le_trans l2 l3)) ((e1.trans e2 l1).trans e3 (Nat.le_trans l1 l2)) r3 ?_ ?_
    · show VRels K ga Ω3 h3.length H3 (v1 :: v2 :: vs) (x :: y :: flatP ps)
      unfold VRels
      refine ⟨x, _, rfl, (vx.ext e2 l2).ext e3 l3, ?_⟩
      unfold VRels
      exact ⟨y, _, rfl, vy.ext e3 l3, vps⟩
    · exact (k3.here r3).here r3
theorem pairsM_rel {Ω : Om} {L : Nat} {H : Hp} : ∀ {vs : List MV} {ps : List (V × V)} {kvs : List (Key × MV)}, VRels K ga Ω L H vs (flatP ps) → pairsM vs = some kvs → ∃ kys : List (Key × V), ps = kys.map (fun kv => (kV kv.1, kv.2)) ∧ DRel K ga Ω L H kvs kys
  | [], [], kvs, _, e => by cases e; exact ⟨[], rfl, .nil⟩
  | [], (x, y) :: ps, kvs, r, _ => by unfold VRels at r; cases r
  | [_], ps, kvs, _, e => by cases e
  | u :: v :: vs, [], kvs, r, _ => by unfold VRels at r; obtain ⟨_, _, e, _⟩ := r; cases e
  | u :: v :: vs, (x, y) :: ps, kvs, r, e => by
    have r : VRels K ga Ω L H (u :: v :: vs) (x :: y :: flatP ps) := r
    unfold VRels at r
    obtain ⟨x', ys', e1, vx, r⟩ := r
    unfold VRels at r
    obtain ⟨y', zs', e2, vy, r⟩ := r
    injection e1 with e1 e3
    subst e1 e3
    injection e2 with e2 e3
    subst e2 e3
    unfold pairsM at e
    split at e
    · rename_i k ps' q1 q2
      cases e
      obtain ⟨kys, rfl, dr⟩ := pairsM_rel r q2
      exact ⟨(k, y) :: kys, by rw [key_rel vx q1]; rfl, .cons ⟨rfl, vy⟩ dr⟩
    · cases e
section
variable {a b c e o tg iter kx vx : Expr} {es ifs : List Expr} {ea eb ec : ME} {pos p p2 apos : Pos}
theorem me_dd0 : PE X (.Dict [] [] pos) (TEm K ga xn E C (.dd .nil)) := by
  refine PE_imp pe_dnewK ?_
  rintro σ H Q ⟨Ω, σm, hm, hr, sr, p⟩
  unfold evE evL at p
  have p : Post K ga xn E hm.length Ω H (.ok (.ref hm.length) (hm ++ [.dct []])) (Kv K ga Q) := p
  exact new_obj (o := .dct []) hr (fun q hq => ⟨[], rfl, .nil⟩) p
theorem me_dd {keys : List (Option Expr)} {values : List Expr} (hp : PPs X pos keys values (trsOf K ga xn E C ea)) (hev : evenM ea = true) (hall : keys.all (·.isSome) = true) (hl : keys.length = values.length) (h0 : keys ≠ []) (h15 : keys.length ≤ 15) :
    PE X (.Dict keys values pos) (TEm K ga xn E C (.dd ea)) := by
  refine PE_imp (pe_disp hp hall hl h0 h15) ?_
  rintro σ H Q ⟨Ω, σm, hm, hr, sr, p⟩
  unfold evE at p
  intro D hD
  have fr := hr.free hD
  have e0 := ext_new (o := .dK []) hr hD
  have r0 := (hr.new (o := .dK []) hD).gd fr upd_same
  have s0 := SRel.om (Ω := Ω) (Ω' := Ω.gd D) rfl rfl (sr.ext e0 (Nat.le_refl _))
  have p0 := ((Post.bind p).later e0 (Nat.le_refl _)).gd (D := D)
  refine pairs_read ea hev r0 s0 p0 fun Ω2 H2 vs h2 ps l2 e2 r2 vps k2 => ?_
  have hD2 : H2 D = some (.dK []) := (e2.gk D (.inr rfl)).trans upd_same
  refine ⟨hD2, ?_⟩
  have k2 : Post K ga xn E h2.length (Ω2.un Ω.G) H2 (match pairsM vs with
    | some ps => if ps.length ≤ 15 then .ok (.ref h2.length) (h2 ++ [.dct (mergeM [] ps)]) else .bad
    | none => .bad) (Kv K ga Q) := k2
  split at k2
  · rename_i kvs q
    split at k2
    · rename_i hz
      obtain ⟨kys, hps, dr⟩ := pairsM_rel vps q
      have hGD : Ω2.G D := by rw [e2.gd]; exact .inr rfl
      have ru := r2.un Ω.G fun a g => by rw [e2.gd]; exact .inl g
      have fr2 : Free (Ω2.un Ω.G) h2.length D := ⟨fun n hn e => r2.gr n hn (by rw [show Ω2.ρ n = D from e]; exact hGD), fun f => r2.gf D f hGD, fr.2.2⟩
      have dru : DRel K ga (Ω2.un Ω.G) h2.length H2 kvs kys := pr_mono dr fun _ _ _ r => ⟨r.1, VRel.om (Ω := Ω2) (Ω' := Ω2.un Ω.G) rfl rfl r.2⟩
      obtain ⟨ep, rp⟩ := ru.pokeM (u := .dK (mergeK [] kys)) fr2 (by rw [hD2]; trivial)
      refine ⟨kys, hps, by rw [← dr.length]; exact hz, ?_⟩
      have eput := ext_put (Ω2.un Ω.G) D (upd H2 D (.dK (mergeK [] kys))) h2.length
      have dr3 : DRel K ga ((Ω2.un Ω.G).put h2.length D) (h2.length + 1) (upd H2 D (.dK (mergeK [] kys))) (mergeM [] kvs) (mergeK [] kys) := merge_rel ((dru.ext ep (Nat.le_refl _)).ext eput (Nat.le_succ _)) .nil
      have r3 := rp.snoc (o := .dct (mergeM [] kvs)) fr2 ⟨_, upd_same, dr3⟩
      have hln : (h2 ++ [MO.dct (mergeM [] kvs)]).length = h2.length + 1 := by simp
      exact k2 _ _ (by omega) (ep.trans eput (Nat.le_refl _)) r3 _ (v_ref.mpr ⟨by omega, by show V.ref D = .ref (if h2.length = h2.length then D else _); rw [if_pos rfl]⟩)
    · exact k2.elim
  · exact k2.elim
/-! ### d[k] = v -/
/-- a comprehension's value to a subscript: stored as any value -/
theorem sub_swap {e o i : Expr} {p : Pos} {l : Nat} {env : Env} : swapsWith e (some (.Subscript o i p)) l env = pure false := by cases e <;> rfl
theorem ms_setd {i : Expr} {ei : ME} (co : CO P w K mg base hot n N sc fnc E X) (ho : PE X o (TEm K ga xn E C eb)) (hi : PE X i (TEm K ga xn E C ei)) (he : PE X e (TEm K ga xn E C ea)) : PS X (.Assign [.Subscript o i p] e pos) (TSm K ga xn E C (.setd eb ei ea)) := by
  refine PS_imp (ps_dput (hu_of2 co.units) ho hi he sub_swap) ?_
  rintro D σ H ⟨Ω, σm, hm, hr, sr, p⟩
  unfold run at p
  refine te_of hr sr (PostS.out p) fun Ω1 H1 v h1 y l1 e1 r1 s1 vy p1 => ?_
  refine te_of r1 s1 (PostS.out p1) fun Ω2 H2 mx h2 x l2 e2 r2 s2 vx p2 => ?_
  refine te_of r2 s2 (PostS.out p2) fun Ω3 H3 mi h3 xi l3 e3 r3 s3 vi p3 => ?_
  have vx3 := vx.ext e3 l3
  have vy3 := vy.ext (e2.trans e3 l2) (Nat.le_trans l2 l3)
  cases q : setDV mx mi v h3 with
  | none => simp only [q] at p3; exact p3.elim
  | some h4 =>
    simp only [q] at p3
    unfold setDV at q
    split at q
    · rename_i m
      split at q
      · rename_i kvs k z q2
        split at q
        · rename_i hj
          cases q
          obtain ⟨hn, rfl⟩ := v_ref.mp vx3
          obtain ⟨kys, g1, g2⟩ := r3.obj m _ z
          have hl := g2.length
          obtain ⟨r4, ex⟩ := r3.set (o := .dct (putKM kvs k v)) (u := .dK (putK kys k y)) hn ⟨_, z, fun e => by cases e⟩ ⟨_, rfl, put_rel g2 vy3⟩ (by rw [g1]; trivial)
          exact ⟨_, _, rfl, .inl ⟨kys, k, g1, key_rel vi q2, by omega, rfl⟩, p3 Ω3 _ σ (by rw [List.length_set]; exact Nat.le_refl _) ex r4 (s3.ext ex (by rw [List.length_set]; exact Nat.le_refl _))⟩
        · cases q
      · cases q
    · cases q
/-! ### walks of a locked dict -/
theorem mi_keys (co : CO P w K mg base hot n N sc fnc E X) (ha : PE X a (TEm K ga xn E C ea)) : PI X tg a (TIm K ga xn E C (.i1 .keys ea)) := by
  refine PI_imp (pi_keys ha) ?_
  rintro σ H R ⟨Ω, σm, hm, hr, sr, p⟩
  unfold evI at p
  refine te_of hr sr (Post.bind p) fun Ω1 H1 v h1 x l1 e1 r1 s1 vx p1 => ?_
  unfold i1V at p1
  split at p1
  · rename_i m
    split at p1
    · rename_i kvs z
      obtain ⟨hn, rfl⟩ := v_ref.mp vx
      obtain ⟨o, kys, g1, g2⟩ := r1.obj m _ z
      have p2 : Post K ga xn E h1.length Ω1 H1 (Rs.ok (Src.mk (kvs.map fun p => keyV p.1) []) h1) _ := p1
      refine ⟨_, o, rfl, .inl ⟨kys, g1, p2.here r1 _ fun Ω h H l ex r ok => ?_⟩⟩
      have hd := ex.frz _ _ _ g1
      refine ⟨⟨hd, by rw [← g2.length]; simp⟩, fun i y hy => ?_⟩
      rw [List.getElem?_map] at hy
      cases q : kvs[i]? with
      | none => rw [q] at hy; cases hy
      | some kv =>
        rw [q] at hy
        cases hy
        obtain ⟨kv', hq, rr⟩ := pr_get g2 q
        refine ⟨⟨hd, (List.getElem?_eq_some_iff.mp hq).1⟩, fun v' H' hyl => ?_⟩
        obtain ⟨rfl, k, v0, h3, rfl⟩ := hyl
        rw [hq] at h3
        cases h3
        have : kv.1 = k := rr.1
        exact ⟨Ext.refl _ _ _, r, by subst this; exact keyV_rel⟩
    · exact p1.elim
  · exact p1.elim
  · exact p1.elim
  · exact p1.elim
theorem mi_rrg {p2 pos2 : Pos} (co : CO P w K mg base hot n N sc fnc E X) (gf : GF P w K mg base ga xn G C n) (hx : ("range" : Str) ∈ G.blt) (hg : sc.names.lookup ("range" : Str) = some .globalImplicit) (hx2 : ("reversed" : Str) ∈ G.blt) (hg2 : sc.names.lookup ("reversed" : Str) = some .globalImplicit) (ha : PE X a (TEm K ga xn E C ea)) (hs : notStar a = true) :
    PI X tg (.Call (.Name "reversed" p2) [.Call (.Name "range" p) [a] [] pos] [] pos2) (TIm K ga xn E C (.i1 .rrg ea)) := by
  refine PI_imp (pi_revR (by show X.env.scope.names.lookup _ = _; rw [co.ps]; exact hg2) (by rw [co.pm]; exact gf.blt _ hx2) (prg_1 (by show X.env.scope.names.lookup _ = _; rw [co.ps]; exact hg) (by rw [co.pm]; exact gf.blt _ hx) ha (star_one hs))) ?_
  rintro σ H R ⟨Ω, σm, hm, hr, sr, p⟩
  unfold evI at p
  refine te_of hr sr (Post.bind p) fun Ω1 H1 v h1 x l1 e1 r1 s1 vx p1 => ?_
  unfold i1V at p1
  cases v with
  | int j =>
    simp only at p1
    split at p1
    · rename_i hz
      rw [v_int] at vx
      subst vx
      have p2 : Post K ga xn E h1.length Ω1 H1 (Rs.ok (Src.mk (rngL (0 + ((j - 0).toNat : Nat) - 1) (-1) (j - 0).toNat) []) h1) _ := p1
      refine ⟨j, rfl, by omega, by omega, hz.1, hz.2, p2.here r1 _ fun Ω h H l ex r ok => ⟨by rw [rng_len]; exact Nat.le_refl _, fun i y hy => ?_⟩⟩
      obtain ⟨h2, h3⟩ := rng_get hy
      refine ⟨h2, fun v' H' hyl => ?_⟩
      obtain ⟨rfl, rfl⟩ := hyl
      subst h3
      exact ⟨Ext.refl _ _ _, r, v_int.mpr rfl⟩
    · exact p1.elim
  | ref m =>
    simp only at p1
    split at p1 <;> exact p1.elim
  | _ => exact p1.elim
theorem mi_vals (co : CO P w K mg base hot n N sc fnc E X) (ha : PE X a (TEm K ga xn E C ea)) (hc : notCall a = true) (hl : (apos.endLine == pos.line) = true) : PI X tg (.Call (.Attribute a "values" apos) [] [] pos) (TIm K ga xn E C (.i1 .vals ea)) := by
  refine PI_imp (pi_values ha (attr_plain hc) hl) ?_
  rintro σ H R ⟨Ω, σm, hm, hr, sr, p⟩
  unfold evI at p
  refine te_of hr sr (Post.bind p) fun Ω1 H1 v h1 x l1 e1 r1 s1 vx p1 => ?_
  unfold i1V at p1
  split at p1
  · rename_i m
    split at p1
    · rename_i kvs z
      obtain ⟨hn, rfl⟩ := v_ref.mp vx
      obtain ⟨o, kys, g1, g2⟩ := r1.obj m _ z
      have p2 : Post K ga xn E h1.length Ω1 H1 (Rs.ok (Src.mk (kvs.map fun p => p.2) []) h1) _ := p1
      refine ⟨_, o, kys, rfl, g1, p2.here r1 _ fun Ω h H l ex r ok => ?_⟩
      have hd := ex.frz _ _ _ g1
      refine ⟨⟨hd, by rw [← g2.length]; simp⟩, fun i y hy => ?_⟩
      rw [List.getElem?_map] at hy
      cases q : kvs[i]? with
      | none => rw [q] at hy; cases hy
      | some kv =>
        rw [q] at hy
        cases hy
        obtain ⟨kv', hq, rr⟩ := pr_get g2 q
        refine ⟨⟨hd, (List.getElem?_eq_some_iff.mp hq).1⟩, fun v' H' hyl => ?_⟩
        obtain ⟨rfl, k, h3⟩ := hyl
        rw [hq] at h3
        cases h3
        exact ⟨Ext.refl _ _ _, r, rr.2.ext0 ex l⟩
    · exact p1.elim
  · exact p1.elim
  · exact p1.elim
  · exact p1.elim
theorem mi_items {ts : List Expr} {kk : Nat} {tp : Pos} (co : CO P w K mg base hot n N sc fnc E X) (ha : PE X a (TEm K ga xn E C ea)) (hc : notCall a = true) (hl : (apos.endLine == pos.line) = true) : PI X (.Tuple ts kk tp) (.Call (.Attribute a "items" apos) [] [] pos) (TIm K ga xn E C (.i1 .items ea)) := by
  refine PI_imp (pi_items ha (attr_plain hc) hl) ?_
  rintro σ H R ⟨Ω, σm, hm, hr, sr, p⟩
  unfold evI at p
  refine te_of hr sr (Post.bind p) fun Ω1 H1 v h1 x l1 e1 r1 s1 vx p1 => ?_
  unfold i1V at p1
  split at p1
  · rename_i m
    split at p1
    · rename_i kvs z
      obtain ⟨hn, rfl⟩ := v_ref.mp vx
      obtain ⟨o, kys, g1, g2⟩ := r1.obj m _ z
      have p2 : Post K ga xn E h1.length Ω1 H1 (Rs.ok (Src.mk (kvs.map fun p => .tup [keyV p.1, p.2]) []) h1) _ := p1
      refine ⟨_, o, kys, rfl, g1, p2.here r1 _ fun Ω h H l ex r ok => ?_⟩
      have hd := ex.frz _ _ _ g1
      refine ⟨⟨hd, by rw [← g2.length]; simp⟩, fun i y hy => ?_⟩
      rw [List.getElem?_map] at hy
      cases q : kvs[i]? with
      | none => rw [q] at hy; cases hy
      | some kv =>
        rw [q] at hy
        cases hy
        obtain ⟨kv', hq, rr⟩ := pr_get g2 q
        refine ⟨⟨hd, (List.getElem?_eq_some_iff.mp hq).1⟩, fun v' H' hyl => ?_⟩
        obtain ⟨T, k, v0, h3, rfl, hT, rfl⟩ := hyl
        rw [hq] at h3
        cases h3
        have e1 : kv.1 = k := rr.1
        subst e1
        exact new_pair r hT (u := keyV kv.1) (keyV_rel (k := kv.1)) (rr.2.ext0 ex l)
    · exact p1.elim
  · exact p1.elim
  · exact p1.elim
  · exact p1.elim
/-! ### a dict by a comprehension -/
noncomputable def turnD (C : Ct) (tg : Tg) (own : List Nat) (σm : MSt) (cond ke ve : ME) : MV → MHeap → Rs (Option (Key × MV)) := fun x h2 => match setT tg x (wipeM σm own) with
    | some σ1 => (evC C cond σ1 h2).bind fun t h3 => if t = true then (evE C ke σ1 h3).bind fun u h4 => (evE C ve σ1 h4).bind fun v h5 => (match keyM u with
      | some k => .ok (some (k, v)) h5
      | none => .bad) else .ok none h3
    | none => .bad
theorem dcomp_reads {own : List Nat} {t : Tg} {ke ve it cond : ME} {σ : L2.St} {H : Hp} {Q : VK} (hown : tgIn own t = true) (h : TEm K ga xn E C (.dcp own t ke ve it cond) σ H Q) :
    tDc (TIm K ga xn E C it) (gTg K t) (TCm K ga xn E0 C cond) (TEm K ga xn E0 C ke) (TEm K ga xn E0 C ve) own σ H Q := by
  obtain ⟨Ω, σm, hm, hr, sr, p⟩ := h
  unfold evE at p
  refine ⟨Ω, σm, hm, hr, sr, (Post.bind p).mono fun Ω1 H1 s h1 l1 e1 r1 p1 J hJ => ?_⟩
  intro D hD
  have sr1 := sr.ext e1 l1
  have eD := ext_new (o := .dK []) r1 hD
  have rD := r1.new (o := .dK []) hD
  have frD := r1.free hD
  let f := turnD C t own σm cond ke ve
  have p1 : Post K ga xn E h1.length Ω1 H1 (dcpL s.Ok f s.xs [] h1) _ := Post.bind p1
  revert p1
  generalize hk : (fun Ω1 H1 a h1 => Post K ga xn E (List.length h1) Ω1 H1 (Rs.ok (MV.ref (List.length h1)) (h1 ++ [MO.dct a])) (Kv K ga Q)) = k
  intro p1
  refine ⟨fun i m H => ∃ Ω h accm acc, h1.length ≤ h.length ∧ Ext h1.length Ω1 H1 Ω H ∧ HRel K ga Ω h H ∧ Free Ω h.length D ∧ H D = some (.dK acc) ∧ DRel K ga Ω h.length H accm acc ∧ i ≤ s.xs.length ∧ m = s.xs.length - i ∧
    Post K ga xn E h.length Ω H (dcpL s.Ok f (s.xs.drop i) accm h) k, ⟨_, Ω1, h1, [], [], Nat.le_refl _, eD, rD, frD, upd_same, .nil, Nat.zero_le _, rfl, ?_⟩, ?_⟩
  · rw [List.drop_zero]
    exact p1.later eD (Nat.le_refl _)
  · rintro i m H2 ⟨Ω2, h2, accm, acc, l2, e2, r2, fr2, hD2, va, hi, rfl, p2⟩
    by_cases hlt : i < s.xs.length
    · right
      rw [List.drop_eq_getElem_cons hlt] at p2
      unfold dcpL at p2
      split at p2
      · rename_i hok
        have rg := r2.gd fr2 hD2
        have ez : Ext0 h1.length Ω1 H1 (Ω2.gd D) H2 := e2.z
        obtain ⟨_, hgo⟩ := hJ (Ω2.gd D) h2 H2 l2 ez rg hok.1
        obtain ⟨hg, hy⟩ := hgo i _ (List.getElem?_eq_getElem hlt)
        refine ⟨hg, fun H' => ∃ Ω h accm acc, h1.length ≤ h.length ∧ Ext h1.length Ω1 H1 Ω H' ∧ HRel K ga Ω h H' ∧ Free Ω h.length D ∧ H' D = some (.dK acc) ∧ DRel K ga Ω h.length H' accm acc ∧
          Post K ga xn E h.length Ω H' (dcpL s.Ok f (s.xs.drop (i + 1)) accm h) k, fun H' ⟨Ω, h, am, ac, a1, a2, a3, a4, a5, a6, a7⟩ => ⟨s.xs.length - (i + 1), by omega, Ω, h, am, ac, a1, a2, a3, a4, a5, a6, hlt, rfl, a7⟩, fun v H3 hyl => ?_⟩
        obtain ⟨e3, r3, vx⟩ := hy v H3 hyl
        have srw : SRel K ga (Ω2.gd D) h2.length H3 (wipeM σm own) (wipe σ own) := ((SRel.om (Ω := Ω2) (Ω' := Ω2.gd D) rfl rfl (sr1.ext e2 l2)).ext e3 (Nat.le_refl _)).wipe own
        have back : ∀ {Ω5 : Om} {H5 : Hp} {h5 : MHeap} {acc5 : List (Key × MV)} {ac5 : List (Key × V)}, h2.length ≤ h5.length → Ext h2.length (Ω2.gd D) H2 Ω5 H5 → HRel K ga Ω5 h5 H5 → DRel K ga Ω5 h5.length H5 acc5 ac5 →
            Post K ga xn E h2.length Ω2 H2 (dcpL s.Ok f (s.xs.drop (i + 1)) acc5 h5) k → ∃ Ω h accm acc, h1.length ≤ h.length ∧ Ext h1.length Ω1 H1 Ω (upd H5 D (.dK ac5)) ∧ HRel K ga Ω h (upd H5 D (.dK ac5)) ∧ Free Ω h.length D ∧ upd H5 D (.dK ac5) D = some (.dK acc) ∧ DRel K ga Ω h.length (upd H5 D (.dK ac5)) accm acc ∧
              Post K ga xn E h.length Ω (upd H5 D (.dK ac5)) (dcpL s.Ok f (s.xs.drop (i + 1)) accm h) k := fun {Ω5 H5 h5 acc5 ac5} l5 e5 r5 va5 p5 => by
          have gD : Ω5.G D := by rw [e5.gd]; exact .inr rfl
          have eu := e5.un
          have ru := r5.un Ω2.G fun a g => by rw [e5.gd]; exact .inl g
          have fr5 : Free (Ω5.un Ω2.G) h5.length D := ⟨fun n hn e => r5.gr n hn (by rw [show Ω5.ρ n = D from e]; exact gD), fun f => r5.gf D f gD, fr2.2.2⟩
          have hD5 : H5 D = some (.dK acc) := (e5.gk D (.inr rfl)).trans hD2
          obtain ⟨ep, rp⟩ := ru.pokeM (u := .dK ac5) fr5 (by rw [hD5]; trivial)
          have e25 := eu.trans ep l5
          exact ⟨Ω5.un Ω2.G, h5, acc5, ac5, Nat.le_trans l2 l5, e2.trans e25 l2, rp, fr5, upd_same, DRel.ext ep (Nat.le_refl _) (pr_mono va5 fun _ _ _ r => ⟨r.1, VRel.om (Ω := Ω5) (Ω' := Ω5.un Ω2.G) rfl rfl r.2⟩), p5.later e25 l5⟩
        have va3 : DRel K ga (Ω2.gd D) h2.length H3 accm acc := DRel.ext e3 (Nat.le_refl _) (pr_mono va fun _ _ _ r => ⟨r.1, VRel.om (Ω := Ω2) (Ω' := Ω2.gd D) rfl rfl r.2⟩)
        have p2 : Post K ga xn E h2.length Ω2 H2 (match turnD C t own σm cond ke ve s.xs[i] h2 with
          | .ok (some v) h1 => dcpL s.Ok f (s.xs.drop (i + 1)) (putKM accm v.1 v.2) h1
          | .ok none h1 => dcpL s.Ok f (s.xs.drop (i + 1)) accm h1
          | _ => .bad) k := p2
        unfold turnD at p2
        cases qs : setT t s.xs[i] (wipeM σm own) with
        | none => simp only [qs] at p2; exact p2.elim
        | some σ1 =>
          simp only [qs] at p2
          refine tg_setW (σ0 := wipe σ own) hown wipe_wipe qs vx srw fun σ' srs hw => ⟨hw, Ω2.gd D, σ1, h2, r3, srs, ?_⟩
          cases qc : evC C cond σ1 h2 with
          | bad => simp only [qc, Rs.bind] at p2; exact p2.elim
          | exc c v h => simp only [qc, Rs.bind] at p2; exact p2.elim
          | ok b h4 =>
            simp only [qc, Rs.bind] at p2
            intro Ω4 H4 l4 e4 r4
            cases b with
            | false =>
              simp only [Bool.false_eq_true, if_false] at p2
              have hD4 : H4 D = some (.dK acc) := ((e4.gk D (.inr rfl)).trans (e3.gk D (.inr rfl))).trans hD2
              have := back l4 (e3.trans e4 (Nat.le_refl _)) r4 (va3.ext e4 l4) p2
              have eq : upd H4 D (.dK acc) = H4 := by
                funext b
                by_cases hb : b = D
                · subst hb; rw [upd_same, hD4]
                · rw [upd_ne hb]
              rw [eq] at this
              exact this
            | true =>
              simp only [if_true] at p2
              show TEm K ga xn E0 C ke σ' H4 _
              refine ⟨Ω4, σ1, h4, r4, srs.ext e4 l4, ?_⟩
              cases qe : evE C ke σ1 h4 with
              | bad => simp only [qe, Rs.bind] at p2; exact p2.elim
              | exc c v h => simp only [qe, Rs.bind] at p2; exact p2.elim
              | ok u h5 =>
                simp only [qe, Rs.bind] at p2
                intro Ω5 H5 l5 e5 r5 y vy
                show TEm K ga xn E0 C ve σ' H5 _
                refine ⟨Ω5, σ1, h5, r5, (srs.ext e4 l4).ext e5 l5, ?_⟩
                cases qv : evE C ve σ1 h5 with
                | bad => simp only [qv] at p2; exact p2.elim
                | exc c v h => simp only [qv] at p2; exact p2.elim
                | ok v h6 =>
                  simp only [qv] at p2
                  intro Ω6 H6 l6 e6 r6 z vz
                  cases qk : keyM u with
                  | none => simp only [qk] at p2; exact p2.elim
                  | some kk =>
                    simp only [qk] at p2
                    have e26 := ((e3.trans e4 (Nat.le_refl _)).trans e5 l4).trans e6 (Nat.le_trans l4 l5)
                    have hD6 : H6 D = some (.dK acc) := (e26.gk D (.inr rfl)).trans hD2
                    refine ⟨acc, kk, key_rel vy qk, hD6, by have := va.length; omega, ?_⟩
                    exact back (Nat.le_trans l4 (Nat.le_trans l5 l6)) e26 r6 (put_rel (((va3.ext e4 l4).ext e5 l5).ext e6 l6) vz) p2
      · exact p2.elim
    · left
      have hi' : i = s.xs.length := by omega
      subst hi'
      rw [List.drop_length] at p2
      unfold dcpL at p2
      split at p2
      · rename_i hok
        obtain ⟨hst, _⟩ := hJ Ω2 h2 H2 l2 e2.z r2 hok
        refine ⟨hst, ?_⟩
        have p3 := p2.here r2
        rw [← hk] at p3
        have eput := ext_put Ω2 D H2 h2.length
        have r3 := r2.snoc (o := .dct accm) fr2 ⟨acc, hD2, va.ext eput (Nat.le_succ _)⟩
        have hln : (h2 ++ [MO.dct accm]).length = h2.length + 1 := by simp
        exact p3 _ _ (by omega) eput r3 _ (v_ref.mpr ⟨by omega, by show V.ref D = .ref (if h2.length = h2.length then D else _); rw [if_pos rfl]⟩)
      · exact p2.elim
theorem me_dcp {own : List Nat} {t : Tg} {ke ve it cond : ME} {scope : Scope} (co : CO P w K mg base (false, rp) n N sc fnc E X) (hi : PI X tg iter (TIm K ga xn E C it)) (hb : blkC N sc scope (mkOwn N own) = true) (ho : (mkOwn N own).map (·.2) = own) (hin : tgIn own t = true) (hset : notSet iter = true)
    (hg : ∀ X', CO P w K mg base (false, rp) n N (relab scope sc) (fun x => scope.names.lookup x == some .cell) E0 X' → PG X' tg (gTg K t) ∧ PTs X' ifs (TCm K ga xn E0 C cond) ∧ PE X' kx (TEm K ga xn E0 C ke) ∧ PE X' vx (TEm K ga xn E0 C ve)) :
    PE X (.DictComp kx vx [⟨tg, iter, ifs, 0⟩] scope pos) (TEm K ga xn E C (.dcp own t ke ve it cond)) := by
  have ok : BlkOk X.N X.env.scope scope (mkOwn N own) := by rw [co.pN, co.ps]; exact blkOk_by hb
  refine PE_imp (pe_dc (co.calm rfl) (by rw [co.pN]; exact co.nd) hi ok (fun s H A cl fp => (hg _ (co.blk s H scope A cl fp)).1) (fun s H A cl fp => (hg _ (co.blk s H scope A cl fp)).2.1) (fun s H A cl fp => (hg _ (co.blk s H scope A cl fp)).2.2.1) (fun s H A cl fp => (hg _ (co.blk s H scope A cl fp)).2.2.2) (no_fold hset)) ?_
  intro σ H Q h
  rw [ho]
  exact dcomp_reads hin h
end

/-! ### sorted of pairs of ints, wherever the pairs stand -/
def RowP (K : PySem.W.Frag) (H : Hp) (p : Int × Int) (x : V) : Prop := ∃ t, x = V.ref t ∧ SqT K H t [V.int p.1, V.int p.2]
theorem leP_total (a b : Int × Int) : (leP a b || leP b a) = true := by
  unfold leP
  simp only [Bool.or_eq_true, decide_eq_true_eq]
  omega
theorem leP_trans (a b c : Int × Int) (h : leP a b = true) (h' : leP b c = true) : leP a c = true := by
  unfold leP at *
  simp only [decide_eq_true_eq] at *
  omega
theorem leP_anti (a b : Int × Int) (h : leP a b = true) (h' : leP b a = true) : a = b := by
  unfold leP at *
  simp only [decide_eq_true_eq] at *
  have e1 : a.1 = b.1 := by omega
  have e2 : a.2 = b.2 := by omega
  exact Prod.ext e1 e2
theorem leP_of {k : V → Int × Int} {x y : V} (h : ltP k y x = false) : leP (k x) (k y) = true := by
  have := SrtO.lexB_no.mp h
  unfold leP
  simp only [decide_eq_true_eq]
  omega
theorem sortP_unique {ns ms : List (Int × Int)} (h1 : ms.Perm ns) (h2 : ms.Pairwise fun a b => leP a b = true) : ms = ns.mergeSort leP := by
  have p : (ns.mergeSort leP).Perm ns := List.mergeSort_perm ns _
  have s := List.pairwise_mergeSort (le := leP) leP_trans leP_total ns
  exact List.Perm.eq_of_pairwise (le := fun a b => leP a b = true) (fun a b _ _ h h' => leP_anti a b h h') h2 s (h1.trans p.symm)
theorem paired_map {α β : Type} {R : α → β → Prop} (f : β → α) : ∀ {ys : List β}, (∀ y ∈ ys, R (f y) y) → Paired R (ys.map f) ys
  | [], _ => .nil
  | y :: ys, h => .cons (h y List.mem_cons_self) (paired_map f fun z hz => h z (List.mem_cons_of_mem _ hz))
theorem paired_fn {α β : Type} {R : α → β → Prop} (f : β → α) {ps : List α} {ys : List β} (h : Paired R ps ys) (u : ∀ p y, y ∈ ys → R p y → p = f y) : ps = ys.map f := by
  induction h with
  | nil => rfl
  | @cons p y ps ys r t ih => rw [List.map_cons, ← u p y List.mem_cons_self r, ← ih fun p z hz => u p z (List.mem_cons_of_mem _ hz)]
theorem paired_mem {α β : Type} {R : α → β → Prop} {ps : List α} {ys : List β} (h : Paired R ps ys) : ∀ y ∈ ys, ∃ p, R p y := by
  induction h with
  | nil => intro y hy; cases hy
  | @cons p y ps ys r t ih =>
    intro z hz
    rcases List.mem_cons.mp hz with rfl | hz
    · exact ⟨p, r⟩
    · exact ih z hz
def rPrs (K : PySem.W.Frag) : List V → Hp → VK → Prop := fun vs H Q => ∃ (a : Addr) (xs : List V) (ps : List (Int × Int)), vs = [V.ref a] ∧ SqL K H a xs ∧ Paired (RowP K H) ps xs ∧
  ∀ (ys : List V) (p : Addr), Paired (RowP K H) (ps.mergeSort leP) ys → H p = none → Q (V.ref p) (upd H p (HO.lst ys))
theorem call_prs {X : Cx} : CallR X (.builtin "sorted") (rPrs X.K) := by
  rintro pins s σ H vs us Q I r ⟨a, xs, ps, ea, hs, hps, q⟩
  subst ea
  obtain ⟨its, rv, hl, hz⟩ := I.list hs
  obtain ⟨u, eu, ru⟩ := vals1 r
  subst eu
  have eu2 : u = Value.ref a := ru
  subst eu2
  obtain ⟨k, hk⟩ : ∃ k : V → Int × Int, ∀ x, (∃ p, RowP X.K H p x) → RowP X.K H (k x) x := by
    classical
    refine ⟨fun x => if h : ∃ p, RowP X.K H p x then Classical.choose h else (0, 0), fun x h => ?_⟩
    show RowP X.K H (if h : ∃ p, RowP X.K H p x then Classical.choose h else (0, 0)) x
    rw [dif_pos h]
    exact Classical.choose_spec h
  have uq : ∀ p x, RowP X.K H p x → p = k x := fun p x h => by
    obtain ⟨t, e, h1⟩ := h
    obtain ⟨t', e', h2⟩ := hk x ⟨p, t, e, h1⟩
    rw [e] at e'
    cases e'
    have z := I.tuple_inj h1 h2
    simp only [List.cons.injEq, V.int.injEq, and_true] at z
    exact Prod.ext z.1 z.2
  have hx : ∀ x, x ∈ xs → RowP X.K H (k x) x := fun x m => hk x (paired_mem hps x m)
  have eps : ps = xs.map k := paired_fn k hps fun p y _ h => uq p y h
  have back := refs_back rv fun x m => let ⟨t, e, _⟩ := hx x m; ⟨t, e⟩
  have len : its.length ≤ sizeLine := by
    have := rv.length
    omega
  refine SrtO.sorted_pairsO (k := fun u => k (backV u)) hl.isList len ?_ ?_
  · intro v hv
    obtain ⟨t, et⟩ := back.2 v hv
    subst et
    have hm : V.ref t ∈ xs := by
      have m := List.mem_map_of_mem (f := backV) hv
      rw [← back.1] at m
      exact m
    obtain ⟨t', e, ht⟩ := hx _ hm
    cases e
    obtain ⟨its2, r2, ⟨o, ho, hc, n, hd⟩, _⟩ := I.tuple ht
    obtain ⟨u1, u2, e2, ri, rj⟩ := vals2 r2
    subst e2
    obtain ⟨t1, e1⟩ := ri
    obtain ⟨t2, e3⟩ := rj
    subst e1 e3
    exact ⟨t, o, t1, t2, n, rfl, ho, hc, hd⟩
  · intro h' d out h1 h2 kp hd hn
    have refs : ∀ u ∈ out, ∃ a, u = Value.ref a := fun u hu => back.2 u (h2.perm.mem_iff.mp hu)
    obtain ⟨n, hn⟩ := hn
    have st : SrtO.Stb (ltP k) (out.map backV) xs := by
      rw [back.1]
      exact SrtO.Stb.map (ltP_swo k) backV h2
    have fin : (out.map backV).length ≤ sizeLine := by
      rw [st.len]
      exact hz
    have srt : SrtO.Srtd (ltP k) (out.map backV) := SrtO.srtd_map h1
    have rows : Paired (RowP X.K H) (ps.mergeSort leP) (out.map backV) := by
      rw [eps, ← sortP_unique (ms := (out.map backV).map k) (st.perm.map k) (List.pairwise_map.mpr (srt.imp fun h => leP_of h))]
      exact paired_map k fun y hy => hx y (st.perm.mem_iff.mp hy)
    exact ⟨V.ref d, _, I.laid (o := HO.lst (out.map backV)) (t' := s.toks) kp hd ⟨fin, out, n, vals_back refs, hn⟩, rfl, q _ d rows (I.hok.fresh hd)⟩
section
variable {Ω : Om} {H : Hp} {L : Nat}
theorem prs_rows : ∀ {ms : List MV} {xs : List V} {ps : List (Int × Int)}, VRels K ga Ω L H ms xs → prsI ms = some ps → Paired (RowP K H) ps xs
  | [], xs, ps, r, e => by
    unfold VRels at r
    unfold prsI at e
    cases e
    subst r
    exact .nil
  | m :: ms, xs, ps, r, e => by
    unfold VRels at r
    obtain ⟨y, ys, rfl, r1, r2⟩ := r
    unfold prsI at e
    split at e
    · rename_i heq; cases heq
    · rename_i a b zs heq
      cases heq
      cases q : prsI ms with
      | none => rw [q] at e; cases e
      | some qs =>
        rw [q] at e
        cases e
        refine .cons ?_ (prs_rows r2 q)
        obtain ⟨t, zs, e1, e2, e3⟩ := v_tup.mp r1
        obtain ⟨x1, x2, rfl, v1, v2⟩ := vs_two e3
        rw [v_int] at v1 v2
        subst v1 v2
        exact ⟨t, e1, e2⟩
    · cases e
theorem rows_vs {ps : List (Int × Int)} {xs : List V} (h : Paired (RowP K H) ps xs) : VRels K ga Ω L H (ps.map prV) xs := by
  induction h with
  | nil => unfold List.map VRels; rfl
  | @cons p x ps xs r t ih =>
    rw [List.map_cons]
    unfold VRels
    obtain ⟨t, e1, e2⟩ := r
    refine ⟨x, xs, rfl, v_tup.mpr ⟨t, _, e1, e2, ?_⟩, ih⟩
    unfold VRels
    refine ⟨_, _, rfl, v_int.mpr rfl, ?_⟩
    unfold VRels
    exact ⟨_, _, rfl, v_int.mpr rfl, by unfold VRels; rfl⟩
end
section
variable {a : Expr} {ea : ME} {pos p : Pos}
theorem mf_prs (co : CO P w K mg base hot n N sc fnc E X) (gf : GF P w K mg base ga xn G C n) (hx : ("sorted" : Str) ∈ G.blt) (hg : sc.names.lookup ("sorted" : Str) = some .globalImplicit) (ha : PE X a (TEm K ga xn E C ea)) (hs : notStar a = true) :
    PE X (.Call (.Name "sorted" p) [a] [] pos) (TFm K ga xn E C (.f1 .pr ea)) := by
  refine PE_imp (pe_callB call_prs (by show X.env.scope.names.lookup _ = _; rw [co.ps]; exact hg) (by rw [co.pm]; exact gf.blt _ hx) (by decide +kernel) (pa_cons ha pa_nil (star_one hs)) (by decide) (by decide) (star_one hs) rfl) ?_
  rintro σ H Q ⟨Ω, σm, hm, hr, sr, p⟩
  unfold evF at p
  refine te_of hr sr (Post.bind p) fun Ω1 H1 v h1 x l1 e1 r1 s1 vx p1 => ?_
  rw [co.pK]
  unfold f1V at p1
  simp only at p1
  split at p1
  · rename_i zs q
    split at p1
    · rename_i ps q2
      obtain ⟨a', xs, rfl, t, t2⟩ := lst_rel r1 vx q
      exact ⟨a', xs, ps, rfl, t, prs_rows t2 q2, fun ys l h2 hl => lay r1 (rows_vs h2) p1 l hl⟩
    · exact p1.elim
  · exact p1.elim
theorem intKs_eq : ∀ {kvs : List (Key × MV)} {ks : List Int}, intKs kvs = some ks → kvs.map (·.1) = ks.map Sum.inl
  | [], ks, e => by
    unfold intKs at e
    cases e
    rfl
  | (.inl i, v) :: r, ks, e => by
    unfold intKs at e
    cases q : intKs r with
    | none => rw [q] at e; cases e
    | some zs =>
      rw [q] at e
      cases e
      rw [List.map_cons, List.map_cons, intKs_eq q]
  | (.inr i, v) :: r, ks, e => by
    unfold intKs at e
    cases e
theorem keys_rel {Ω : Om} {L : Nat} {H : Hp} : ∀ {kvs : List (Key × MV)} {kys : List (Key × V)}, DRel K ga Ω L H kvs kys → kys.map (·.1) = kvs.map (·.1)
  | _, _, .nil => rfl
  | _, _, .cons r t => by rw [List.map_cons, List.map_cons, keys_rel t, r.1]
theorem mf_sk (co : CO P w K mg base (false, rp) n N sc fnc E X) (gf : GF P w K mg base ga xn G C n) (hx : ("sorted" : Str) ∈ G.blt) (hg : sc.names.lookup ("sorted" : Str) = some .globalImplicit) (ha : PE X a (TEm K ga xn E C ea)) (hs : notStar a = true) :
    PE X (.Call (.Name "sorted" p) [a] [] pos) (TFm K ga xn E C (.f1 .sk ea)) := by
  refine PE_imp (pe_callB (call_sortedDI (co.calm rfl)) (by show X.env.scope.names.lookup _ = _; rw [co.ps]; exact hg) (by rw [co.pm]; exact gf.blt _ hx) (by decide +kernel) (pa_cons ha pa_nil (star_one hs)) (by decide) (by decide) (star_one hs) rfl) ?_
  rintro σ H Q ⟨Ω, σm, hm, hr, sr, p⟩
  unfold evF at p
  refine te_of hr sr (Post.bind p) fun Ω1 H1 v h1 x l1 e1 r1 s1 vx p1 => ?_
  unfold f1V at p1
  simp only at p1
  split at p1
  · rename_i kvs q
    split at p1
    · rename_i ks q2
      split at p1
      · rename_i hz
        obtain ⟨a', kys, rfl, hd, dr⟩ := dctR_rel r1 vx q
        refine ⟨a', kys, ks, rfl, hd, by rw [keys_rel dr, intKs_eq q2], hz, fun ys l h2 h3 hl => ?_⟩
        rw [sort_unique h2 h3]
        exact lay r1 (vs_mapint _) p1 l hl
      · exact p1.elim
    · exact p1.elim
  · exact p1.elim
theorem mf_rev {k : Nat} {p1 p2 p3 : Pos} (co : CO P w K mg base hot n N sc fnc E X) (ha : PE X a (TEm K ga xn E C ea)) :
    PE X (.Subscript a (.Slice none none (some (.UnaryOp .USub (.Constant (.int 1) k p1) p2)) p3) pos) (TFm K ga xn E C (.f1 .rev ea)) := by
  refine PE_imp (pe_revL ha) ?_
  rintro σ H Q ⟨Ω, σm, hm, hr, sr, p⟩
  unfold evF at p
  refine te_of hr sr (Post.bind p) fun Ω1 H1 v h1 x l1 e1 r1 s1 vx p1 => ?_
  rw [co.pK]
  unfold f1V at p1
  simp only at p1
  split at p1
  · rename_i zs q
    obtain ⟨a', xs, rfl, t, t2⟩ := lst_rel r1 vx q
    exact ⟨a', xs, rfl, t, fun l hl => lay r1 (vrels_iff.mpr (pr_rev (vrels_iff.mp t2))) p1 l hl⟩
  · exact p1.elim
end
end Mn
namespace Mn
open PySem PySem.Spec PyProof.Rows L2
variable {P : Program} {w : World} {K : PySem.W.Frag} {mg : Str → Option Value} {base : Heap} {ga : Str → Addr} {xn : Str → Str}
variable {G : Gs} {C : Ct} {hot : Bool × Bool} {rp : Bool} {n : Nat} {N : List Str} {sc : Scope} {fnc : Str → Bool} {E : XK} {X : Cx}
/-! ### order of tuples of ints -/
theorem lexAt_shift {e r : Nat → Bool} {z : Bool} : ∀ (k i : Nat), Ob.lexAt (fun j => e (j + 1)) (fun j => r (j + 1)) z i k = Ob.lexAt e r z (i + 1) k
  | 0, i => rfl
  | k + 1, i => by rw [Ob.lexAt_succ, Ob.lexAt_succ, lexAt_shift k (i + 1)]
theorem lexG_eq : ∀ (ns ms : List Int), Ob.lexAt (fun j => decide (ns.getD j 0 = ms.getD j 0)) (fun j => decide (ms.getD j 0 < ns.getD j 0)) (decide (ns.length > ms.length)) 0 (min ns.length ms.length) = lexG ns ms
  | [], ms => by
    rw [List.length_nil, Nat.zero_min, Ob.lexAt_zero]
    unfold lexG
    simp
  | a :: as, [] => by
    rw [List.length_nil, Nat.min_zero, Ob.lexAt_zero]
    unfold lexG
    simp
  | a :: as, b :: bs => by
    have ih := lexG_eq as bs
    have em : min (as.length + 1) (bs.length + 1) = min as.length bs.length + 1 := by omega
    rw [List.length_cons, List.length_cons, em, Ob.lexAt_succ]
    unfold lexG
    rw [← ih, ← lexAt_shift]
    have el : (decide (as.length + 1 > bs.length + 1)) = decide (as.length > bs.length) := by
      by_cases h : as.length > bs.length
      · rw [decide_eq_true h, decide_eq_true (by omega)]
      · rw [decide_eq_false h, decide_eq_false (by omega)]
    rw [el]
    by_cases h : a = b
    · rw [if_pos h, if_pos (decide_eq_true (by simpa using h))]
      rfl
    · rw [if_neg h, if_neg (by simpa using h)]
      rfl
def rTup2 (K : PySem.W.Frag) (g : List Int → List Int → Bool) : R2 := fun x y H Q => ∃ (a b : Addr) (ns ms : List Int), x = .ref a ∧ y = .ref b ∧ SqT K H a (ns.map V.int) ∧ SqT K H b (ms.map V.int) ∧ Q (.bl (g ns ms)) H
theorem op_tgt {X : Cx} (hu : X.A.units < cLine) : OpR X (compareOp .Gt) (rTup2 X.K lexG) := by
  intro pins s σ H x y v u Q I rx ry h
  obtain ⟨a, b, ns, ms, rfl, rfl, ha, hb, q⟩ := h
  cases rx
  cases ry
  obtain ⟨its, r1, p1, _⟩ := I.tuple ha
  obtain ⟨its2, r2, p2, _⟩ := I.tuple hb
  have i1 : IntsAre its ns := Vals.ints r1
  have i2 : IntsAre its2 ms := Vals.ints r2
  have e1 : its.toArray.size = ns.length := by rw [List.size_toArray]; exact i1.length
  have e2 : its2.toArray.size = ms.length := by rw [List.size_toArray]; exact i2.length
  have at1 : ∀ j (h1 : j < its.toArray.size), ∃ t, its.toArray[j] = .int (ns.getD j 0) t := fun j h1 => PyProof.Rows.IntsAre.int_at i1 _ _ (by simp at h1; simp [h1])
  have at2 : ∀ j (h1 : j < its2.toArray.size), ∃ t, its2.toArray[j] = .int (ms.getD j 0) t := fun j h1 => PyProof.Rows.IntsAre.int_at i2 _ _ (by simp at h1; simp [h1])
  have R := Ob.RcOp.tuples_gt (A := X.A) (s := s) (e := fun j => decide (ns.getD j 0 = ms.getD j 0)) (r := fun j => decide (ms.getD j 0 < ns.getD j 0)) p1 p2 hu (fun j h1 h2 => by
    obtain ⟨t, et⟩ := at1 j h1
    obtain ⟨t', et'⟩ := at2 j h2
    rw [et, et']
    have z : (ns.getD j 0 == ms.getD j 0) = decide (ns.getD j 0 = ms.getD j 0) := by
      by_cases q : ns.getD j 0 = ms.getD j 0
      · rw [decide_eq_true q]; exact beq_iff_eq.mpr q
      · rw [decide_eq_false q]; exact beq_eq_false_iff_ne.mpr q
    rw [← z]
    exact SeqAt.EqAt.int_int _ _ _ _) (fun j h1 h2 _ => by
    obtain ⟨t, et⟩ := at1 j h1
    obtain ⟨t', et'⟩ := at2 j h2
    rw [et, et']
    exact Ob.RcOp.gt_int _ _ _ _)
  rw [e1, e2, lexG_eq] at R
  have z : wpAny (model X.prog X.w) X.A (compareOp .Gt (.ref a) (.ref b)) (EP X pins σ Q) X.xe s := R X.prog X.w X.xe (EP X pins σ Q) ⟨.bl _, H, I, rfl, q⟩
  exact z
theorem op_tlt {X : Cx} (hu : X.A.units < cLine) : OpR X (compareOp .Lt) (rTup2 X.K fun ns ms => lexG ms ns) := by
  intro pins s σ H x y v u Q I rx ry h
  obtain ⟨a, b, ns, ms, rfl, rfl, ha, hb, q⟩ := h
  cases rx
  cases ry
  obtain ⟨its, r1, p1, _⟩ := I.tuple ha
  obtain ⟨its2, r2, p2, _⟩ := I.tuple hb
  have i1 : IntsAre its ns := Vals.ints r1
  have i2 : IntsAre its2 ms := Vals.ints r2
  have e1 : its.toArray.size = ns.length := by rw [List.size_toArray]; exact i1.length
  have e2 : its2.toArray.size = ms.length := by rw [List.size_toArray]; exact i2.length
  have at1 : ∀ j (h1 : j < its.toArray.size), ∃ t, its.toArray[j] = .int (ns.getD j 0) t := fun j h1 => PyProof.Rows.IntsAre.int_at i1 _ _ (by simp at h1; simp [h1])
  have at2 : ∀ j (h1 : j < its2.toArray.size), ∃ t, its2.toArray[j] = .int (ms.getD j 0) t := fun j h1 => PyProof.Rows.IntsAre.int_at i2 _ _ (by simp at h1; simp [h1])
  have R := Ob.RcOp.tuples_lt (A := X.A) (s := s) (e := fun j => decide (ms.getD j 0 = ns.getD j 0)) (r := fun j => decide (ns.getD j 0 < ms.getD j 0)) p1 p2 hu (fun j h1 h2 => by
    obtain ⟨t, et⟩ := at1 j h1
    obtain ⟨t', et'⟩ := at2 j h2
    rw [et, et']
    have z : (ns.getD j 0 == ms.getD j 0) = decide (ms.getD j 0 = ns.getD j 0) := by
      by_cases q : ns.getD j 0 = ms.getD j 0
      · rw [decide_eq_true q.symm]; exact beq_iff_eq.mpr q
      · rw [decide_eq_false (fun z => q z.symm)]; exact beq_eq_false_iff_ne.mpr q
    rw [← z]
    exact SeqAt.EqAt.int_int _ _ _ _) (fun j h1 h2 _ => by
    obtain ⟨t, et⟩ := at1 j h1
    obtain ⟨t', et'⟩ := at2 j h2
    rw [et, et']
    exact Ob.RcOp.lt_int _ _ _ _)
  rw [e1, e2, Nat.min_comm] at R
  have R2 : Ob.RcOp .Lt X.A s (.ref a) (.ref b) (lexG ms ns) := by rw [← lexG_eq]; exact R
  have z : wpAny (model X.prog X.w) X.A (compareOp .Lt (.ref a) (.ref b)) (EP X pins σ Q) X.xe s := R2 X.prog X.w X.xe (EP X pins σ Q) ⟨.bl _, H, I, rfl, q⟩
  exact z
section
variable {a b c d : Expr} {ea eb ec ed : ME} {pos p p2 : Pos}
theorem me_x2 {op : CmpOp} {k : X2} {r : R2} (ho : OpR X (compareOp op) r) (ha : PE X a (TEm K ga xn E C ea)) (hb : PE X b (TEm K ga xn E C eb)) (hs : notSet b = true) (hk : ∀ v h, x2P k v h = true)
    (hi : ∀ {Ω : Om} {H : Hp} {h : MHeap} {v u : MV} {x y : V} {Q : VK}, HRel K ga Ω h H → VRel K ga Ω h.length H v x → VRel K ga Ω h.length H u y → Post K ga xn E h.length Ω H (x2V k v u h) (Kv K ga Q) → r x y H Q) : PE X (.Compare a [op] [b] pos) (TEm K ga xn E C (.x2 k ea eb)) := by
  refine PE_imp (pe_cmpR ho ha hb (no_mark hs)) ?_
  rintro σ H Q ⟨Ω, σm, hm, hr, sr, p⟩
  unfold evE at p
  refine te_of hr sr (Post.bind p) fun Ω1 H1 v h1 x l1 e1 r1 s1 vx p1 => ?_
  rw [hk, if_pos rfl] at p1
  refine te_of r1 s1 (Post.bind p1) fun Ω2 H2 u h2 y l2 e2 r2 s2 vy p2 => ?_
  exact hi r2 (vx.ext e2 l2) vy p2
theorem tgt_in {Ω : Om} {H : Hp} {h : MHeap} {u v : MV} {x y : V} {Q : VK} (r2 : HRel K ga Ω h H) (vx : VRel K ga Ω h.length H v x) (vy : VRel K ga Ω h.length H u y) (p2 : Post K ga xn E h.length Ω H (x2V .tgt v u h) (Kv K ga Q)) : rTup2 K lexG x y H Q := by
  unfold x2V at p2
  simp only at p2
  split at p2
  · rename_i xs ys
    split at p2
    · rename_i ns ms q1 q2
      obtain ⟨a', ya, rfl, ta, ra⟩ := v_tup.mp vx
      obtain ⟨b', yb, rfl, tb, rb⟩ := v_tup.mp vy
      rw [vs_ints ra q1] at ta
      rw [vs_ints rb q2] at tb
      exact ⟨a', b', ns, ms, rfl, rfl, ta, tb, p2.here r2 _ (v_bl.mpr rfl)⟩
    · exact p2.elim
  · exact p2.elim
theorem tlt_in {Ω : Om} {H : Hp} {h : MHeap} {u v : MV} {x y : V} {Q : VK} (r2 : HRel K ga Ω h H) (vx : VRel K ga Ω h.length H v x) (vy : VRel K ga Ω h.length H u y) (p2 : Post K ga xn E h.length Ω H (x2V .tlt v u h) (Kv K ga Q)) : rTup2 K (fun ns ms => lexG ms ns) x y H Q := by
  unfold x2V at p2
  simp only at p2
  split at p2
  · rename_i xs ys
    split at p2
    · rename_i ns ms q1 q2
      obtain ⟨a', ya, rfl, ta, ra⟩ := v_tup.mp vx
      obtain ⟨b', yb, rfl, tb, rb⟩ := v_tup.mp vy
      rw [vs_ints ra q1] at ta
      rw [vs_ints rb q2] at tb
      exact ⟨a', b', ns, ms, rfl, rfl, ta, tb, p2.here r2 _ (v_bl.mpr rfl)⟩
    · exact p2.elim
  · exact p2.elim
theorem me_tgt (co : CO P w K mg base hot n N sc fnc E X) (ha : PE X a (TEm K ga xn E C ea)) (hb : PE X b (TEm K ga xn E C eb)) (hs : notSet b = true) : PE X (.Compare a [.Gt] [b] pos) (TEm K ga xn E C (.x2 .tgt ea eb)) :=
  me_x2 (op_tgt (Nat.lt_of_le_of_lt (Nat.le_add_right _ _) co.units)) ha hb hs (fun _ _ => rfl) fun r2 vx vy p2 => by rw [co.pK]; exact tgt_in r2 vx vy p2
theorem mt_tgt (co : CO P w K mg base hot n N sc fnc E X) (ha : PE X a (TEm K ga xn E C ea)) (hb : PE X b (TEm K ga xn E C eb)) (hs : notSet b = true) : PT X (.Compare a [.Gt] [b] pos) (TTm K ga xn E C (.x2 .tgt ea eb)) :=
  mt_x2 (op_tgt (Nat.lt_of_le_of_lt (Nat.le_add_right _ _) co.units)) ha hb hs (fun _ _ => rfl) fun r2 vx vy p2 => by rw [co.pK]; exact tgt_in r2 vx vy p2
theorem me_tlt (co : CO P w K mg base hot n N sc fnc E X) (ha : PE X a (TEm K ga xn E C ea)) (hb : PE X b (TEm K ga xn E C eb)) (hs : notSet b = true) : PE X (.Compare a [.Lt] [b] pos) (TEm K ga xn E C (.x2 .tlt ea eb)) :=
  me_x2 (op_tlt (Nat.lt_of_le_of_lt (Nat.le_add_right _ _) co.units)) ha hb hs (fun _ _ => rfl) fun r2 vx vy p2 => by rw [co.pK]; exact tlt_in r2 vx vy p2
theorem mt_tlt (co : CO P w K mg base hot n N sc fnc E X) (ha : PE X a (TEm K ga xn E C ea)) (hb : PE X b (TEm K ga xn E C eb)) (hs : notSet b = true) : PT X (.Compare a [.Lt] [b] pos) (TTm K ga xn E C (.x2 .tlt ea eb)) :=
  mt_x2 (op_tlt (Nat.lt_of_le_of_lt (Nat.le_add_right _ _) co.units)) ha hb hs (fun _ _ => rfl) fun r2 vx vy p2 => by rw [co.pK]; exact tlt_in r2 vx vy p2
/-! ### i in range(n) -/
theorem cr_range1 {X : Cx} : CallR X (.type "range") (fun vs H Q => ∃ n, vs = [V.int n] ∧ ∀ p, H p = none → Q (.ref p) (upd H p (.rng 0 n))) := by
  intro pins s σ H vs us Q I r h
  obtain ⟨n, rfl, q⟩ := h
  obtain ⟨u1, rfl, ri⟩ := vals1 r
  obtain ⟨t, rfl⟩ := ri
  refine call_range_1 ⟨.ref s.heap.objs.size, upd H s.heap.objs.size (.rng 0 n), I.laid (t' := s.toks + 1 + 1) (fun b o e => Heap.get?_push_of_some _ e) (Nat.le_refl _) ?_, rfl, q _ (I.hok.fresh (Nat.le_refl _))⟩
  exact ⟨s.toks, t, s.toks + 1, Heap.get?_push_size _ rfl⟩
theorem inr_in {Ω : Om} {H : Hp} {h : MHeap} {u v : MV} {x y : V} {Q : VK} (r2 : HRel K ga Ω h H) (vx : VRel K ga Ω h.length H v x) (vy : VRel K ga Ω h.length H u y) (p2 : Post K ga xn E h.length Ω H (x2V .inr v u h) (Kv K ga Q)) :
    ∃ n, [y] = [V.int n] ∧ ∀ p, H p = none → ∃ i a lo hi, x = V.int i ∧ V.ref p = V.ref a ∧ (upd H p (.rng 0 n)) a = some (.rng lo hi) ∧ Q (.bl (decide (lo ≤ i ∧ i < hi))) (upd H p (.rng 0 n)) := by
  unfold x2V at p2
  simp only at p2
  split at p2
  · rename_i i m
    refine ⟨m, by rw [v_int.mp vy], fun q hq => ⟨i, q, 0, m, v_int.mp vx, rfl, upd_same, ?_⟩⟩
    have ex := ext_new (o := .rng 0 m) r2 hq
    exact p2 Ω _ (Nat.le_refl _) ex (r2.new hq) _ (v_bl.mpr rfl)
  · exact p2.elim
theorem me_inr (co : CO P w K mg base hot n N sc fnc E X) (gf : GF P w K mg base ga xn G C n) (hx : ("range" : Str) ∈ G.blt) (hg : sc.names.lookup ("range" : Str) = some .globalImplicit) (ha : PE X a (TEm K ga xn E C ea)) (hb : PE X b (TEm K ga xn E C eb)) (hs : notStar b = true) :
    PE X (.Compare a [.In] [.Call (.Name "range" p) [b] [] p2] pos) (TEm K ga xn E C (.x2 .inr ea eb)) := by
  have hc := pe_callTy (x := ("range" : Str)) (pos := p2) (p := p) (cr_range1 (X := X)) (by show X.env.scope.names.lookup _ = _; rw [co.ps]; exact hg) (by rw [co.pm]; exact gf.blt _ hx) rfl (pa_cons hb pa_nil (star_one hs)) (by decide) (by decide) (star_one hs) (star_any (es := []) rfl)
  refine PE_imp (pe_cmpR op_in_rng ha hc (no_mark rfl)) ?_
  rintro σ H Q ⟨Ω, σm, hm, hr, sr, p⟩
  unfold evE at p
  refine te_of hr sr (Post.bind p) fun Ω1 H1 v h1 x l1 e1 r1 s1 vx p1 => ?_
  rw [show x2P .inr v h1 = true from rfl, if_pos rfl] at p1
  refine te_of r1 s1 (Post.bind p1) fun Ω2 H2 u h2 y l2 e2 r2 s2 vy p2 => ?_
  exact inr_in r2 (vx.ext e2 l2) vy p2
theorem mt_inr (co : CO P w K mg base hot n N sc fnc E X) (gf : GF P w K mg base ga xn G C n) (hx : ("range" : Str) ∈ G.blt) (hg : sc.names.lookup ("range" : Str) = some .globalImplicit) (ha : PE X a (TEm K ga xn E C ea)) (hb : PE X b (TEm K ga xn E C eb)) (hs : notStar b = true) :
    PT X (.Compare a [.In] [.Call (.Name "range" p) [b] [] p2] pos) (TTm K ga xn E C (.x2 .inr ea eb)) := by
  have hc := pe_callTy (x := ("range" : Str)) (pos := p2) (p := p) (cr_range1 (X := X)) (by show X.env.scope.names.lookup _ = _; rw [co.ps]; exact hg) (by rw [co.pm]; exact gf.blt _ hx) rfl (pa_cons hb pa_nil (star_one hs)) (by decide) (by decide) (star_one hs) (star_any (es := []) rfl)
  refine PT_imp (pt_cmpR op_in_rng ha hc (no_mark rfl)) ?_
  rintro σ H Q ⟨Ω, σm, hm, hr, sr, p⟩
  unfold evT at p
  refine te_of hr sr (Post.bind p) fun Ω1 H1 v h1 x l1 e1 r1 s1 vx p1 => ?_
  rw [show x2P .inr v h1 = true from rfl, if_pos rfl] at p1
  refine te_of r1 s1 (Post.bind p1) fun Ω2 H2 u h2 y l2 e2 r2 s2 vy p2 => ?_
  have z0 := inr_in (Q := fun x H => ∃ k, x = V.bl k ∧ Q k H) r2 (vx.ext e2 l2) vy ((Post.bind p2).mono fun Ω3 H3 z h3 l3 e3 r3 p3 c vc => ?_)
  · exact z0
  cases z with
  | bl t => exact ⟨t, v_bl.mp vc, p3.here r3⟩
  | _ => exact p3.elim
/-! ### e in TABLE -/
theorem lk_mem {α : Type} : ∀ {l : List (Str × α)} {z : Str} {v : α}, l.lookup z = some v → z ∈ l.map (·.1)
  | [], _, _, h => by simp at h
  | (y, u) :: r, z, v, h => by
    rw [List.lookup_cons] at h
    rw [List.map_cons]
    cases e : z == y with
    | true => rw [eq_of_beq e]; exact List.mem_cons_self ..
    | false => rw [e] at h; exact List.mem_cons_of_mem _ (lk_mem h)
theorem me_tin {x : Str} {ks : List Str} (co : CO P w K mg base hot n N sc fnc E X) (gf : GF P w K mg base ga xn G C n) (ht : ∃ t ∈ G.tbs, t.1 = x ∧ t.2.map (·.1) = ks) (hg : sc.names.lookup x = some .globalImplicit) (h1 : (x == ("__debug__" : Str)) = false) (ha : PE X a (TEm K ga xn E C ea)) :
    PE X (.Compare a [.In] [.Name x p] pos) (TEm K ga xn E C (.x2 (.tin x ks) ea .non)) := by
  obtain ⟨t, ht1, rfl, rfl⟩ := ht
  obtain ⟨d, es, m, hm, D, hz⟩ := gf.tbs t ht1
  rw [← co.pK, ← co.pw] at D
  refine PE_imp (pe_cmpR (op_in_kd D) ha (pe_glob (v := .ref d) (u := .ref d) (by show X.env.scope.names.lookup _ = _; rw [co.ps]; exact hg) (by rw [co.pm]; exact hm) rfl h1) (no_mark rfl)) ?_
  rintro σ H Q ⟨Ω, σm, hm, hr, sr, p⟩
  unfold evE at p
  refine te_of hr sr (Post.bind p) fun Ω1 H1 v h1 x l1 e1 r1 s1 vx p1 => ?_
  rw [show x2P (.tin t.1 (t.2.map (·.1))) v h1 = true from rfl, if_pos rfl] at p1
  unfold evE at p1
  replace p1 : Post K ga xn E h1.length Ω1 H1 (x2V (.tin t.1 (t.2.map (·.1))) v .non h1) (Kv K ga Q) := p1
  unfold x2V at p1
  simp only at p1
  split at p1
  · rename_i z
    obtain ⟨r, q1, q2⟩ := hz z
    refine ⟨z, r, v_str.mp vx, rfl, by rw [co.pK]; exact q1, ?_⟩
    have e : decide (z ∈ t.2.map (·.1)) = r.isSome := by
      cases hl : t.2.lookup z with
      | none =>
        rw [hl] at q2
        subst q2
        refine decide_eq_false fun hz2 => ?_
        obtain ⟨q, hq, rfl⟩ := List.mem_map.mp hz2
        have := List.lookup_eq_none_iff.mp hl q hq
        simp at this
      | some k =>
        rw [hl] at q2
        obtain ⟨u, rfl, _⟩ := q2
        refine decide_eq_true ?_
        exact lk_mem hl
    rw [e] at p1
    exact p1.here r1 _ (v_bl.mpr rfl)
  · exact p1.elim
theorem mt_tin {x : Str} {ks : List Str} (co : CO P w K mg base hot n N sc fnc E X) (gf : GF P w K mg base ga xn G C n) (ht : ∃ t ∈ G.tbs, t.1 = x ∧ t.2.map (·.1) = ks) (hg : sc.names.lookup x = some .globalImplicit) (h1 : (x == ("__debug__" : Str)) = false) (ha : PE X a (TEm K ga xn E C ea)) :
    PT X (.Compare a [.In] [.Name x p] pos) (TTm K ga xn E C (.x2 (.tin x ks) ea .non)) := by
  obtain ⟨t, ht1, rfl, rfl⟩ := ht
  obtain ⟨d, es, m, hm, D, hz⟩ := gf.tbs t ht1
  rw [← co.pK, ← co.pw] at D
  refine PT_imp (pt_cmpR (op_in_kd D) ha (pe_glob (v := .ref d) (u := .ref d) (by show X.env.scope.names.lookup _ = _; rw [co.ps]; exact hg) (by rw [co.pm]; exact hm) rfl h1) (no_mark rfl)) ?_
  rintro σ H Q ⟨Ω, σm, hm, hr, sr, p⟩
  unfold evT at p
  refine te_of hr sr (Post.bind p) fun Ω1 H1 v h1 x l1 e1 r1 s1 vx p1 => ?_
  rw [show x2P (.tin t.1 (t.2.map (·.1))) v h1 = true from rfl, if_pos rfl] at p1
  unfold evE at p1
  replace p1 : Post K ga xn E h1.length Ω1 H1 ((x2V (.tin t.1 (t.2.map (·.1))) v .non h1).bind fun z h3 => match z with
    | .bl t => .ok t h3
    | _ => .bad) (Kb Q) := p1
  unfold x2V at p1
  simp only at p1
  cases v with
  | str z =>
    obtain ⟨r, q1, q2⟩ := hz z
    refine ⟨z, r, v_str.mp vx, rfl, by rw [co.pK]; exact q1, r.isSome, rfl, ?_⟩
    have e : decide (z ∈ t.2.map (·.1)) = r.isSome := by
      cases hl : t.2.lookup z with
      | none =>
        rw [hl] at q2
        subst q2
        refine decide_eq_false fun hz2 => ?_
        obtain ⟨q, hq, rfl⟩ := List.mem_map.mp hz2
        have := List.lookup_eq_none_iff.mp hl q hq
        simp at this
      | some k =>
        rw [hl] at q2
        obtain ⟨u, rfl, _⟩ := q2
        refine decide_eq_true ?_
        exact lk_mem hl
    simp only [e] at p1
    exact Post.here (show Post K ga xn E h1.length Ω1 H1 (.ok r.isSome h1) (Kb Q) from p1) r1
  | _ => exact p1.elim
/-! ### a chain of three -/
def tChain3 (r r' r'' : R2) (ta tb tc td : TE) : TE := fun σ H Q => ta σ H fun x H1 => tb σ H1 fun y H2 => r x y H2 fun z H3 => ∃ k, z = .bl k ∧
  (if k = true then tc σ H3 fun z' H4 => r' y z' H4 fun z2 H5 => ∃ k2, z2 = .bl k2 ∧ (if k2 = true then td σ H5 fun w' H6 => r'' z' w' H6 Q else Q (.bl false) H5) else Q (.bl false) H3)
theorem pe_chain3 {o1 o2 o3 : CmpOp} {r r' r'' : R2} {ta tb tc td : TE} (ho : OpR X (compareOp o1) r) (ho' : OpR X (compareOp o2) r') (ho'' : OpR X (compareOp o3) r'') (ha : PE X a ta) (hb : PE X b tb) (hc : PE X c tc) (hd : PE X d td)
    (hm : lastMarks [o1, o2, o3] [b, c, d] = false) : PE X (.Compare a [o1, o2, o3] [b, c, d] pos) (tChain3 r r' r'' ta tb tc td) := by
  refine ⟨fun pins s σ H Q I h => ?_⟩
  refine Compare_chain (thn (ha.run pins s σ H _ I h) fun v s1 ⟨x, H1, I1, r1, q1⟩ => chain_link (thn (hb.run pins s1 σ H1 _ I1 q1) fun u s2 ⟨y, H2, I2, r2, q2⟩ =>
    thn (ho pins s2 σ H2 x y v u _ I2 r1 r2 q2) fun d s3 ⟨z, H3, I3, r3, k, e, q3⟩ => ?_)) hm
  subst e
  cases r3
  refine wpAny_truthy_bool ?_
  cases k with
  | false => exact ite_ff ⟨.bl false, H3, I3, rfl, q3⟩
  | true =>
    refine ite_tt (chain_link (thn (hc.run pins s3 σ H3 _ I3 q3) fun w' s4 ⟨z', H4, I4, r4, q4⟩ => thn (ho' pins s4 σ H4 y z' u w' _ I4 r2 r4 q4) fun d' s5 ⟨z2, H5, I5, r5, k2, e2, q5⟩ => ?_))
    subst e2
    cases r5
    refine wpAny_truthy_bool ?_
    cases k2 with
    | false => exact ite_ff ⟨.bl false, H5, I5, rfl, q5⟩
    | true => exact ite_tt (chain_last (thn (hd.run pins s5 σ H5 _ I5 q5) fun w6 s6 ⟨z6, H6, I6, r6, q6⟩ => ho'' pins s6 σ H6 z' z6 w' w6 Q I6 r4 r6 q6))
theorem me_chn3 {o1 o2 o3 : CmpOp} (co : CO P w K mg base hot n N sc fnc E X) (ha : PE X a (TEm K ga xn E C ea)) (hb : PE X b (TEm K ga xn E C eb)) (hc : PE X c (TEm K ga xn E C ec)) (hd : PE X d (TEm K ga xn E C ed)) (hs : notSet d = true) : PE X (.Compare a [o1, o2, o3] [b, c, d] pos) (TEm K ga xn E C (.chn3 o1 o2 o3 ea eb ec ed)) := by
  refine PE_imp (pe_chain3 (op_cmp (ga := ga) (xn := xn) (E := E) co.pK co.units) (op_cmp (ga := ga) (xn := xn) (E := E) co.pK co.units) (op_cmp (ga := ga) (xn := xn) (E := E) co.pK co.units) ha hb hc hd (show behindInMarks o3 d = false from no_mark hs)) ?_
  rintro σ H Q ⟨Ω, σm, hm, hr, sr, p⟩
  unfold evE at p
  refine te_of hr sr (Post.bind p) fun Ω1 H1 v h1 x l1 e1 r1 s1 vx p1 => ?_
  refine te_of r1 s1 (Post.bind p1) fun Ω2 H2 v2 h2 y l2 e2 r2 s2 vy p2 => ?_
  refine ⟨Ω2, h2, v, v2, r2, vx.ext e2 l2, vy, (Post.bind p2).mono fun Ω3 H3 z h3 l3 e3 r3 p3 c' vc => ?_⟩
  cases z with
  | bl t =>
    refine ⟨t, v_bl.mp vc, ?_⟩
    cases t with
    | true =>
      rw [if_pos rfl]
      refine te_of r3 (s2.ext e3 l3) (Post.bind p3) fun Ω4 H4 v4 h4 z4 l4 e4 r4 s4 v4' p4 => ?_
      refine ⟨Ω4, h4, v2, v4, r4, vy.ext (e3.trans e4 l3) (Nat.le_trans l3 l4), v4', (Post.bind p4).mono fun Ω5 H5 z5 h5 l5 e5 r5 p5 c5 vc5 => ?_⟩
      cases z5 with
      | bl t2 =>
        refine ⟨t2, v_bl.mp vc5, ?_⟩
        cases t2 with
        | true =>
          rw [if_pos rfl]
          refine te_of r5 (s4.ext e5 l5) (Post.bind p5) fun Ω6 H6 v6 h6 z6 l6 e6 r6 s6 v6' p6 => ?_
          exact ⟨Ω6, h6, v4, v6, r6, v4'.ext (e5.trans e6 l5) (Nat.le_trans l5 l6), v6', p6⟩
        | false =>
          rw [if_neg Bool.false_ne_true]
          exact p5.here r5 _ (v_bl.mpr rfl)
      | _ => exact p5.elim
    | false =>
      rw [if_neg Bool.false_ne_true]
      exact p3.here r3 _ (v_bl.mpr rfl)
  | _ => exact p3.elim
/-! ### the signs of a text -/
theorem mi_chs {tg : Expr} (co : CO P w K mg base hot n N sc fnc E X) (ha : PE X a (TEm K ga xn E C ea)) : PI X tg a (TIm K ga xn E C (.i1 .chs ea)) := by
  refine PI_imp (pi_str ha) ?_
  rintro σ H R ⟨Ω, σm, hm, hr, sr, p⟩
  unfold evI at p
  refine te_of hr sr (Post.bind p) fun Ω1 H1 v h1 x l1 e1 r1 s1 vx p1 => ?_
  unfold i1V at p1
  cases v with
  | str z =>
    rw [v_str] at vx
    subst vx
    have p2 : Post K ga xn E h1.length Ω1 H1 (Rs.ok (Src.mk (chsM z) []) h1) _ := p1
    refine ⟨z, rfl, p2.here r1 _ fun Ω h H l ex r ok => ⟨?_, fun i y hy => ?_⟩⟩
    · show z.cps.size ≤ (chsM z).length
      unfold chsM
      simp
    · unfold chsM at hy
      replace hy : (z.cps.toList.map fun c => MV.str ⟨#[c]⟩)[i]? = some y := hy
      rw [List.getElem?_map, Array.getElem?_toList] at hy
      cases hc : z.cps[i]? with
      | none => rw [hc] at hy; cases hy
      | some c =>
        rw [hc] at hy
        cases hy
        refine ⟨(Array.getElem?_eq_some_iff.mp hc).1, fun v' H' hyl => ?_⟩
        obtain ⟨rfl, c', hc', rfl⟩ := hyl
        rw [hc] at hc'
        cases hc'
        exact ⟨Ext.refl _ _ _, r, v_str.mpr rfl⟩
  | ref m =>
    simp only at p1
    split at p1 <;> exact p1.elim
  | int m => exact p1.elim
  | _ => exact p1.elim
/-- enumerate of a text -/
def Ites (x : Str) : It := ⟨fun i _ => i < x.cps.size, fun i H v H' => ∃ T c, v = .ref T ∧ H T = none ∧ H' = upd H T (.tup [.int (i : Nat), .str ⟨#[c]⟩]) ∧ x.cps[i]? = some c, fun i _ => x.cps.size ≤ i⟩
theorem turn_enumS {P : Program} {w : World} {K : PySem.W.Frag} {elts : List Expr} {kk : Nat} {tpos : Pos} (x : Str) (t : Tok) (e it : Addr) :
    Turn P w K (.Tuple elts kk tpos) (Ites x) [e, it] e (fun i h => (∃ old, IsEnum h e it ((i : Nat) : Int) old) ∧ h.IsStrIter it (strIterType x) x t i ∧ e ≠ it ∧ i ≤ x.cps.size) where
  mem := by simp
  obj := fun i h st b hb => by
    obtain ⟨⟨old, he⟩, ⟨o, ho, hc, hd⟩, _⟩ := st
    have e' : b = e ∨ b = it := by simpa using hb
    rcases e' with z | z
    · rw [z]; exact ⟨_, he, fun v q => nomatch q⟩
    · rw [z]; exact ⟨o, ho, fun v q => by rw [hd] at q; cases q⟩
  keep := fun i h h' st k => let ⟨⟨old, he⟩, ⟨o, ho, r⟩, hne, hle⟩ := st; ⟨⟨old, k e (by simp) _ he⟩, ⟨o, k it (by simp) o ho, r⟩, hne, hle⟩
  item := by
    intro X hP hw hK hc i pins s σ H E I hf st hg
    subst hP hw hK
    obtain ⟨⟨old, he⟩, hit, hne, _⟩ := st
    have hel : e < s.heap.objs.size := Heap.lt_size he
    have hil : it < s.heap.objs.size := by obtain ⟨_, q, _⟩ := hit; exact Heap.lt_size q
    have D : Draws X.prog X.w X.A.in1 it [it] x.cps.size (fun i v => ∃ c u, x.cps[i]? = some c ∧ v = .str ⟨#[c]⟩ u) (fun i h => h.IsStrIter it (strIterType x) x t i) := Draws.text (A := X.A.in1) (I.ok.hd hc) it x t
    refine wpAny_pyNext_enum_itemC D he hit hg hne (by simpa using hne) fun u h' tk hP ho hit' hT hsz hk => ?_
    obtain ⟨c, u', hcx, rfl⟩ := hP
    refine ⟨_, rfl, wpAny_letOwnedTupleGo_enum (s := { s with heap := h', toks := tk + 1 }) ho fun h'' he' sb => ?_⟩
    have hT2 : h''.get? s.heap.objs.size = some { cls := .type "tuple", data := .seq #[.int i tk, .str ⟨#[c]⟩ u'] } := (sb.2 _ (Nat.ne_of_gt hel)).trans hT
    have new : ObjOk X.prog X.w (upd H s.heap.objs.size (.tup [.int (i : Nat), .str ⟨#[c]⟩])) h'' s.heap.objs.size (.tup [.int (i : Nat), .str ⟨#[c]⟩]) :=
      ⟨by show 2 ≤ sizeLine; decide, [.int i tk, .str ⟨#[c]⟩ u'], .cons ⟨_, rfl⟩ (.cons ⟨_, rfl⟩ .nil), ⟨_, hT2, rfl, _, rfl⟩⟩
    have I1 : Inv X pins σ (upd H s.heap.objs.size (.tup [.int (i : Nat), .str ⟨#[c]⟩])) { s with heap := h'', toks := tk + 1 } :=
      I.turnedNew (ch := [e, it]) (fun b ob hb q => (sb.2 b (fun z => hb (by simp [z]))).trans (hk b ob (fun z => hb (by simp [z])) (fun z => hb (by simp [z])) q)) hf (Nat.le_refl _) new
    refine ⟨.ref s.heap.objs.size, _, I1, rfl, ⟨_, c, rfl, I.hok.fresh (Nat.le_refl _), rfl, hcx⟩, ⟨⟨.str ⟨#[c]⟩ u', ?_⟩, ?_, hne, hg⟩, fun b hb => ?_⟩
    · have e1 : ((i + 1 : Nat) : Int) = (i : Int) + 1 := by omega
      rw [e1]; exact he'
    · obtain ⟨o, ho2, r⟩ := hit'
      exact ⟨o, (sb.2 it (Ne.symm hne)).trans ho2, r⟩
    · have hb' : b < s.heap.objs.size := by
        have e' : b = e ∨ b = it := by simpa using hb
        rcases e' with z | z
        · rw [z]; exact hel
        · rw [z]; exact hil
      rw [upd_ne (Nat.ne_of_lt hb')]
      exact (hf b hb).1
  done := by
    intro X hP hw hK hc i pins s σ H E I hf st hg
    subst hP hw hK
    obtain ⟨⟨old, he⟩, hit, hne, hle⟩ := st
    obtain rfl : i = x.cps.size := Nat.le_antisymm hle hg
    obtain ⟨f0, f1, f2, f3, f4, f5⟩ := hf it (by simp)
    have D : Draws X.prog X.w X.A.in1 it [it] x.cps.size (fun i v => ∃ c u, x.cps[i]? = some c ∧ v = .str ⟨#[c]⟩ u) (fun i h => h.IsStrIter it (strIterType x) x t i) := Draws.text (A := X.A.in1) (I.ok.hd hc) it x t
    exact wpAny_pyNext_enum_endD D he hit fun h' eb => ⟨rfl, I.turned (t' := s.toks) (fun b o hb q => eb b o hb q) f0 f1 f3 f4 f5⟩
  self := fun A i s Q E st h => let ⟨⟨_, he⟩, _⟩ := st; wpAny_pyIter_enum he h
def iEnumS (ta : TA) : TI := fun σ H R => ta σ H fun vs H1 => ∃ x, vs = [.str x] ∧ R (Ites x) H1
theorem pi_enumS {X : Cx} {e : Expr} {ta : TA} {p pos tpos : Pos} {elts : List Expr} {kk : Nat} (hg : Gl X "enumerate") (hm : X.mg "enumerate" = none) (ha : PA X [e] ta) (hs : starEach [e] X.env = [(false, eval e X.env)] := by rfl) :
    PI X (.Tuple elts kk tpos) (.Call (.Name "enumerate" p) [e] [] pos) (iEnumS ta) := by
  refine ⟨fun pins s σ H R I h => ?_⟩
  refine Call_ (ld_blt I hg hm boot_enumerate (PyProof.Rows.callWith_type1 (thn (ha.run pos pins s σ H _ I h) fun us s1 ⟨vs, H1, I1, r1, q1⟩ => ?_) hs rfl))
  obtain ⟨x, ex, q⟩ := q1
  subst ex
  cases r1 with
  | cons r rr =>
    cases rr
    obtain ⟨t, rfl⟩ := r
    refine call_enumerate_str fun h' he hit hsz hk => wpAny_pyIter_enum he ?_
    have I2 : Inv X pins σ H1 { s1 with heap := h' } := I1.kept (t' := s1.toks) hk
    refine ⟨s1.heap.objs.size + 1, [s1.heap.objs.size + 1, s1.heap.objs.size], _, _, H1, rfl, I2, turn_enumS x t (s1.heap.objs.size + 1) s1.heap.objs.size, ⟨⟨.none, he⟩, hit, Nat.succ_ne_self _, Nat.zero_le _⟩, fun b hb => ?_, q⟩
    have e' : b = s1.heap.objs.size + 1 ∨ b = s1.heap.objs.size := by simpa using hb
    have hle : s1.heap.objs.size ≤ b := by
      rcases e' with z | z
      · rw [z]; exact Nat.le_add_right _ _
      · rw [z]; exact Nat.le_refl _
    exact I1.fpOk hle (I1.hok.fresh hle)
theorem mi_est {ts : List Expr} {k : Nat} {tp : Pos} (co : CO P w K mg base hot n N sc fnc E X) (gf : GF P w K mg base ga xn G C n) (hx : ("enumerate" : Str) ∈ G.blt) (hg : sc.names.lookup ("enumerate" : Str) = some .globalImplicit) (ha : PE X a (TEm K ga xn E C ea)) (hs : notStar a = true) :
    PI X (.Tuple ts k tp) (.Call (.Name "enumerate" p) [a] [] pos) (TIm K ga xn E C (.i1 .est ea)) := by
  refine PI_imp (pi_enumS (by show X.env.scope.names.lookup _ = _; rw [co.ps]; exact hg) (by rw [co.pm]; exact gf.blt _ hx) (pa_cons ha pa_nil (star_one hs)) (star_one hs)) ?_
  rintro σ H R ⟨Ω, σm, hm, hr, sr, p⟩
  unfold evI at p
  refine te_of hr sr (Post.bind p) fun Ω1 H1 v h1 x l1 e1 r1 s1 vx p1 => ?_
  unfold i1V at p1
  cases v with
  | str z =>
    rw [v_str] at vx
    subst vx
    have p2 : Post K ga xn E h1.length Ω1 H1 (Rs.ok (Src.mk (enL (chsM z)) []) h1) _ := p1
    refine ⟨z, rfl, p2.here r1 _ fun Ω h H l ex r ok => ⟨?_, fun i y hy => ?_⟩⟩
    · show z.cps.size ≤ (enL (chsM z)).length
      unfold enL chsM
      simp
    · obtain ⟨y', hy', rfl⟩ := en_get hy
      unfold chsM at hy'
      rw [List.getElem?_map, Array.getElem?_toList] at hy'
      cases hc : z.cps[i]? with
      | none => rw [hc] at hy'; cases hy'
      | some c =>
        rw [hc] at hy'
        cases hy'
        refine ⟨(Array.getElem?_eq_some_iff.mp hc).1, fun v' H' hyl => ?_⟩
        obtain ⟨T, c', rfl, hT, rfl, hc'⟩ := hyl
        rw [hc] at hc'
        cases hc'
        exact new_pair r hT (v_int.mpr rfl) (v_str.mpr rfl)
  | ref m =>
    simp only at p1
    split at p1 <;> exact p1.elim
  | int m => exact p1.elim
  | _ => exact p1.elim
/-! ### max of a list of ints, or else a number -/
theorem maxOf_ints : ∀ {ys : List Int} {y : Int}, PySem.W.maxOf y ys = maxI (y :: ys) := by
  intro ys y
  show ys.foldl _ y = ys.foldl max y
  induction ys generalizing y with
  | nil => rfl
  | cons z zs ih =>
    rw [List.foldl_cons, List.foldl_cons]
    have e2 : (if PySem.W.DatumOrd.lt y z = true then z else y) = max y z := by
      show (if decide (y < z) = true then z else y) = max y z
      by_cases hz : y < z
      · rw [if_pos (decide_eq_true hz)]; omega
      · rw [if_neg (by simpa using hz)]; omega
    rw [e2]
    exact ih
theorem cr_maxD {X : Cx} (hc : X.calm = true) (hu : X.A.units + 64 < cLine) : CallRK X (.builtin "max") [Str.ofString "default"] (fun xs zs H Q => ∃ (a : Addr) (ns : List Int) (d : Int), xs = [.ref a] ∧ zs = [.int d] ∧ SqL X.K H a (ns.map V.int) ∧ Q (.int (if ns.length = 0 then d else maxI ns)) H) := by
  rintro pins s σ H xs zs us ws Q I r1 r2 ⟨a, ns, d, rfl, rfl, hs, q⟩
  obtain ⟨u, rfl, ru⟩ := vals1 r1
  obtain ⟨z, rfl, rz⟩ := vals1 r2
  cases ru
  obtain ⟨t, rfl⟩ := rz
  obtain ⟨its, rv, hl, hz⟩ := I.list hs
  have hi := ints_of_vals rv
  refine PySem.W.max_list_datum_default (α := Int) (xs := ns) (I.ok.hd hc) hl.isList (by simpa using PySem.W.HoldAll.of_ints hi) (by show X.A.units + 1 + 0 < cLine; omega) (fun e h' tk hk => ?_) fun y ys i v h' tk e hv hh hk => ?_
  · subst e
    exact ⟨.int d, H, I.kept (t' := tk) hk, ⟨t, rfl⟩, q⟩
  · subst e
    obtain ⟨as, rd⟩ := hh
    have e1 : PySem.W.maxOf y ys = maxI (y :: ys) := maxOf_ints
    rw [e1] at rd
    replace rd : Reads h' v (.int (maxI (y :: ys))) as := rd
    cases rd with
    | int i' t => exact ⟨.int _, H, I.kept (t' := tk) hk, ⟨t, rfl⟩, q⟩
theorem me_mxd {kp : Pos} {d : Int} {dk : Nat} (co : CO P w K mg base (false, rp) n N sc fnc E X) (gf : GF P w K mg base ga xn G C n) (hx : ("max" : Str) ∈ G.blt) (hg : sc.names.lookup ("max" : Str) = some .globalImplicit) (ha : PE X a (TEm K ga xn E C ea)) (hs : notStar a = true) :
    PE X (.Call (.Name "max" p) [a] [⟨some "default", .Constant (.int d) dk p2, kp⟩] pos) (TEm K ga xn E C (.x1 (.mxd d) ea)) := by
  refine PE_imp (pe_callBK (cr_maxD (co.calm rfl) co.units) (by show X.env.scope.names.lookup _ = _; rw [co.ps]; exact hg) (by rw [co.pm]; exact gf.blt _ hx) (by decide +kernel) (pa_cons ha pa_nil (star_one hs)) (pk_cons pe_int pk_nil) (by decide) (by decide) (by rw [star_one hs]; rfl) (by rw [star_one hs]; rfl) rfl rfl rfl) ?_
  rintro σ H Q ⟨Ω, σm, hm, hr, sr, p⟩
  unfold evE at p
  refine te_of hr sr (Post.bind p) fun Ω1 H1 v h1 x l1 e1 r1 s1 vx p1 => ?_
  unfold x1V at p1
  simp only at p1
  split at p1
  · rename_i xs q1
    split at p1
    · rename_i ns q2
      obtain ⟨a', ys, rfl, t, rr⟩ := lst_rel r1 vx q1
      rw [vs_ints rr q2] at t
      exact ⟨a', ns, d, rfl, rfl, by rw [co.pK]; exact t, p1.here r1 _ (v_int.mpr rfl)⟩
    · exact p1.elim
  · exact p1.elim
end
theorem prs_mv : ∀ {ms : List MV} {ps : List (Int × Int)}, prsI ms = some ps → ms = ps.map prV
  | [], ps, e => by
    unfold prsI at e
    cases e
    rfl
  | m :: ms, ps, e => by
    unfold prsI at e
    split at e
    · rename_i heq; cases heq
    · rename_i a b zs heq
      cases heq
      cases q : prsI ms with
      | none => rw [q] at e; cases e
      | some qs =>
        rw [q] at e
        cases e
        rw [List.map_cons, ← prs_mv q]
        rfl
    · cases e
section
theorem vs_rg {Ω : Om} {L : Nat} {H : Hp} {lo c : Int} {k : Nat} : VRels K ga Ω L H (rngL lo c k) ((List.range k).map fun i => V.int (lo + (i : Nat) * c)) := by
  have z := vs_mapint (K := K) (ga := ga) (Ω := Ω) (L := L) (H := H) ((List.range k).map fun i : Nat => lo + (i : Int) * c)
  rw [List.map_map, List.map_map] at z
  exact z
theorem rgV_eq {i j : Int} : rgV i j = (List.range (j - i).toNat).map fun k => V.int (i + (k : Nat) * 1) := by
  unfold rgV
  apply List.map_congr_left
  intro k _
  rw [Int.mul_one]
variable {a b e : Expr} {ea eb : ME} {pos p p2 pos2 : Pos}
theorem mf_rg1 (co : CO P w K mg base (false, rp) n N sc fnc E X) (gf : GF P w K mg base ga xn G C n) (hx : ("list" : Str) ∈ G.blt) (hg : sc.names.lookup ("list" : Str) = some .globalImplicit) (hx2 : ("range" : Str) ∈ G.blt) (hg2 : sc.names.lookup ("range" : Str) = some .globalImplicit) (ha : PE X a (TEm K ga xn E C ea)) (hs : notStar a = true) :
    PE X (.Call (.Name "list" p) [.Call (.Name "range" p2) [a] [] pos2] [] pos) (TFm K ga xn E C (.f1 .rg1 ea)) := by
  refine PE_imp (pe_listRg (co.calm rfl) (by show X.env.scope.names.lookup _ = _; rw [co.ps]; exact hg) (by rw [co.pm]; exact gf.blt _ hx) (prg_1 (by show X.env.scope.names.lookup _ = _; rw [co.ps]; exact hg2) (by rw [co.pm]; exact gf.blt _ hx2) ha (star_one hs))) ?_
  rintro σ H Q ⟨Ω, σm, hm, hr, sr, p⟩
  unfold evF at p
  refine te_of hr sr (Post.bind p) fun Ω1 H1 v h1 x l1 e1 r1 s1 vx p1 => ?_
  cases v with
  | int j =>
    rw [v_int] at vx
    subst vx
    unfold f1V at p1
    simp only at p1
    split at p1
    · rename_i hb
      refine ⟨j, rfl, hb, ?_⟩
      rw [rgV_eq, Int.sub_zero]
      exact lay r1 vs_rg p1
    · exact p1.elim
  | _ => exact p1.elim
theorem mf_rg2 (co : CO P w K mg base (false, rp) n N sc fnc E X) (gf : GF P w K mg base ga xn G C n) (hx : ("list" : Str) ∈ G.blt) (hg : sc.names.lookup ("list" : Str) = some .globalImplicit) (hx2 : ("range" : Str) ∈ G.blt) (hg2 : sc.names.lookup ("range" : Str) = some .globalImplicit) (ha : PE X a (TEm K ga xn E C ea)) (hb : PE X b (TEm K ga xn E C eb)) (hs : notStar a = true) (hs2 : notStar b = true) :
    PE X (.Call (.Name "list" p) [.Call (.Name "range" p2) [a, b] [] pos2] [] pos) (TFm K ga xn E C (.f2 .rg2 ea eb)) := by
  refine PE_imp (pe_listRg (co.calm rfl) (by show X.env.scope.names.lookup _ = _; rw [co.ps]; exact hg) (by rw [co.pm]; exact gf.blt _ hx) (prg_2 (by show X.env.scope.names.lookup _ = _; rw [co.ps]; exact hg2) (by rw [co.pm]; exact gf.blt _ hx2) ha hb (star_one hs) (star_one hs2) (by rw [star_one hs2]; rfl))) ?_
  rintro σ H Q ⟨Ω, σm, hm, hr, sr, p⟩
  unfold evF at p
  refine te_of hr sr (Post.bind p) fun Ω1 H1 v h1 x l1 e1 r1 s1 vx p1 => ?_
  refine te_of r1 s1 (Post.bind p1) fun Ω2 H2 u h2 y l2 e2 r2 s2 vy p2 => ?_
  unfold f2V at p2
  simp only at p2
  split at p2
  · rename_i i j
    rw [v_int] at vx vy
    subst vx vy
    split at p2
    · rename_i hb
      refine ⟨i, j, rfl, rfl, hb, ?_⟩
      rw [rgV_eq]
      exact lay r2 vs_rg p2
    · exact p2.elim
  · exact p2.elim
theorem mf_rg0s {k : Nat} {p3 : Pos} (co : CO P w K mg base (false, rp) n N sc fnc E X) (gf : GF P w K mg base ga xn G C n) (hx : ("list" : Str) ∈ G.blt) (hg : sc.names.lookup ("list" : Str) = some .globalImplicit) (hx2 : ("range" : Str) ∈ G.blt) (hg2 : sc.names.lookup ("range" : Str) = some .globalImplicit) (ha : PE X a (TEm K ga xn E C ea)) (hb : PE X b (TEm K ga xn E C eb)) (hs : notStar a = true) (hs2 : notStar b = true) :
    PE X (.Call (.Name "list" p) [.Call (.Name "range" p2) [.Constant (.int 0) k p3, a, b] [] pos2] [] pos) (TFm K ga xn E C (.f2 .rg0s ea eb)) := by
  refine PE_imp (pe_listRg3 (co.calm rfl) (by show X.env.scope.names.lookup _ = _; rw [co.ps]; exact hg) (by rw [co.pm]; exact gf.blt _ hx) (by show X.env.scope.names.lookup _ = _; rw [co.ps]; exact hg2) (by rw [co.pm]; exact gf.blt _ hx2) (pa_cons pe_int (pa_cons ha (pa_cons hb pa_nil (star_one hs2)) (star_one hs)) rfl) rfl (by rw [star_one hs, star_one hs2]; rfl)) ?_
  rintro σ H Q ⟨Ω, σm, hm, hr, sr, p⟩
  unfold evF at p
  refine te_of hr sr (Post.bind p) fun Ω1 H1 v h1 x l1 e1 r1 s1 vx p1 => ?_
  refine te_of r1 s1 (Post.bind p1) fun Ω2 H2 u h2 y l2 e2 r2 s2 vy p2 => ?_
  unfold f2V at p2
  simp only at p2
  split at p2
  · rename_i j c
    rw [v_int] at vx vy
    subst vx vy
    split at p2
    · rename_i hb
      refine ⟨0, j, c, rfl, hb, ?_⟩
      unfold rgV3
      exact lay r2 vs_rg p2
    · exact p2.elim
  · exact p2.elim
theorem strs_vals {Ω : Om} {L : Nat} {H : Hp} : ∀ {ms : List MV} {xs : List V} {ys : List Str}, VRels K ga Ω L H ms xs → strsL ms = some ys → xs = ys.map V.str
  | [], xs, ys, r, e => by
    unfold VRels at r
    unfold strsL at e
    cases e
    subst r
    rfl
  | m :: ms, xs, ys, r, e => by
    unfold VRels at r
    obtain ⟨y, zs, rfl, r1, r2⟩ := r
    cases m <;> first | (unfold strsL at e; cases e; done) | skip
    unfold strsL at e
    cases q : strsL ms with
    | none => rw [q] at e; cases e
    | some qs =>
      rw [q] at e
      cases e
      rw [v_str] at r1
      rw [List.map_cons, ← strs_vals r2 q, r1]
/-- T.index(e), T a tuple of texts of the module -/
theorem me_tpx {x : Str} {p0 apos : Pos} (co : CO P w K mg base hot n N sc fnc E X) (gf : GF P w K mg base ga xn G C n) (hg : sc.names.lookup x = some .globalImplicit) (h1 : (x == ("__debug__" : Str)) = false) (ha : PE X a (TEm K ga xn E C ea)) (hs : notStar a = true) (hline : (apos.endLine == pos.line) = true) :
    PE X (.Call (.Attribute (.Name x p0) "index" apos) [a] [] pos) (TEm K ga xn E C (.x2 .tpx (.con x) ea)) := by
  have hs' : ([a] : List Expr).all notStar = true := by rw [List.all_cons, hs]; rfl
  cases q : C.con x with
  | none =>
    refine PE_bad ?_
    rintro σ H Q ⟨Ω, σm, hm, hr, sr, p⟩
    unfold evE evE at p
    rw [q] at p
    exact p
  | some v =>
    obtain ⟨u, v', h3, h4, h5, h6⟩ := gf.con x v q
    refine PE_imp (pe_bm PySem.F.plainAttrs_tuple PySem.F.slot_tuple_index PySem.F.type_tuple_index mt_tup_index (pe_glob (v := v') (u := u) (by show X.env.scope.names.lookup x = _; rw [co.ps]; exact hg) (by rw [co.pm]; exact h3) h4 h1) (pa_cons ha pa_nil (star_one hs)) (attr_plain rfl) (by rw [star_all hs']; rfl) hline (star_one hs) rfl) ?_
    rintro σ H Q ⟨Ω, σm, hm, hr, sr, p⟩
    unfold evE at p
    have e0 : evE C (.con x) σm hm = .ok v hm := by unfold evE; rw [q]; rfl
    rw [e0] at p
    replace p : Post K ga xn E hm.length Ω H (if x2P .tpx v hm = true then (evE C ea σm hm).bind fun y h2 => x2V .tpx v y h2 else .bad) (Kv K ga Q) := p
    by_cases hx : x2P .tpx v hm = true
    · rw [if_pos hx] at p
      obtain ⟨xs, rfl, hst⟩ : ∃ xs, v = .tup xs ∧ strT xs = true := by
        cases v <;> first | (cases hx; done) | exact ⟨_, rfl, hx⟩
      obtain ⟨a', ys, e1, e2, e3⟩ := v_tup.mp (h5 Ω hm.length H)
      subst e1
      refine ⟨?_, ?_⟩
      · rw [co.pK]
        obtain ⟨o, k1, k2, k3⟩ := h6 a' xs rfl rfl hst
        exact .inr (.inl ⟨rfl, o, k1, k2, k3⟩)
      · refine te_of hr sr (Post.bind p) fun Ω2 H2 u2 h2 y l2 e2' r2 s2 vy p2 => ?_
        unfold x2V at p2
        simp only at p2
        cases u2 with
        | str z =>
          rw [v_str] at vy
          subst vy
          dsimp only at p2
          cases qs : strsL xs with
          | none => rw [qs] at p2; exact p2.elim
          | some zs =>
            rw [qs] at p2
            simp only at p2
            cases qi : zs.findIdx? fun y => decide (y = z) with
            | none => rw [qi] at p2; exact p2.elim
            | some j =>
              rw [qi] at p2
              obtain ⟨j1, j2, j3⟩ := List.findIdx?_eq_some_iff_getElem.mp qi
              have ev := strs_vals e3 qs
              subst ev
              refine ⟨a', zs, z, j, rfl, rfl, by rw [co.pK]; exact sqt_ext e2 e2', ?_, fun m hm' he => ?_, Post.here (show Post K ga xn E h2.length Ω2 H2 (Rs.ok (MV.int (j : Nat)) h2) (Kv K ga Q) from p2) r2 _ (v_int.mpr rfl)⟩
              · rw [List.getElem?_eq_getElem j1]
                simpa using j2
              · have j4 := j3 m hm'
                rw [List.getElem?_eq_getElem (by omega)] at he
                rw [Option.some.inj he] at j4
                simp at j4
        | _ => exact p2.elim
    · rw [if_neg hx] at p
      exact p.elim
theorem me_mnt (co : CO P w K mg base (false, rp) n N sc fnc E X) (gf : GF P w K mg base ga xn G C n) (hx : ("min" : Str) ∈ G.blt) (hg : sc.names.lookup ("min" : Str) = some .globalImplicit) (ha : PE X a (TEm K ga xn E C ea)) (hs : notStar a = true) :
    PE X (.Call (.Name "min" p) [a] [] pos) (TEm K ga xn E C (.x1 .mnt ea)) := by
  have hu := co.units
  have hK : X.K = K := co.pK
  subst hK
  refine PE_imp (pe_callB (cr_minP (co.calm rfl) (by omega)) (by show X.env.scope.names.lookup _ = _; rw [co.ps]; exact hg) (by rw [co.pm]; exact gf.blt _ hx) (by decide +kernel) (pa_cons ha pa_nil (star_one hs)) (by decide) (by decide) (star_one hs) rfl) ?_
  rintro σ H Q ⟨Ω, σm, hm, hr, sr, p⟩
  unfold evE at p
  refine te_of hr sr (Post.bind p) fun Ω1 H1 v h1 x l1 e1 r1 s1 vx p1 => ?_
  unfold x1V at p1
  simp only at p1
  split at p1
  · rename_i xs q1
    split at p1
    · rename_i pr ps q2
      obtain ⟨a', ys, rfl, t, rr⟩ := lst_rel r1 vx q1
      refine ⟨a', ys, pr, ps, rfl, t, prs_dp rr q2, fun i y hy hi => ?_⟩
      have rw' := prs_mv q2
      have hi2 : xs[i]? = some (prV (minPr pr ps)) := by rw [rw', List.getElem?_map, hi]; rfl
      obtain ⟨z, hz, vz⟩ := pr_get (vrels_iff.mp rr) hi2
      rw [hy] at hz
      cases hz
      exact p1.here r1 _ vz
    · exact p1.elim
  · exact p1.elim
end
/-! ### name = {..} on one line, the name a local -/
theorem ps_setDc {i : Nat} {y : Str} {py : Pos} {kx vx tg iter : Expr} {ifs : List Expr} {scope : Scope} {own : List (Str × Nat)} {pos spos : Pos} {wi : TI} {g : TG} {tt : TT} {tk tv : TE} (hc : X.calm = true) (hN : X.N.Nodup) (hy : X.N[i]? = some y) (hyl : X.env.scope.names.lookup y = some .local)
    (hsw : swapsWith (.DictComp kx vx [⟨tg, iter, ifs, 0⟩] scope pos) (some (.Name y py)) spos.line X.env = pure true) (hi : PI X tg iter wi) (ok : BlkOk X.N X.env.scope scope own)
    (hg : ∀ (s : Shared) (H : Hp) (C : Addr) (cl : List (Str × Addr)) (fp : List Addr), PG (X.blk s H scope (compEnvC scope cl C X.env) fp) tg g) (ht : ∀ (s : Shared) (H : Hp) (C : Addr) (cl : List (Str × Addr)) (fp : List Addr), PTs (X.blk s H scope (compEnvC scope cl C X.env) fp) ifs tt)
    (hk : ∀ (s : Shared) (H : Hp) (C : Addr) (cl : List (Str × Addr)) (fp : List Addr), PE (X.blk s H scope (compEnvC scope cl C X.env) fp) kx tk)
    (he : ∀ (s : Shared) (H : Hp) (C : Addr) (cl : List (Str × Addr)) (fp : List Addr), PE (X.blk s H scope (compEnvC scope cl C X.env) fp) vx tv) (hs : ∀ x, foldedSetIterable iter X.env x = pure x := by intro _; rfl) :
    PS X (.Assign [.Name y py] (.DictComp kx vx [⟨tg, iter, ifs, 0⟩] scope pos) spos) (tAsg (tDc wi g tt tk tv (own.map (·.2))) (gName i)) := by
  refine ⟨fun pins s σ H D I h => ?_⟩
  rw [exec_Assign_Name_used _ _ _ _ hsw]
  refine wpAny_bind (wpAny_standAt (wpAny_bind ?_))
  show wpAny _ X.A (do let _ ← comprehension (.DictComp kx vx [⟨tg, iter, ifs, 0⟩] scope pos) scope X.env (firstIterPos [⟨tg, iter, ifs, 0⟩] pos) newDict false (eval iter X.env) (some (assign (.Name y py) X.env))) _ _ s
  have h : tDc wi g tt tk tv (own.map (·.2)) σ H (fun x H1 => gName i x σ H1 D.nx) := h
  refine wpAny_bind (thn (dc_core (Qf := fun _ s' => SP X pins D .next s') hc hN I hi ok hg ht hk he hs h fun L C s' m H' I' q hn f => ?_) fun _ s' hq => wpAny_pure (wpAny_pure hq))
  show wpAny _ _ (assign (.Name y py) X.env (.ref L)) _ _ _
  refine wpAny_assign_Name (store_ok2 (v := V.ref L) I' hN hy (.inl hyl) rfl (fun s2 I2 ⟨a, sb, ha⟩ => ?_) (.inr hyl))
  obtain ⟨f0, f1, f2, f3, f4, f5⟩ := f
  have haC : C ≠ a := by
    rcases ha with z | z
    · rw [z]; exact f1
    · exact fun e => f4 y a z e.symm
  refine ⟨m, hn.sameBut sb haC, fun h3 sb3 => ?_⟩
  exact ⟨_, H', I2.turned (t' := s2.toks) (fun b o hb e => (sb3.2 b hb).trans e) f0 f1 f3 f4 f5, q⟩
theorem sw_trueD {kx vx : Expr} {gs : List Comprehension} {scope : Scope} {pos py : Pos} {y : Str} {l : Nat} {env : Env} (hk : env.scope.kind = .function) (hy : env.scope.names.lookup y = some .local) (hl : (py.line == pos.line) = true)
    (ha : (scope.names.any fun (n, k) => n == y && (k == .local || k == .cell)) = false) : swapsWith (.DictComp kx vx gs scope pos) (some (.Name y py)) l env = pure true := by
  have ky : env.kindOf y = some .local := hy
  have hb : env.blockKind = .function := by unfold Env.blockKind; rw [hk]; rfl
  unfold swapsWith
  simp only [hb, ky, ha, Expr.pos, hl]
  rfl
theorem ms_asgD {i : Nat} {y : Str} {py p pos : Pos} {kx vx tg iter : Expr} {ifs : List Expr} {own : List Nat} {t : Tg} {ke ve it cond : ME} {scope : Scope} (co : CO P w K mg base (false, rp) n N sc fnc E X) (hy : N[i]? = some y) (hyl : sc.names.lookup y = some .local) (hkind : sc.kind = .function) (hl : (py.line == pos.line) = true) (hany : (scope.names.any fun (n, k) => n == y && (k == .local || k == .cell)) = false)
    (hi : PI X tg iter (TIm K ga xn E C it)) (hb : blkC N sc scope (mkOwn N own) = true) (ho : (mkOwn N own).map (·.2) = own) (hin : tgIn own t = true) (hset : notSet iter = true)
    (hg : ∀ X', CO P w K mg base (false, rp) n N (relab scope sc) (fun x => scope.names.lookup x == some .cell) E0 X' → PG X' tg (gTg K t) ∧ PTs X' ifs (TCm K ga xn E0 C cond) ∧ PE X' kx (TEm K ga xn E0 C ke) ∧ PE X' vx (TEm K ga xn E0 C ve)) :
    PS X (.Assign [.Name y py] (.DictComp kx vx [⟨tg, iter, ifs, 0⟩] scope pos) p) (TSm K ga xn E C (.asg i (.dcp own t ke ve it cond))) := by
  have ok : BlkOk X.N X.env.scope scope (mkOwn N own) := by rw [co.pN, co.ps]; exact blkOk_by hb
  refine PS_imp (ps_setDc (i := i) (co.calm rfl) (by rw [co.pN]; exact co.nd) (by rw [co.pN]; exact hy) (by rw [co.ps]; exact hyl) (sw_trueD (by rw [co.ps]; exact hkind) (by rw [co.ps]; exact hyl) hl hany) hi ok (fun s H A cl fp => (hg _ (co.blk s H scope A cl fp)).1)
    (fun s H A cl fp => (hg _ (co.blk s H scope A cl fp)).2.1) (fun s H A cl fp => (hg _ (co.blk s H scope A cl fp)).2.2.1) (fun s H A cl fp => (hg _ (co.blk s H scope A cl fp)).2.2.2) (no_fold hset)) ?_
  rintro D σ H ⟨Ω, σm, hm, hr, sr, p⟩
  unfold run at p
  rw [ho]
  show tDc _ _ _ _ _ _ σ H _
  refine dcomp_reads hin ?_
  refine te_of hr sr (PostS.out p) fun Ω1 H1 v h1 x l1 e1 r1 s1 vx p1 => ?_
  exact p1.next r1 (s1.set i vx)
end Mn
namespace Mn
open PySem PySem.Spec PyProof.Rows L2
variable {P : Program} {w : World} {K : PySem.W.Frag} {mg : Str → Option Value} {base : Heap} {ga : Str → Addr} {xn : Str → Str}
variable {G : Gs} {C : Ct} {hot : Bool × Bool} {rp : Bool} {n : Nat} {N : List Str} {sc : Scope} {fnc : Str → Bool} {E : XK} {X : Cx}
/-! ### calls with keywords -/
theorem mk_nil : PK X [] (TLm K ga xn E C .nil) := by
  refine ⟨fun pos pins s σ H Q I h => pk_nil.run pos pins s σ H Q I ?_⟩
  obtain ⟨Ω, σm, hm, hr, sr, p⟩ := h
  unfold evL at p
  exact p.here hr _ (by unfold VRels; rfl)
theorem mk_cons {a : Expr} {ea eb : ME} {nm : Option Str} {kp : Pos} {kws : List Keyword} (ha : PE X a (TEm K ga xn E C ea)) (hb : PK X kws (TLm K ga xn E C eb)) : PK X (⟨nm, a, kp⟩ :: kws) (TLm K ga xn E C (.cons ea eb)) := by
  refine ⟨fun pos pins s σ H Q I h => (pk_cons ha hb).run pos pins s σ H Q I ?_⟩
  obtain ⟨Ω, σm, hm, hr, sr, p⟩ := h
  unfold evL at p
  refine te_of hr sr (Post.bind p) fun Ω1 H1 v h1 x l1 e1 r1 s1 vx p1 => ?_
  refine tl_of r1 s1 (Post.bind p1) fun Ω2 H2 vs h2 xs l2 e2 r2 s2 vxs p2 => ?_
  exact p2.here r2 _ (by unfold VRels; exact ⟨x, xs, rfl, vx.ext e2 l2, vxs⟩)
theorem kw_names {pos : Pos} {env : Env} : ∀ {kws : List Keyword}, (backToKw pos (keywordEach kws env)).map (·.1) = kws.map (·.arg)
  | [] => rfl
  | ⟨nm, e, p⟩ :: kws => by
    show nm :: (backToKw pos (keywordEach kws env)).map (·.1) = _
    rw [kw_names]; rfl
theorem kw_facts {α : Type} {l : List (Option Str × α)} {ks : List Str} (h : l.map (·.1) = ks.map some) : l.all (·.1.isSome) = true ∧ l.filterMap (·.1) = ks ∧ l.any (·.1.isNone) = false := by
  induction l generalizing ks with
  | nil => cases ks with
    | nil => exact ⟨rfl, rfl, rfl⟩
    | cons _ _ => cases h
  | cons q l ih =>
    cases ks with
    | nil => cases h
    | cons k ks =>
      rw [List.map_cons, List.map_cons] at h
      injection h with h1 h2
      obtain ⟨a, b, c⟩ := ih h2
      obtain ⟨qn, qs⟩ := q
      have h1 : qn = some k := h1
      subst h1
      exact ⟨by rw [List.all_cons, a]; rfl, by rw [List.filterMap_cons_some (by rfl), b], by rw [List.any_cons, c]; rfl⟩
theorem me_kf {s : Ksh} {a : Expr} {es : List Expr} {ea ek : ME} {kws : List Keyword} {p pos : Pos} (co : CO P w K mg base (false, rp) n N sc fnc E X) (gf : GF P w K mg base ga xn G C n) (hs : s ∈ G.ksh) (hc : s.cls = false) (hg : sc.names.lookup s.fn = some .globalImplicit) (h1 : (s.fn == ("__debug__" : Str)) = false)
    (ha : PA X (a :: es) (TLm K ga xn E C ea)) (hst : (a :: es).all notStar = true) (hk : PK X kws (TLm K ga xn E C ek)) (hn : kws.map (·.arg) = s.ks.map some) {m : Nat} (hm' : s.n = m) : PE X (.Call (.Name s.fn p) (a :: es) kws pos) (TEm K ga xn E C (.kcl none s.key m ea ek)) := by
  subst hm'
  obtain ⟨k, sf, ad, fd, ps, g, gV, hle, F, hm, hkp, hb, hr⟩ := gf.ksf s hs hc
  · have ps0 := co.pass
    have rm := co.room rfl
    obtain ⟨pP, pw, pK, pm, pb, pN, pc, _, _, _, _, _, _, _⟩ := co
    subst pP pw pK pm pb
    rw [List.all_cons, Bool.and_eq_true] at hst
    obtain ⟨f1, f2, f3⟩ := kw_facts (l := backToKw pos (keywordEach kws X.env)) (kw_names.trans hn)
    refine PE_imp (pe_callN F (rm.mono hle) (by show X.env.scope.names.lookup s.fn = _; rw [pc]; exact hg) hm hkp hb ps0 ha hk f1 f2 h1 (star_one hst.1) (by
      rw [f3, Bool.or_false]
      rw [star_one hst.1]
      show (backTo pos ((false, eval a X.env) :: starEach es X.env)).any (·.1) = false
      exact star_any hst.2)) ?_
    rintro σ H Q ⟨Ω, σm, hm, hr0, sr, q⟩
    unfold evE at q
    refine tl_of hr0 sr (Post.bind q) fun Ω1 H1 vs h1 xs l1 e1 r1 s1 vxs q1 => ?_
    refine tl_of r1 s1 (Post.bind q1) fun Ω2 H2 ws h2 zs l2 e2 r2 s2 vzs q2 => ?_
    split at q2
    · rename_i hl
      rcases hr _ _ _ vs ws xs zs h2 (vxs.ext e2 l2) vzs hl with hbad | ⟨hw, ms, hms, he⟩
      · rw [hbad] at q2; exact q2.elim
      · rw [he] at q2
        exact ⟨by rw [← vs_len vxs, hl], by rw [← vs_len vzs, hw], Ω2, h2, ms, r2, hms, q2⟩
    · exact q2.elim
theorem me_kc {s : Ksh} {es ek : ME} {kws : List Keyword} {p pos : Pos} {m : Nat} (co : CO P w K mg base (false, rp) n N sc fnc E X) (gf : GF P w K mg base ga xn G C n) (hs : s ∈ G.ksh) (hc : s.cls = true) (hg : sc.names.lookup s.fn = some .globalImplicit) (h1 : (s.fn == ("__debug__" : Str)) = false)
    (hk : PK X kws (TLm K ga xn E C ek)) (hn : kws.map (·.arg) = s.ks.map some) : PE X (.Call (.Name s.fn p) [] kws pos) (TEm K ga xn E C (.kcl (some s.fn) s.key m es ek)) := by
  cases hmk : C.mks with
  | false =>
    refine PE_bad ?_
    rintro σ H Q ⟨Ω, σm, hm, hr, sr, p⟩
    unfold evE at p
    rw [if_pos hmk] at p
    exact p
  | true =>
    obtain ⟨k, sf, ad, fd, ps, g, gV, hle, F, M, hm, hb, hr⟩ := gf.ksc s hs hc hmk
    · have ps0 := co.pass
      have rm := co.room rfl
      obtain ⟨pP, pw, pK, pm, pb, pN, pc, _, _, _, _, _, _, _⟩ := co
      subst pP pw pK pm pb
      obtain ⟨f1, f2, f3⟩ := kw_facts (l := backToKw pos (keywordEach kws X.env)) (kw_names.trans hn)
      refine PE_imp (pe_makeK0 M F (rm.mono hle) (by show X.env.scope.names.lookup s.fn = _; rw [pc]; exact hg) hm hb ps0 hk f1 f2 h1 (by rw [f3]; rfl)) ?_
      rintro σ H Q ⟨Ω, σm, hm, hr0, sr, q⟩
      unfold evE at q
      rw [if_neg (by rw [hmk]; exact Bool.false_ne_true.symm)] at q
      show TLm _ _ _ _ _ _ _ _ _
      refine tl_of hr0 sr (Post.bind q) fun Ω1 H1 ws h1 zs l1 e1 r1 s1 vzs q1 => ?_
      have hw : ws.length = s.ks.length := by
        rcases hr Ω1 (h1.length + 1) H1 [.ref h1.length] ws [_] zs (h1 ++ [.ins s.fn []]) (by unfold VRels VRels; exact ⟨_, _, rfl, v_ref.mpr ⟨Nat.lt_succ_self _, rfl⟩, rfl⟩) (vzs.ext (Ext.refl ..) (by omega)) rfl with z | ⟨z, _⟩
        · have z : C.ci s.key (.ref h1.length :: ws) (h1 ++ [.ins s.fn []]) = .bad := z
          rw [z] at q1
          exact q1.elim
        · exact z
      refine ⟨rfl, by rw [← vs_len vzs, hw], fun x dx hx hd hne => ?_⟩
      obtain ⟨Ω2, h2, ms, r2, v2, q2⟩ := made r1 vzs q1 x dx hx hd hne
      rw [List.append_nil] at v2
      cases ms with
      | nil => unfold VRels at v2; cases v2
      | cons m0 ws' =>
        unfold VRels at v2
        obtain ⟨y, ys, e, vy, vys⟩ := v2
        injection e with e1 e2
        subst e1 e2
        rcases hr Ω2 _ _ [m0] ws' [.ref x] zs h2 (by unfold VRels VRels; exact ⟨_, _, rfl, vy, rfl⟩) vys rfl with z | ⟨_, ms', hms, he⟩
        · have z : C.ci s.key (m0 :: ws') h2 = .bad := z
          rw [z] at q2
          exact q2.elim
        · have he : C.ci s.key (m0 :: ws') h2 = sf ms' h2 := he
          rw [he] at q2
          exact ⟨Ω2, h2, ms', r2, hms, q2⟩
/-! ### o.f, x = e -/
def gFld (K : PySem.W.Frag) (ta : TE) (f : Str) : TG := fun v σ H Q => ta σ H fun x H1 => ∃ a C dx fs, x = .ref a ∧ H1 a = some (.ins C dx fs) ∧ Cls K C ∧ NoAttr K C f ∧ fs.length < 1000 ∧ Q σ (upd H1 a (.ins C dx (putF f v fs)))
theorem pg_fld {o : Expr} {f : Str} {pos : Pos} {ta : TE} (ho : PE X o ta) : PG X (.Attribute o f pos) (gFld X.K ta f) := by
  refine ⟨fun pins s σ H v u Q I r h => ?_⟩
  show wpAny _ _ (do
    let ov ← holding [u] (eval o X.env)
    standAt pos.atName
    holding [u, ov] (setAttr ov f u)
    release [u, ov] []) _ _ s
  refine wpAny_bind (wpAny_holding (thn (ho.run pins s σ H _ I h) fun ov s1 ⟨x, H1, I1, rx, a, cA, dx, fs, ex, ea, c, n, l, q⟩ => ?_))
  subst ex
  obtain rfl : ov = Value.ref a := rx
  exact wpAny_bind (wpAny_standAt (wpAny_bind (wpAny_holding (setattr_ok I1 ea c n l r fun s3 I3 => wpAny_release ⟨σ, _, I3, q⟩))))
theorem ms_una {o e : Expr} {f x : Str} {j : Nat} {ea eb : ME} {p px p2 pos : Pos} {k : Nat} (co : CO P w K mg base (false, rp) n N sc fnc E X) (gf : GF P w K mg base ga xn G C n) (hx : nameOk N sc fnc j x = true) (ho : PE X o (TEm K ga xn E C eb)) (he : PE X e (TEm K ga xn E C ea)) (hc : notCall e = false) :
    PS X (.Assign [.Tuple [.Attribute o f p, .Name x px] k p2] e pos) (TSm K ga xn E C (.una eb f j ea)) := by
  obtain ⟨h1, h2, h3⟩ := name_ok (pos := px) co hx
  have g2 : PG X (.Name x px) (gName j) := pg_name (by rw [co.pN]; exact co.nd) h1 h2 h3
  have gt := pg_tup (k := k) (pos := p2) (co.calm rfl) (pgs_cons (pg_fld (f := f) (pos := p) ho) (pgs_cons g2 pgs_nil))
  refine PS_imp (ps_asg he gt (by cases e <;> first | rfl | cases hc) (by cases e <;> first | rfl | cases hc)) ?_
  rintro D σ H ⟨Ω, σm, hm, hr, sr, q⟩
  rw [co.pK]
  unfold run at q
  refine te_of hr sr (PostS.out q) fun Ω1 H1 v h1 y l1 e1 r1 s1 vy q1 => ?_
  split at q1
  · rename_i a b
    obtain ⟨p', xs, rfl, sq, vv⟩ := v_tup.mp vy
    unfold VRels VRels VRels at vv
    obtain ⟨ya, _, rfl, va, yb, _, rfl, vb, rfl⟩ := vv
    refine ⟨p', [ya, yb], rfl, sq, rfl, ya, [yb], rfl, ?_⟩
    refine te_of r1 s1 (PostS.out q1) fun Ω2 H2 mx h2 x l2 e2 r2 s2 vx q2 => ?_
    cases z : setFV C.na mx f a h2 with
    | none => simp only [z] at q2; exact q2.elim
    | some h3 =>
      simp only [z] at q2
      obtain ⟨ad, cA, dx, fs, g1, g2, g3, g4, g5, ex, r3, hl⟩ := set_field gf r2 vx (va.ext e2 l2) z
      refine ⟨ad, cA, dx, fs, g1, g2, g3, g4, g5, yb, [], rfl, rfl, ?_⟩
      exact q2 Ω2 _ (σ.set j (some yb)) (by omega) ex r3 ((s2.ext ex (by omega)).set j ((vb.ext e2 l2).ext ex (by omega)))
  · exact q1.elim
/-! ### TABLE[e] -/
theorem me_tix {x : Str} {kvs : List (Str × Key)} {a : Expr} {ea : ME} {p pos : Pos} (co : CO P w K mg base hot n N sc fnc E X) (gf : GF P w K mg base ga xn G C n) (ht : (x, kvs) ∈ G.tbs) (hg : sc.names.lookup x = some .globalImplicit) (h1 : (x == ("__debug__" : Str)) = false) (ha : PE X a (TEm K ga xn E C ea)) (hs : notSlice a = true) :
    PE X (.Subscript (.Name x p) a pos) (TEm K ga xn E C (.x1 (.tix x kvs) ea)) := by
  obtain ⟨d, es, m, hm, D, hz⟩ := gf.tbs _ ht
  refine PE_imp (pe_ix ix_kdict (pe_glob (v := .ref d) (u := .ref d) (by show X.env.scope.names.lookup _ = _; rw [co.ps]; exact hg) (by rw [co.pm]; exact hm) rfl h1) ha (plain_ix hs)) ?_
  rintro σ H Q ⟨Ω, σm, hm, hr, sr, q⟩
  unfold evE at q
  show TEm K ga xn E C ea σ H _
  refine te_of hr sr (Post.bind q) fun Ω1 H1 v h1 y l1 e1 r1 s1 vy q1 => ?_
  unfold x1V at q1
  simp only at q1
  split at q1
  · rename_i z
    split at q1
    · rename_i k hk
      obtain ⟨r, g1, g2⟩ := hz z
      simp only at g2
      rw [hk] at g2
      obtain ⟨u, rfl, ru⟩ := g2
      refine ⟨d, z, _, rfl, v_str.mp vy, by rw [co.pK, co.pw]; exact ⟨es, m, u, D.at_, D.lit, g1, ru⟩, ?_⟩
      cases k with
      | inl i => exact q1.here r1 _ (v_int.mpr rfl)
      | inr s => exact q1.here r1 _ (v_str.mpr rfl)
    · exact q1.elim
  · exact q1.elim
end Mn
namespace Mn
open PySem PySem.Spec PyProof.Rows L2

/-! ### the checkers: text against tree -/
def gi (sc : Scope) (x : Str) : Bool := decide (sc.names.lookup x = some .globalImplicit)
def ndb (x : Str) : Bool := !(x == ("__debug__" : Str))
def bcNm : Bf → Option Str
  | .len => some "len"
  | .int => some "int"
  | .abs => some "abs"
  | .max2 => some "max"
  | .maxL => some "max"
  | .min2 => some "min"
  | .minL => some "min"
  | .str => some "str"
  | .sum => some "sum"
  | .tuple => some "tuple"
  | .all => some "all"
  | .any => some "any"
  | _ => none
def isNm : Bf → Option Str
  | .isInt => some "int"
  | .isBool => some "bool"
  | .isList => some "list"
  | .isTuple => some "tuple"
  | .isStr => some "str"
  | .isDict => some "dict"
  | _ => none
def bmNm : Bm → Str × Nat
  | .append => ("append", 1)
  | .pop => ("pop", 0)
  | .pop0 => ("pop", 1)
  | .extend => ("extend", 1)
  | .index => ("index", 1)
  | .remove => ("remove", 1)
  | .count => ("count", 1)
  | .insert => ("insert", 2)
def visB (sc : Scope) (x : Str) : Bool := match sc.names.lookup x with
  | some .local => true
  | some .cell => true
  | some .free => true
  | _ => false
def isFc : ME → Bool
  | .mk _ (.fc ..) => true
  | _ => false
def fnB (scope : Scope) (x : Str) : Bool := scope.names.lookup x == some .cell
/-- name = [comprehension] on one line -/
def swapOk (N : List Str) (sc : Scope) (i : Nat) (y : Str) (py : Pos) : Expr → Bool
  | .ListComp _ _ scope pos => decide (N[i]? = some y) && decide (sc.names.lookup y = some .local) && decide (sc.kind = .function) && (py.line == pos.line) && !(scope.names.any fun (n, k) => n == y && (k == .local || k == .cell))
  | _ => false
def isDc : ME → Bool
  | .dcp .. => true
  | _ => false
/-- name = {dict comprehension} on one line -/
def swapOkD (N : List Str) (sc : Scope) (i : Nat) (y : Str) (py : Pos) : Expr → Bool
  | .DictComp _ _ _ scope pos => decide (N[i]? = some y) && decide (sc.names.lookup y = some .local) && decide (sc.kind = .function) && (py.line == pos.line) && !(scope.names.any fun (n, k) => n == y && (k == .local || k == .cell))
  | _ => false
mutual
def chkE (N : List Str) (G : Gs) : ME → Scope → (Str → Bool) → Expr → Bool
  | .var i, sc, _, e => match e with
    | .Name x _ => decide (N[i]? = some x) && visB sc x && ndb x && !(x == ("__classdict__" : Str))
    | _ => false
  | .int i, _, _, e => match e with
    | .Constant (.int j) _ _ => decide (i = j)
    | _ => false
  | .str i, _, _, e => match e with
    | .Constant (.str j) _ _ => decide (i = j)
    | _ => false
  | .bl i, _, _, e => match e with
    | .Constant (.bool j) _ _ => decide (i = j)
    | _ => false
  | .non, _, _, e => match e with
    | .Constant .none _ _ => true
    | _ => false
  | .con x, sc, _, e => match e with
    | .Name y _ => decide (x = y) && gi sc x && ndb x
    | _ => false
  | .bin op a b, sc, fnc, e => match e with
    | .BinOp c op' d _ => decide (op = op') && chkE N G a sc fnc c && chkE N G b sc fnc d
    | _ => false
  | .neg a, sc, fnc, e => match e with
    | .UnaryOp .USub c _ => chkE N G a sc fnc c
    | _ => false
  | .not a, sc, fnc, e => match e with
    | .UnaryOp .Not c _ => chkE N G a sc fnc c
    | _ => false
  | .cmp op a b, sc, fnc, e => match e with
    | .Compare c [op'] [d] _ => decide (op = op') && notSet d && chkE N G a sc fnc c && chkE N G b sc fnc d
    | _ => false
  | .chn o1 o2 a b c, sc, fnc, e => match e with
    | .Compare x [p1, p2] [y, z] _ => decide (o1 = p1) && decide (o2 = p2) && notSet z && chkE N G a sc fnc x && chkE N G b sc fnc y && chkE N G c sc fnc z
    | _ => false
  | .chn3 o1 o2 o3 a b c d, sc, fnc, e => match e with
    | .Compare x [p1, p2, p3] [y, z, u] _ => decide (o1 = p1) && decide (o2 = p2) && decide (o3 = p3) && notSet u && chkE N G a sc fnc x && chkE N G b sc fnc y && chkE N G c sc fnc z && chkE N G d sc fnc u
    | _ => false
  | .and a b, sc, fnc, e => match e with
    | .BoolOp .And [x, y] _ => chkE N G a sc fnc x && chkE N G b sc fnc y
    | .BoolOp .And (x :: y :: z) p => chkE N G a sc fnc x && chkE N G b sc fnc (.BoolOp .And (y :: z) p)
    | _ => false
  | .or a b, sc, fnc, e => match e with
    | .BoolOp .Or [x, y] _ => chkE N G a sc fnc x && chkE N G b sc fnc y
    | .BoolOp .Or (x :: y :: z) p => chkE N G a sc fnc x && chkE N G b sc fnc (.BoolOp .Or (y :: z) p)
    | _ => false
  | .ife c a b, sc, fnc, e => match e with
    | .IfExp x y z _ => chkT N G c sc fnc x && chkE N G a sc fnc y && chkE N G b sc fnc z
    | _ => false
  | .tup es, sc, fnc, e => match e with
    | .Tuple xs _ _ => chkL N G es sc fnc xs
    | _ => false
  | .idx a b, sc, fnc, e => match e with
    | .Subscript x y _ => notSlice y && chkE N G a sc fnc x && chkE N G b sc fnc y
    | _ => false
  | .mk _ f, sc, fnc, e => chkF N G f sc fnc e
  | .frz a, sc, fnc, e => chkE N G a sc fnc e
  | .call f es, sc, fnc, e => !G.xc && match e with
    | .Call (.Name g _) xs [] _ => decide (f = g) && decide (f ∈ G.fns) && gi sc f && ndb f && xs.all notStar && chkL N G es sc fnc xs
    | _ => false
  | .kcl o key kn es ks, sc, fnc, e => !G.xc && match o, e with
    | none, .Call (.Name g _) (x :: xs) kws _ => (G.ksh.any fun s => !s.cls && decide (s.key = key) && decide (s.fn = g) && decide (s.n = kn) && decide (kws.map (·.arg) = s.ks.map some)) && gi sc g && ndb g && (x :: xs).all notStar && chkL N G es sc fnc (x :: xs) && chkL N G ks sc fnc (kws.map (·.value))
    | some c, .Call (.Name g _) [] kws _ => (G.ksh.any fun s => s.cls && decide (s.key = key) && decide (s.fn = c) && decide (kws.map (·.arg) = s.ks.map some)) && decide (g = c) && gi sc g && ndb g && chkL N G ks sc fnc (kws.map (·.value))
    | _, _ => false
  | .new c es, sc, fnc, e => !G.xc && match e with
    | .Call (.Name g _) xs [] _ => decide (c = g) && decide (c ∈ G.nws) && gi sc c && ndb c && xs.all notStar && chkL N G es sc fnc xs
    | _ => false
  | .mth o c m f es, sc, fnc, e => !G.xc && match e with
    | .Call (.Attribute x g ap) xs [] p => decide (m = g) && decide ((c, m, f) ∈ G.mes) && notCall x && (ap.endLine == p.line) && xs.all notStar && decide (xs.length < 30) && chkE N G o sc fnc x && chkL N G es sc fnc xs
    | _ => false
  | .bm k o es, sc, fnc, e => match e with
    | .Call (.Attribute x g ap) xs [] p => decide ((g, xs.length) = bmNm k) && notCall x && (ap.endLine == p.line) && xs.all notStar && chkE N G o sc fnc x && chkL N G es sc fnc xs
    | _ => false
  | .fld o f, sc, fnc, e => match e with
    | .Attribute x g _ => decide (f = g) && notCall x && chkE N G o sc fnc x
    | _ => false
  | .bc k es, sc, fnc, e => match e with
    | .Call (.Name g _) [x, .Name t q] [] _ => (decide (g = ("isinstance" : Str)) && decide (isNm k = some t) && decide (("isinstance" : Str) ∈ G.blt) && decide (t ∈ G.blt) && gi sc ("isinstance" : Str) && gi sc t && notStar x && chkL N G es sc fnc [x])
      || (!G.xc && decide (bcNm k = some g) && decide (g ∈ G.blt) && gi sc g && [x, .Name t q].all notStar && chkL N G es sc fnc [x, .Name t q])
    | .Call (.Name g _) (x :: xs) [] _ => !G.xc && decide (bcNm k = some g) && decide (g ∈ G.blt) && gi sc g && (x :: xs).all notStar && chkL N G es sc fnc (x :: xs)
    | _ => false
  | .x1 (.tix x kvs) a, sc, fnc, e => match e with
    | .Subscript (.Name y _) z _ => decide (x = y) && (G.tbs.any fun t => decide (t.1 = x) && decide (t.2 = kvs)) && gi sc x && ndb x && notSlice z && chkE N G a sc fnc z
    | _ => false
  | .x1 .dof a, sc, fnc, e => match e with
    | .Call (.Name g _) [x] [] _ => decide (g = ("dict" : Str)) && decide (("dict" : Str) ∈ G.blt) && gi sc ("dict" : Str) && notStar x && chkE N G a sc fnc x
    | _ => false
  | .x1 .rpr a, sc, fnc, e => G.rp && match e with
    | .Call (.Name g _) [x] [] _ => decide (g = ("repr" : Str)) && decide (("repr" : Str) ∈ G.blt) && gi sc ("repr" : Str) && notStar x && chkE N G a sc fnc x
    | _ => false
  | .x1 (.mxd d) a, sc, fnc, e => !G.xc && match e with
    | .Call (.Name g _) [x] [⟨some k, .Constant (.int j) _ _, _⟩] _ => decide (g = ("max" : Str)) && decide (k = ("default" : Str)) && decide (d = j) && decide (("max" : Str) ∈ G.blt) && gi sc ("max" : Str) && notStar x && chkE N G a sc fnc x
    | _ => false
  | .x1 .mnt a, sc, fnc, e => !G.xc && match e with
    | .Call (.Name g _) [x] [] _ => decide (g = ("min" : Str)) && decide (("min" : Str) ∈ G.blt) && gi sc ("min" : Str) && notStar x && chkE N G a sc fnc x
    | _ => false
  | .x2 .dix a b, sc, fnc, e => match e with
    | .Subscript x y _ => notSlice y && chkE N G a sc fnc x && chkE N G b sc fnc y
    | _ => false
  | .x2 .tpx a b, sc, fnc, e => match a, e with
    | .con x, .Call (.Attribute (.Name y _) g ap) [z] [] p => decide (x = y) && decide (g = ("index" : Str)) && gi sc x && ndb x && (ap.endLine == p.line) && notStar z && chkE N G b sc fnc z
    | _, _ => false
  | .x2 .tsl a b, sc, fnc, e => match e with
    | .Subscript x (.Slice (some y) none none _) _ => chkE N G a sc fnc x && chkE N G b sc fnc y
    | _ => false
  | .x2 .din a b, sc, fnc, e => match e with
    | .Compare c [.In] [d] _ => notSet d && chkE N G a sc fnc c && chkE N G b sc fnc d
    | _ => false
  | .x2 .dnin a b, sc, fnc, e => match e with
    | .Compare c [.NotIn] [d] _ => notSet d && chkE N G a sc fnc c && chkE N G b sc fnc d
    | _ => false
  | .x2 .deq a b, sc, fnc, e => match e with
    | .Compare c [.Eq] [d] _ => notSet d && chkE N G a sc fnc c && chkE N G b sc fnc d
    | _ => false
  | .x2 .dne a b, sc, fnc, e => match e with
    | .Compare c [.NotEq] [d] _ => notSet d && chkE N G a sc fnc c && chkE N G b sc fnc d
    | _ => false
  | .x2 (.tin x ks) a b, sc, fnc, e => match b, e with
    | .non, .Compare c [.In] [.Name y _] _ => decide (x = y) && (G.tbs.any fun t => decide (t.1 = x) && decide (t.2.map (·.1) = ks)) && gi sc x && ndb x && chkE N G a sc fnc c
    | _, _ => false
  | .x2 .tgt a b, sc, fnc, e => match e with
    | .Compare c [.Gt] [d] _ => notSet d && chkE N G a sc fnc c && chkE N G b sc fnc d
    | _ => false
  | .x2 .tlt a b, sc, fnc, e => match e with
    | .Compare c [.Lt] [d] _ => notSet d && chkE N G a sc fnc c && chkE N G b sc fnc d
    | _ => false
  | .x2 .inr a b, sc, fnc, e => match e with
    | .Compare c [.In] [.Call (.Name g _) [d] [] _] _ => decide (g = ("range" : Str)) && decide (("range" : Str) ∈ G.blt) && gi sc ("range" : Str) && notStar d && chkE N G a sc fnc c && chkE N G b sc fnc d
    | _ => false
  | .x2 (.oeq k) a b, sc, fnc, e => match e with
    | .Compare c [.Eq] [d] _ => decide (k ∈ G.eqs) && notSet d && chkE N G a sc fnc c && chkE N G b sc fnc d
    | _ => false
  | .x2 .dget a b, sc, fnc, e => match e with
    | .Call (.Attribute x g ap) [y] [] p => decide (g = ("get" : Str)) && notCall x && (ap.endLine == p.line) && notStar y && chkE N G a sc fnc x && chkE N G b sc fnc y
    | _ => false
  | .x3 .dget a b c, sc, fnc, e => match e with
    | .Call (.Attribute x g ap) [y, z] [] p => decide (g = ("get" : Str)) && notCall x && (ap.endLine == p.line) && notStar y && notStar z && chkE N G a sc fnc x && chkE N G b sc fnc y && chkE N G c sc fnc z
    | _ => false
  | .dd es, sc, fnc, e => match e with
    | .Dict keys values _ => chkP N G es sc fnc keys values && decide (keys.length ≤ 15)
    | _ => false
  | .lck _ e1, sc, fnc, e => chkE N G e1 sc fnc e
  | .xfl i f, sc, fnc, e => G.xc && match e with
    | .Attribute (.Name x _) g _ => decide (f = g) && decide (N[i]? = some x) && visB sc x && ndb x && !(x == ("__classdict__" : Str))
    | _ => false
  | .xis i q, sc, fnc, e => G.xc && match e with
    | .Call (.Name g _) [.Name x _, .Name t _] [] _ => decide (g = ("isinstance" : Str)) && decide (("isinstance" : Str) ∈ G.blt) && gi sc ("isinstance" : Str) && decide (N[i]? = some x) && visB sc x && ndb x && !(x == ("__classdict__" : Str)) && decide (t = q) && gi sc q && ndb q && (decide (q ∈ G.xns ∧ q ≠ "ValueError") || decide (q = ("ValueError" : Str) ∧ ("ValueError" : Str) ∈ G.blt))
    | _ => false
  | .dcp own t ke ve it cond, sc, fnc, e => !G.xc && match e with
    | .DictComp kx vx [⟨tg, iter, ifs, 0⟩] scope _ => blkC N sc scope (mkOwn N own) && decide ((mkOwn N own).map (·.2) = own) && tgIn own t && notSet iter && chkI N G it sc fnc tg iter && chkTg N (relab scope sc) (fnB scope) t tg
      && chkC N G cond (relab scope sc) (fnB scope) ifs && chkE N G ke (relab scope sc) (fnB scope) kx && chkE N G ve (relab scope sc) (fnB scope) vx
    | _ => false
  | _, _, _, _ => false
def chkP (N : List Str) (G : Gs) : ME → Scope → (Str → Bool) → List (Option Expr) → List Expr → Bool
  | .nil, _, _, ks, vs => ks.isEmpty && vs.isEmpty
  | .cons k (.cons v r), sc, fnc, ks, vs => match ks, vs with
    | some kx :: ks, vx :: vs => chkE N G k sc fnc kx && chkE N G v sc fnc vx && chkP N G r sc fnc ks vs
    | _, _ => false
  | _, _, _, _, _ => false
def chkL (N : List Str) (G : Gs) : ME → Scope → (Str → Bool) → List Expr → Bool
  | .nil, _, _, xs => xs.isEmpty
  | .cons e es, sc, fnc, xs => match xs with
    | x :: xs => notStar x && chkE N G e sc fnc x && chkL N G es sc fnc xs
    | [] => false
  | _, _, _, _ => false
def chkT (N : List Str) (G : Gs) : ME → Scope → (Str → Bool) → Expr → Bool
  | .and a b, sc, fnc, e => match e with
    | .BoolOp .And [x, y] _ => chkT N G a sc fnc x && chkT N G b sc fnc y
    | .BoolOp .And (x :: y :: z) p => chkT N G a sc fnc x && chkW N G b sc fnc true (y :: z)
    | _ => false
  | .or a b, sc, fnc, e => match e with
    | .BoolOp .Or [x, y] _ => chkT N G a sc fnc x && chkT N G b sc fnc y
    | .BoolOp .Or (x :: y :: z) p => chkT N G a sc fnc x && chkW N G b sc fnc false (y :: z)
    | _ => false
  | .not a, sc, fnc, e => match e with
    | .UnaryOp .Not c _ => chkT N G a sc fnc c
    | _ => false
  | .cmp op a b, sc, fnc, e => match e with
    | .Compare c [op'] [d] _ => decide (op = op') && notSet d && chkE N G a sc fnc c && chkE N G b sc fnc d
    | _ => false
  | .chn o1 o2 a b c, sc, fnc, e => match e with
    | .Compare x [p1, p2] [y, z] _ => decide (o1 = p1) && decide (o2 = p2) && notSet z && chkE N G a sc fnc x && chkE N G b sc fnc y && chkE N G c sc fnc z
    | _ => false
  | .tru a, sc, fnc, e => plainTest e && chkE N G a sc fnc e
  | .x2 (.tin x ks) a b, sc, fnc, e => match b, e with
    | .non, .Compare c [.In] [.Name y _] _ => decide (x = y) && (G.tbs.any fun t => decide (t.1 = x) && decide (t.2.map (·.1) = ks)) && gi sc x && ndb x && chkE N G a sc fnc c
    | _, _ => false
  | .x2 .tgt a b, sc, fnc, e => match e with
    | .Compare c [.Gt] [d] _ => notSet d && chkE N G a sc fnc c && chkE N G b sc fnc d
    | _ => false
  | .x2 .tlt a b, sc, fnc, e => match e with
    | .Compare c [.Lt] [d] _ => notSet d && chkE N G a sc fnc c && chkE N G b sc fnc d
    | _ => false
  | .x2 .inr a b, sc, fnc, e => match e with
    | .Compare c [.In] [.Call (.Name g _) [d] [] _] _ => decide (g = ("range" : Str)) && decide (("range" : Str) ∈ G.blt) && gi sc ("range" : Str) && notStar d && chkE N G a sc fnc c && chkE N G b sc fnc d
    | _ => false
  | .x2 (.oeq k) a b, sc, fnc, e => match e with
    | .Compare c [.Eq] [d] _ => decide (k ∈ G.eqs) && notSet d && chkE N G a sc fnc c && chkE N G b sc fnc d
    | _ => false
  | .x2 .din a b, sc, fnc, e => match e with
    | .Compare c [.In] [d] _ => notSet d && chkE N G a sc fnc c && chkE N G b sc fnc d
    | _ => false
  | .x2 .dnin a b, sc, fnc, e => match e with
    | .Compare c [.NotIn] [d] _ => notSet d && chkE N G a sc fnc c && chkE N G b sc fnc d
    | _ => false
  | .x2 .deq a b, sc, fnc, e => match e with
    | .Compare c [.Eq] [d] _ => notSet d && chkE N G a sc fnc c && chkE N G b sc fnc d
    | _ => false
  | .x2 .dne a b, sc, fnc, e => match e with
    | .Compare c [.NotEq] [d] _ => notSet d && chkE N G a sc fnc c && chkE N G b sc fnc d
    | _ => false
  | _, _, _, _ => false
def chkW (N : List Str) (G : Gs) : ME → Scope → (Str → Bool) → Bool → List Expr → Bool
  | .and a b, sc, fnc, k, es => match k, es with
    | true, [x, y] => chkT N G a sc fnc x && chkT N G b sc fnc y
    | true, x :: y :: z => chkT N G a sc fnc x && chkW N G b sc fnc true (y :: z)
    | _, _ => false
  | .or a b, sc, fnc, k, es => match k, es with
    | false, [x, y] => chkT N G a sc fnc x && chkT N G b sc fnc y
    | false, x :: y :: z => chkT N G a sc fnc x && chkW N G b sc fnc false (y :: z)
    | _, _ => false
  | _, _, _, _, _ => false
def chkF (N : List Str) (G : Gs) : ME → Scope → (Str → Bool) → Expr → Bool
  | .fl es, sc, fnc, e => match e with
    | .List xs _ => chkL N G es sc fnc xs
    | _ => false
  | .fc own t el it cond, sc, fnc, e => !G.xc && match e with
    | .ListComp elt [⟨tg, iter, ifs, 0⟩] scope _ => blkC N sc scope (mkOwn N own) && decide ((mkOwn N own).map (·.2) = own) && tgIn own t && notSet iter && chkI N G it sc fnc tg iter && chkTg N (relab scope sc) (fnB scope) t tg
      && chkC N G cond (relab scope sc) (fnB scope) ifs && chkE N G el (relab scope sc) (fnB scope) elt
    | _ => false
  | .fs a lo hi, sc, fnc, e => match e with
    | .Subscript x (.Slice l h none _) _ => chkE N G a sc fnc x && chkO N G lo sc fnc l && chkO N G hi sc fnc h
    | _ => false
  | .fli a, sc, fnc, e => match e with
    | .Call (.Name g _) [x] [] _ => decide (g = ("list" : Str)) && decide (("list" : Str) ∈ G.blt) && gi sc ("list" : Str) && notStar x && chkE N G a sc fnc x
    | _ => false
  | .fso a, sc, fnc, e => match e with
    | .Call (.Name g _) [x] [] _ => decide (g = ("sorted" : Str)) && decide (("sorted" : Str) ∈ G.blt) && gi sc ("sorted" : Str) && notStar x && chkE N G a sc fnc x
    | _ => false
  | .fca a b, sc, fnc, e => match e with
    | .BinOp x .Add y _ => chkE N G a sc fnc x && chkE N G b sc fnc y
    | _ => false
  | .fre a b, sc, fnc, e => match e with
    | .BinOp x .Mult y _ => chkE N G a sc fnc x && chkE N G b sc fnc y
    | _ => false
  | .f1 .pr a, sc, fnc, e => match e with
    | .Call (.Name g _) [x] [] _ => decide (g = ("sorted" : Str)) && decide (("sorted" : Str) ∈ G.blt) && gi sc ("sorted" : Str) && notStar x && chkE N G a sc fnc x
    | _ => false
  | .f1 .sk a, sc, fnc, e => !G.xc && match e with
    | .Call (.Name g _) [x] [] _ => decide (g = ("sorted" : Str)) && decide (("sorted" : Str) ∈ G.blt) && gi sc ("sorted" : Str) && notStar x && chkE N G a sc fnc x
    | _ => false
  | .f1 .rev a, sc, fnc, e => match e with
    | .Subscript x (.Slice none none (some (.UnaryOp .USub (.Constant (.int 1) _ _) _)) _) _ => chkE N G a sc fnc x
    | _ => false
  | .f1 .rg1 a, sc, fnc, e => !G.xc && match e with
    | .Call (.Name g _) [.Call (.Name g2 _) [x] [] _] [] _ => decide (g = ("list" : Str)) && decide (g2 = ("range" : Str)) && decide (("list" : Str) ∈ G.blt) && gi sc ("list" : Str) && decide (("range" : Str) ∈ G.blt) && gi sc ("range" : Str) && notStar x && chkE N G a sc fnc x
    | _ => false
  | .f2 .rg2 a b, sc, fnc, e => !G.xc && match e with
    | .Call (.Name g _) [.Call (.Name g2 _) [x, y] [] _] [] _ => decide (g = ("list" : Str)) && decide (g2 = ("range" : Str)) && decide (("list" : Str) ∈ G.blt) && gi sc ("list" : Str) && decide (("range" : Str) ∈ G.blt) && gi sc ("range" : Str) && notStar x && notStar y && chkE N G a sc fnc x && chkE N G b sc fnc y
    | _ => false
  | .f2 .rg0s a b, sc, fnc, e => !G.xc && match e with
    | .Call (.Name g _) [.Call (.Name g2 _) [.Constant (.int 0) _ _, x, y] [] _] [] _ => decide (g = ("list" : Str)) && decide (g2 = ("range" : Str)) && decide (("list" : Str) ∈ G.blt) && gi sc ("list" : Str) && decide (("range" : Str) ∈ G.blt) && gi sc ("range" : Str) && notStar x && notStar y && chkE N G a sc fnc x && chkE N G b sc fnc y
    | _ => false
  | _, _, _, _ => false
def chkO (N : List Str) (G : Gs) : ME → Scope → (Str → Bool) → Option Expr → Bool
  | .nil, _, _, o => o.isNone
  | .cons e _, sc, fnc, o => match o with
    | some x => chkE N G e sc fnc x
    | none => false
  | _, _, _, _ => false
def chkC (N : List Str) (G : Gs) : ME → Scope → (Str → Bool) → List Expr → Bool
  | .nil, _, _, xs => xs.isEmpty
  | .cons e es, sc, fnc, xs => match xs, es with
    | [x], .nil => chkT N G e sc fnc x
    | _, _ => false
  | _, _, _, _ => false
def chkI (N : List Str) (G : Gs) : ME → Scope → (Str → Bool) → Expr → Expr → Bool
  | .iv a, sc, fnc, _, e => chkE N G a sc fnc e
  | .ir1 a, sc, fnc, _, e => match e with
    | .Call (.Name g _) [x] [] _ => decide (g = ("range" : Str)) && decide (("range" : Str) ∈ G.blt) && gi sc ("range" : Str) && notStar x && chkE N G a sc fnc x
    | _ => false
  | .ir2 a b, sc, fnc, _, e => match e with
    | .Call (.Name g _) [x, y] [] _ => decide (g = ("range" : Str)) && decide (("range" : Str) ∈ G.blt) && gi sc ("range" : Str) && notStar x && notStar y && chkE N G a sc fnc x && chkE N G b sc fnc y
    | _ => false
  | .irn a b, sc, fnc, _, e => match e with
    | .Call (.Name g _) [x, y, .UnaryOp .USub (.Constant (.int 1) _ _) _] [] _ => decide (g = ("range" : Str)) && decide (("range" : Str) ∈ G.blt) && gi sc ("range" : Str) && notStar x && notStar y && chkE N G a sc fnc x && chkE N G b sc fnc y
    | _ => false
  | .ien a, sc, fnc, tg, e => match tg, e with
    | .Tuple _ _ _, .Call (.Name g _) [x] [] _ => decide (g = ("enumerate" : Str)) && decide (("enumerate" : Str) ∈ G.blt) && gi sc ("enumerate" : Str) && notStar x && chkE N G a sc fnc x
    | _, _ => false
  | .izip a b, sc, fnc, tg, e => match tg, e with
    | .Tuple _ _ _, .Call (.Name g _) [x, y] [] _ => decide (g = ("zip" : Str)) && decide (("zip" : Str) ∈ G.blt) && gi sc ("zip" : Str) && notStar x && notStar y && chkE N G a sc fnc x && chkE N G b sc fnc y
    | _, _ => false
  | .irv a, sc, fnc, _, e => match e with
    | .Call (.Name g _) [x] [] _ => decide (g = ("reversed" : Str)) && decide (("reversed" : Str) ∈ G.blt) && gi sc ("reversed" : Str) && notStar x && chkE N G a sc fnc x
    | _ => false
  | .i1 .keys a, sc, fnc, _, e => chkE N G a sc fnc e
  | .i1 .chs a, sc, fnc, _, e => chkE N G a sc fnc e
  | .i1 .est a, sc, fnc, tg, e => match tg, e with
    | .Tuple _ _ _, .Call (.Name g _) [x] [] _ => decide (g = ("enumerate" : Str)) && decide (("enumerate" : Str) ∈ G.blt) && gi sc ("enumerate" : Str) && notStar x && chkE N G a sc fnc x
    | _, _ => false
  | .i1 .rrg a, sc, fnc, _, e => match e with
    | .Call (.Name g2 _) [.Call (.Name g _) [x] [] _] [] _ => decide (g2 = ("reversed" : Str)) && decide (("reversed" : Str) ∈ G.blt) && gi sc ("reversed" : Str) && decide (g = ("range" : Str)) && decide (("range" : Str) ∈ G.blt) && gi sc ("range" : Str) && notStar x && chkE N G a sc fnc x
    | _ => false
  | .i1 .vals a, sc, fnc, _, e => match e with
    | .Call (.Attribute x g ap) [] [] p => decide (g = ("values" : Str)) && notCall x && (ap.endLine == p.line) && chkE N G a sc fnc x
    | _ => false
  | .i1 .items a, sc, fnc, tg, e => match tg, e with
    | .Tuple _ _ _, .Call (.Attribute x g ap) [] [] p => decide (g = ("items" : Str)) && notCall x && (ap.endLine == p.line) && chkE N G a sc fnc x
    | _, _ => false
  | _, _, _, _, _ => false
end
/-- an except suite -/
def hotG (G : Gs) : Gs := { G with xc := true }
mutual
def chkX (N : List Str) (G : Gs) (sc : Scope) (fnc : Str → Bool) : MS → Stmt → Bool
  | .asg i ea, st => match st with
    | .Assign [.Name x p] e _ => chkE N G ea sc fnc e && nameOk N sc fnc i x && (notComp e || cellNm sc x e)
    | _ => false
  | .ret ea, st => match st with
    | .Return (some e) _ => chkE N G ea sc fnc e
    | _ => false
  | .retN, st => match st with
    | .Return none _ => true
    | _ => false
  | .ite c a b, st => match st with
    | .If x sa sb _ => chkT N G c sc fnc x && chkXs N G sc fnc a sa && chkXs N G sc fnc b sb
    | _ => false
  | _, _ => false
def chkXs (N : List Str) (G : Gs) (sc : Scope) (fnc : Str → Bool) : MS → List Stmt → Bool
  | .skip, ss => ss.isEmpty
  | .seq a b, ss => match ss with
    | s :: ss => chkX N G sc fnc a s && chkXs N G sc fnc b ss
    | [] => false
  | _, _ => false
end
/-- except c as n: suite -/
def chkH (N : List Str) (G : Gs) (sc : Scope) (fnc : Str → Bool) (i : Nat) (c : Str) (s : MS) : List ExceptHandler → Bool
  | [.ExceptHandler (some (.Name x _)) (some y) (b :: bs) _] => decide (x = c) && decide (c ∈ G.xns) && gi sc c && ndb c && decide (N[i]? = some y) && decide (sc.names.lookup y = some .local) && !G.xc && decide (c ≠ "ValueError") && chkXs N (hotG G) sc fnc s (b :: bs)
  | _ => false
def chkK (N : List Str) (G : Gs) (sc : Scope) (fnc : Str → Bool) (k : Tk) (f : Str) (es : ME) : Stmt → Bool
  | .Expr (.Call (.Name g _) (x :: xs) [] _) _ => (match k with
    | .ex => true
    | _ => false) && decide (f = g) && decide (f ∈ G.fns) && gi sc f && ndb f && (x :: xs).all notStar && chkL N G es sc fnc (x :: xs)
  | .Assign [.Name y _] (.Call (.Name g _) (x :: xs) [] _) _ => (match k with
    | .asg j => nameOk N sc fnc j y
    | _ => false) && decide (f = g) && decide (f ∈ G.fns) && gi sc f && ndb f && (x :: xs).all notStar && chkL N G es sc fnc (x :: xs)
  | .Return (some (.Call (.Name g _) (x :: xs) [] _)) _ => (match k with
    | .ret => true
    | _ => false) && decide (f = g) && decide (f ∈ G.fns) && gi sc f && ndb f && (x :: xs).all notStar && chkL N G es sc fnc (x :: xs)
  | _ => false
mutual
def chkS (N : List Str) (G : Gs) (sc : Scope) (fnc : Str → Bool) : MS → Stmt → Bool
  | .skip, st => match st with
    | .Pass _ => true
    | _ => false
  | .asg i ea, st => match st with
    | .Assign [.Name x p] e _ => chkE N G ea sc fnc e && ((nameOk N sc fnc i x && (notComp e || cellNm sc x e)) || ((isFc ea && swapOk N sc i x p e) || (isDc ea && swapOkD N sc i x p e)))
    | _ => false
  | .una o f j ea, st => match st with
    | .Assign [.Tuple [.Attribute a g _, .Name x _] _ _] e _ => notCall e == false && decide (f = g) && nameOk N sc fnc j x && chkE N G o sc fnc a && chkE N G ea sc fnc e
    | _ => false
  | .unp is ea, st => match st with
    | .Assign [.Tuple ts k p] e _ => chkTg N sc fnc (.tp is) (.Tuple ts k p) && tupSw sc ts e && chkE N G ea sc fnc e
    | _ => false
  | .par i j ea eb, st => match st with
    | .Assign [.Tuple [.Name x px, .Name y py] _ _] (.Tuple [a, b] _ _) _ => decide (N[i]? = some x) && decide (N[j]? = some y) && decide (i ≠ j) && decide (sc.kind = .function) && decide (sc.names.lookup x = some .local) && decide (sc.names.lookup y = some .local) && (py.line == px.line) && !(x == y)
      && !([a, b].all (foldedForSure 8)) && !([a, b].all (constantsAlone 8)) && notStar a && notStar b && chkE N G ea sc fnc a && chkE N G eb sc fnc b
    | _ => false
  | .setf o f ea, st => match st with
    | .Assign [.Attribute x g _] e _ => decide (f = g) && chkE N G o sc fnc x && chkE N G ea sc fnc e
    | _ => false
  | .seti o i ea, st => match st with
    | .Assign [.Subscript x y _] e _ => notSlice y && chkE N G o sc fnc x && chkE N G i sc fnc y && chkE N G ea sc fnc e
    | _ => false
  | .aug i op ea, st => match st with
    | .AugAssign (.Name x _) op' e _ => decide (op = op') && nameOk N sc fnc i x && chkE N G ea sc fnc e
    | _ => false
  | .ex ea, st => match st with
    | .Expr e _ => notComp e && chkE N G ea sc fnc e
    | _ => false
  | .ret ea, st => match st with
    | .Return (some e) _ => chkE N G ea sc fnc e
    | _ => false
  | .retN, st => match st with
    | .Return none _ => true
    | _ => false
  | .ite c a b, st => match st with
    | .If x sa sb _ => chkT N G c sc fnc x && chkSs N G sc fnc a sa && chkSs N G sc fnc b sb
    | _ => false
  | .whl c a, st => match st with
    | .While x sa [] _ => chkT N G c sc fnc x && chkSs N G sc fnc a sa
    | _ => false
  | .for_ t it a, st => match st with
    | .For tg iter sa [] _ => notSet iter && chkTg N sc fnc t tg && chkI N G it sc fnc tg iter && chkSs N G sc fnc a sa
    | _ => false
  | .brk, st => match st with
    | .Break _ => true
    | _ => false
  | .cnt, st => match st with
    | .Continue _ => true
    | _ => false
  | .setd o i ea, st => match st with
    | .Assign [.Subscript x y _] e _ => chkE N G o sc fnc x && chkE N G i sc fnc y && chkE N G ea sc fnc e
    | _ => false
  | .lck _ a, st => chkS N G sc fnc a st
  | .never, _ => true
  | .rai c ea, st => match st with
    | .Raise (some (.Call (.Name g _) [x] [] _)) none _ => decide (c = g) && decide (c ∈ G.xcs) && gi sc c && ndb c && notStar x && !G.xc && chkE N G ea sc fnc x
    | _ => false
  | .tryA b i c s, st => match st with
    | .Try body hs [] [] _ => chkSs N G sc fnc b body && chkH N G sc fnc i c s hs
    | _ => false
  | .tryB k f es i c s, st => match st with
    | .Try [b] hs [] [] _ => chkK N G sc fnc k f es b && chkH N G sc fnc i c s hs
    | _ => false
  | _, _ => false
def chkSs (N : List Str) (G : Gs) (sc : Scope) (fnc : Str → Bool) : MS → List Stmt → Bool
  | .skip, ss => ss.isEmpty
  | .seq a b, ss => match ss with
    | s :: ss => chkS N G sc fnc a s && chkSs N G sc fnc b ss
    | [] => false
  | _, _ => false
end
end Mn
namespace Mn
open PySem PySem.Spec PyProof.Rows L2
variable {P : Program} {w : World} {K : PySem.W.Frag} {mg : Str → Option Value} {base : Heap} {ga : Str → Addr} {xn : Str → Str}
variable {G : Gs} {C : Ct} {hot : Bool × Bool} {rp : Bool} {n : Nat} {N : List Str} {sc : Scope} {fnc : Str → Bool} {E : XK} {X : Cx}
theorem and2 {a b : Bool} (h : (a && b) = true) : a = true ∧ b = true := by rw [Bool.and_eq_true] at h; exact h
theorem ndb_ok {x : Str} (h : ndb x = true) : (x == ("__debug__" : Str)) = false := by
  unfold ndb at h; cases q : (x == ("__debug__" : Str)) with
  | false => rfl
  | true => rw [q] at h; cases h
theorem nb_ok {b : Bool} (h : (!b) = true) : b = false := by cases b with
  | false => rfl
  | true => cases h
theorem gi_ok {x : Str} (h : gi sc x = true) : sc.names.lookup x = some .globalImplicit := of_decide_eq_true h
theorem vis_ok {x : Str} (h : visB sc x = true) : Vis sc x := by
  unfold visB at h
  unfold Vis
  split at h
  · rename_i q; exact .inl q
  · rename_i q; exact .inr (.inl q)
  · rename_i q; exact .inr (.inr q)
  · cases h
/-- the built-ins by name -/
theorem bc_ok {k : Bf} {x : Str} {a : Expr} {es : List Expr} {ea : ME} {p pos : Pos} (co : CO P w K mg base (false, rp) n N sc fnc E X) (gf : GF P w K mg base ga xn G C n) (hk : bcNm k = some x) (hx : x ∈ G.blt) (hg : gi sc x = true) (ha : PA X (a :: es) (TLm K ga xn E C ea)) (hs : (a :: es).all notStar = true) :
    PE X (.Call (.Name x p) (a :: es) [] pos) (TEm K ga xn E C (.bc k ea)) := by
  have hg := gi_ok hg
  cases k <;> first | (cases hk; done) | skip
  all_goals injection hk with hk; subst hk
  · exact me_bcB co gf hx hg (by decide +kernel) (by decide) (by decide) (bf_len co.pK) ha hs
  · exact me_bcT co gf hx hg (by decide +kernel) (by decide) (by decide) bf_int ha hs
  · exact me_bcB co gf hx hg (by decide +kernel) (by decide) (by decide) bf_abs ha hs
  · exact me_bcB co gf hx hg (by decide +kernel) (by decide) (by decide) (bf_max2 (co.calm rfl)) ha hs
  · exact me_bcB co gf hx hg (by decide +kernel) (by decide) (by decide) (bf_min2 (co.calm rfl)) ha hs
  · exact me_bcT co gf hx hg (by decide +kernel) (by decide) (by decide) bf_str ha hs
  · exact me_bcB co gf hx hg (by decide +kernel) (by decide) (by decide) (bf_sum co.pK (co.calm rfl)) ha hs
  · exact me_bcB co gf hx hg (by decide +kernel) (by decide) (by decide) (bf_maxL co.pK (co.calm rfl)) ha hs
  · exact me_bcB co gf hx hg (by decide +kernel) (by decide) (by decide) (bf_minL co.pK (co.calm rfl)) ha hs
  · exact me_bcT co gf hx hg (by decide +kernel) (by decide) (by decide) (bf_tuple co.pK) ha hs
  · exact me_bcB co gf hx hg (by decide +kernel) (by decide) (by decide) (bf_all co.pK (co.calm rfl)) ha hs
  · exact me_bcB co gf hx hg (by decide +kernel) (by decide) (by decide) (bf_any co.pK (co.calm rfl)) ha hs
theorem is_ok {k : Bf} {t : Str} {a : Expr} {ea : ME} {p p2 pos : Pos} (co : CO P w K mg base hot n N sc fnc E X) (gf : GF P w K mg base ga xn G C n) (hk : isNm k = some t) (hx : ("isinstance" : Str) ∈ G.blt) (ht : t ∈ G.blt) (hg : gi sc ("isinstance" : Str) = true) (hgt : gi sc t = true) (ha : PE X a (TEm K ga xn E C ea)) (hs : notStar a = true) :
    PE X (.Call (.Name "isinstance" p) [a, .Name t p2] [] pos) (TEm K ga xn E C (.bc k (.cons ea .nil))) := by
  have hg := gi_ok hg
  have hgt := gi_ok hgt
  cases k <;> first | (cases hk; done) | skip
  all_goals injection hk with hk; subst hk
  all_goals exact me_isi co gf rfl hx ht hg hgt (by decide +kernel) (by decide) (by decide) ha hs
theorem bm_ok {k : Bm} {m : Str} {o : Expr} {es : List Expr} {ea eb : ME} {ap pos : Pos} (co : CO P w K mg base hot n N sc fnc E X) (hk : (m, es.length) = bmNm k) (hc : notCall o = true) (hl : (ap.endLine == pos.line) = true) (hs : es.all notStar = true) (ho : PE X o (TEm K ga xn E C eb)) (ha : chkL N G ea sc fnc es = true)
    (hA : ∀ {e : ME} {x : Expr}, es = [x] → ea = .cons e .nil → PE X x (TEm K ga xn E C e)) (hP : PA X es (TLm K ga xn E C ea)) : PE X (.Call (.Attribute o m ap) es [] pos) (TEm K ga xn E C (.bm k eb ea)) := by
  cases es with
  | nil =>
    have he : ea = .nil := by
      cases ea <;> first | rfl | (unfold chkL at ha; cases ha)
    subst he
    have q : 0 = (bmNm k).2 := congrArg Prod.snd hk
    cases k <;> first | (exact absurd (show 0 = 1 from q) (by decide)) | (exact absurd (show 0 = 2 from q) (by decide)) | skip
    obtain rfl := congrArg Prod.fst hk
    exact me_bm0 co PySem.F.slot_list_pop PySem.F.type_list_pop bm_pop ho hc hl
  | cons x xs =>
    cases xs with
    | cons y ys =>
      have q := congrArg Prod.snd hk
      cases k <;> first | (simp [bmNm] at q; done) | skip
      cases ys with
      | cons z zs => simp [bmNm] at q
      | nil =>
        obtain rfl := congrArg Prod.fst hk
        exact me_bm2 co PySem.F.slot_list_insert PySem.F.type_list_insert bm_insert ho hP hs hc hl
    | nil =>
      have he : ∃ e, ea = .cons e .nil := by
        cases ea <;> first | (unfold chkL at ha; cases ha; done) | skip
        rename_i e e2
        unfold chkL at ha
        have q := (and2 ha).2
        cases e2 <;> first | exact ⟨_, rfl⟩ | (unfold chkL at q; cases q)
      obtain ⟨e, rfl⟩ := he
      rw [List.all_cons, Bool.and_eq_true] at hs
      have ha' := hA rfl rfl
      have q : 1 = (bmNm k).2 := congrArg Prod.snd hk
      cases k <;> first | (exact absurd (show 1 = 0 from q) (by decide)) | (exact absurd (show 1 = 2 from q) (by decide)) | skip
      all_goals obtain rfl := congrArg Prod.fst hk
      · exact me_bm1 co PySem.F.slot_list_append PySem.F.type_list_append bm_append ho ha' hs.1 hc hl
      · exact me_bm1 co PySem.F.slot_list_pop PySem.F.type_list_pop bm_pop0 ho ha' hs.1 hc hl
      · exact me_bm1 co PySem.F.slot_list_extend PySem.F.type_list_extend bm_extend ho ha' hs.1 hc hl
      · exact me_bm1 co PySem.F.slot_list_index PySem.F.type_list_index (bm_index co.pK) ho ha' hs.1 hc hl
      · exact me_bm1 co PySem.F.slot_list_remove PySem.F.type_list_remove (bm_remove co.pK co.units) ho ha' hs.1 hc hl
      · exact me_bm1 co PySem.F.slot_list_count PySem.F.type_list_count (bm_count co.pK) ho ha' hs.1 hc hl
end Mn
namespace Mn
open PySem PySem.Spec PyProof.Rows L2
variable {P : Program} {w : World} {K : PySem.W.Frag} {mg : Str → Option Value} {base : Heap} {ga : Str → Addr} {xn : Str → Str}
variable {G : Gs} {C : Ct} {hot : Bool × Bool} {rp : Bool} {n : Nat} {N : List Str} {sc : Scope} {fnc : Str → Bool} {E : XK} {X : Cx}
/-! ### the caught exception, read in its suite -/
/-- what a context must be, for the forms of a suite -/
structure Lk (K : PySem.W.Frag) (ga : Str → Addr) (xn : Str → Str) (G : Gs) (C : Ct) (N : List Str) (X : Cx) : Prop where
  xk : G.xc = true → ∃ (a d : Addr) (c : Str) (oe : Obj) (X0 : Cx) (pn : List (Addr × Obj)), C.xc = some (a, d, c) ∧ X = X0.suite a ((a, oe) :: pn) ∧ Zc (.ref (ga c)) (some d) oe ∧ ∃ vs, oe.data = .fields vs
theorem lk_cold {N : List Str} (h : G.xc = false) : Lk K ga xn G C N X := ⟨fun z => by rw [h] at z; cases z⟩
theorem me_xfl {i : Nat} {f x : Str} {p pos : Pos} (co : CO P w K mg base hot n N sc fnc E X) (gf : GF P w K mg base ga xn G C n) (lk : Lk K ga xn G C N X) (hx : G.xc = true) (hN : N[i]? = some x) (hv : Vis sc x) (h1 : (x == ("__debug__" : Str)) = false) (h2 : (x == ("__classdict__" : Str)) = false) :
    PE X (.Attribute (.Name x p) f pos) (TEm K ga xn E C (.xfl i f)) := by
  obtain ⟨a, d, c, oe, X0, pn, hC, rfl, hz, hf⟩ := lk.xk hx
  by_cases hc : C.isx c = true ∧ C.xn c = f
  · obtain ⟨hi, hn⟩ := hc
    have F := gf.xis c hi
    have hK : X0.K = K := co.pK
    rw [gf.xnn] at hn
    subst hn hK
    refine PE_imp (pe_xf (X := X0) F.xf F.no hz hf (pe_var (X := X0.suite a ((a, oe) :: pn)) (i := i) (by rw [co.pN]; exact hN) (by rw [co.ps]; exact hv) h1 h2)) ?_
    rintro σ H Q ⟨Ω, σm, hm, hr, sr, p⟩
    unfold evE at p
    rw [hC] at p
    cases q : σm[i]? with
    | none => simp only [q] at p; exact p.elim
    | some o =>
      cases o with
      | none => simp only [q] at p; exact p.elim
      | some v =>
        simp only [q] at p
        cases v <;> first | exact p.elim | skip
        rename_i a' d' f' v'
        simp only at p
        split at p
        · rename_i hh
          obtain ⟨rfl, rfl, rfl, _⟩ := hh
          obtain ⟨y, hy, vy⟩ := sr.2 i _ q
          obtain ⟨rfl, _, z, hd, fl⟩ := v_xcp.mp vy
          refine ⟨_, hy, rfl, rfl, d, _, z, rfl, hd, by rw [lookup_put, if_pos rfl], p.here hr _ ?_⟩
          unfold flatR at fl
          split at fl
          · exact v_int.mpr fl
          · exact v_str.mpr fl
          · exact fl.elim
        · exact p.elim
  · refine PE_bad ?_
    rintro σ H Q ⟨Ω, σm, hm, hr, sr, p⟩
    unfold evE at p
    rw [hC] at p
    cases q : σm[i]? with
    | none => simp only [q] at p; exact p
    | some o =>
      cases o with
      | none => simp only [q] at p; exact p
      | some v =>
        simp only [q] at p
        cases v <;> first | exact p | skip
        simp only at p
        split at p
        · rename_i hh
          exact hc ⟨hh.2.2.2.1, hh.2.2.2.2⟩
        · exact p
/-- isinstance(e, D), e the exception that the suite holds, with its dict -/
def rIsX (K : PySem.W.Frag) (D a d : Addr) : List V → Hp → VK → Prop := fun xs H Q => ∃ (c : V) (cv : Value) (b : Bool) (fs : List (Str × V)), xs = [.ref a, c] ∧ (∀ u, RelV c u → u = cv) ∧ PySem.W.kitOne K (.ref D) cv = some b ∧ H d = some (.xd fs) ∧ Q (.bl b) H
theorem call_isX {X : Cx} {a D d : Addr} {oe : Obj} {f : Str} {pn : List (Addr × Obj)} (F : XFx X.K D f) (hz : Zc (.ref D) (some d) oe) (hf : ∃ vs, oe.data = .fields vs) : CallR (X.suite a ((a, oe) :: pn)) (.builtin "isinstance") (rIsX X.K D a d) := by
  intro pins s σ H xs us Q I r h
  obtain ⟨c, cv, b, fs, rfl, hcv, e, hd, q⟩ := h
  cases r with
  | cons rx rr =>
    cases rr with
    | cons rt rr =>
      cases rr
      cases rx
      have ec := hcv _ rt
      subst ec
      obtain ⟨hget, _⟩ := I.pin (a, oe) (List.mem_append.mpr (.inl List.mem_cons_self))
      obtain ⟨vs, hv⟩ := hf
      have hx : ObjOk X.prog X.w H s.heap d (.xd fs) := I.hok d _ hd
      obtain ⟨mA, hns, _⟩ := hx
      obtain ⟨od, ho, _⟩ := lookIn_ns hns
      have J : PySem.W.InstAt s.heap a oe D (some od) := ⟨hget, hz.1, by unfold PySem.W.notCls; rw [hv] <;> rfl, by rw [hz.2]; exact ho⟩
      exact PySem.W.kia_one (PySem.W.kitx_exc F.cl F.xf.ga F.xf.gg F.xf.exC F.ha F.hn F.ht F.hm) I.kIn J e (fun z => nomatch z) fun tk => ⟨.bl b, H, I.kept (t' := tk) fun _ _ z => z, rfl, q⟩
theorem me_xis {i : Nat} {q x : Str} {p p2 p3 pos : Pos} (co : CO P w K mg base hot n N sc fnc E X) (gf : GF P w K mg base ga xn G C n) (lk : Lk K ga xn G C N X) (hx : G.xc = true) (hb : ("isinstance" : Str) ∈ G.blt) (hg : sc.names.lookup ("isinstance" : Str) = some .globalImplicit) (hN : N[i]? = some x) (hv : Vis sc x) (h1 : (x == ("__debug__" : Str)) = false) (h2 : (x == ("__classdict__" : Str)) = false)
    (hgq : sc.names.lookup q = some .globalImplicit) (hdq : (q == ("__debug__" : Str)) = false) (hq : (q ∈ G.xns ∧ q ≠ "ValueError") ∨ (q = ("ValueError" : Str) ∧ ("ValueError" : Str) ∈ G.blt)) :
    PE X (.Call (.Name "isinstance" p) [.Name x p2, .Name q p3] [] pos) (TEm K ga xn E C (.xis i q)) := by
  obtain ⟨a, d, c, oe, X0, pn, hC, rfl, hz, hf⟩ := lk.xk hx
  by_cases hi : C.isx c = true
  · have F := gf.xis c hi
    have hK : X0.K = K := co.pK
    subst hK
    have hcls : ∃ (cv : V) (u : Value), (∀ z, RelV cv z → z = u) ∧ (∀ b, C.sub c q = some b → PySem.W.kitOne X0.K (.ref (ga c)) u = some b) ∧ PE (X0.suite a ((a, oe) :: pn)) (.Name q p3) (tC cv) := by
      rcases hq with ⟨hq, hne⟩ | ⟨rfl, hq⟩
      · refine ⟨.ref (ga q), .ref (ga q), fun z hz => hz, fun b e => (gf.xsub c q b e hne).1, pe_glob (u := .ref (ga q)) (by show X0.env.scope.names.lookup q = _; rw [show X0.env.scope = sc from co.ps]; exact hgq) (by show X0.mg q = _; rw [show X0.mg = mg from co.pm]; exact gf.xnm q hq) rfl hdq⟩
      · refine ⟨.ty "ValueError", .type "ValueError", fun z hz => hz, fun b e => gf.xve c b e, pe_bltn (v := .ty "ValueError") (u := .type "ValueError") (by show X0.env.scope.names.lookup _ = _; rw [show X0.env.scope = sc from co.ps]; exact hgq) (by show X0.mg _ = _; rw [show X0.mg = mg from co.pm]; exact gf.blt _ hq) PyProof.Rows.Boot.«ValueError» rfl (by decide) hdq⟩
    obtain ⟨cv, u, hu, hk, hpe⟩ := hcls
    have hvx : PE (X0.suite a ((a, oe) :: pn)) (.Name x p2) (tVar i) := pe_var (X := X0.suite a ((a, oe) :: pn)) (i := i) (by rw [co.pN]; exact hN) (by rw [co.ps]; exact hv) h1 h2
    refine PE_imp (pe_callB (call_isX F hz hf) (by show X0.env.scope.names.lookup _ = _; rw [show X0.env.scope = sc from co.ps]; exact hg) (by show X0.mg _ = _; rw [show X0.mg = mg from co.pm]; exact gf.blt _ hb) (by decide +kernel) (pa_cons hvx (pa_cons hpe pa_nil rfl) rfl) (by decide) (by decide) rfl rfl) ?_
    rintro σ H Q ⟨Ω, σm, hm, hr, sr, p⟩
    unfold evE at p
    rw [hC] at p
    cases z : σm[i]? with
    | none => simp only [z] at p; exact p.elim
    | some o =>
      cases o with
      | none => simp only [z] at p; exact p.elim
      | some v =>
        simp only [z] at p
        cases v <;> first | exact p.elim | skip
        rename_i a' d' f' v'
        simp only at p
        split at p
        · rename_i hh
          obtain ⟨rfl, rfl, _⟩ := hh
          obtain ⟨y, hy, vy⟩ := sr.2 i _ z
          obtain ⟨rfl, _, y2, hd, fl⟩ := v_xcp.mp vy
          cases e : C.sub c q with
          | none => rw [e] at p; exact p.elim
          | some b =>
            rw [e] at p
            exact ⟨_, hy, cv, u, b, _, rfl, hu, hk b e, hd, Post.here (show Post X0.K ga xn E hm.length Ω H (Rs.ok (MV.bl b) hm) (Kv X0.K ga Q) from p) hr _ (v_bl.mpr rfl)⟩
        · exact p.elim
  · refine PE_bad ?_
    rintro σ H Q ⟨Ω, σm, hm, hr, sr, p⟩
    unfold evE at p
    rw [hC] at p
    cases z : σm[i]? with
    | none => simp only [z] at p; exact p
    | some o =>
      cases o with
      | none => simp only [z] at p; exact p
      | some v =>
        simp only [z] at p
        cases v <;> first | exact p | skip
        simp only at p
        split at p
        · rename_i hh
          exact hi hh.2.2
        · exact p
/-! ### repr of a list or a tuple, where no repr is under way -/
def rRpr (K : PySem.W.Frag) : List V → Hp → VK → Prop := fun xs H Q => ∃ (a : Addr) (d : PyData), xs = [.ref a] ∧ Dp K H (.ref a) d ∧ d.showable = true ∧ d.hasDict = false ∧ d.depth ≤ 40 ∧ d.shown.length ≤ sizeLine ∧ Q (.str d.shown) H
theorem call_rpr {X : Cx} (hg : X.A.guards = some []) (hu : X.A.units + 64 < cLine) : CallR X (.builtin "repr") (rRpr X.K) := by
  intro pins s σ H xs us Q I r h
  obtain ⟨a, d, rfl, hd, h1, h2, h3, h4, q⟩ := h
  cases r with
  | cons rx rr =>
    cases rr
    cases rx
    obtain ⟨as, rd⟩ := Dp.reads I d _ (.ref a) hd rfl
    exact PySem.repr_of_reads' rd h1 (PyData.noDict_hsm h2) hg (by omega) (fun _ _ e => e) (fun h' u tk hk => ⟨.str d.shown, H, I.kept (t' := tk) hk, ⟨_, rfl⟩, q⟩) h4
theorem datPx_rel {f : MV → Option PyData} {Ω : Om} {L : Nat} {H : Hp} {K : PySem.W.Frag} {ga : Str → Addr} (hf : ∀ {m : MV} {x : V} {d : PyData}, VRel K ga Ω L H m x → f m = some d → Dp K H x d) : ∀ {kvs : List (Key × MV)} {kys : List (Key × V)} {ds : List (PyData × PyData)}, DRel K ga Ω L H kvs kys → datPx f kvs = some ds → Paired (fun (p : Key × V) (q : PyData × PyData) => datKx p.1 = q.1 ∧ Dp K H p.2 q.2) kys ds
  | [], _, _, .nil, e => by cases e; exact .nil
  | (k, v) :: r, (k2, y) :: kys, ds, .cons p t, e => by
    unfold datPx at e
    cases q1 : f v with
    | none => simp [q1] at e
    | some d =>
      cases q2 : datPx f r with
      | none => simp [q1, q2] at e
      | some es =>
        simp only [q1, q2] at e
        cases e
        obtain ⟨e1, e2⟩ := p
        cases (e1 : k = k2)
        exact .cons ⟨rfl, hf e2 q1⟩ (datPx_rel hf t q2)
section
variable {X : Cx} {pins : List (Addr × Obj)} {σ : L2.St} {H : Hp} {s : Shared}
theorem dx_ent (I : Inv X pins σ H s) : ∀ {kys : List (Key × V)} {ds : List (PyData × PyData)} {vs : List (Key × Value)} {es : List DictEntry}, Paired (fun (p : Key × V) (q : PyData × PyData) => datKx p.1 = q.1 ∧ Dp X.K H p.2 q.2) kys ds → KV kys vs → Pairs (mixKind X.prog X.w) es vs → PyData.showableKv ds = true → nodX ds = true → (∀ p ∈ PyData.shownKv ds, p.length ≤ sizeLine) →
    ∃ as bs cs, ReadsAll s.heap (es.map (·.key)) (ds.map (·.1)) as ∧ ReadsAll s.heap (es.map (·.val)) (ds.map (·.2)) bs ∧ ReadAtMost s.heap (PyData.depthKv ds) cs ∧ ∀ (cz : List Addr) (m : Nat), (∀ b ∈ cs, b ∈ cz) → PyData.depthKv ds ≤ m → ReprEntriesK X.prog X.w cz s.heap m es (PyData.shownKv ds)
  | _, _, _, _, .nil, .nil, .nil, _, _, _ => ⟨[], [], [], .nil, .nil, (fun _ h => by cases h), fun _ _ _ _ => .nil⟩
  | (k, y) :: kys, (dk, dv) :: ds, (k2, u) :: vs, e :: es, .cons p tp, .cons q tq, .cons w1 w2 tw, hs, hn, hz => by
    obtain ⟨p1, p2⟩ := p
    obtain ⟨q1, q2⟩ := q
    have p1 : datKx k = dk := p1
    have q1 : k = k2 := q1
    have p2 : Dp X.K H y dv := p2
    have q2 : RelV y u := q2
    subst p1 q1
    have w1 : keyIs k e.key = true := w1
    have w2 : e.val = u := w2
    have hs : (PyData.showable (datKx k) = true ∧ PyData.showable dv = true) ∧ PyData.showableKv ds = true := by simpa [PyData.showableKv] using hs
    have hn : dv.hasDict = false ∧ nodX ds = true := by simpa [nodX] using hn
    obtain ⟨as, bs, cs, r1, r2, r3, r4⟩ := dx_ent I tp tq tw hs.2 hn.2 (fun p hp => hz p (by unfold PyData.shownKv; exact List.mem_cons_of_mem _ hp))
    have row := hz _ (show (PyData.shown (datKx k) ++ ": " ++ PyData.shown dv) ∈ PyData.shownKv ((datKx k, dv) :: ds) by unfold PyData.shownKv; exact List.mem_cons_self ..)
    rw [strLen_append, strLen_append] at row
    have rk : ∃ a0, Reads s.heap e.key (datKx k) a0 := by
      rcases keyIs_shape w1 with ⟨i, t, e1, e2⟩ | ⟨x, t, e1, e2⟩
      · rw [e1, e2]; exact ⟨_, Reads.int i t⟩
      · rw [e1, e2]; exact ⟨_, Reads.str x t⟩
    have nk : (datKx k).hasDict = false := by cases k <;> simp [datKx, PyData.hasDict]
    obtain ⟨a0, rk⟩ := rk
    obtain ⟨a1, rv⟩ := Dp.reads I dv y u p2 q2
    rw [← w2] at rv
    obtain ⟨b0, m0, k0⟩ := ReprK.of_reads (prog := X.prog) (w := X.w) rk hs.1.1 (PyData.noDict_hsm nk) (by omega)
    obtain ⟨b1, m1, k1⟩ := ReprK.of_reads (prog := X.prog) (w := X.w) rv hs.1.2 (PyData.noDict_hsm hn.1) (by omega)
    have dd : PyData.depthKv ((datKx k, dv) :: ds) = max (max (PyData.depth (datKx k)) (PyData.depth dv)) (PyData.depthKv ds) := by rw [PyData.depthKv]
    refine ⟨_, _, b0 ++ (b1 ++ cs), .cons rk r1, .cons rv r2, ?_, fun cz m hc hm => ?_⟩
    · rw [dd]
      exact (m0.mono (by omega)).append ((m1.mono (by omega)).append (r3.mono (by omega)))
    · rw [dd] at hm
      unfold PyData.shownKv
      refine .cons ((k0.more fun b hb => hc b (by simp [hb])).level_le (by omega)) ((k1.more fun b hb => hc b (by simp [hb])).level_le (by omega)) (r4 cz m (fun b hb => hc b (by simp [hb])) (by omega))
end
def rRpD (K : PySem.W.Frag) : List V → Hp → VK → Prop := fun xs H Q => ∃ (a : Addr) (kys : List (Key × V)) (ds : List (PyData × PyData)), xs = [.ref a] ∧ H a = some (.dK kys) ∧ Paired (fun (p : Key × V) (q : PyData × PyData) => datKx p.1 = q.1 ∧ Dp K H p.2 q.2) kys ds ∧ (PyData.dict ds).showable = true ∧ nodX ds = true ∧ (PyData.dict ds).depth ≤ 40 ∧ (PyData.dict ds).shown.length ≤ sizeLine ∧ Q (.str (PyData.dict ds).shown) H
theorem call_rpD {X : Cx} (hg : X.A.guards = some []) (hu : X.A.units + 64 < cLine) : CallR X (.builtin "repr") (rRpD X.K) := by
  intro pins s σ H xs us Q I r h
  obtain ⟨a, kys, ds, rfl, ha, hp, h1, h2, h3, h4, q⟩ := h
  cases r with
  | cons rx rr =>
    cases rr
    cases rx
    obtain ⟨_, hsys, vs, rel, o, es, ep, ho, ex, hd, _, prs, _⟩ := dk_of I.hok ha
    have h1 : PyData.showableKv ds = true := by simpa [PyData.showable] using h1
    have h4 : (dictText (PyData.shownKv ds)).length ≤ sizeLine := by simpa [PyData.shown] using h4
    obtain ⟨as, bs, cs, r1, r2, r3, r4⟩ := dx_ent I hp rel prs h1 h2 (fun p hp => Nat.le_trans (dictText_mem_le hp) h4)
    have d1 : PyData.depth (.dict ds) = PyData.depthKv ds + 1 := by rw [PyData.depth]
    rw [d1] at h3
    have nm := not_mem_of_deeper (Reads.dict ho ex.1 hd r1 r2) (by rw [d1]; exact Nat.lt_succ_self _) r3
    refine call_repr_slot (T := "dict") (by omega) ⟨o, ho, ex.1⟩ F.slot_dict_repr ?_
    refine call_dict_reprK ho ex.1 hd hsys nm (r4 cs _ (fun _ h => h) (Nat.le_refl _)) hg (fun b _ => Clear.nil b) (show X.A.units + 1 + _ < _ by omega) (fun _ _ e => e) (fun h' u tk hk => ⟨_, _, rfl, .str (PyData.dict ds).shown, H, I.kept (t' := tk) hk, ⟨u, by simp only [PyData.shown]⟩, q⟩) h4
theorem call_rpE {X : Cx} (hg : X.A.guards = some []) (hu : X.A.units + 64 < cLine) : CallR X (.builtin "repr") (fun xs H Q => rRpr X.K xs H Q ∨ rRpD X.K xs H Q) := by
  intro pins s σ H xs us Q I r h
  rcases h with h | h
  · exact call_rpr hg hu pins s σ H xs us Q I r h
  · exact call_rpD hg hu pins s σ H xs us Q I r h
theorem me_rpr {e : Expr} {ea : ME} {p pos : Pos} (co : CO P w K mg base hot n N sc fnc E X) (gf : GF P w K mg base ga xn G C n) (hrp : hot.2 = true) (hb : ("repr" : Str) ∈ G.blt) (hg : sc.names.lookup ("repr" : Str) = some .globalImplicit) (ha : PE X e (TEm K ga xn E C ea)) (hs : notStar e = true) :
    PE X (.Call (.Name "repr" p) [e] [] pos) (TEm K ga xn E C (.x1 .rpr ea)) := by
  have hK : X.K = K := co.pK
  subst hK
  refine PE_imp (pe_callB (call_rpE (co.gds hrp) co.units) (by show X.env.scope.names.lookup _ = _; rw [co.ps]; exact hg) (by rw [co.pm]; exact gf.blt _ hb) (by decide +kernel) (pa_cons ha pa_nil (star_one hs)) (by decide) (by decide) (star_one hs) rfl) ?_
  rintro σ H Q ⟨Ω, σm, hm, hr, sr, p⟩
  unfold evE at p
  refine te_of hr sr (Post.bind p) fun Ω1 H1 v h1 x l1 e1 r1 s1 vx p1 => ?_
  have p1 : Post X.K ga xn E h1.length Ω1 H1 (match rprV h1 v with
    | some x => Rs.ok (MV.str x) h1
    | none => Rs.bad) (Kv X.K ga Q) := p1
  cases q : rprV h1 v with
  | none => rw [q] at p1; exact p1.elim
  | some z =>
    rw [q] at p1
    unfold rprV at q
    cases q1 : datF h1 8 v with
    | none =>
      rw [q1] at q
      cases q2 : datDx h1 v with
      | none => rw [q2] at q; cases q
      | some ds =>
        simp only [q2] at q
        split at q
        · rename_i hh
          cases q
          obtain ⟨c1, c2, c3, c4⟩ := hh
          unfold datDx at q2
          have p9 := p1.here r1 _ (v_str.mpr rfl)
          cases v <;> first | (cases q2; done) | skip
          rename_i n0
          simp only at q2
          cases q3 : h1[n0]? with
          | none => rw [q3] at q2; cases q2
          | some ob =>
            rw [q3] at q2
            cases ob <;> first | (cases q2; done) | skip
            rename_i kvs
            have q2 : datPx (datF h1 7) kvs = some ds := q2
            obtain ⟨kys, e2, e3⟩ := r1.obj n0 _ q3
            have ev := (v_ref.mp vx).2
            subst ev
            exact .inr ⟨_, kys, ds, rfl, e2, datPx_rel (fun h e => datF_rel r1 7 h e) e3 q2, c1, c2, c3, c4, p9⟩
        · cases q
    | some d =>
      rw [q1] at q
      simp only at q
      split at q
      · rename_i hh
        cases q
        obtain ⟨c0, c1, c2, c3, c4⟩ := hh
        have hd := datF_rel r1 8 vx q1
        have hx : ∃ a, x = .ref a := by
          cases v <;> first | (cases c0; done) | skip
          · obtain ⟨a, _, e, _⟩ := v_tup.mp vx; exact ⟨a, e⟩
          · obtain ⟨a, _, e, _⟩ := v_lst.mp vx; exact ⟨a, e⟩
          · exact ⟨_, (v_ref.mp vx).2⟩
          · obtain ⟨a, _, e, _⟩ := v_scr.mp vx; exact ⟨a, e⟩
        obtain ⟨a, rfl⟩ := hx
        exact .inl ⟨a, d, rfl, hd, c1, c2, c3, c4, p1.here r1 _ (v_str.mpr rfl)⟩
      · cases q
end Mn
namespace Mn
open PySem PySem.Spec PyProof.Rows L2
section
variable {P : Program} {w : World} {K : PySem.W.Frag} {mg : Str → Option Value} {base : Heap} {ga : Str → Addr} {xn : Str → Str}
variable {G : Gs} {C : Ct} {n : Nat} {N : List Str}
theorem one_cons {m : ME} {sc : Scope} {fnc : Str → Bool} {x : Expr} (h : chkL N G m sc fnc [x] = true) : ∃ e, m = .cons e .nil := by
  cases m <;> first | (unfold chkL at h; cases h; done) | skip
  rename_i e e2
  unfold chkL at h
  have q := (and2 h).2
  cases e2 <;> first | exact ⟨_, rfl⟩ | (unfold chkL at q; cases q)
mutual
theorem okE : ∀ (m : ME) {sc : Scope} {fnc : Str → Bool} {E : XK} {X : Cx} {e : Expr}, CO P w K mg base (G.xc, G.rp) n N sc fnc E X → GF P w K mg base ga xn G C n → Lk K ga xn G C N X → chkE N G m sc fnc e = true → PE X e (TEm K ga xn E C m)
  | .var i, sc, fnc, E, X, e, co, gf, lk, h => by
    unfold chkE at h
    split at h
    · simp only [Bool.and_eq_true, decide_eq_true_eq] at h
      obtain ⟨⟨⟨a, b⟩, c⟩, d⟩ := h
      exact me_var co a (vis_ok b) (ndb_ok c) (nb_ok d)
    · cases h
  | .int i, sc, fnc, E, X, e, co, gf, lk, h => by
    unfold chkE at h
    split at h
    · obtain rfl := of_decide_eq_true h
      exact me_int
    · cases h
  | .str i, sc, fnc, E, X, e, co, gf, lk, h => by
    unfold chkE at h
    split at h
    · obtain rfl := of_decide_eq_true h
      exact me_str
    · cases h
  | .bl i, sc, fnc, E, X, e, co, gf, lk, h => by
    unfold chkE at h
    split at h
    · obtain rfl := of_decide_eq_true h
      exact me_bl
    · cases h
  | .non, sc, fnc, E, X, e, co, gf, lk, h => by
    unfold chkE at h
    split at h
    · exact me_non
    · cases h
  | .con x, sc, fnc, E, X, e, co, gf, lk, h => by
    unfold chkE at h
    split at h
    · simp only [Bool.and_eq_true, decide_eq_true_eq] at h
      obtain ⟨⟨rfl, b⟩, c⟩ := h
      exact me_con co gf (gi_ok b) (ndb_ok c)
    · cases h
  | .bin op a b, sc, fnc, E, X, e, co, gf, lk, h => by
    unfold chkE at h
    split at h
    · simp only [Bool.and_eq_true, decide_eq_true_eq] at h
      obtain ⟨⟨rfl, h1⟩, h2⟩ := h
      exact me_bin co (okE a co gf lk h1) (okE b co gf lk h2)
    · cases h
  | .neg a, sc, fnc, E, X, e, co, gf, lk, h => by
    unfold chkE at h
    split at h
    · exact me_neg (okE a co gf lk h)
    · cases h
  | .not a, sc, fnc, E, X, e, co, gf, lk, h => by
    unfold chkE at h
    split at h
    · exact me_not (okE a co gf lk h)
    · cases h
  | .cmp op a b, sc, fnc, E, X, e, co, gf, lk, h => by
    unfold chkE at h
    split at h
    · simp only [Bool.and_eq_true, decide_eq_true_eq] at h
      obtain ⟨⟨⟨rfl, hs⟩, h1⟩, h2⟩ := h
      exact me_cmp co (okE a co gf lk h1) (okE b co gf lk h2) hs
    · cases h
  | .chn o1 o2 a b c, sc, fnc, E, X, e, co, gf, lk, h => by
    unfold chkE at h
    split at h
    · simp only [Bool.and_eq_true, decide_eq_true_eq] at h
      obtain ⟨⟨⟨⟨⟨rfl, rfl⟩, hs⟩, h1⟩, h2⟩, h3⟩ := h
      exact me_chn co (okE a co gf lk h1) (okE b co gf lk h2) (okE c co gf lk h3) hs
    · cases h
  | .chn3 o1 o2 o3 a b c d, sc, fnc, E, X, e, co, gf, lk, h => by
    unfold chkE at h
    split at h
    · simp only [Bool.and_eq_true, decide_eq_true_eq] at h
      obtain ⟨⟨⟨⟨⟨⟨⟨rfl, rfl⟩, rfl⟩, hs⟩, h1⟩, h2⟩, h3⟩, h4⟩ := h
      exact me_chn3 co (okE a co gf lk h1) (okE b co gf lk h2) (okE c co gf lk h3) (okE d co gf lk h4) hs
    · cases h
  | .and a b, sc, fnc, E, X, e, co, gf, lk, h => by
    unfold chkE at h
    split at h
    · have h := and2 h
      exact me_and (okE a co gf lk h.1) (pe_one (okE b co gf lk h.2))
    · have h := and2 h
      exact me_and (okE a co gf lk h.1) (okE b co gf lk h.2)
    · cases h
  | .or a b, sc, fnc, E, X, e, co, gf, lk, h => by
    unfold chkE at h
    split at h
    · have h := and2 h
      exact me_or (okE a co gf lk h.1) (pe_one (okE b co gf lk h.2))
    · have h := and2 h
      exact me_or (okE a co gf lk h.1) (okE b co gf lk h.2)
    · cases h
  | .ife c a b, sc, fnc, E, X, e, co, gf, lk, h => by
    unfold chkE at h
    split at h
    · simp only [Bool.and_eq_true, decide_eq_true_eq] at h
      obtain ⟨⟨h1, h2⟩, h3⟩ := h
      exact me_ife (okT c co gf lk h1) (okE a co gf lk h2) (okE b co gf lk h3)
    · cases h
  | .tup es, sc, fnc, E, X, e, co, gf, lk, h => by
    unfold chkE at h
    split at h
    · exact me_tup (okL es co gf lk h).1
    · cases h
  | .idx a b, sc, fnc, E, X, e, co, gf, lk, h => by
    unfold chkE at h
    split at h
    · simp only [Bool.and_eq_true, decide_eq_true_eq] at h
      obtain ⟨⟨hs, h1⟩, h2⟩ := h
      exact me_idx co (okE a co gf lk h1) (okE b co gf lk h2) hs
    · cases h
  | .mk m f, sc, fnc, E, X, e, co, gf, lk, h => by
    unfold chkE at h
    exact me_mk (okF f co gf lk h)
  | .frz a, sc, fnc, E, X, e, co, gf, lk, h => by
    unfold chkE at h
    exact me_frz (okE a co gf lk h)
  | .call f es, sc, fnc, E, X, e, co, gf, lk, h => by
    unfold chkE at h
    have hx : G.xc = false := nb_ok (and2 h).1
    replace h := (and2 h).2
    split at h
    · rename_i xs _
      simp only [Bool.and_eq_true, decide_eq_true_eq] at h
      obtain ⟨⟨⟨⟨⟨rfl, h1⟩, h2⟩, h3⟩, h4⟩, h5⟩ := h
      cases xs with
      | nil =>
        have he : es = .nil := by cases es <;> first | rfl | (unfold chkL at h5; cases h5)
        subst he
        exact me_call0 (co.cold hx) gf h1 (gi_ok h2) (ndb_ok h3)
      | cons y ys => exact me_call (co.cold hx) gf h1 (gi_ok h2) (ndb_ok h3) (okL es co gf lk h5).1 h4
    · cases h
  | .kcl o key kn es ks, sc, fnc, E, X, e, co, gf, lk, h => by
    unfold chkE at h
    have hx : G.xc = false := nb_ok (and2 h).1
    replace h := (and2 h).2
    split at h
    · simp only [Bool.and_eq_true] at h
      obtain ⟨⟨⟨⟨⟨h1, h2⟩, h3⟩, h4⟩, h5⟩, h6⟩ := h
      obtain ⟨s, hs, h7⟩ := List.any_eq_true.mp h1
      simp only [Bool.and_eq_true, decide_eq_true_eq] at h7
      obtain ⟨⟨⟨⟨h8, rfl⟩, rfl⟩, h10⟩, h11⟩ := h7
      exact me_kf (co.cold hx) gf hs (nb_ok h8) (gi_ok h2) (ndb_ok h3) (okL es co gf lk h5).1 h4 ((okL ks co gf lk h6).2.2 _ rfl) h11 h10
    · simp only [Bool.and_eq_true] at h
      obtain ⟨⟨⟨⟨h1, h2⟩, h3⟩, h4⟩, h6⟩ := h
      obtain ⟨s, hs, h7⟩ := List.any_eq_true.mp h1
      simp only [Bool.and_eq_true, decide_eq_true_eq] at h7
      obtain ⟨⟨⟨h8, rfl⟩, rfl⟩, h11⟩ := h7
      obtain rfl := of_decide_eq_true h2
      exact me_kc (co.cold hx) gf hs h8 (gi_ok h3) (ndb_ok h4) ((okL ks co gf lk h6).2.2 _ rfl) h11
    · cases h
  | .new f es, sc, fnc, E, X, e, co, gf, lk, h => by
    unfold chkE at h
    have hx : G.xc = false := nb_ok (and2 h).1
    replace h := (and2 h).2
    split at h
    · rename_i xs _
      simp only [Bool.and_eq_true, decide_eq_true_eq] at h
      obtain ⟨⟨⟨⟨⟨rfl, h1⟩, h2⟩, h3⟩, h4⟩, h5⟩ := h
      cases xs with
      | nil =>
        have he : es = .nil := by cases es <;> first | rfl | (unfold chkL at h5; cases h5)
        subst he
        exact me_new0 (co.cold hx) gf h1 (gi_ok h2) (ndb_ok h3)
      | cons y ys => exact me_new (co.cold hx) gf h1 (gi_ok h2) (ndb_ok h3) (okL es co gf lk h5).1 h4
    · cases h
  | .mth o c m f es, sc, fnc, E, X, e, co, gf, lk, h => by
    unfold chkE at h
    have hx : G.xc = false := nb_ok (and2 h).1
    replace h := (and2 h).2
    split at h
    · rename_i xs _
      simp only [Bool.and_eq_true, decide_eq_true_eq] at h
      obtain ⟨⟨⟨⟨⟨⟨⟨rfl, h1⟩, h2⟩, h3⟩, h4⟩, h5⟩, h6⟩, h7⟩ := h
      cases xs with
      | nil =>
        have he : es = .nil := by cases es <;> first | rfl | (unfold chkL at h7; cases h7)
        subst he
        exact me_mth0 (co.cold hx) gf h1 (okE o co gf lk h6) h2 h3
      | cons y ys => exact me_mth (co.cold hx) gf h1 (okE o co gf lk h6) (okL es co gf lk h7).1 h4 h5 h2 h3
    · cases h
  | .bm k o es, sc, fnc, E, X, e, co, gf, lk, h => by
    unfold chkE at h
    split at h
    · simp only [Bool.and_eq_true, decide_eq_true_eq] at h
      obtain ⟨⟨⟨⟨⟨h1, h2⟩, h3⟩, h4⟩, h6⟩, h7⟩ := h
      exact bm_ok co h1 h2 h3 h4 (okE o co gf lk h6) h7 (fun a b => (okL es co gf lk h7).2.1 _ _ b a) (okL es co gf lk h7).1
    · cases h
  | .fld o f, sc, fnc, E, X, e, co, gf, lk, h => by
    unfold chkE at h
    split at h
    · simp only [Bool.and_eq_true, decide_eq_true_eq] at h
      obtain ⟨⟨rfl, h1⟩, h2⟩ := h
      exact me_fld co gf (okE o co gf lk h2) h1
    · cases h
  | .bc k es, sc, fnc, E, X, e, co, gf, lk, h => by
    unfold chkE at h
    split at h
    · rw [Bool.or_eq_true] at h
      rcases h with h | h
      · simp only [Bool.and_eq_true, decide_eq_true_eq] at h
        obtain ⟨⟨⟨⟨⟨⟨⟨rfl, h1⟩, h2⟩, h3⟩, h4⟩, h5⟩, h6⟩, h7⟩ := h
        obtain ⟨e1, rfl⟩ := one_cons h7
        exact is_ok co gf h1 h2 h3 h4 h5 ((okL _ co gf lk h7).2.1 _ _ rfl rfl) h6
      · simp only [Bool.and_eq_true, decide_eq_true_eq] at h
        obtain ⟨⟨⟨⟨⟨hx, h1⟩, h2⟩, h3⟩, h4⟩, h5⟩ := h
        exact bc_ok (co.cold (by simpa using hx)) gf h1 h2 h3 (okL es co gf lk h5).1 h4
    · simp only [Bool.and_eq_true, decide_eq_true_eq] at h
      obtain ⟨⟨⟨⟨⟨hx, h1⟩, h2⟩, h3⟩, h4⟩, h5⟩ := h
      exact bc_ok (co.cold (by simpa using hx)) gf h1 h2 h3 (okL es co gf lk h5).1 h4
    · cases h
  | .x1 .dof a, sc, fnc, E, X, e, co, gf, lk, h => by
    unfold chkE at h
    split at h
    · simp only [Bool.and_eq_true, decide_eq_true_eq] at h
      obtain ⟨⟨⟨⟨rfl, h1⟩, h2⟩, h3⟩, h4⟩ := h
      exact me_dof co gf h1 (gi_ok h2) (okE a co gf lk h4) h3
    · cases h
  | .x1 .rpr a, sc, fnc, E, X, e, co, gf, lk, h => by
    unfold chkE at h
    obtain ⟨hrp, h⟩ := and2 h
    split at h
    · simp only [Bool.and_eq_true, decide_eq_true_eq] at h
      obtain ⟨⟨⟨⟨rfl, h1⟩, h2⟩, h3⟩, h4⟩ := h
      exact me_rpr co gf hrp h1 (gi_ok h2) (okE a co gf lk h4) h3
    · cases h
  | .x1 (.mxd d) a, sc, fnc, E, X, e, co, gf, lk, h => by
    unfold chkE at h
    have hx : G.xc = false := nb_ok (and2 h).1
    replace h := (and2 h).2
    split at h
    · simp only [Bool.and_eq_true, decide_eq_true_eq] at h
      obtain ⟨⟨⟨⟨⟨⟨rfl, rfl⟩, rfl⟩, h1⟩, h2⟩, h3⟩, h4⟩ := h
      exact me_mxd (co.cold hx) gf h1 (gi_ok h2) (okE a co gf lk h4) h3
    · cases h
  | .x1 .mnt a, sc, fnc, E, X, e, co, gf, lk, h => by
    unfold chkE at h
    have hx : G.xc = false := nb_ok (and2 h).1
    replace h := (and2 h).2
    split at h
    · simp only [Bool.and_eq_true, decide_eq_true_eq] at h
      obtain ⟨⟨⟨⟨rfl, h1⟩, h2⟩, h3⟩, h4⟩ := h
      exact me_mnt (co.cold hx) gf h1 (gi_ok h2) (okE a co gf lk h4) h3
    · cases h
  | .x1 (.tix x kvs) a, sc, fnc, E, X, e, co, gf, lk, h => by
    unfold chkE at h
    split at h
    · simp only [Bool.and_eq_true, decide_eq_true_eq] at h
      obtain ⟨⟨⟨⟨⟨rfl, h1⟩, h2⟩, h3⟩, h4⟩, h5⟩ := h
      obtain ⟨⟨tx, tk⟩, h6, h7⟩ := List.any_eq_true.mp h1
      simp only [Bool.and_eq_true, decide_eq_true_eq] at h7
      obtain ⟨rfl, rfl⟩ := h7
      exact me_tix co gf h6 (gi_ok h2) (ndb_ok h3) (okE a co gf lk h5) h4
    · cases h
  | .x2 .dix a b, sc, fnc, E, X, e, co, gf, lk, h => by
    unfold chkE at h
    split at h
    · simp only [Bool.and_eq_true, decide_eq_true_eq] at h
      obtain ⟨⟨hs, h1⟩, h2⟩ := h
      exact me_dix co (okE a co gf lk h1) (okE b co gf lk h2) hs
    · cases h
  | .x2 .tpx a b, sc, fnc, E, X, e, co, gf, lk, h => by
    unfold chkE at h
    split at h
    · simp only [Bool.and_eq_true, decide_eq_true_eq] at h
      obtain ⟨⟨⟨⟨⟨⟨rfl, rfl⟩, h1⟩, h2⟩, h3⟩, h4⟩, h5⟩ := h
      exact me_tpx co gf (gi_ok h1) (ndb_ok h2) (okE b co gf lk h5) h4 h3
    · cases h
  | .x2 .tsl a b, sc, fnc, E, X, e, co, gf, lk, h => by
    unfold chkE at h
    split at h
    · have h := and2 h
      exact me_tsl co (okE a co gf lk h.1) (okE b co gf lk h.2)
    · cases h
  | .x2 .din a b, sc, fnc, E, X, e, co, gf, lk, h => by
    unfold chkE at h
    split at h
    · simp only [Bool.and_eq_true, decide_eq_true_eq] at h
      obtain ⟨⟨hs, h1⟩, h2⟩ := h
      exact me_din co (okE a co gf lk h1) (okE b co gf lk h2) hs
    · cases h
  | .x2 .dnin a b, sc, fnc, E, X, e, co, gf, lk, h => by
    unfold chkE at h
    split at h
    · simp only [Bool.and_eq_true, decide_eq_true_eq] at h
      obtain ⟨⟨hs, h1⟩, h2⟩ := h
      exact me_dnin co (okE a co gf lk h1) (okE b co gf lk h2) hs
    · cases h
  | .x2 .deq a b, sc, fnc, E, X, e, co, gf, lk, h => by
    unfold chkE at h
    split at h
    · simp only [Bool.and_eq_true, decide_eq_true_eq] at h
      obtain ⟨⟨hs, h1⟩, h2⟩ := h
      exact me_deq co (okE a co gf lk h1) (okE b co gf lk h2) hs
    · cases h
  | .x2 .dne a b, sc, fnc, E, X, e, co, gf, lk, h => by
    unfold chkE at h
    split at h
    · simp only [Bool.and_eq_true, decide_eq_true_eq] at h
      obtain ⟨⟨hs, h1⟩, h2⟩ := h
      exact me_dne co (okE a co gf lk h1) (okE b co gf lk h2) hs
    · cases h
  | .x2 (.tin x ks) a b, sc, fnc, E, X, e, co, gf, lk, h => by
    unfold chkE at h
    split at h
    · simp only [Bool.and_eq_true, decide_eq_true_eq, List.any_eq_true] at h
      obtain ⟨⟨⟨⟨rfl, h1⟩, h2⟩, h3⟩, h4⟩ := h
      exact me_tin co gf (by obtain ⟨t, ht, e1, e2⟩ := h1; exact ⟨t, ht, e1, e2⟩) (gi_ok h2) (ndb_ok h3) (okE a co gf lk h4)
    · cases h
  | .x2 (.tnin ..) .., sc, fnc, E, X, e, co, gf, lk, h => by unfold chkE at h; cases h
  | .x2 .tgt a b, sc, fnc, E, X, e, co, gf, lk, h => by
    unfold chkE at h
    split at h
    · simp only [Bool.and_eq_true, decide_eq_true_eq] at h
      obtain ⟨⟨hs, h1⟩, h2⟩ := h
      exact me_tgt co (okE a co gf lk h1) (okE b co gf lk h2) hs
    · cases h
  | .x2 .tlt a b, sc, fnc, E, X, e, co, gf, lk, h => by
    unfold chkE at h
    split at h
    · simp only [Bool.and_eq_true, decide_eq_true_eq] at h
      obtain ⟨⟨hs, h1⟩, h2⟩ := h
      exact me_tlt co (okE a co gf lk h1) (okE b co gf lk h2) hs
    · cases h
  | .x2 .inr a b, sc, fnc, E, X, e, co, gf, lk, h => by
    unfold chkE at h
    split at h
    · simp only [Bool.and_eq_true, decide_eq_true_eq] at h
      obtain ⟨⟨⟨⟨⟨rfl, h1⟩, h2⟩, h3⟩, h4⟩, h5⟩ := h
      exact me_inr co gf h1 (gi_ok h2) (okE a co gf lk h4) (okE b co gf lk h5) h3
    · cases h
  | .x2 (.oeq k) a b, sc, fnc, E, X, e, co, gf, lk, h => by
    unfold chkE at h
    split at h
    · simp only [Bool.and_eq_true, decide_eq_true_eq] at h
      obtain ⟨⟨⟨hk, hs⟩, h1⟩, h2⟩ := h
      exact me_oeq co gf hk (okE a co gf lk h1) (okE b co gf lk h2) hs
    · cases h
  | .x2 .dget a b, sc, fnc, E, X, e, co, gf, lk, h => by
    unfold chkE at h
    split at h
    · simp only [Bool.and_eq_true, decide_eq_true_eq] at h
      obtain ⟨⟨⟨⟨⟨rfl, h1⟩, h2⟩, h3⟩, h4⟩, h5⟩ := h
      exact me_dget co (okE a co gf lk h4) (okE b co gf lk h5) h1 h2 h3
    · cases h
  | .x3 .dget a b c, sc, fnc, E, X, e, co, gf, lk, h => by
    unfold chkE at h
    split at h
    · simp only [Bool.and_eq_true, decide_eq_true_eq] at h
      obtain ⟨⟨⟨⟨⟨⟨⟨rfl, h1⟩, h2⟩, h3⟩, h6⟩, h4⟩, h5⟩, h7⟩ := h
      exact me_dget2 co (okE a co gf lk h4) (okE b co gf lk h5) (okE c co gf lk h7) h1 h2 h3 h6
    · cases h
  | .dd es, sc, fnc, E, X, e, co, gf, lk, h => by
    unfold chkE at h
    split at h
    · rename_i keys values _
      simp only [Bool.and_eq_true, decide_eq_true_eq] at h
      obtain ⟨h1, h2⟩ := h
      obtain ⟨q1, q2, q3, q4⟩ := okP es co gf lk h1 (pos := by assumption)
      cases keys with
      | nil =>
        have hv : values = [] := by
          cases values with
          | nil => rfl
          | cons a b => cases q4
        subst hv
        have he : es = .nil := by
          cases es <;> first | rfl | (unfold chkP at h1; cases h1; done) | skip
          all_goals
            rename_i a b
            cases b <;> first | (unfold chkP at h1; cases h1; done) | skip
        subst he
        exact me_dd0
      | cons k ks => exact me_dd q1 q2 q3 q4 (by simp) h2
    · cases h
  | .lck a e1, sc, fnc, E, X, e, co, gf, lk, h => by
    unfold chkE at h
    exact me_lck (okE e1 co gf lk h)
  | .xfl i f, sc, fnc, E, X, e, co, gf, lk, h => by
    unfold chkE at h
    obtain ⟨hx, h⟩ := and2 h
    split at h
    · simp only [Bool.and_eq_true, decide_eq_true_eq] at h
      obtain ⟨⟨⟨⟨rfl, h1⟩, h2⟩, h3⟩, h4⟩ := h
      exact me_xfl co gf lk hx h1 (vis_ok h2) (ndb_ok h3) (nb_ok h4)
    · cases h
  | .xis i q, sc, fnc, E, X, e, co, gf, lk, h => by
    unfold chkE at h
    obtain ⟨hx, h⟩ := and2 h
    split at h
    · simp only [Bool.and_eq_true, decide_eq_true_eq] at h
      obtain ⟨⟨⟨⟨⟨⟨⟨⟨⟨⟨rfl, h1⟩, h2⟩, h3⟩, h4⟩, h5⟩, h6⟩, rfl⟩, h8⟩, h9⟩, h10⟩ := h
      exact me_xis co gf lk hx h1 (gi_ok h2) h3 (vis_ok h4) (ndb_ok h5) (nb_ok h6) (gi_ok h8) (ndb_ok h9) (by simpa using h10)
    · cases h
  | .dcp own t ke ve it cond, sc, fnc, E, X, e, co, gf, lk, h => by
    unfold chkE at h
    have hx : G.xc = false := nb_ok (and2 h).1
    replace h := (and2 h).2
    split at h
    · simp only [Bool.and_eq_true, decide_eq_true_eq] at h
      obtain ⟨⟨⟨⟨⟨⟨⟨⟨h1, h2⟩, h3⟩, h4⟩, h5⟩, h6⟩, h7⟩, h8⟩, h9⟩ := h
      exact me_dcp (co.cold hx) (okI it co gf lk h5) h1 h2 h3 h4 fun X' co' => ⟨tg_ok co' h6, okC cond (co'.warm hx) gf (lk_cold hx) h7, okE ke (co'.warm hx) gf (lk_cold hx) h8, okE ve (co'.warm hx) gf (lk_cold hx) h9⟩
    · cases h
  | .nil, sc, fnc, E, X, e, co, gf, lk, h => by unfold chkE at h; cases h
  | .cons .., sc, fnc, E, X, e, co, gf, lk, h => by unfold chkE at h; cases h
  | .fl .., sc, fnc, E, X, e, co, gf, lk, h => by unfold chkE at h; cases h
  | .fc .., sc, fnc, E, X, e, co, gf, lk, h => by unfold chkE at h; cases h
  | .fs .., sc, fnc, E, X, e, co, gf, lk, h => by unfold chkE at h; cases h
  | .fli .., sc, fnc, E, X, e, co, gf, lk, h => by unfold chkE at h; cases h
  | .fso .., sc, fnc, E, X, e, co, gf, lk, h => by unfold chkE at h; cases h
  | .fca .., sc, fnc, E, X, e, co, gf, lk, h => by unfold chkE at h; cases h
  | .fre .., sc, fnc, E, X, e, co, gf, lk, h => by unfold chkE at h; cases h
  | .tru .., sc, fnc, E, X, e, co, gf, lk, h => by unfold chkE at h; cases h
  | .iv .., sc, fnc, E, X, e, co, gf, lk, h => by unfold chkE at h; cases h
  | .ir1 .., sc, fnc, E, X, e, co, gf, lk, h => by unfold chkE at h; cases h
  | .ir2 .., sc, fnc, E, X, e, co, gf, lk, h => by unfold chkE at h; cases h
  | .irn .., sc, fnc, E, X, e, co, gf, lk, h => by unfold chkE at h; cases h
  | .ien .., sc, fnc, E, X, e, co, gf, lk, h => by unfold chkE at h; cases h
  | .izip .., sc, fnc, E, X, e, co, gf, lk, h => by unfold chkE at h; cases h
  | .irv .., sc, fnc, E, X, e, co, gf, lk, h => by unfold chkE at h; cases h
  | .f1 .., sc, fnc, E, X, e, co, gf, lk, h => by unfold chkE at h; cases h
  | .f2 .., sc, fnc, E, X, e, co, gf, lk, h => by unfold chkE at h; cases h
  | .i1 .., sc, fnc, E, X, e, co, gf, lk, h => by unfold chkE at h; cases h
theorem okP : ∀ (m : ME) {sc : Scope} {fnc : Str → Bool} {E : XK} {X : Cx} {ks : List (Option Expr)} {vs : List Expr} {pos : Pos}, CO P w K mg base (G.xc, G.rp) n N sc fnc E X → GF P w K mg base ga xn G C n → Lk K ga xn G C N X → chkP N G m sc fnc ks vs = true → PPs X pos ks vs (trsOf K ga xn E C m) ∧ evenM m = true ∧ ks.all (·.isSome) = true ∧ ks.length = vs.length
  | .nil, sc, fnc, E, X, ks, vs, pos, co, gf, lk, h => by
    unfold chkP at h
    obtain ⟨h1, h2⟩ := and2 h
    obtain rfl := List.isEmpty_iff.mp h1
    obtain rfl := List.isEmpty_iff.mp h2
    exact ⟨pps_nil, rfl, rfl, rfl⟩
  | .cons k (.cons v r), sc, fnc, E, X, ks, vs, pos, co, gf, lk, h => by
    unfold chkP at h
    split at h
    · simp only [Bool.and_eq_true] at h
      obtain ⟨⟨h1, h2⟩, h3⟩ := h
      obtain ⟨q1, q2, q3, q4⟩ := okP r co gf lk h3 (pos := pos)
      exact ⟨pps_cons (okE k co gf lk h1) (okE v co gf lk h2) q1, q2, by rw [List.all_cons, q3]; rfl, by rw [List.length_cons, List.length_cons, q4]⟩
    · cases h
  | .cons k .nil, sc, fnc, E, X, ks, vs, pos, co, gf, lk, h => by unfold chkP at h; cases h
  | .cons k (.and ..), sc, fnc, E, X, ks, vs, pos, co, gf, lk, h => by unfold chkP at h; cases h
  | .cons k (.bc ..), sc, fnc, E, X, ks, vs, pos, co, gf, lk, h => by unfold chkP at h; cases h
  | .cons k (.bin ..), sc, fnc, E, X, ks, vs, pos, co, gf, lk, h => by unfold chkP at h; cases h
  | .cons k (.bl ..), sc, fnc, E, X, ks, vs, pos, co, gf, lk, h => by unfold chkP at h; cases h
  | .cons k (.bm ..), sc, fnc, E, X, ks, vs, pos, co, gf, lk, h => by unfold chkP at h; cases h
  | .cons k (.call ..), sc, fnc, E, X, ks, vs, pos, co, gf, lk, h => by unfold chkP at h; cases h
  | .cons k (.chn ..), sc, fnc, E, X, ks, vs, pos, co, gf, lk, h => by unfold chkP at h; cases h
  | .cons k (.chn3 ..), sc, fnc, E, X, ks, vs, pos, co, gf, lk, h => by unfold chkP at h; cases h
  | .cons k (.cmp ..), sc, fnc, E, X, ks, vs, pos, co, gf, lk, h => by unfold chkP at h; cases h
  | .cons k (.con ..), sc, fnc, E, X, ks, vs, pos, co, gf, lk, h => by unfold chkP at h; cases h
  | .cons k (.dcp ..), sc, fnc, E, X, ks, vs, pos, co, gf, lk, h => by unfold chkP at h; cases h
  | .cons k (.dd ..), sc, fnc, E, X, ks, vs, pos, co, gf, lk, h => by unfold chkP at h; cases h
  | .cons k (.f1 ..), sc, fnc, E, X, ks, vs, pos, co, gf, lk, h => by unfold chkP at h; cases h
  | .cons k (.f2 ..), sc, fnc, E, X, ks, vs, pos, co, gf, lk, h => by unfold chkP at h; cases h
  | .cons k (.fc ..), sc, fnc, E, X, ks, vs, pos, co, gf, lk, h => by unfold chkP at h; cases h
  | .cons k (.fca ..), sc, fnc, E, X, ks, vs, pos, co, gf, lk, h => by unfold chkP at h; cases h
  | .cons k (.fl ..), sc, fnc, E, X, ks, vs, pos, co, gf, lk, h => by unfold chkP at h; cases h
  | .cons k (.fld ..), sc, fnc, E, X, ks, vs, pos, co, gf, lk, h => by unfold chkP at h; cases h
  | .cons k (.fli ..), sc, fnc, E, X, ks, vs, pos, co, gf, lk, h => by unfold chkP at h; cases h
  | .cons k (.fre ..), sc, fnc, E, X, ks, vs, pos, co, gf, lk, h => by unfold chkP at h; cases h
  | .cons k (.frz ..), sc, fnc, E, X, ks, vs, pos, co, gf, lk, h => by unfold chkP at h; cases h
  | .cons k (.fs ..), sc, fnc, E, X, ks, vs, pos, co, gf, lk, h => by unfold chkP at h; cases h
  | .cons k (.fso ..), sc, fnc, E, X, ks, vs, pos, co, gf, lk, h => by unfold chkP at h; cases h
  | .cons k (.i1 ..), sc, fnc, E, X, ks, vs, pos, co, gf, lk, h => by unfold chkP at h; cases h
  | .cons k (.idx ..), sc, fnc, E, X, ks, vs, pos, co, gf, lk, h => by unfold chkP at h; cases h
  | .cons k (.ien ..), sc, fnc, E, X, ks, vs, pos, co, gf, lk, h => by unfold chkP at h; cases h
  | .cons k (.ife ..), sc, fnc, E, X, ks, vs, pos, co, gf, lk, h => by unfold chkP at h; cases h
  | .cons k (.int ..), sc, fnc, E, X, ks, vs, pos, co, gf, lk, h => by unfold chkP at h; cases h
  | .cons k (.ir1 ..), sc, fnc, E, X, ks, vs, pos, co, gf, lk, h => by unfold chkP at h; cases h
  | .cons k (.ir2 ..), sc, fnc, E, X, ks, vs, pos, co, gf, lk, h => by unfold chkP at h; cases h
  | .cons k (.irn ..), sc, fnc, E, X, ks, vs, pos, co, gf, lk, h => by unfold chkP at h; cases h
  | .cons k (.irv ..), sc, fnc, E, X, ks, vs, pos, co, gf, lk, h => by unfold chkP at h; cases h
  | .cons k (.iv ..), sc, fnc, E, X, ks, vs, pos, co, gf, lk, h => by unfold chkP at h; cases h
  | .cons k (.izip ..), sc, fnc, E, X, ks, vs, pos, co, gf, lk, h => by unfold chkP at h; cases h
  | .cons k (.lck ..), sc, fnc, E, X, ks, vs, pos, co, gf, lk, h => by unfold chkP at h; cases h
  | .cons k (.xfl ..), sc, fnc, E, X, ks, vs, pos, co, gf, lk, h => by unfold chkP at h; cases h
  | .cons k (.xis ..), sc, fnc, E, X, ks, vs, pos, co, gf, lk, h => by unfold chkP at h; cases h
  | .cons k (.mk ..), sc, fnc, E, X, ks, vs, pos, co, gf, lk, h => by unfold chkP at h; cases h
  | .cons k (.mth ..), sc, fnc, E, X, ks, vs, pos, co, gf, lk, h => by unfold chkP at h; cases h
  | .cons k (.neg ..), sc, fnc, E, X, ks, vs, pos, co, gf, lk, h => by unfold chkP at h; cases h
  | .cons k (.new ..), sc, fnc, E, X, ks, vs, pos, co, gf, lk, h => by unfold chkP at h; cases h
  | .cons k (.kcl ..), sc, fnc, E, X, ks, vs, pos, co, gf, lk, h => by unfold chkP at h; cases h
  | .cons k (.non), sc, fnc, E, X, ks, vs, pos, co, gf, lk, h => by unfold chkP at h; cases h
  | .cons k (.not ..), sc, fnc, E, X, ks, vs, pos, co, gf, lk, h => by unfold chkP at h; cases h
  | .cons k (.or ..), sc, fnc, E, X, ks, vs, pos, co, gf, lk, h => by unfold chkP at h; cases h
  | .cons k (.str ..), sc, fnc, E, X, ks, vs, pos, co, gf, lk, h => by unfold chkP at h; cases h
  | .cons k (.tru ..), sc, fnc, E, X, ks, vs, pos, co, gf, lk, h => by unfold chkP at h; cases h
  | .cons k (.tup ..), sc, fnc, E, X, ks, vs, pos, co, gf, lk, h => by unfold chkP at h; cases h
  | .cons k (.var ..), sc, fnc, E, X, ks, vs, pos, co, gf, lk, h => by unfold chkP at h; cases h
  | .cons k (.x1 ..), sc, fnc, E, X, ks, vs, pos, co, gf, lk, h => by unfold chkP at h; cases h
  | .cons k (.x2 ..), sc, fnc, E, X, ks, vs, pos, co, gf, lk, h => by unfold chkP at h; cases h
  | .cons k (.x3 ..), sc, fnc, E, X, ks, vs, pos, co, gf, lk, h => by unfold chkP at h; cases h
  | .and .., sc, fnc, E, X, ks, vs, pos, co, gf, lk, h => by unfold chkP at h; cases h
  | .bc .., sc, fnc, E, X, ks, vs, pos, co, gf, lk, h => by unfold chkP at h; cases h
  | .bin .., sc, fnc, E, X, ks, vs, pos, co, gf, lk, h => by unfold chkP at h; cases h
  | .bl .., sc, fnc, E, X, ks, vs, pos, co, gf, lk, h => by unfold chkP at h; cases h
  | .bm .., sc, fnc, E, X, ks, vs, pos, co, gf, lk, h => by unfold chkP at h; cases h
  | .call .., sc, fnc, E, X, ks, vs, pos, co, gf, lk, h => by unfold chkP at h; cases h
  | .chn .., sc, fnc, E, X, ks, vs, pos, co, gf, lk, h => by unfold chkP at h; cases h
  | .chn3 .., sc, fnc, E, X, ks, vs, pos, co, gf, lk, h => by unfold chkP at h; cases h
  | .cmp .., sc, fnc, E, X, ks, vs, pos, co, gf, lk, h => by unfold chkP at h; cases h
  | .con .., sc, fnc, E, X, ks, vs, pos, co, gf, lk, h => by unfold chkP at h; cases h
  | .dcp .., sc, fnc, E, X, ks, vs, pos, co, gf, lk, h => by unfold chkP at h; cases h
  | .dd .., sc, fnc, E, X, ks, vs, pos, co, gf, lk, h => by unfold chkP at h; cases h
  | .f1 .., sc, fnc, E, X, ks, vs, pos, co, gf, lk, h => by unfold chkP at h; cases h
  | .f2 .., sc, fnc, E, X, ks, vs, pos, co, gf, lk, h => by unfold chkP at h; cases h
  | .fc .., sc, fnc, E, X, ks, vs, pos, co, gf, lk, h => by unfold chkP at h; cases h
  | .fca .., sc, fnc, E, X, ks, vs, pos, co, gf, lk, h => by unfold chkP at h; cases h
  | .fl .., sc, fnc, E, X, ks, vs, pos, co, gf, lk, h => by unfold chkP at h; cases h
  | .fld .., sc, fnc, E, X, ks, vs, pos, co, gf, lk, h => by unfold chkP at h; cases h
  | .fli .., sc, fnc, E, X, ks, vs, pos, co, gf, lk, h => by unfold chkP at h; cases h
  | .fre .., sc, fnc, E, X, ks, vs, pos, co, gf, lk, h => by unfold chkP at h; cases h
  | .frz .., sc, fnc, E, X, ks, vs, pos, co, gf, lk, h => by unfold chkP at h; cases h
  | .fs .., sc, fnc, E, X, ks, vs, pos, co, gf, lk, h => by unfold chkP at h; cases h
  | .fso .., sc, fnc, E, X, ks, vs, pos, co, gf, lk, h => by unfold chkP at h; cases h
  | .i1 .., sc, fnc, E, X, ks, vs, pos, co, gf, lk, h => by unfold chkP at h; cases h
  | .idx .., sc, fnc, E, X, ks, vs, pos, co, gf, lk, h => by unfold chkP at h; cases h
  | .ien .., sc, fnc, E, X, ks, vs, pos, co, gf, lk, h => by unfold chkP at h; cases h
  | .ife .., sc, fnc, E, X, ks, vs, pos, co, gf, lk, h => by unfold chkP at h; cases h
  | .int .., sc, fnc, E, X, ks, vs, pos, co, gf, lk, h => by unfold chkP at h; cases h
  | .ir1 .., sc, fnc, E, X, ks, vs, pos, co, gf, lk, h => by unfold chkP at h; cases h
  | .ir2 .., sc, fnc, E, X, ks, vs, pos, co, gf, lk, h => by unfold chkP at h; cases h
  | .irn .., sc, fnc, E, X, ks, vs, pos, co, gf, lk, h => by unfold chkP at h; cases h
  | .irv .., sc, fnc, E, X, ks, vs, pos, co, gf, lk, h => by unfold chkP at h; cases h
  | .iv .., sc, fnc, E, X, ks, vs, pos, co, gf, lk, h => by unfold chkP at h; cases h
  | .izip .., sc, fnc, E, X, ks, vs, pos, co, gf, lk, h => by unfold chkP at h; cases h
  | .lck .., sc, fnc, E, X, ks, vs, pos, co, gf, lk, h => by unfold chkP at h; cases h
  | .xfl .., sc, fnc, E, X, ks, vs, pos, co, gf, lk, h => by unfold chkP at h; cases h
  | .xis .., sc, fnc, E, X, ks, vs, pos, co, gf, lk, h => by unfold chkP at h; cases h
  | .mk .., sc, fnc, E, X, ks, vs, pos, co, gf, lk, h => by unfold chkP at h; cases h
  | .mth .., sc, fnc, E, X, ks, vs, pos, co, gf, lk, h => by unfold chkP at h; cases h
  | .neg .., sc, fnc, E, X, ks, vs, pos, co, gf, lk, h => by unfold chkP at h; cases h
  | .new .., sc, fnc, E, X, ks, vs, pos, co, gf, lk, h => by unfold chkP at h; cases h
  | .kcl .., sc, fnc, E, X, ks, vs, pos, co, gf, lk, h => by unfold chkP at h; cases h
  | .non, sc, fnc, E, X, ks, vs, pos, co, gf, lk, h => by unfold chkP at h; cases h
  | .not .., sc, fnc, E, X, ks, vs, pos, co, gf, lk, h => by unfold chkP at h; cases h
  | .or .., sc, fnc, E, X, ks, vs, pos, co, gf, lk, h => by unfold chkP at h; cases h
  | .str .., sc, fnc, E, X, ks, vs, pos, co, gf, lk, h => by unfold chkP at h; cases h
  | .tru .., sc, fnc, E, X, ks, vs, pos, co, gf, lk, h => by unfold chkP at h; cases h
  | .tup .., sc, fnc, E, X, ks, vs, pos, co, gf, lk, h => by unfold chkP at h; cases h
  | .var .., sc, fnc, E, X, ks, vs, pos, co, gf, lk, h => by unfold chkP at h; cases h
  | .x1 .., sc, fnc, E, X, ks, vs, pos, co, gf, lk, h => by unfold chkP at h; cases h
  | .x2 .., sc, fnc, E, X, ks, vs, pos, co, gf, lk, h => by unfold chkP at h; cases h
  | .x3 .., sc, fnc, E, X, ks, vs, pos, co, gf, lk, h => by unfold chkP at h; cases h
theorem okL : ∀ (m : ME) {sc : Scope} {fnc : Str → Bool} {E : XK} {X : Cx} {xs : List Expr}, CO P w K mg base (G.xc, G.rp) n N sc fnc E X → GF P w K mg base ga xn G C n → Lk K ga xn G C N X → chkL N G m sc fnc xs = true → PA X xs (TLm K ga xn E C m) ∧ (∀ e x, m = .cons e .nil → xs = [x] → PE X x (TEm K ga xn E C e)) ∧ ∀ kws : List Keyword, kws.map (·.value) = xs → PK X kws (TLm K ga xn E C m)
  | .nil, sc, fnc, E, X, xs, co, gf, lk, h => by
    unfold chkL at h
    cases xs with
    | nil => exact ⟨ma_nil, (fun _ _ e => by cases e), fun kws e => by cases kws with
      | nil => exact mk_nil
      | cons _ _ => cases e⟩
    | cons a b => cases h
  | .cons e es, sc, fnc, E, X, xs, co, gf, lk, h => by
    unfold chkL at h
    split at h
    · simp only [Bool.and_eq_true, decide_eq_true_eq] at h
      obtain ⟨⟨h1, h2⟩, h3⟩ := h
      have he := okE e co gf lk h2
      have hes := okL es co gf lk h3
      refine ⟨ma_cons he hes.1 h1, fun e' x' q1 q2 => ?_, fun kws q => ?_⟩
      · injection q1 with q1 _
        injection q2 with q2 _
        subst q1 q2
        exact he
      · cases kws with
        | nil => cases q
        | cons k kws =>
          obtain ⟨nm, ke, kp⟩ := k
          rw [List.map_cons] at q
          injection q with q1 q2
          subst q1
          exact mk_cons he (hes.2.2 kws q2)
    · cases h
  | .var .., sc, fnc, E, X, xs, co, gf, lk, h => by unfold chkL at h; cases h
  | .int .., sc, fnc, E, X, xs, co, gf, lk, h => by unfold chkL at h; cases h
  | .str .., sc, fnc, E, X, xs, co, gf, lk, h => by unfold chkL at h; cases h
  | .bl .., sc, fnc, E, X, xs, co, gf, lk, h => by unfold chkL at h; cases h
  | .non, sc, fnc, E, X, xs, co, gf, lk, h => by unfold chkL at h; cases h
  | .con .., sc, fnc, E, X, xs, co, gf, lk, h => by unfold chkL at h; cases h
  | .bin .., sc, fnc, E, X, xs, co, gf, lk, h => by unfold chkL at h; cases h
  | .neg .., sc, fnc, E, X, xs, co, gf, lk, h => by unfold chkL at h; cases h
  | .not .., sc, fnc, E, X, xs, co, gf, lk, h => by unfold chkL at h; cases h
  | .cmp .., sc, fnc, E, X, xs, co, gf, lk, h => by unfold chkL at h; cases h
  | .chn .., sc, fnc, E, X, xs, co, gf, lk, h => by unfold chkL at h; cases h
  | .chn3 .., sc, fnc, E, X, xs, co, gf, lk, h => by unfold chkL at h; cases h
  | .and .., sc, fnc, E, X, xs, co, gf, lk, h => by unfold chkL at h; cases h
  | .or .., sc, fnc, E, X, xs, co, gf, lk, h => by unfold chkL at h; cases h
  | .ife .., sc, fnc, E, X, xs, co, gf, lk, h => by unfold chkL at h; cases h
  | .tup .., sc, fnc, E, X, xs, co, gf, lk, h => by unfold chkL at h; cases h
  | .idx .., sc, fnc, E, X, xs, co, gf, lk, h => by unfold chkL at h; cases h
  | .mk .., sc, fnc, E, X, xs, co, gf, lk, h => by unfold chkL at h; cases h
  | .frz .., sc, fnc, E, X, xs, co, gf, lk, h => by unfold chkL at h; cases h
  | .call .., sc, fnc, E, X, xs, co, gf, lk, h => by unfold chkL at h; cases h
  | .bc .., sc, fnc, E, X, xs, co, gf, lk, h => by unfold chkL at h; cases h
  | .mth .., sc, fnc, E, X, xs, co, gf, lk, h => by unfold chkL at h; cases h
  | .bm .., sc, fnc, E, X, xs, co, gf, lk, h => by unfold chkL at h; cases h
  | .new .., sc, fnc, E, X, xs, co, gf, lk, h => by unfold chkL at h; cases h
  | .kcl .., sc, fnc, E, X, xs, co, gf, lk, h => by unfold chkL at h; cases h
  | .fld .., sc, fnc, E, X, xs, co, gf, lk, h => by unfold chkL at h; cases h
  | .fl .., sc, fnc, E, X, xs, co, gf, lk, h => by unfold chkL at h; cases h
  | .fc .., sc, fnc, E, X, xs, co, gf, lk, h => by unfold chkL at h; cases h
  | .fs .., sc, fnc, E, X, xs, co, gf, lk, h => by unfold chkL at h; cases h
  | .fli .., sc, fnc, E, X, xs, co, gf, lk, h => by unfold chkL at h; cases h
  | .fso .., sc, fnc, E, X, xs, co, gf, lk, h => by unfold chkL at h; cases h
  | .fca .., sc, fnc, E, X, xs, co, gf, lk, h => by unfold chkL at h; cases h
  | .fre .., sc, fnc, E, X, xs, co, gf, lk, h => by unfold chkL at h; cases h
  | .tru .., sc, fnc, E, X, xs, co, gf, lk, h => by unfold chkL at h; cases h
  | .iv .., sc, fnc, E, X, xs, co, gf, lk, h => by unfold chkL at h; cases h
  | .ir1 .., sc, fnc, E, X, xs, co, gf, lk, h => by unfold chkL at h; cases h
  | .ir2 .., sc, fnc, E, X, xs, co, gf, lk, h => by unfold chkL at h; cases h
  | .irn .., sc, fnc, E, X, xs, co, gf, lk, h => by unfold chkL at h; cases h
  | .ien .., sc, fnc, E, X, xs, co, gf, lk, h => by unfold chkL at h; cases h
  | .izip .., sc, fnc, E, X, xs, co, gf, lk, h => by unfold chkL at h; cases h
  | .irv .., sc, fnc, E, X, xs, co, gf, lk, h => by unfold chkL at h; cases h
  | .x1 .., sc, fnc, E, X, xs, co, gf, lk, h => by unfold chkL at h; cases h
  | .x2 .., sc, fnc, E, X, xs, co, gf, lk, h => by unfold chkL at h; cases h
  | .x3 .., sc, fnc, E, X, xs, co, gf, lk, h => by unfold chkL at h; cases h
  | .dd .., sc, fnc, E, X, xs, co, gf, lk, h => by unfold chkL at h; cases h
  | .lck .., sc, fnc, E, X, xs, co, gf, lk, h => by unfold chkL at h; cases h
  | .xfl .., sc, fnc, E, X, xs, co, gf, lk, h => by unfold chkL at h; cases h
  | .xis .., sc, fnc, E, X, xs, co, gf, lk, h => by unfold chkL at h; cases h
  | .dcp .., sc, fnc, E, X, xs, co, gf, lk, h => by unfold chkL at h; cases h
  | .f1 .., sc, fnc, E, X, xs, co, gf, lk, h => by unfold chkL at h; cases h
  | .f2 .., sc, fnc, E, X, xs, co, gf, lk, h => by unfold chkL at h; cases h
  | .i1 .., sc, fnc, E, X, xs, co, gf, lk, h => by unfold chkL at h; cases h
theorem okT : ∀ (m : ME) {sc : Scope} {fnc : Str → Bool} {E : XK} {X : Cx} {e : Expr}, CO P w K mg base (G.xc, G.rp) n N sc fnc E X → GF P w K mg base ga xn G C n → Lk K ga xn G C N X → chkT N G m sc fnc e = true → PT X e (TTm K ga xn E C m)
  | .and a b, sc, fnc, E, X, e, co, gf, lk, h => by
    unfold chkT at h
    split at h
    · have h := and2 h
      exact (mw_and (okT a co gf lk h.1) (pw_and1 (okT b co gf lk h.2))).pt
    · have h := and2 h
      exact (mw_and (okT a co gf lk h.1) (okW b co gf lk h.2)).pt
    · cases h
  | .or a b, sc, fnc, E, X, e, co, gf, lk, h => by
    unfold chkT at h
    split at h
    · have h := and2 h
      exact (mw_or (okT a co gf lk h.1) (pw_or1 (okT b co gf lk h.2))).pt
    · have h := and2 h
      exact (mw_or (okT a co gf lk h.1) (okW b co gf lk h.2)).pt
    · cases h
  | .not a, sc, fnc, E, X, e, co, gf, lk, h => by
    unfold chkT at h
    split at h
    · exact mt_not (okT a co gf lk h)
    · cases h
  | .cmp op a b, sc, fnc, E, X, e, co, gf, lk, h => by
    unfold chkT at h
    split at h
    · simp only [Bool.and_eq_true, decide_eq_true_eq] at h
      obtain ⟨⟨⟨rfl, hs⟩, h1⟩, h2⟩ := h
      exact mt_cmp co (okE a co gf lk h1) (okE b co gf lk h2) hs
    · cases h
  | .chn o1 o2 a b c, sc, fnc, E, X, e, co, gf, lk, h => by
    unfold chkT at h
    split at h
    · simp only [Bool.and_eq_true, decide_eq_true_eq] at h
      obtain ⟨⟨⟨⟨⟨rfl, rfl⟩, hs⟩, h1⟩, h2⟩, h3⟩ := h
      exact mt_chn co (okE a co gf lk h1) (okE b co gf lk h2) (okE c co gf lk h3) hs
    · cases h
  | .tru a, sc, fnc, E, X, e, co, gf, lk, h => by
    unfold chkT at h
    have h := and2 h
    exact mt_tru co (okE a co gf lk h.2) h.1
  | .x2 .din a b, sc, fnc, E, X, e, co, gf, lk, h => by
    unfold chkT at h
    split at h
    · simp only [Bool.and_eq_true, decide_eq_true_eq] at h
      obtain ⟨⟨hs, h1⟩, h2⟩ := h
      exact mt_din co (okE a co gf lk h1) (okE b co gf lk h2) hs
    · cases h
  | .x2 .dnin a b, sc, fnc, E, X, e, co, gf, lk, h => by
    unfold chkT at h
    split at h
    · simp only [Bool.and_eq_true, decide_eq_true_eq] at h
      obtain ⟨⟨hs, h1⟩, h2⟩ := h
      exact mt_dnin co (okE a co gf lk h1) (okE b co gf lk h2) hs
    · cases h
  | .x2 .deq a b, sc, fnc, E, X, e, co, gf, lk, h => by
    unfold chkT at h
    split at h
    · simp only [Bool.and_eq_true, decide_eq_true_eq] at h
      obtain ⟨⟨hs, h1⟩, h2⟩ := h
      exact mt_deq co (okE a co gf lk h1) (okE b co gf lk h2) hs
    · cases h
  | .x2 .dne a b, sc, fnc, E, X, e, co, gf, lk, h => by
    unfold chkT at h
    split at h
    · simp only [Bool.and_eq_true, decide_eq_true_eq] at h
      obtain ⟨⟨hs, h1⟩, h2⟩ := h
      exact mt_dne co (okE a co gf lk h1) (okE b co gf lk h2) hs
    · cases h
  | .x2 (.tin x ks) a b, sc, fnc, E, X, e, co, gf, lk, h => by
    unfold chkT at h
    split at h
    · simp only [Bool.and_eq_true, decide_eq_true_eq, List.any_eq_true] at h
      obtain ⟨⟨⟨⟨rfl, h1⟩, h2⟩, h3⟩, h4⟩ := h
      exact mt_tin co gf (by obtain ⟨t, ht, e1, e2⟩ := h1; exact ⟨t, ht, e1, e2⟩) (gi_ok h2) (ndb_ok h3) (okE a co gf lk h4)
    · cases h
  | .x2 (.tnin ..) .., sc, fnc, E, X, e, co, gf, lk, h => by unfold chkT at h; cases h
  | .x2 .tgt a b, sc, fnc, E, X, e, co, gf, lk, h => by
    unfold chkT at h
    split at h
    · simp only [Bool.and_eq_true, decide_eq_true_eq] at h
      obtain ⟨⟨hs, h1⟩, h2⟩ := h
      exact mt_tgt co (okE a co gf lk h1) (okE b co gf lk h2) hs
    · cases h
  | .x2 .tlt a b, sc, fnc, E, X, e, co, gf, lk, h => by
    unfold chkT at h
    split at h
    · simp only [Bool.and_eq_true, decide_eq_true_eq] at h
      obtain ⟨⟨hs, h1⟩, h2⟩ := h
      exact mt_tlt co (okE a co gf lk h1) (okE b co gf lk h2) hs
    · cases h
  | .x2 .inr a b, sc, fnc, E, X, e, co, gf, lk, h => by
    unfold chkT at h
    split at h
    · simp only [Bool.and_eq_true, decide_eq_true_eq] at h
      obtain ⟨⟨⟨⟨⟨rfl, h1⟩, h2⟩, h3⟩, h4⟩, h5⟩ := h
      exact mt_inr co gf h1 (gi_ok h2) (okE a co gf lk h4) (okE b co gf lk h5) h3
    · cases h
  | .chn3 .., sc, fnc, E, X, e, co, gf, lk, h => by unfold chkT at h; cases h
  | .x2 (.oeq k) a b, sc, fnc, E, X, e, co, gf, lk, h => by
    unfold chkT at h
    split at h
    · simp only [Bool.and_eq_true, decide_eq_true_eq] at h
      obtain ⟨⟨⟨hk, hs⟩, h1⟩, h2⟩ := h
      exact mt_oeq co gf hk (okE a co gf lk h1) (okE b co gf lk h2) hs
    · cases h
  | .x2 .dix .., sc, fnc, E, X, e, co, gf, lk, h => by unfold chkT at h; cases h
  | .x2 .tsl .., sc, fnc, E, X, e, co, gf, lk, h => by unfold chkT at h; cases h
  | .x2 .tpx .., sc, fnc, E, X, e, co, gf, lk, h => by unfold chkT at h; cases h
  | .x2 .dget .., sc, fnc, E, X, e, co, gf, lk, h => by unfold chkT at h; cases h
  | .var .., sc, fnc, E, X, e, co, gf, lk, h => by unfold chkT at h; cases h
  | .int .., sc, fnc, E, X, e, co, gf, lk, h => by unfold chkT at h; cases h
  | .str .., sc, fnc, E, X, e, co, gf, lk, h => by unfold chkT at h; cases h
  | .bl .., sc, fnc, E, X, e, co, gf, lk, h => by unfold chkT at h; cases h
  | .non, sc, fnc, E, X, e, co, gf, lk, h => by unfold chkT at h; cases h
  | .con .., sc, fnc, E, X, e, co, gf, lk, h => by unfold chkT at h; cases h
  | .bin .., sc, fnc, E, X, e, co, gf, lk, h => by unfold chkT at h; cases h
  | .neg .., sc, fnc, E, X, e, co, gf, lk, h => by unfold chkT at h; cases h
  | .ife .., sc, fnc, E, X, e, co, gf, lk, h => by unfold chkT at h; cases h
  | .tup .., sc, fnc, E, X, e, co, gf, lk, h => by unfold chkT at h; cases h
  | .idx .., sc, fnc, E, X, e, co, gf, lk, h => by unfold chkT at h; cases h
  | .mk .., sc, fnc, E, X, e, co, gf, lk, h => by unfold chkT at h; cases h
  | .frz .., sc, fnc, E, X, e, co, gf, lk, h => by unfold chkT at h; cases h
  | .call .., sc, fnc, E, X, e, co, gf, lk, h => by unfold chkT at h; cases h
  | .bc .., sc, fnc, E, X, e, co, gf, lk, h => by unfold chkT at h; cases h
  | .mth .., sc, fnc, E, X, e, co, gf, lk, h => by unfold chkT at h; cases h
  | .bm .., sc, fnc, E, X, e, co, gf, lk, h => by unfold chkT at h; cases h
  | .new .., sc, fnc, E, X, e, co, gf, lk, h => by unfold chkT at h; cases h
  | .kcl .., sc, fnc, E, X, e, co, gf, lk, h => by unfold chkT at h; cases h
  | .fld .., sc, fnc, E, X, e, co, gf, lk, h => by unfold chkT at h; cases h
  | .nil, sc, fnc, E, X, e, co, gf, lk, h => by unfold chkT at h; cases h
  | .cons .., sc, fnc, E, X, e, co, gf, lk, h => by unfold chkT at h; cases h
  | .fl .., sc, fnc, E, X, e, co, gf, lk, h => by unfold chkT at h; cases h
  | .fc .., sc, fnc, E, X, e, co, gf, lk, h => by unfold chkT at h; cases h
  | .fs .., sc, fnc, E, X, e, co, gf, lk, h => by unfold chkT at h; cases h
  | .fli .., sc, fnc, E, X, e, co, gf, lk, h => by unfold chkT at h; cases h
  | .fso .., sc, fnc, E, X, e, co, gf, lk, h => by unfold chkT at h; cases h
  | .fca .., sc, fnc, E, X, e, co, gf, lk, h => by unfold chkT at h; cases h
  | .fre .., sc, fnc, E, X, e, co, gf, lk, h => by unfold chkT at h; cases h
  | .iv .., sc, fnc, E, X, e, co, gf, lk, h => by unfold chkT at h; cases h
  | .ir1 .., sc, fnc, E, X, e, co, gf, lk, h => by unfold chkT at h; cases h
  | .ir2 .., sc, fnc, E, X, e, co, gf, lk, h => by unfold chkT at h; cases h
  | .irn .., sc, fnc, E, X, e, co, gf, lk, h => by unfold chkT at h; cases h
  | .ien .., sc, fnc, E, X, e, co, gf, lk, h => by unfold chkT at h; cases h
  | .izip .., sc, fnc, E, X, e, co, gf, lk, h => by unfold chkT at h; cases h
  | .irv .., sc, fnc, E, X, e, co, gf, lk, h => by unfold chkT at h; cases h
  | .x1 .., sc, fnc, E, X, e, co, gf, lk, h => by unfold chkT at h; cases h
  | .x3 .., sc, fnc, E, X, e, co, gf, lk, h => by unfold chkT at h; cases h
  | .dd .., sc, fnc, E, X, e, co, gf, lk, h => by unfold chkT at h; cases h
  | .lck .., sc, fnc, E, X, e, co, gf, lk, h => by unfold chkT at h; cases h
  | .xfl .., sc, fnc, E, X, e, co, gf, lk, h => by unfold chkT at h; cases h
  | .xis .., sc, fnc, E, X, e, co, gf, lk, h => by unfold chkT at h; cases h
  | .dcp .., sc, fnc, E, X, e, co, gf, lk, h => by unfold chkT at h; cases h
  | .f1 .., sc, fnc, E, X, e, co, gf, lk, h => by unfold chkT at h; cases h
  | .f2 .., sc, fnc, E, X, e, co, gf, lk, h => by unfold chkT at h; cases h
  | .i1 .., sc, fnc, E, X, e, co, gf, lk, h => by unfold chkT at h; cases h
theorem okW : ∀ (m : ME) {sc : Scope} {fnc : Str → Bool} {E : XK} {X : Cx} {k : Bool} {es : List Expr} {pos : Pos}, CO P w K mg base (G.xc, G.rp) n N sc fnc E X → GF P w K mg base ga xn G C n → Lk K ga xn G C N X → chkW N G m sc fnc k es = true → PW X (.BoolOp (if k = true then .And else .Or) es pos) (TTm K ga xn E C m)
  | .and a b, sc, fnc, E, X, k, es, pos, co, gf, lk, h => by
    unfold chkW at h
    split at h
    · have h := and2 h
      exact mw_and (okT a co gf lk h.1) (pw_and1 (okT b co gf lk h.2))
    · have h := and2 h
      exact mw_and (okT a co gf lk h.1) (okW b co gf lk h.2)
    · cases h
  | .or a b, sc, fnc, E, X, k, es, pos, co, gf, lk, h => by
    unfold chkW at h
    split at h
    · have h := and2 h
      exact mw_or (okT a co gf lk h.1) (pw_or1 (okT b co gf lk h.2))
    · have h := and2 h
      exact mw_or (okT a co gf lk h.1) (okW b co gf lk h.2)
    · cases h
  | .var .., sc, fnc, E, X, k, es, pos, co, gf, lk, h => by unfold chkW at h; cases h
  | .int .., sc, fnc, E, X, k, es, pos, co, gf, lk, h => by unfold chkW at h; cases h
  | .str .., sc, fnc, E, X, k, es, pos, co, gf, lk, h => by unfold chkW at h; cases h
  | .bl .., sc, fnc, E, X, k, es, pos, co, gf, lk, h => by unfold chkW at h; cases h
  | .non, sc, fnc, E, X, k, es, pos, co, gf, lk, h => by unfold chkW at h; cases h
  | .con .., sc, fnc, E, X, k, es, pos, co, gf, lk, h => by unfold chkW at h; cases h
  | .bin .., sc, fnc, E, X, k, es, pos, co, gf, lk, h => by unfold chkW at h; cases h
  | .neg .., sc, fnc, E, X, k, es, pos, co, gf, lk, h => by unfold chkW at h; cases h
  | .not .., sc, fnc, E, X, k, es, pos, co, gf, lk, h => by unfold chkW at h; cases h
  | .cmp .., sc, fnc, E, X, k, es, pos, co, gf, lk, h => by unfold chkW at h; cases h
  | .chn .., sc, fnc, E, X, k, es, pos, co, gf, lk, h => by unfold chkW at h; cases h
  | .chn3 .., sc, fnc, E, X, k, es, pos, co, gf, lk, h => by unfold chkW at h; cases h
  | .ife .., sc, fnc, E, X, k, es, pos, co, gf, lk, h => by unfold chkW at h; cases h
  | .tup .., sc, fnc, E, X, k, es, pos, co, gf, lk, h => by unfold chkW at h; cases h
  | .idx .., sc, fnc, E, X, k, es, pos, co, gf, lk, h => by unfold chkW at h; cases h
  | .mk .., sc, fnc, E, X, k, es, pos, co, gf, lk, h => by unfold chkW at h; cases h
  | .frz .., sc, fnc, E, X, k, es, pos, co, gf, lk, h => by unfold chkW at h; cases h
  | .call .., sc, fnc, E, X, k, es, pos, co, gf, lk, h => by unfold chkW at h; cases h
  | .bc .., sc, fnc, E, X, k, es, pos, co, gf, lk, h => by unfold chkW at h; cases h
  | .mth .., sc, fnc, E, X, k, es, pos, co, gf, lk, h => by unfold chkW at h; cases h
  | .bm .., sc, fnc, E, X, k, es, pos, co, gf, lk, h => by unfold chkW at h; cases h
  | .new .., sc, fnc, E, X, k, es, pos, co, gf, lk, h => by unfold chkW at h; cases h
  | .kcl .., sc, fnc, E, X, k, es, pos, co, gf, lk, h => by unfold chkW at h; cases h
  | .fld .., sc, fnc, E, X, k, es, pos, co, gf, lk, h => by unfold chkW at h; cases h
  | .nil, sc, fnc, E, X, k, es, pos, co, gf, lk, h => by unfold chkW at h; cases h
  | .cons .., sc, fnc, E, X, k, es, pos, co, gf, lk, h => by unfold chkW at h; cases h
  | .fl .., sc, fnc, E, X, k, es, pos, co, gf, lk, h => by unfold chkW at h; cases h
  | .fc .., sc, fnc, E, X, k, es, pos, co, gf, lk, h => by unfold chkW at h; cases h
  | .fs .., sc, fnc, E, X, k, es, pos, co, gf, lk, h => by unfold chkW at h; cases h
  | .fli .., sc, fnc, E, X, k, es, pos, co, gf, lk, h => by unfold chkW at h; cases h
  | .fso .., sc, fnc, E, X, k, es, pos, co, gf, lk, h => by unfold chkW at h; cases h
  | .fca .., sc, fnc, E, X, k, es, pos, co, gf, lk, h => by unfold chkW at h; cases h
  | .fre .., sc, fnc, E, X, k, es, pos, co, gf, lk, h => by unfold chkW at h; cases h
  | .tru .., sc, fnc, E, X, k, es, pos, co, gf, lk, h => by unfold chkW at h; cases h
  | .iv .., sc, fnc, E, X, k, es, pos, co, gf, lk, h => by unfold chkW at h; cases h
  | .ir1 .., sc, fnc, E, X, k, es, pos, co, gf, lk, h => by unfold chkW at h; cases h
  | .ir2 .., sc, fnc, E, X, k, es, pos, co, gf, lk, h => by unfold chkW at h; cases h
  | .irn .., sc, fnc, E, X, k, es, pos, co, gf, lk, h => by unfold chkW at h; cases h
  | .ien .., sc, fnc, E, X, k, es, pos, co, gf, lk, h => by unfold chkW at h; cases h
  | .izip .., sc, fnc, E, X, k, es, pos, co, gf, lk, h => by unfold chkW at h; cases h
  | .irv .., sc, fnc, E, X, k, es, pos, co, gf, lk, h => by unfold chkW at h; cases h
  | .x1 .., sc, fnc, E, X, k, es, pos, co, gf, lk, h => by unfold chkW at h; cases h
  | .x2 .., sc, fnc, E, X, k, es, pos, co, gf, lk, h => by unfold chkW at h; cases h
  | .x3 .., sc, fnc, E, X, k, es, pos, co, gf, lk, h => by unfold chkW at h; cases h
  | .dd .., sc, fnc, E, X, k, es, pos, co, gf, lk, h => by unfold chkW at h; cases h
  | .lck .., sc, fnc, E, X, k, es, pos, co, gf, lk, h => by unfold chkW at h; cases h
  | .xfl .., sc, fnc, E, X, k, es, pos, co, gf, lk, h => by unfold chkW at h; cases h
  | .xis .., sc, fnc, E, X, k, es, pos, co, gf, lk, h => by unfold chkW at h; cases h
  | .dcp .., sc, fnc, E, X, k, es, pos, co, gf, lk, h => by unfold chkW at h; cases h
  | .f1 .., sc, fnc, E, X, k, es, pos, co, gf, lk, h => by unfold chkW at h; cases h
  | .f2 .., sc, fnc, E, X, k, es, pos, co, gf, lk, h => by unfold chkW at h; cases h
  | .i1 .., sc, fnc, E, X, k, es, pos, co, gf, lk, h => by unfold chkW at h; cases h
theorem okF : ∀ (m : ME) {sc : Scope} {fnc : Str → Bool} {E : XK} {X : Cx} {e : Expr}, CO P w K mg base (G.xc, G.rp) n N sc fnc E X → GF P w K mg base ga xn G C n → Lk K ga xn G C N X → chkF N G m sc fnc e = true → PE X e (TFm K ga xn E C m)
  | .fl es, sc, fnc, E, X, e, co, gf, lk, h => by
    unfold chkF at h
    split at h
    · exact mf_fl (okL es co gf lk h).1
    · cases h
  | .fc own t el it cond, sc, fnc, E, X, e, co, gf, lk, h => by
    unfold chkF at h
    have hx : G.xc = false := nb_ok (and2 h).1
    replace h := (and2 h).2
    split at h
    · simp only [Bool.and_eq_true, decide_eq_true_eq] at h
      obtain ⟨⟨⟨⟨⟨⟨⟨h1, h2⟩, h3⟩, h4⟩, h5⟩, h6⟩, h7⟩, h8⟩ := h
      exact mf_fc (co.cold hx) (okI it co gf lk h5) h1 h2 h3 h4 fun X' co' => ⟨tg_ok co' h6, okC cond (co'.warm hx) gf (lk_cold hx) h7, okE el (co'.warm hx) gf (lk_cold hx) h8⟩
    · cases h
  | .fs a lo hi, sc, fnc, E, X, e, co, gf, lk, h => by
    unfold chkF at h
    split at h
    · simp only [Bool.and_eq_true, decide_eq_true_eq] at h
      obtain ⟨⟨h1, h2⟩, h3⟩ := h
      exact mf_fs co (okE a co gf lk h1) (okO lo co gf lk h2) (okO hi co gf lk h3)
    · cases h
  | .fli a, sc, fnc, E, X, e, co, gf, lk, h => by
    unfold chkF at h
    split at h
    · simp only [Bool.and_eq_true, decide_eq_true_eq] at h
      obtain ⟨⟨⟨⟨rfl, h1⟩, h2⟩, h3⟩, h4⟩ := h
      exact mf_fli co gf h1 (gi_ok h2) (okE a co gf lk h4) h3
    · cases h
  | .fso a, sc, fnc, E, X, e, co, gf, lk, h => by
    unfold chkF at h
    split at h
    · simp only [Bool.and_eq_true, decide_eq_true_eq] at h
      obtain ⟨⟨⟨⟨rfl, h1⟩, h2⟩, h3⟩, h4⟩ := h
      exact mf_fso co gf h1 (gi_ok h2) (okE a co gf lk h4) h3
    · cases h
  | .fca a b, sc, fnc, E, X, e, co, gf, lk, h => by
    unfold chkF at h
    split at h
    · have h := and2 h
      exact mf_fca (okE a co gf lk h.1) (okE b co gf lk h.2)
    · cases h
  | .fre a b, sc, fnc, E, X, e, co, gf, lk, h => by
    unfold chkF at h
    split at h
    · have h := and2 h
      exact mf_fre (okE a co gf lk h.1) (okE b co gf lk h.2)
    · cases h
  | .f1 .sk a, sc, fnc, E, X, e, co, gf, lk, h => by
    unfold chkF at h
    have hx : G.xc = false := nb_ok (and2 h).1
    replace h := (and2 h).2
    split at h
    · simp only [Bool.and_eq_true, decide_eq_true_eq] at h
      obtain ⟨⟨⟨⟨rfl, h1⟩, h2⟩, h3⟩, h4⟩ := h
      exact mf_sk (co.cold hx) gf h1 (gi_ok h2) (okE a co gf lk h4) h3
    · cases h
  | .f1 .pr a, sc, fnc, E, X, e, co, gf, lk, h => by
    unfold chkF at h
    split at h
    · simp only [Bool.and_eq_true, decide_eq_true_eq] at h
      obtain ⟨⟨⟨⟨rfl, h1⟩, h2⟩, h3⟩, h4⟩ := h
      exact mf_prs co gf h1 (gi_ok h2) (okE a co gf lk h4) h3
    · cases h
  | .f1 .rev a, sc, fnc, E, X, e, co, gf, lk, h => by
    unfold chkF at h
    split at h
    · exact mf_rev co (okE a co gf lk h)
    · cases h
  | .f1 .rg1 a, sc, fnc, E, X, e, co, gf, lk, h => by
    unfold chkF at h
    have hx : G.xc = false := nb_ok (and2 h).1
    replace h := (and2 h).2
    split at h
    · simp only [Bool.and_eq_true, decide_eq_true_eq] at h
      obtain ⟨⟨⟨⟨⟨⟨⟨rfl, rfl⟩, h1⟩, h2⟩, h3⟩, h4⟩, h5⟩, h6⟩ := h
      exact mf_rg1 (co.cold hx) gf h1 (gi_ok h2) h3 (gi_ok h4) (okE a co gf lk h6) h5
    · cases h
  | .f2 .rg2 a b, sc, fnc, E, X, e, co, gf, lk, h => by
    unfold chkF at h
    have hx : G.xc = false := nb_ok (and2 h).1
    replace h := (and2 h).2
    split at h
    · simp only [Bool.and_eq_true, decide_eq_true_eq] at h
      obtain ⟨⟨⟨⟨⟨⟨⟨⟨⟨rfl, rfl⟩, h1⟩, h2⟩, h3⟩, h4⟩, h5⟩, h6⟩, h7⟩, h8⟩ := h
      exact mf_rg2 (co.cold hx) gf h1 (gi_ok h2) h3 (gi_ok h4) (okE a co gf lk h7) (okE b co gf lk h8) h5 h6
    · cases h
  | .f2 .rg0s a b, sc, fnc, E, X, e, co, gf, lk, h => by
    unfold chkF at h
    have hx : G.xc = false := nb_ok (and2 h).1
    replace h := (and2 h).2
    split at h
    · simp only [Bool.and_eq_true, decide_eq_true_eq] at h
      obtain ⟨⟨⟨⟨⟨⟨⟨⟨⟨rfl, rfl⟩, h1⟩, h2⟩, h3⟩, h4⟩, h5⟩, h6⟩, h7⟩, h8⟩ := h
      exact mf_rg0s (co.cold hx) gf h1 (gi_ok h2) h3 (gi_ok h4) (okE a co gf lk h7) (okE b co gf lk h8) h5 h6
    · cases h
  | .var .., sc, fnc, E, X, e, co, gf, lk, h => by unfold chkF at h; cases h
  | .int .., sc, fnc, E, X, e, co, gf, lk, h => by unfold chkF at h; cases h
  | .str .., sc, fnc, E, X, e, co, gf, lk, h => by unfold chkF at h; cases h
  | .bl .., sc, fnc, E, X, e, co, gf, lk, h => by unfold chkF at h; cases h
  | .non, sc, fnc, E, X, e, co, gf, lk, h => by unfold chkF at h; cases h
  | .con .., sc, fnc, E, X, e, co, gf, lk, h => by unfold chkF at h; cases h
  | .bin .., sc, fnc, E, X, e, co, gf, lk, h => by unfold chkF at h; cases h
  | .neg .., sc, fnc, E, X, e, co, gf, lk, h => by unfold chkF at h; cases h
  | .not .., sc, fnc, E, X, e, co, gf, lk, h => by unfold chkF at h; cases h
  | .cmp .., sc, fnc, E, X, e, co, gf, lk, h => by unfold chkF at h; cases h
  | .chn .., sc, fnc, E, X, e, co, gf, lk, h => by unfold chkF at h; cases h
  | .chn3 .., sc, fnc, E, X, e, co, gf, lk, h => by unfold chkF at h; cases h
  | .and .., sc, fnc, E, X, e, co, gf, lk, h => by unfold chkF at h; cases h
  | .or .., sc, fnc, E, X, e, co, gf, lk, h => by unfold chkF at h; cases h
  | .ife .., sc, fnc, E, X, e, co, gf, lk, h => by unfold chkF at h; cases h
  | .tup .., sc, fnc, E, X, e, co, gf, lk, h => by unfold chkF at h; cases h
  | .idx .., sc, fnc, E, X, e, co, gf, lk, h => by unfold chkF at h; cases h
  | .mk .., sc, fnc, E, X, e, co, gf, lk, h => by unfold chkF at h; cases h
  | .frz .., sc, fnc, E, X, e, co, gf, lk, h => by unfold chkF at h; cases h
  | .call .., sc, fnc, E, X, e, co, gf, lk, h => by unfold chkF at h; cases h
  | .bc .., sc, fnc, E, X, e, co, gf, lk, h => by unfold chkF at h; cases h
  | .mth .., sc, fnc, E, X, e, co, gf, lk, h => by unfold chkF at h; cases h
  | .bm .., sc, fnc, E, X, e, co, gf, lk, h => by unfold chkF at h; cases h
  | .new .., sc, fnc, E, X, e, co, gf, lk, h => by unfold chkF at h; cases h
  | .kcl .., sc, fnc, E, X, e, co, gf, lk, h => by unfold chkF at h; cases h
  | .fld .., sc, fnc, E, X, e, co, gf, lk, h => by unfold chkF at h; cases h
  | .nil, sc, fnc, E, X, e, co, gf, lk, h => by unfold chkF at h; cases h
  | .cons .., sc, fnc, E, X, e, co, gf, lk, h => by unfold chkF at h; cases h
  | .tru .., sc, fnc, E, X, e, co, gf, lk, h => by unfold chkF at h; cases h
  | .iv .., sc, fnc, E, X, e, co, gf, lk, h => by unfold chkF at h; cases h
  | .ir1 .., sc, fnc, E, X, e, co, gf, lk, h => by unfold chkF at h; cases h
  | .ir2 .., sc, fnc, E, X, e, co, gf, lk, h => by unfold chkF at h; cases h
  | .irn .., sc, fnc, E, X, e, co, gf, lk, h => by unfold chkF at h; cases h
  | .ien .., sc, fnc, E, X, e, co, gf, lk, h => by unfold chkF at h; cases h
  | .izip .., sc, fnc, E, X, e, co, gf, lk, h => by unfold chkF at h; cases h
  | .irv .., sc, fnc, E, X, e, co, gf, lk, h => by unfold chkF at h; cases h
  | .x1 .., sc, fnc, E, X, e, co, gf, lk, h => by unfold chkF at h; cases h
  | .x2 .., sc, fnc, E, X, e, co, gf, lk, h => by unfold chkF at h; cases h
  | .x3 .., sc, fnc, E, X, e, co, gf, lk, h => by unfold chkF at h; cases h
  | .dd .., sc, fnc, E, X, e, co, gf, lk, h => by unfold chkF at h; cases h
  | .lck .., sc, fnc, E, X, e, co, gf, lk, h => by unfold chkF at h; cases h
  | .xfl .., sc, fnc, E, X, e, co, gf, lk, h => by unfold chkF at h; cases h
  | .xis .., sc, fnc, E, X, e, co, gf, lk, h => by unfold chkF at h; cases h
  | .dcp .., sc, fnc, E, X, e, co, gf, lk, h => by unfold chkF at h; cases h
  | .i1 .., sc, fnc, E, X, e, co, gf, lk, h => by unfold chkF at h; cases h
theorem okO : ∀ (m : ME) {sc : Scope} {fnc : Str → Bool} {E : XK} {X : Cx} {o : Option Expr}, CO P w K mg base (G.xc, G.rp) n N sc fnc E X → GF P w K mg base ga xn G C n → Lk K ga xn G C N X → chkO N G m sc fnc o = true → PO X o (TOm K ga xn E C m)
  | .nil, sc, fnc, E, X, o, co, gf, lk, h => by
    unfold chkO at h
    cases o with
    | none => exact mo_none
    | some x => cases h
  | .cons e es, sc, fnc, E, X, o, co, gf, lk, h => by
    unfold chkO at h
    split at h
    · exact mo_some (okE e co gf lk h)
    · cases h
  | .var .., sc, fnc, E, X, o, co, gf, lk, h => by unfold chkO at h; cases h
  | .int .., sc, fnc, E, X, o, co, gf, lk, h => by unfold chkO at h; cases h
  | .str .., sc, fnc, E, X, o, co, gf, lk, h => by unfold chkO at h; cases h
  | .bl .., sc, fnc, E, X, o, co, gf, lk, h => by unfold chkO at h; cases h
  | .non, sc, fnc, E, X, o, co, gf, lk, h => by unfold chkO at h; cases h
  | .con .., sc, fnc, E, X, o, co, gf, lk, h => by unfold chkO at h; cases h
  | .bin .., sc, fnc, E, X, o, co, gf, lk, h => by unfold chkO at h; cases h
  | .neg .., sc, fnc, E, X, o, co, gf, lk, h => by unfold chkO at h; cases h
  | .not .., sc, fnc, E, X, o, co, gf, lk, h => by unfold chkO at h; cases h
  | .cmp .., sc, fnc, E, X, o, co, gf, lk, h => by unfold chkO at h; cases h
  | .chn .., sc, fnc, E, X, o, co, gf, lk, h => by unfold chkO at h; cases h
  | .chn3 .., sc, fnc, E, X, o, co, gf, lk, h => by unfold chkO at h; cases h
  | .and .., sc, fnc, E, X, o, co, gf, lk, h => by unfold chkO at h; cases h
  | .or .., sc, fnc, E, X, o, co, gf, lk, h => by unfold chkO at h; cases h
  | .ife .., sc, fnc, E, X, o, co, gf, lk, h => by unfold chkO at h; cases h
  | .tup .., sc, fnc, E, X, o, co, gf, lk, h => by unfold chkO at h; cases h
  | .idx .., sc, fnc, E, X, o, co, gf, lk, h => by unfold chkO at h; cases h
  | .mk .., sc, fnc, E, X, o, co, gf, lk, h => by unfold chkO at h; cases h
  | .frz .., sc, fnc, E, X, o, co, gf, lk, h => by unfold chkO at h; cases h
  | .call .., sc, fnc, E, X, o, co, gf, lk, h => by unfold chkO at h; cases h
  | .bc .., sc, fnc, E, X, o, co, gf, lk, h => by unfold chkO at h; cases h
  | .mth .., sc, fnc, E, X, o, co, gf, lk, h => by unfold chkO at h; cases h
  | .bm .., sc, fnc, E, X, o, co, gf, lk, h => by unfold chkO at h; cases h
  | .new .., sc, fnc, E, X, o, co, gf, lk, h => by unfold chkO at h; cases h
  | .kcl .., sc, fnc, E, X, o, co, gf, lk, h => by unfold chkO at h; cases h
  | .fld .., sc, fnc, E, X, o, co, gf, lk, h => by unfold chkO at h; cases h
  | .fl .., sc, fnc, E, X, o, co, gf, lk, h => by unfold chkO at h; cases h
  | .fc .., sc, fnc, E, X, o, co, gf, lk, h => by unfold chkO at h; cases h
  | .fs .., sc, fnc, E, X, o, co, gf, lk, h => by unfold chkO at h; cases h
  | .fli .., sc, fnc, E, X, o, co, gf, lk, h => by unfold chkO at h; cases h
  | .fso .., sc, fnc, E, X, o, co, gf, lk, h => by unfold chkO at h; cases h
  | .fca .., sc, fnc, E, X, o, co, gf, lk, h => by unfold chkO at h; cases h
  | .fre .., sc, fnc, E, X, o, co, gf, lk, h => by unfold chkO at h; cases h
  | .tru .., sc, fnc, E, X, o, co, gf, lk, h => by unfold chkO at h; cases h
  | .iv .., sc, fnc, E, X, o, co, gf, lk, h => by unfold chkO at h; cases h
  | .ir1 .., sc, fnc, E, X, o, co, gf, lk, h => by unfold chkO at h; cases h
  | .ir2 .., sc, fnc, E, X, o, co, gf, lk, h => by unfold chkO at h; cases h
  | .irn .., sc, fnc, E, X, o, co, gf, lk, h => by unfold chkO at h; cases h
  | .ien .., sc, fnc, E, X, o, co, gf, lk, h => by unfold chkO at h; cases h
  | .izip .., sc, fnc, E, X, o, co, gf, lk, h => by unfold chkO at h; cases h
  | .irv .., sc, fnc, E, X, o, co, gf, lk, h => by unfold chkO at h; cases h
  | .x1 .., sc, fnc, E, X, o, co, gf, lk, h => by unfold chkO at h; cases h
  | .x2 .., sc, fnc, E, X, o, co, gf, lk, h => by unfold chkO at h; cases h
  | .x3 .., sc, fnc, E, X, o, co, gf, lk, h => by unfold chkO at h; cases h
  | .dd .., sc, fnc, E, X, o, co, gf, lk, h => by unfold chkO at h; cases h
  | .lck .., sc, fnc, E, X, o, co, gf, lk, h => by unfold chkO at h; cases h
  | .xfl .., sc, fnc, E, X, o, co, gf, lk, h => by unfold chkO at h; cases h
  | .xis .., sc, fnc, E, X, o, co, gf, lk, h => by unfold chkO at h; cases h
  | .dcp .., sc, fnc, E, X, o, co, gf, lk, h => by unfold chkO at h; cases h
  | .f1 .., sc, fnc, E, X, o, co, gf, lk, h => by unfold chkO at h; cases h
  | .f2 .., sc, fnc, E, X, o, co, gf, lk, h => by unfold chkO at h; cases h
  | .i1 .., sc, fnc, E, X, o, co, gf, lk, h => by unfold chkO at h; cases h
theorem okC : ∀ (m : ME) {sc : Scope} {fnc : Str → Bool} {E : XK} {X : Cx} {xs : List Expr}, CO P w K mg base (G.xc, G.rp) n N sc fnc E X → GF P w K mg base ga xn G C n → Lk K ga xn G C N X → chkC N G m sc fnc xs = true → PTs X xs (TCm K ga xn E C m)
  | .nil, sc, fnc, E, X, xs, co, gf, lk, h => by
    unfold chkC at h
    cases xs with
    | nil => exact mc_nil
    | cons a b => cases h
  | .cons e es, sc, fnc, E, X, xs, co, gf, lk, h => by
    unfold chkC at h
    split at h
    · exact mc_one (okT e co gf lk h)
    · cases h
  | .var .., sc, fnc, E, X, xs, co, gf, lk, h => by unfold chkC at h; cases h
  | .int .., sc, fnc, E, X, xs, co, gf, lk, h => by unfold chkC at h; cases h
  | .str .., sc, fnc, E, X, xs, co, gf, lk, h => by unfold chkC at h; cases h
  | .bl .., sc, fnc, E, X, xs, co, gf, lk, h => by unfold chkC at h; cases h
  | .non, sc, fnc, E, X, xs, co, gf, lk, h => by unfold chkC at h; cases h
  | .con .., sc, fnc, E, X, xs, co, gf, lk, h => by unfold chkC at h; cases h
  | .bin .., sc, fnc, E, X, xs, co, gf, lk, h => by unfold chkC at h; cases h
  | .neg .., sc, fnc, E, X, xs, co, gf, lk, h => by unfold chkC at h; cases h
  | .not .., sc, fnc, E, X, xs, co, gf, lk, h => by unfold chkC at h; cases h
  | .cmp .., sc, fnc, E, X, xs, co, gf, lk, h => by unfold chkC at h; cases h
  | .chn .., sc, fnc, E, X, xs, co, gf, lk, h => by unfold chkC at h; cases h
  | .chn3 .., sc, fnc, E, X, xs, co, gf, lk, h => by unfold chkC at h; cases h
  | .and .., sc, fnc, E, X, xs, co, gf, lk, h => by unfold chkC at h; cases h
  | .or .., sc, fnc, E, X, xs, co, gf, lk, h => by unfold chkC at h; cases h
  | .ife .., sc, fnc, E, X, xs, co, gf, lk, h => by unfold chkC at h; cases h
  | .tup .., sc, fnc, E, X, xs, co, gf, lk, h => by unfold chkC at h; cases h
  | .idx .., sc, fnc, E, X, xs, co, gf, lk, h => by unfold chkC at h; cases h
  | .mk .., sc, fnc, E, X, xs, co, gf, lk, h => by unfold chkC at h; cases h
  | .frz .., sc, fnc, E, X, xs, co, gf, lk, h => by unfold chkC at h; cases h
  | .call .., sc, fnc, E, X, xs, co, gf, lk, h => by unfold chkC at h; cases h
  | .bc .., sc, fnc, E, X, xs, co, gf, lk, h => by unfold chkC at h; cases h
  | .mth .., sc, fnc, E, X, xs, co, gf, lk, h => by unfold chkC at h; cases h
  | .bm .., sc, fnc, E, X, xs, co, gf, lk, h => by unfold chkC at h; cases h
  | .new .., sc, fnc, E, X, xs, co, gf, lk, h => by unfold chkC at h; cases h
  | .kcl .., sc, fnc, E, X, xs, co, gf, lk, h => by unfold chkC at h; cases h
  | .fld .., sc, fnc, E, X, xs, co, gf, lk, h => by unfold chkC at h; cases h
  | .fl .., sc, fnc, E, X, xs, co, gf, lk, h => by unfold chkC at h; cases h
  | .fc .., sc, fnc, E, X, xs, co, gf, lk, h => by unfold chkC at h; cases h
  | .fs .., sc, fnc, E, X, xs, co, gf, lk, h => by unfold chkC at h; cases h
  | .fli .., sc, fnc, E, X, xs, co, gf, lk, h => by unfold chkC at h; cases h
  | .fso .., sc, fnc, E, X, xs, co, gf, lk, h => by unfold chkC at h; cases h
  | .fca .., sc, fnc, E, X, xs, co, gf, lk, h => by unfold chkC at h; cases h
  | .fre .., sc, fnc, E, X, xs, co, gf, lk, h => by unfold chkC at h; cases h
  | .tru .., sc, fnc, E, X, xs, co, gf, lk, h => by unfold chkC at h; cases h
  | .iv .., sc, fnc, E, X, xs, co, gf, lk, h => by unfold chkC at h; cases h
  | .ir1 .., sc, fnc, E, X, xs, co, gf, lk, h => by unfold chkC at h; cases h
  | .ir2 .., sc, fnc, E, X, xs, co, gf, lk, h => by unfold chkC at h; cases h
  | .irn .., sc, fnc, E, X, xs, co, gf, lk, h => by unfold chkC at h; cases h
  | .ien .., sc, fnc, E, X, xs, co, gf, lk, h => by unfold chkC at h; cases h
  | .izip .., sc, fnc, E, X, xs, co, gf, lk, h => by unfold chkC at h; cases h
  | .irv .., sc, fnc, E, X, xs, co, gf, lk, h => by unfold chkC at h; cases h
  | .x1 .., sc, fnc, E, X, xs, co, gf, lk, h => by unfold chkC at h; cases h
  | .x2 .., sc, fnc, E, X, xs, co, gf, lk, h => by unfold chkC at h; cases h
  | .x3 .., sc, fnc, E, X, xs, co, gf, lk, h => by unfold chkC at h; cases h
  | .dd .., sc, fnc, E, X, xs, co, gf, lk, h => by unfold chkC at h; cases h
  | .lck .., sc, fnc, E, X, xs, co, gf, lk, h => by unfold chkC at h; cases h
  | .xfl .., sc, fnc, E, X, xs, co, gf, lk, h => by unfold chkC at h; cases h
  | .xis .., sc, fnc, E, X, xs, co, gf, lk, h => by unfold chkC at h; cases h
  | .dcp .., sc, fnc, E, X, xs, co, gf, lk, h => by unfold chkC at h; cases h
  | .f1 .., sc, fnc, E, X, xs, co, gf, lk, h => by unfold chkC at h; cases h
  | .f2 .., sc, fnc, E, X, xs, co, gf, lk, h => by unfold chkC at h; cases h
  | .i1 .., sc, fnc, E, X, xs, co, gf, lk, h => by unfold chkC at h; cases h
theorem okI : ∀ (m : ME) {sc : Scope} {fnc : Str → Bool} {E : XK} {X : Cx} {tg e : Expr}, CO P w K mg base (G.xc, G.rp) n N sc fnc E X → GF P w K mg base ga xn G C n → Lk K ga xn G C N X → chkI N G m sc fnc tg e = true → PI X tg e (TIm K ga xn E C m)
  | .iv a, sc, fnc, E, X, tg, e, co, gf, lk, h => by
    unfold chkI at h
    exact mi_iv co (okE a co gf lk h)
  | .ir1 a, sc, fnc, E, X, tg, e, co, gf, lk, h => by
    unfold chkI at h
    split at h
    · simp only [Bool.and_eq_true, decide_eq_true_eq] at h
      obtain ⟨⟨⟨⟨rfl, h1⟩, h2⟩, h3⟩, h4⟩ := h
      exact mi_r1 co gf h1 (gi_ok h2) (okE a co gf lk h4) h3
    · cases h
  | .ir2 a b, sc, fnc, E, X, tg, e, co, gf, lk, h => by
    unfold chkI at h
    split at h
    · simp only [Bool.and_eq_true, decide_eq_true_eq] at h
      obtain ⟨⟨⟨⟨⟨⟨rfl, h1⟩, h2⟩, h3⟩, h4⟩, h5⟩, h6⟩ := h
      exact mi_r2 co gf h1 (gi_ok h2) (okE a co gf lk h5) (okE b co gf lk h6) h3 h4
    · cases h
  | .irn a b, sc, fnc, E, X, tg, e, co, gf, lk, h => by
    unfold chkI at h
    split at h
    · simp only [Bool.and_eq_true, decide_eq_true_eq] at h
      obtain ⟨⟨⟨⟨⟨⟨rfl, h1⟩, h2⟩, h3⟩, h4⟩, h5⟩, h6⟩ := h
      exact mi_rn co gf h1 (gi_ok h2) (okE a co gf lk h5) (okE b co gf lk h6) h3 h4
    · cases h
  | .ien a, sc, fnc, E, X, tg, e, co, gf, lk, h => by
    unfold chkI at h
    split at h
    · simp only [Bool.and_eq_true, decide_eq_true_eq] at h
      obtain ⟨⟨⟨⟨rfl, h1⟩, h2⟩, h3⟩, h4⟩ := h
      exact mi_en co gf h1 (gi_ok h2) (okE a co gf lk h4) h3
    · cases h
  | .izip a b, sc, fnc, E, X, tg, e, co, gf, lk, h => by
    unfold chkI at h
    split at h
    · simp only [Bool.and_eq_true, decide_eq_true_eq] at h
      obtain ⟨⟨⟨⟨⟨⟨rfl, h1⟩, h2⟩, h3⟩, h4⟩, h5⟩, h6⟩ := h
      exact mi_zip co gf h1 (gi_ok h2) (okE a co gf lk h5) (okE b co gf lk h6) h3 h4
    · cases h
  | .irv a, sc, fnc, E, X, tg, e, co, gf, lk, h => by
    unfold chkI at h
    split at h
    · simp only [Bool.and_eq_true, decide_eq_true_eq] at h
      obtain ⟨⟨⟨⟨rfl, h1⟩, h2⟩, h3⟩, h4⟩ := h
      exact mi_rv co gf h1 (gi_ok h2) (okE a co gf lk h4) h3
    · cases h
  | .i1 .keys a, sc, fnc, E, X, tg, e, co, gf, lk, h => by
    unfold chkI at h
    exact mi_keys co (okE a co gf lk h)
  | .i1 .chs a, sc, fnc, E, X, tg, e, co, gf, lk, h => by
    unfold chkI at h
    exact mi_chs co (okE a co gf lk h)
  | .i1 .est a, sc, fnc, E, X, tg, e, co, gf, lk, h => by
    unfold chkI at h
    split at h
    · simp only [Bool.and_eq_true, decide_eq_true_eq] at h
      obtain ⟨⟨⟨⟨rfl, h1⟩, h2⟩, h3⟩, h4⟩ := h
      exact mi_est co gf h1 (gi_ok h2) (okE a co gf lk h4) h3
    · cases h
  | .i1 .rrg a, sc, fnc, E, X, tg, e, co, gf, lk, h => by
    unfold chkI at h
    split at h
    · simp only [Bool.and_eq_true, decide_eq_true_eq] at h
      obtain ⟨⟨⟨⟨⟨⟨⟨rfl, h5⟩, h6⟩, rfl⟩, h1⟩, h2⟩, h3⟩, h4⟩ := h
      exact mi_rrg co gf h1 (gi_ok h2) h5 (gi_ok h6) (okE a co gf lk h4) h3
    · cases h
  | .i1 .vals a, sc, fnc, E, X, tg, e, co, gf, lk, h => by
    unfold chkI at h
    split at h
    · simp only [Bool.and_eq_true, decide_eq_true_eq] at h
      obtain ⟨⟨⟨rfl, h1⟩, h2⟩, h3⟩ := h
      exact mi_vals co (okE a co gf lk h3) h1 h2
    · cases h
  | .i1 .items a, sc, fnc, E, X, tg, e, co, gf, lk, h => by
    unfold chkI at h
    split at h
    · simp only [Bool.and_eq_true, decide_eq_true_eq] at h
      obtain ⟨⟨⟨rfl, h1⟩, h2⟩, h3⟩ := h
      exact mi_items co (okE a co gf lk h3) h1 h2
    · cases h
  | .var .., sc, fnc, E, X, tg, e, co, gf, lk, h => by unfold chkI at h; cases h
  | .int .., sc, fnc, E, X, tg, e, co, gf, lk, h => by unfold chkI at h; cases h
  | .str .., sc, fnc, E, X, tg, e, co, gf, lk, h => by unfold chkI at h; cases h
  | .bl .., sc, fnc, E, X, tg, e, co, gf, lk, h => by unfold chkI at h; cases h
  | .non, sc, fnc, E, X, tg, e, co, gf, lk, h => by unfold chkI at h; cases h
  | .con .., sc, fnc, E, X, tg, e, co, gf, lk, h => by unfold chkI at h; cases h
  | .bin .., sc, fnc, E, X, tg, e, co, gf, lk, h => by unfold chkI at h; cases h
  | .neg .., sc, fnc, E, X, tg, e, co, gf, lk, h => by unfold chkI at h; cases h
  | .not .., sc, fnc, E, X, tg, e, co, gf, lk, h => by unfold chkI at h; cases h
  | .cmp .., sc, fnc, E, X, tg, e, co, gf, lk, h => by unfold chkI at h; cases h
  | .chn .., sc, fnc, E, X, tg, e, co, gf, lk, h => by unfold chkI at h; cases h
  | .chn3 .., sc, fnc, E, X, tg, e, co, gf, lk, h => by unfold chkI at h; cases h
  | .and .., sc, fnc, E, X, tg, e, co, gf, lk, h => by unfold chkI at h; cases h
  | .or .., sc, fnc, E, X, tg, e, co, gf, lk, h => by unfold chkI at h; cases h
  | .ife .., sc, fnc, E, X, tg, e, co, gf, lk, h => by unfold chkI at h; cases h
  | .tup .., sc, fnc, E, X, tg, e, co, gf, lk, h => by unfold chkI at h; cases h
  | .idx .., sc, fnc, E, X, tg, e, co, gf, lk, h => by unfold chkI at h; cases h
  | .mk .., sc, fnc, E, X, tg, e, co, gf, lk, h => by unfold chkI at h; cases h
  | .frz .., sc, fnc, E, X, tg, e, co, gf, lk, h => by unfold chkI at h; cases h
  | .call .., sc, fnc, E, X, tg, e, co, gf, lk, h => by unfold chkI at h; cases h
  | .bc .., sc, fnc, E, X, tg, e, co, gf, lk, h => by unfold chkI at h; cases h
  | .mth .., sc, fnc, E, X, tg, e, co, gf, lk, h => by unfold chkI at h; cases h
  | .bm .., sc, fnc, E, X, tg, e, co, gf, lk, h => by unfold chkI at h; cases h
  | .new .., sc, fnc, E, X, tg, e, co, gf, lk, h => by unfold chkI at h; cases h
  | .kcl .., sc, fnc, E, X, tg, e, co, gf, lk, h => by unfold chkI at h; cases h
  | .fld .., sc, fnc, E, X, tg, e, co, gf, lk, h => by unfold chkI at h; cases h
  | .nil, sc, fnc, E, X, tg, e, co, gf, lk, h => by unfold chkI at h; cases h
  | .cons .., sc, fnc, E, X, tg, e, co, gf, lk, h => by unfold chkI at h; cases h
  | .fl .., sc, fnc, E, X, tg, e, co, gf, lk, h => by unfold chkI at h; cases h
  | .fc .., sc, fnc, E, X, tg, e, co, gf, lk, h => by unfold chkI at h; cases h
  | .fs .., sc, fnc, E, X, tg, e, co, gf, lk, h => by unfold chkI at h; cases h
  | .fli .., sc, fnc, E, X, tg, e, co, gf, lk, h => by unfold chkI at h; cases h
  | .fso .., sc, fnc, E, X, tg, e, co, gf, lk, h => by unfold chkI at h; cases h
  | .fca .., sc, fnc, E, X, tg, e, co, gf, lk, h => by unfold chkI at h; cases h
  | .fre .., sc, fnc, E, X, tg, e, co, gf, lk, h => by unfold chkI at h; cases h
  | .tru .., sc, fnc, E, X, tg, e, co, gf, lk, h => by unfold chkI at h; cases h
  | .x1 .., sc, fnc, E, X, tg, e, co, gf, lk, h => by unfold chkI at h; cases h
  | .x2 .., sc, fnc, E, X, tg, e, co, gf, lk, h => by unfold chkI at h; cases h
  | .x3 .., sc, fnc, E, X, tg, e, co, gf, lk, h => by unfold chkI at h; cases h
  | .dd .., sc, fnc, E, X, tg, e, co, gf, lk, h => by unfold chkI at h; cases h
  | .lck .., sc, fnc, E, X, tg, e, co, gf, lk, h => by unfold chkI at h; cases h
  | .xfl .., sc, fnc, E, X, tg, e, co, gf, lk, h => by unfold chkI at h; cases h
  | .xis .., sc, fnc, E, X, tg, e, co, gf, lk, h => by unfold chkI at h; cases h
  | .dcp .., sc, fnc, E, X, tg, e, co, gf, lk, h => by unfold chkI at h; cases h
  | .f1 .., sc, fnc, E, X, tg, e, co, gf, lk, h => by unfold chkI at h; cases h
  | .f2 .., sc, fnc, E, X, tg, e, co, gf, lk, h => by unfold chkI at h; cases h
end
end
end Mn
namespace Mn
open PySem PySem.Spec PyProof.Rows L2
variable {P : Program} {w : World} {K : PySem.W.Frag} {mg : Str → Option Value} {base : Heap} {ga : Str → Addr} {xn : Str → Str}
variable {G : Gs} {C : Ct} {hot : Bool × Bool} {rp : Bool} {n : Nat} {N : List Str} {sc : Scope} {fnc : Str → Bool} {E : XK} {X : Cx}
/-! ### an except suite -/
def TXm (K : PySem.W.Frag) (ga : Str → Addr) (xn : Str → Str) (E : XK) (C : Ct) (s : MS) : TS := fun D σ H => ∃ Ω σm hm, HRel K ga Ω hm H ∧ SRel K ga Ω hm.length H σm σ ∧ PostS K ga xn E hm.length Ω H (runX C s σm hm) D
section
variable {st : Stmt} {ss sa sb : List Stmt} {s1 s2 : MS} {e c : Expr} {ea ec : ME} {p pos : Pos}
theorem mx_nil : PSs X [] (TXm K ga xn E C .skip) := by
  refine PSs_imp pss_nil ?_
  rintro D σ H ⟨Ω, σm, hm, hr, sr, p⟩
  unfold runX at p
  exact p.next hr sr
theorem mx_seq (h1 : PS X st (TXm K ga xn E C s1)) (h2 : PSs X ss (TXm K ga xn E C s2)) : PSs X (st :: ss) (TXm K ga xn E C (.seq s1 s2)) := by
  refine PSs_imp (pss_cons h1 h2) ?_
  rintro D σ H ⟨Ω, σm, hm, hr, sr, p⟩
  unfold runX at p
  exact ⟨Ω, σm, hm, hr, sr, p.seq _ fun Ω1 H1 σm1 σ1 h1 l1 e1 r1 s1 p1 => ⟨Ω1, σm1, h1, r1, s1, p1⟩⟩
theorem mx_ret (he : PE X e (TEm K ga xn E C ea)) : PS X (.Return (some e) pos) (TXm K ga xn E C (.ret ea)) := by
  refine PS_imp (ps_ret he) ?_
  rintro D σ H ⟨Ω, σm, hm, hr, sr, p⟩
  unfold runX at p
  refine te_of hr sr (PostS.out p) fun Ω1 H1 v h1 x l1 e1 r1 s1 vx p1 => ?_
  exact p1 Ω1 H1 x (Nat.le_refl _) (Ext.refl _ _ _) r1 vx
theorem mx_retN : PS X (.Return none pos) (TXm K ga xn E C .retN) := by
  refine PS_imp ps_retN ?_
  rintro D σ H ⟨Ω, σm, hm, hr, sr, p⟩
  unfold runX at p
  exact p Ω H _ (Nat.le_refl _) (Ext.refl _ _ _) hr (v_non.mpr rfl)
theorem mx_ite (hc : PT X c (TTm K ga xn E C ec)) (h1 : PSs X sa (TXm K ga xn E C s1)) (h2 : PSs X sb (TXm K ga xn E C s2)) : PS X (.If c sa sb pos) (TXm K ga xn E C (.ite ec s1 s2)) := by
  refine PS_imp (ps_if hc h1 h2) ?_
  rintro D σ H ⟨Ω, σm, hm, hr, sr, p⟩
  unfold runX at p
  refine tt_of hr sr (PostS.out p) fun Ω1 H1 t h1 l1 e1 r1 s1 p1 => ?_
  cases t with
  | true => rw [if_pos rfl] at p1 ⊢; exact ⟨Ω1, σm, h1, r1, s1, p1⟩
  | false => rw [if_neg Bool.false_ne_true] at p1 ⊢; exact ⟨Ω1, σm, h1, r1, s1, p1⟩
theorem mx_asg {i : Nat} {x : Str} (co : CO P w K mg base hot n N sc fnc E X) (hx : nameOk N sc fnc i x = true) (he : PE X e (TEm K ga xn E C ea)) (hc : (notComp e || cellNm sc x e) = true) : PS X (.Assign [.Name x p] e pos) (TXm K ga xn E C (.asg i ea)) := by
  obtain ⟨h1, h2, h3⟩ := name_ok (pos := p) co hx
  refine PS_imp (ps_set (by rw [co.pN]; exact co.nd) h1 h2 he (swap_no (by rw [co.ps]; exact hc)) h3) ?_
  rintro D σ H ⟨Ω, σm, hm, hr, sr, p⟩
  unfold runX at p
  refine te_of hr sr (PostS.out p) fun Ω1 H1 v h1 x l1 e1 r1 s1 vx p1 => ?_
  exact p1.next r1 (s1.set i vx)
end
mutual
theorem okX (co : CO P w K mg base (G.xc, G.rp) n N sc fnc E X) (gf : GF P w K mg base ga xn G C n) (lk : Lk K ga xn G C N X) : ∀ (m : MS) {st : Stmt}, chkX N G sc fnc m st = true → PS X st (TXm K ga xn E C m)
  | .asg i ea, st, h => by
    unfold chkX at h
    split at h
    · obtain ⟨h1, h2⟩ := and2 h
      exact mx_asg co (and2 h1).2 (okE ea co gf lk (and2 h1).1) h2
    · cases h
  | .ret ea, st, h => by
    unfold chkX at h
    split at h
    · exact mx_ret (okE ea co gf lk h)
    · cases h
  | .retN, st, h => by
    unfold chkX at h
    split at h
    · exact mx_retN
    · cases h
  | .ite c a b, st, h => by
    unfold chkX at h
    split at h
    · simp only [Bool.and_eq_true] at h
      obtain ⟨⟨h1, h2⟩, h3⟩ := h
      exact mx_ite (okT c co gf lk h1) (okXs co gf lk a h2) (okXs co gf lk b h3)
    · cases h
  | .skip, st, h => by unfold chkX at h; cases h
  | .seq .., st, h => by unfold chkX at h; cases h
  | .una .., st, h => by unfold chkX at h; cases h
  | .unp .., st, h => by unfold chkX at h; cases h
  | .par .., st, h => by unfold chkX at h; cases h
  | .setf .., st, h => by unfold chkX at h; cases h
  | .seti .., st, h => by unfold chkX at h; cases h
  | .aug .., st, h => by unfold chkX at h; cases h
  | .ex .., st, h => by unfold chkX at h; cases h
  | .whl .., st, h => by unfold chkX at h; cases h
  | .for_ .., st, h => by unfold chkX at h; cases h
  | .brk, st, h => by unfold chkX at h; cases h
  | .cnt, st, h => by unfold chkX at h; cases h
  | .never, st, h => by unfold chkX at h; cases h
  | .setd .., st, h => by unfold chkX at h; cases h
  | .lck .., st, h => by unfold chkX at h; cases h
  | .rai .., st, h => by unfold chkX at h; cases h
  | .tryA .., st, h => by unfold chkX at h; cases h
  | .tryB .., st, h => by unfold chkX at h; cases h
theorem okXs (co : CO P w K mg base (G.xc, G.rp) n N sc fnc E X) (gf : GF P w K mg base ga xn G C n) (lk : Lk K ga xn G C N X) : ∀ (m : MS) {ss : List Stmt}, chkXs N G sc fnc m ss = true → PSs X ss (TXm K ga xn E C m)
  | .skip, ss, h => by
    unfold chkXs at h
    cases ss with
    | nil => exact mx_nil
    | cons a b => cases h
  | .seq a b, ss, h => by
    unfold chkXs at h
    split at h
    · exact mx_seq (okX co gf lk a (and2 h).1) (okXs co gf lk b (and2 h).2)
    · cases h
  | .asg .., ss, h => by unfold chkXs at h; cases h
  | .una .., ss, h => by unfold chkXs at h; cases h
  | .unp .., ss, h => by unfold chkXs at h; cases h
  | .par .., ss, h => by unfold chkXs at h; cases h
  | .setf .., ss, h => by unfold chkXs at h; cases h
  | .seti .., ss, h => by unfold chkXs at h; cases h
  | .aug .., ss, h => by unfold chkXs at h; cases h
  | .ex .., ss, h => by unfold chkXs at h; cases h
  | .ret .., ss, h => by unfold chkXs at h; cases h
  | .retN, ss, h => by unfold chkXs at h; cases h
  | .ite .., ss, h => by unfold chkXs at h; cases h
  | .whl .., ss, h => by unfold chkXs at h; cases h
  | .for_ .., ss, h => by unfold chkXs at h; cases h
  | .brk, ss, h => by unfold chkXs at h; cases h
  | .cnt, ss, h => by unfold chkXs at h; cases h
  | .never, ss, h => by unfold chkXs at h; cases h
  | .setd .., ss, h => by unfold chkXs at h; cases h
  | .lck .., ss, h => by unfold chkXs at h; cases h
  | .rai .., ss, h => by unfold chkXs at h; cases h
  | .tryA .., ss, h => by unfold chkXs at h; cases h
  | .tryB .., ss, h => by unfold chkXs at h; cases h
end
/-! ### contexts -/
theorem CO.suite (co : CO P w K mg base hot n N sc fnc E X) (a : Addr) (pn : List (Addr × Obj)) : CO P w K mg base (true, hot.2) n N sc fnc E0 (X.suite a pn) :=
  ⟨co.pP, co.pw, co.pK, co.pm, co.pb, co.pN, co.ps, co.pf, (fun z => by cases z), (fun z => by cases z), co.gds, co.units, co.nd, takes0⟩
theorem CO.tr {E' : XK} (co : CO P w K mg base (false, G.rp) n N sc fnc E X) {pn : List (Addr × Obj)} {xe : Value → Shared → Prop} (tk : Takes (X.tr pn xe) fun c d _ H => E' c d H) : CO P w K mg base (false, G.rp) n N sc fnc E' (X.tr pn xe) :=
  ⟨co.pP, co.pw, co.pK, co.pm, co.pb, co.pN, co.ps, co.pf, co.calm, co.room, co.gds, co.units, co.nd, tk⟩
theorem GF.hotC (gf : GF P w K mg base ga xn G C n) (z : Option (Addr × Addr × Str)) : GF P w K mg base ga xn (hotG G) { C with xc := z } n :=
  ⟨gf.fns, gf.mes, gf.nws, gf.con, gf.blt, gf.na, gf.rai, gf.xnm, gf.xis, gf.xve, gf.xsub, gf.xnn, gf.eqo, gf.tbs, gf.ksf, gf.ksc⟩
theorem SRel.wipe1 {Ω : Om} {L : Nat} {H : Hp} {σm : MSt} {σ : L2.St} (i : Nat) (h : SRel K ga Ω L H σm σ) : SRel K ga Ω L H (σm.set i none) (σ.set i none) := by
  refine ⟨by simpa using h.1, fun j v hv => ?_⟩
  by_cases e : i = j
  · subst e
    rw [List.getElem?_set] at hv
    rw [if_pos rfl] at hv
    split at hv
    · cases hv
    · cases hv
  · rw [List.getElem?_set_ne e] at hv
    rw [List.getElem?_set_ne e]
    exact h.2 j v hv
/-- what the clause wishes, from what the evaluator says -/
def tsX (K : PySem.W.Frag) (ga : Str → Addr) (xn : Str → Str) (C : Ct) (s : MS) (a : Addr) (cls : Value) (d : Option Addr) : TS := fun D σ H => ∃ (c : Str) (dd : Addr), cls = .ref (ga c) ∧ d = some dd ∧ TXm K ga xn E0 { C with xc := some (a, dd, c) } s D σ H
theorem caught_ok {i : Nat} {c c' : Str} {s : MS} {σm : MSt} {σ : L2.St} {v : MV} {x : V} {h : MHeap} {L : Nat} {Ω Ω' : Om} {H H' : Hp} {D : Ends} {d : Addr} (gf : GF P w K mg base ga xn G C n) (hc : c ≠ "ValueError")
    (p : PostS K ga xn E L Ω H (caughtR C i c s σm c' v h) D) (hl : L ≤ h.length) (e : Ext L Ω H Ω' H') (hr : HRel K ga Ω' h H') (vx : VRel K ga Ω' h.length H' v x) (fr : Free Ω' h.length d) (hd : H' d = some (.xd [(xn c', x)])) (sr : SRel K ga Ω' h.length H' σm σ) :
    wAs K (.ref (ga c)) i (tsX K ga xn C s) (fun c d _ H => E c d H) D (.ref (ga c')) (some d) σ H' := by
  unfold caughtR at p
  cases q : C.sub c' c with
  | none => rw [q] at p; exact p.elim
  | some b =>
    refine ⟨b, (gf.xsub c' c b q hc).2, fun hb a ha => ?_, fun hb => ?_⟩
    · subst hb
      rw [q] at p
      simp only at p
      split at p
      · rename_i hf
        unfold suiteR at p
        split at p
        · rename_i hex
          have sp := Classical.choose_spec hex a d
          have hxn : C.xn c' = xn c' := by rw [gf.xnn]
          rw [← sp, hxn] at p
          have hp := PostS.later p (e.trans (ext_fz Ω' d H' h.length) hl) hl
          have rf := hr.fz hd fr
          have ex := ext_fz Ω' d H' h.length
          have fl : flatR v x := by
            cases v <;> first | (cases hf; done) | skip
            · exact v_int.mp vx
            · exact v_str.mp vx
          refine ⟨c', d, rfl, rfl, Ω'.fzAt d, σm.set i (some (.xcp a d (xn c') v)), h, rf, (sr.ext ex (Nat.le_refl _)).set i (v_xcp.mpr ⟨rfl, .inr rfl, x, hd, fl⟩), ?_⟩
          generalize runX { C with xc := some (a, d, c') } s (σm.set i (some (.xcp a d (xn c') v))) h = r at hp
          cases r with
          | next σ1 h1 => exact fun Ω2 H2 σ2 l2 e2 r2 s2 => hp Ω2 H2 _ l2 e2 r2 (s2.wipe1 i)
          | brk σ1 h1 => exact fun Ω2 H2 σ2 l2 e2 r2 s2 => hp Ω2 H2 _ l2 e2 r2 (s2.wipe1 i)
          | cnt σ1 h1 => exact fun Ω2 H2 σ2 l2 e2 r2 s2 => hp Ω2 H2 _ l2 e2 r2 (s2.wipe1 i)
          | ret v1 h1 => exact hp
          | exc c1 v1 h1 => exact hp.elim
          | bad => exact hp.elim
        · exact p.elim
      · exact p.elim
    · subst hb
      rw [q] at p
      exact p Ω' H' d x hl e hr vx fr hd
section
variable {i : Nat} {c nm : Str} {b : MS} {s : MS} {body bs : List Stmt} {b0 : Stmt} {np pos pos' : Pos}
theorem hsu_ok (co : CO P w K mg base (false, G.rp) n N sc fnc E X) (gf : GF P w K mg base ga xn G C n) (h : chkXs N (hotG G) sc fnc s (b0 :: bs) = true) (a : Addr) (oe : Obj) (cls : Value) (d : Option Addr) (pn : List (Addr × Obj)) (hz : Zc cls d oe) (hf : ∃ vs, oe.data = .fields vs) :
    PSs (X.suite a ((a, oe) :: pn)) (b0 :: bs) (tsX K ga xn C s a cls d) := by
  refine ⟨fun pins st σ H D I q => ?_⟩
  obtain ⟨c', dd, rfl, rfl, t⟩ := q
  exact (okXs (G := hotG G) (C := { C with xc := some (a, dd, c') }) (co.suite a ((a, oe) :: pn)) (gf.hotC _) ⟨fun _ => ⟨a, dd, c', oe, X, pn, rfl, rfl, hz, hf⟩⟩ s h).run pins st σ H D I t
theorem ms_tryA (co : CO P w K mg base (false, G.rp) n N sc fnc E X) (gf : GF P w K mg base ga xn G C n) (hs : X.stack = X.env :: X.outer) (hf : X.env.frame = some X.env.locals) (hi : N[i]? = some nm) (hln : sc.names.lookup nm = some .local) (hg : sc.names.lookup c = some .globalImplicit) (hdb : (c == ("__debug__" : Str)) = false) (hc : c ∈ G.xns) (hv : c ≠ "ValueError")
    (hb : ∀ (E' : XK) (pn : List (Addr × Obj)) (xe : Value → Shared → Prop), CO P w K mg base (false, G.rp) n N sc fnc E' (X.tr pn xe) → PassesOwn (model X.prog X.w) X.A X.env xe → PSs (X.tr pn xe) body (TSm K ga xn E' C b))
    (hx : chkXs N (hotG G) sc fnc s (b0 :: bs) = true) : PS X (.Try body [.ExceptHandler (some (.Name c np)) (some nm) (b0 :: bs) pos'] [] [] pos) (TSm K ga xn E C (.tryA b i c s)) := by
  have hK : X.K = K := co.pK
  refine ⟨fun pins st σ H D I q => ?_⟩
  have rule := ps_try_as (X := X) (x := c) (n := nm) (c := .ref (ga c)) (i := i) (body := body) (suite := bs) (b₀ := b0) (np := np) (pos := pos) (pos' := pos') (Wout := fun c d _ H => E c d H) (tb := fun W => TSm K ga xn (fun c d H => ∀ σ : L2.St, σ.length = N.length → W c d σ H) C b) (ts := tsX K ga xn C s) hs hf (by rw [co.pN]; exact co.nd) (by rw [co.pN]; exact hi) (by show X.env.scope.names.lookup nm = _; rw [co.ps]; exact hln)
    ⟨by show X.env.scope.names.lookup c = _; rw [co.ps]; exact hg, hdb, .inl (by rw [co.pm]; exact gf.xnm c hc)⟩ co.tk
    (fun W pn xe tk po => hb _ pn xe (co.tr fun u s' ⟨a, B, sI, pins, σ, H, cls, d, e, I, nb, up, sky, na, os, ag, z⟩ => tk u s' ⟨a, B, sI, pins, σ, H, cls, d, e, I, nb, up, sky, na, os, ag, z σ (by rw [I.len]; exact congrArg List.length co.pN)⟩) po)
    (hsu_ok co gf hx)
  refine rule.run pins st σ H D I ?_
  obtain ⟨Ω, σm, hm, hr, sr, p⟩ := q
  refine ⟨Ω, σm, hm, hr, sr, ?_⟩
  unfold run at p
  have hl : σm.length = N.length := by rw [sr.1, I.len, co.pN]
  cases q : run C b σm hm with
  | exc c' v h =>
    rw [q] at p
    intro Ω' H' d x l e r vx fr hd σ2 hlen
    subst hK
    refine caught_ok gf hv p l e r vx fr hd ?_
    rw [hl, ← hlen]
    exact SRel.nil σ2
  | next σ1 h => rw [q] at p; exact p
  | brk σ1 h => rw [q] at p; exact p
  | cnt σ1 h => rw [q] at p; exact p
  | ret v h => rw [q] at p; exact p
  | bad => rw [q] at p; exact p
/-- the end of a try's only statement -/
def endK (k : Tk) (D : Ends) (σ : L2.St) (v : V) (H : Hp) : Prop := match k with
  | .ex => D.nx σ H
  | .asg j => D.nx (σ.set j (some v)) H
  | .ret => D.rt v H
theorem ps_k {X : Cx} {k : Tk} {f : Str} {es : ME} {st : Stmt} {te : TE} (co : CO P w K mg base (false, G.rp) n N sc fnc E X) (h : chkK N G sc fnc k f es st = true)
    (he : ∀ (x : Expr) (xs : List Expr) (p pos : Pos), f ∈ G.fns → sc.names.lookup f = some .globalImplicit → (f == ("__debug__" : Str)) = false → (x :: xs).all notStar = true → chkL N G es sc fnc (x :: xs) = true → PE X (.Call (.Name f p) (x :: xs) [] pos) te) :
    PSs X [st] (fun D σ H => te σ H fun v H' => endK k D σ v H') := by
  unfold chkK at h
  split at h
  · simp only [Bool.and_eq_true, decide_eq_true_eq] at h
    obtain ⟨⟨⟨⟨⟨⟨hk, rfl⟩, h1⟩, h2⟩, h3⟩, h4⟩, h5⟩ := h
    cases k <;> first | (cases hk; done) | skip
    refine PSs_imp (pss_cons (ps_expr (he _ _ _ _ h1 (gi_ok h2) (ndb_ok h3) h4 h5) (plain_swap rfl)) pss_nil) fun D σ H q => q
  · simp only [Bool.and_eq_true, decide_eq_true_eq] at h
    obtain ⟨⟨⟨⟨⟨⟨hk, rfl⟩, h1⟩, h2⟩, h3⟩, h4⟩, h5⟩ := h
    cases k <;> first | (cases hk; done) | skip
    obtain ⟨q1, q2, q3⟩ := name_ok (pos := ⟨0, 0, 0, 0⟩) co hk
    refine PSs_imp (pss_cons (ps_set (by rw [co.pN]; exact co.nd) q1 q2 (he _ _ _ _ h1 (gi_ok h2) (ndb_ok h3) h4 h5) (plain_swap rfl) q3) pss_nil) fun D σ H q => q
  · simp only [Bool.and_eq_true, decide_eq_true_eq] at h
    obtain ⟨⟨⟨⟨⟨⟨hk, rfl⟩, h1⟩, h2⟩, h3⟩, h4⟩, h5⟩ := h
    cases k <;> first | (cases hk; done) | skip
    refine PSs_imp (pss_cons (ps_ret (he _ _ _ _ h1 (gi_ok h2) (ndb_ok h3) h4 h5)) pss_nil) fun D σ H q => q
  · cases h
theorem ms_tryB {k : Tk} {f : Str} {es : ME} {st : Stmt} (co : CO P w K mg base (false, G.rp) n N sc fnc E X) (gf : GF P w K mg base ga xn G C n) (hcold : G.xc = false) (hs : X.stack = X.env :: X.outer) (hf : X.env.frame = some X.env.locals) (hi : N[i]? = some nm) (hln : sc.names.lookup nm = some .local) (hg : sc.names.lookup c = some .globalImplicit) (hdb : (c == ("__debug__" : Str)) = false) (hc : c ∈ G.xns) (hv : c ≠ "ValueError")
    (hk : chkK N G sc fnc k f es st = true) (hx : chkXs N (hotG G) sc fnc s (b0 :: bs) = true) : PS X (.Try [st] [.ExceptHandler (some (.Name c np)) (some nm) (b0 :: bs) pos'] [] [] pos) (TSm K ga xn E C (.tryB k f es i c s)) := by
  have hK : X.K = K := co.pK
  have rule := ps_try_as (X := X) (x := c) (n := nm) (c := .ref (ga c)) (i := i) (body := [st]) (suite := bs) (b₀ := b0) (np := np) (pos := pos) (pos' := pos') (Wout := fun c d _ H => E c d H) (tb := fun W D σ H => tCallS (spM K ga xn (C.cf f)) (WE W) (TLm K ga xn E0 C es) σ H fun v H' => endK k D σ v H') (ts := tsX K ga xn C s) hs hf (by rw [co.pN]; exact co.nd) (by rw [co.pN]; exact hi) (by show X.env.scope.names.lookup nm = _; rw [co.ps]; exact hln)
    ⟨by show X.env.scope.names.lookup c = _; rw [co.ps]; exact hg, hdb, .inl (by rw [co.pm]; exact gf.xnm c hc)⟩ co.tk
    (fun W pn xe tk po => by
      have co' : CO P w K mg base (false, G.rp) n N sc fnc E0 (X.tr pn xe) := co.tr takes0
      refine ps_k co' hk fun x xs p pos h1 h2 h3 h4 h5 => ?_
      obtain ⟨a, fd, ps, F, hm, hkp, hb⟩ := gf.fns f h1
      have ha := (okL es (co'.warm hcold) gf (lk_cold hcold) h5).1
      have rm := co.room rfl
      rw [List.all_cons, Bool.and_eq_true] at h4
      obtain ⟨pP, pw, pK, pm, pb, pN, pc, _, _, _, _, _, _, _⟩ := co
      subst pP pw pK pm pb
      exact pe_callS (X := X.tr pn xe) (E := WE W) F rm (by show X.env.scope.names.lookup f = _; rw [pc]; exact h2) hm hkp hb (fun σ => passAt tk σ) ha h3 (star_one h4.1) (star_any h4.2))
    (hsu_ok co gf hx)
  refine PS_imp rule ?_
  rintro D σ H ⟨Ω, σm, hm, hr, sr, p⟩
  refine ⟨Ω, σm, hm, hr, sr, ?_⟩
  unfold run at p
  cases q : evL C es σm hm with
  | bad => rw [q] at p; exact p.elim
  | exc c1 v1 h1 => rw [q] at p; exact p.elim
  | ok vs h1 =>
    rw [q] at p
    simp only at p
    intro Ω1 H1 l1 e1 r1 xs vxs
    refine ⟨Ω1, h1, vs, r1, vxs, ?_⟩
    have s1 := sr.ext e1 l1
    have p1 := PostS.later p e1 l1
    cases q2 : C.cf f vs h1 with
    | bad => rw [q2] at p1; exact p1.elim
    | ok v h2 =>
      rw [q2] at p1
      simp only at p1
      intro Ω2 H2 l2 e2 r2 x vx
      have s2 := s1.ext e2 l2
      unfold tkF at p1
      cases k with
      | ex => exact p1 Ω2 H2 σ l2 e2 r2 s2
      | asg j => exact p1 Ω2 H2 _ l2 e2 r2 (s2.set j vx)
      | ret => exact p1 Ω2 H2 x l2 e2 r2 vx
    | exc c' v h2 =>
      rw [q2] at p1
      simp only at p1
      intro Ω2 H2 d x l2 e2 r2 vx fr hd
      subst hK
      exact caught_ok gf hv p1 l2 e2 r2 vx fr hd (s1.ext e2 l2)
end
/-! ### raise c(e) -/
theorem ms_rai {c : Str} {e : Expr} {ea : ME} {p cp pos : Pos} (co : CO P w K mg base (false, G.rp) n N sc fnc E X) (gf : GF P w K mg base ga xn G C n) (hc : c ∈ G.xcs) (hg : sc.names.lookup c = some .globalImplicit) (hdb : (c == ("__debug__" : Str)) = false) (he : PE X e (TEm K ga xn E C ea)) (hs : notStar e = true) :
    PS X (.Raise (some (.Call (.Name c p) [e] [] cp)) none pos) (TSm K ga xn E C (.rai c ea)) := by
  by_cases hok : C.rok = true ∧ C.isx c = true
  · obtain ⟨h2, fI, fd, ps, F, T, iC, tI, hb, hm⟩ := gf.rai c hc hok.1
    have rm := (co.room rfl).mono h2
    have calm := co.calm rfl
    have tk := co.tk
    obtain ⟨pP, pw, pK, pm, pb, pN, pc, _, _, _, _, _, _, _⟩ := co
    subst pP pw pK pm pb
    have mk := pmk_oex (X := X) (p := p) (pos := cp) (k := 1) (dvs := []) (ds := []) T iC tI F rm hb .nil (fun _ _ _ _ _ _ _ z => by obtain ⟨_, _, _, _, _, _, _, _, _, _, _, _, z⟩ := z; exact z.elim) (by show X.env.scope.names.lookup c = _; rw [pc]; exact hg) hm (pa_cons he pa_nil (star_one hs)) hdb (star_one hs) rfl
    refine PS_imp (ps_raise calm tk mk) ?_
    rintro D σ H ⟨Ω, σm, hm, hr, sr, p⟩
    unfold run at p
    rw [if_pos hok] at p
    refine te_of hr sr (PostS.out p) fun Ω1 H1 v h1 x l1 e1 r1 s1 vx p1 => ?_
    refine ⟨by simp, fun a ha => ⟨a, x, rfl, upd_same, fun d hd hne => ⟨rfl, d, [(xn c, x)], upd_same, (upd_ne hne).trans upd_same, ?_, ?_⟩⟩⟩
    · rw [upd_ne hne] at hd; exact hd
    · rw [upd_ne hne] at hd
      have eq : upd (del (upd (upd (upd H1 a (exo a (ga c) none)) d (exd d [(xn c, x)])) a (exo a (ga c) (some d))) a) d (.xd [(xn c, x)]) = upd H1 d (.xd [(xn c, x)]) := by
        funext b
        by_cases hbd : b = d
        · subst hbd; rw [upd_same, upd_same]
        · rw [upd_ne hbd, upd_ne hbd]
          by_cases hba : b = a
          · subst hba; rw [del_same, ha]
          · rw [del_ne hba, upd_ne hba, upd_ne hbd, upd_ne hba]
      rw [eq]
      split at p1
      · have ex := ext_new (o := .xd [(xn c, x)]) r1 hd
        exact p1 Ω1 _ d x (Nat.le_refl _) ex (r1.new hd) (vx.ext ex (Nat.le_refl _)) (r1.free hd) upd_same
      · exact p1.elim
  · refine PS_imp ps_never ?_
    rintro D σ H ⟨Ω, σm, hm, hr, sr, p⟩
    unfold run at p
    rw [if_neg hok] at p
    exact p
/-! ### the own __init__ of such a class -/
def chkI1 (sc : Scope) (B f : Str) : List Stmt → Bool
  | [.Expr (.Call (.Attribute (.Name b _) m ap) [.Name s1 _, .Constant (.str _) _ _] [] p) _, .Assign [.Attribute (.Name s2 _) g _] (.Name x _) _] =>
    decide (b = B) && gi sc B && ndb B && decide (m = ("__init__" : Str)) && (ap.endLine == p.line) && decide (g = f) && decide (s1 = s2) && visB sc s1 && ndb s1 && !(s1 == ("__classdict__" : Str)) && visB sc x && ndb x && !(x == ("__classdict__" : Str)) && !(s1 == x)
  | _ => false
end Mn
namespace Mn
open PySem PySem.Spec PyProof.Rows L2
section
variable {P : Program} {w : World} {K : PySem.W.Frag} {mg : Str → Option Value} {base : Heap} {ga : Str → Addr} {xn : Str → Str}
variable {G : Gs} {C : Ct} {hot : Bool × Bool} {rp : Bool} {n : Nat} {N : List Str} {sc : Scope} {fnc : Str → Bool} {E : XK} {X : Cx}
theorem asg_fc {ea : ME} {i : Nat} {x : Str} {p pos : Pos} {e : Expr} (co : CO P w K mg base (false, G.rp) n N sc fnc E X) (gf : GF P w K mg base ga xn G C n) (hcold : G.xc = false) (hf : isFc ea = true) (hs : swapOk N sc i x p e = true) (h : chkE N G ea sc fnc e = true) : PS X (.Assign [.Name x p] e pos) (TSm K ga xn E C (.asg i ea)) := by
  unfold isFc at hf
  split at hf
  · unfold chkE chkF at h
    replace h := (and2 h).2
    split at h
    · simp only [Bool.and_eq_true, decide_eq_true_eq] at h
      obtain ⟨⟨⟨⟨⟨⟨⟨h1, h2⟩, h3⟩, h4⟩, h5⟩, h6⟩, h7⟩, h8⟩ := h
      unfold swapOk at hs
      simp only [Bool.and_eq_true, decide_eq_true_eq] at hs
      obtain ⟨⟨⟨⟨q1, q2⟩, q3⟩, q4⟩, q5⟩ := hs
      exact ms_asgC co q1 q2 q3 q4 (nb_ok q5) (okI _ (co.warm hcold) gf (lk_cold hcold) h5) h1 h2 h3 h4 fun X' co' => ⟨tg_ok co' h6, okC _ (co'.warm hcold) gf (lk_cold hcold) h7, okE _ (co'.warm hcold) gf (lk_cold hcold) h8⟩
    · cases h
  · cases hf
theorem asg_dc {ea : ME} {i : Nat} {x : Str} {p pos : Pos} {e : Expr} (co : CO P w K mg base (false, G.rp) n N sc fnc E X) (gf : GF P w K mg base ga xn G C n) (hcold : G.xc = false) (hf : isDc ea = true) (hs : swapOkD N sc i x p e = true) (h : chkE N G ea sc fnc e = true) : PS X (.Assign [.Name x p] e pos) (TSm K ga xn E C (.asg i ea)) := by
  unfold isDc at hf
  split at hf
  · unfold chkE at h
    replace h := (and2 h).2
    split at h
    · simp only [Bool.and_eq_true, decide_eq_true_eq] at h
      obtain ⟨⟨⟨⟨⟨⟨⟨⟨h1, h2⟩, h3⟩, h4⟩, h5⟩, h6⟩, h7⟩, h8⟩, h9⟩ := h
      unfold swapOkD at hs
      simp only [Bool.and_eq_true, decide_eq_true_eq] at hs
      obtain ⟨⟨⟨⟨q1, q2⟩, q3⟩, q4⟩, q5⟩ := hs
      exact ms_asgD co q1 q2 q3 q4 (nb_ok q5) (okI _ (co.warm hcold) gf (lk_cold hcold) h5) h1 h2 h3 h4 fun X' co' => ⟨tg_ok co' h6, okC _ (co'.warm hcold) gf (lk_cold hcold) h7, okE _ (co'.warm hcold) gf (lk_cold hcold) h8, okE _ (co'.warm hcold) gf (lk_cold hcold) h9⟩
    · cases h
  · cases hf
mutual
theorem okS (gf : GF P w K mg base ga xn G C n) (hcold : G.xc = false) : ∀ (m : MS) {E : XK} {X : Cx} {st : Stmt}, CO P w K mg base (false, G.rp) n N sc fnc E X → PassesOwn (model X.prog X.w) X.A X.env X.xe → X.stack = X.env :: X.outer → X.env.frame = some X.env.locals → chkS N G sc fnc m st = true → PS X st (TSm K ga xn E C m)
  | .skip, E, X, st, co, hp, hs, hfr, h => by
    unfold chkS at h
    split at h
    · exact ms_pass
    · cases h
  | .asg i ea, E, X, st, co, hp, hs, hfr, h => by
    unfold chkS at h
    split at h
    · obtain ⟨h1, h2⟩ := and2 h
      rw [Bool.or_eq_true] at h2
      rcases h2 with h2 | h2
      · exact ms_asg co (and2 h2).1 (okE ea (co.warm hcold) gf (lk_cold hcold) h1) (and2 h2).2
      · rw [Bool.or_eq_true] at h2
        rcases h2 with h2 | h2
        · exact asg_fc co gf hcold (and2 h2).1 (and2 h2).2 h1
        · exact asg_dc co gf hcold (and2 h2).1 (and2 h2).2 h1
    · cases h
  | .una o f j ea, E, X, st, co, hp, hs, hfr, h => by
    unfold chkS at h
    split at h
    · simp only [Bool.and_eq_true, decide_eq_true_eq, beq_iff_eq] at h
      obtain ⟨⟨⟨⟨h1, rfl⟩, h2⟩, h3⟩, h4⟩ := h
      exact ms_una co gf h2 (okE o (co.warm hcold) gf (lk_cold hcold) h3) (okE ea (co.warm hcold) gf (lk_cold hcold) h4) h1
    · cases h
  | .unp is ea, E, X, st, co, hp, hs, hfr, h => by
    unfold chkS at h
    split at h
    · simp only [Bool.and_eq_true] at h
      obtain ⟨⟨h1, h2⟩, h3⟩ := h
      exact ms_unp co h1 (okE ea (co.warm hcold) gf (lk_cold hcold) h3) h2
    · cases h
  | .par i j ea eb, E, X, st, co, hp, hs, hfr, h => by
    unfold chkS at h
    split at h
    · simp only [Bool.and_eq_true, decide_eq_true_eq] at h
      obtain ⟨⟨⟨⟨⟨⟨⟨⟨⟨⟨⟨⟨⟨h1, h2⟩, h3⟩, h4⟩, h5⟩, h6⟩, h7⟩, h8⟩, h9⟩, h10⟩, h11⟩, h12⟩, h13⟩, h14⟩ := h
      exact ms_par co h1 h2 h3 h4 h5 h6 h7 (nb_ok h8) (nb_ok h9) (nb_ok h10) h11 h12 (okE ea (co.warm hcold) gf (lk_cold hcold) h13) (okE eb (co.warm hcold) gf (lk_cold hcold) h14)
    · cases h
  | .setf o f ea, E, X, st, co, hp, hs, hfr, h => by
    unfold chkS at h
    split at h
    · simp only [Bool.and_eq_true, decide_eq_true_eq] at h
      obtain ⟨⟨rfl, h1⟩, h2⟩ := h
      exact ms_setf co gf (okE o (co.warm hcold) gf (lk_cold hcold) h1) (okE ea (co.warm hcold) gf (lk_cold hcold) h2)
    · cases h
  | .seti o i ea, E, X, st, co, hp, hs, hfr, h => by
    unfold chkS at h
    split at h
    · simp only [Bool.and_eq_true, decide_eq_true_eq] at h
      obtain ⟨⟨⟨h1, h2⟩, h3⟩, h4⟩ := h
      exact ms_seti co (okE o (co.warm hcold) gf (lk_cold hcold) h2) (okE i (co.warm hcold) gf (lk_cold hcold) h3) (okE ea (co.warm hcold) gf (lk_cold hcold) h4) h1
    · cases h
  | .aug i op ea, E, X, st, co, hp, hs, hfr, h => by
    unfold chkS at h
    split at h
    · simp only [Bool.and_eq_true, decide_eq_true_eq] at h
      obtain ⟨⟨rfl, h1⟩, h2⟩ := h
      exact ms_aug co h1 (okE ea (co.warm hcold) gf (lk_cold hcold) h2)
    · cases h
  | .ex ea, E, X, st, co, hp, hs, hfr, h => by
    unfold chkS at h
    split at h
    · exact ms_ex (okE ea (co.warm hcold) gf (lk_cold hcold) (and2 h).2) (and2 h).1
    · cases h
  | .ret ea, E, X, st, co, hp, hs, hfr, h => by
    unfold chkS at h
    split at h
    · exact ms_ret (okE ea (co.warm hcold) gf (lk_cold hcold) h)
    · cases h
  | .retN, E, X, st, co, hp, hs, hfr, h => by
    unfold chkS at h
    split at h
    · exact ms_retN
    · cases h
  | .ite c a b, E, X, st, co, hp, hs, hfr, h => by
    unfold chkS at h
    split at h
    · simp only [Bool.and_eq_true] at h
      obtain ⟨⟨h1, h2⟩, h3⟩ := h
      exact ms_ite (okT c (co.warm hcold) gf (lk_cold hcold) h1) (okSs gf hcold a co hp hs hfr h2) (okSs gf hcold b co hp hs hfr h3)
    · cases h
  | .whl c a, E, X, st, co, hp, hs, hfr, h => by
    unfold chkS at h
    split at h
    · exact ms_whl co hp (okT c (co.warm hcold) gf (lk_cold hcold) (and2 h).1) (okSs gf hcold a co hp hs hfr (and2 h).2)
    · cases h
  | .for_ t it a, E, X, st, co, hp, hs, hfr, h => by
    unfold chkS at h
    split at h
    · simp only [Bool.and_eq_true] at h
      obtain ⟨⟨⟨h1, h2⟩, h3⟩, h4⟩ := h
      exact ms_for co hp (okI it (co.warm hcold) gf (lk_cold hcold) h3) h2 (okSs gf hcold a co hp hs hfr h4) h1
    · cases h
  | .brk, E, X, st, co, hp, hs, hfr, h => by
    unfold chkS at h
    split at h
    · exact ms_brk
    · cases h
  | .cnt, E, X, st, co, hp, hs, hfr, h => by
    unfold chkS at h
    split at h
    · exact ms_cnt
    · cases h
  | .setd o i ea, E, X, st, co, hp, hs, hfr, h => by
    unfold chkS at h
    split at h
    · simp only [Bool.and_eq_true, decide_eq_true_eq] at h
      obtain ⟨⟨h2, h3⟩, h4⟩ := h
      exact ms_setd co (okE o (co.warm hcold) gf (lk_cold hcold) h2) (okE i (co.warm hcold) gf (lk_cold hcold) h3) (okE ea (co.warm hcold) gf (lk_cold hcold) h4)
    · cases h
  | .lck e a, E, X, st, co, hp, hs, hfr, h => by
    unfold chkS at h
    exact ms_lck (okS gf hcold a co hp hs hfr h)
  | .never, E, X, st, co, hp, hs, hfr, h => ms_never
  | .rai c ea, E, X, st, co, hp, hs, hfr, h => by
    unfold chkS at h
    split at h
    · simp only [Bool.and_eq_true, decide_eq_true_eq] at h
      obtain ⟨⟨⟨⟨⟨⟨rfl, h1⟩, h2⟩, h3⟩, h4⟩, h5⟩, h6⟩ := h
      exact ms_rai co gf h1 (gi_ok h2) (ndb_ok h3) (okE ea (co.warm hcold) gf (lk_cold hcold) h6) h4
    · cases h
  | .tryA b i c s, E, X, st, co, hp, hs, hfr, h => by
    unfold chkS at h
    split at h
    · obtain ⟨h1, h2⟩ := and2 h
      unfold chkH at h2
      split at h2
      · simp only [Bool.and_eq_true, decide_eq_true_eq] at h2
        obtain ⟨⟨⟨⟨⟨⟨⟨⟨rfl, q1⟩, q2⟩, q3⟩, q4⟩, q5⟩, q6⟩, q7⟩, q8⟩ := h2
        exact ms_tryA co gf hs hfr q4 q5 (gi_ok q2) (ndb_ok q3) q1 q7 (fun E' pn xe co' po => okSs gf hcold b co' po hs hfr h1) q8
      · cases h2
    · cases h
  | .tryB k f es i c s, E, X, st, co, hp, hs, hfr, h => by
    unfold chkS at h
    split at h
    · obtain ⟨h1, h2⟩ := and2 h
      unfold chkH at h2
      split at h2
      · simp only [Bool.and_eq_true, decide_eq_true_eq] at h2
        obtain ⟨⟨⟨⟨⟨⟨⟨⟨rfl, q1⟩, q2⟩, q3⟩, q4⟩, q5⟩, q6⟩, q7⟩, q8⟩ := h2
        exact ms_tryB co gf hcold hs hfr q4 q5 (gi_ok q2) (ndb_ok q3) q1 q7 h1 q8
      · cases h2
    · cases h
  | .seq .., E, X, st, co, hp, hs, hfr, h => by unfold chkS at h; cases h
theorem okSs (gf : GF P w K mg base ga xn G C n) (hcold : G.xc = false) : ∀ (m : MS) {E : XK} {X : Cx} {ss : List Stmt}, CO P w K mg base (false, G.rp) n N sc fnc E X → PassesOwn (model X.prog X.w) X.A X.env X.xe → X.stack = X.env :: X.outer → X.env.frame = some X.env.locals → chkSs N G sc fnc m ss = true → PSs X ss (TSm K ga xn E C m)
  | .skip, E, X, ss, co, hp, hs, hfr, h => by
    unfold chkSs at h
    cases ss with
    | nil => exact ms_nil
    | cons a b => cases h
  | .seq a b, E, X, ss, co, hp, hs, hfr, h => by
    unfold chkSs at h
    split at h
    · exact ms_seq (okS gf hcold a co hp hs hfr (and2 h).1) (okSs gf hcold b co hp hs hfr (and2 h).2)
    · cases h
  | .asg .., E, X, ss, co, hp, hs, hfr, h => by unfold chkSs at h; cases h
  | .una .., E, X, ss, co, hp, hs, hfr, h => by unfold chkSs at h; cases h
  | .unp .., E, X, ss, co, hp, hs, hfr, h => by unfold chkSs at h; cases h
  | .par .., E, X, ss, co, hp, hs, hfr, h => by unfold chkSs at h; cases h
  | .setf .., E, X, ss, co, hp, hs, hfr, h => by unfold chkSs at h; cases h
  | .seti .., E, X, ss, co, hp, hs, hfr, h => by unfold chkSs at h; cases h
  | .aug .., E, X, ss, co, hp, hs, hfr, h => by unfold chkSs at h; cases h
  | .ex .., E, X, ss, co, hp, hs, hfr, h => by unfold chkSs at h; cases h
  | .ret .., E, X, ss, co, hp, hs, hfr, h => by unfold chkSs at h; cases h
  | .retN, E, X, ss, co, hp, hs, hfr, h => by unfold chkSs at h; cases h
  | .ite .., E, X, ss, co, hp, hs, hfr, h => by unfold chkSs at h; cases h
  | .whl .., E, X, ss, co, hp, hs, hfr, h => by unfold chkSs at h; cases h
  | .for_ .., E, X, ss, co, hp, hs, hfr, h => by unfold chkSs at h; cases h
  | .brk, E, X, ss, co, hp, hs, hfr, h => by unfold chkSs at h; cases h
  | .cnt, E, X, ss, co, hp, hs, hfr, h => by unfold chkSs at h; cases h
  | .never, E, X, ss, co, hp, hs, hfr, h => by unfold chkSs at h; cases h
  | .rai .., E, X, ss, co, hp, hs, hfr, h => by unfold chkSs at h; cases h
  | .tryA .., E, X, ss, co, hp, hs, hfr, h => by unfold chkSs at h; cases h
  | .tryB .., E, X, ss, co, hp, hs, hfr, h => by unfold chkSs at h; cases h
  | .setd .., E, X, ss, co, hp, hs, hfr, h => by unfold chkSs at h; cases h
  | .lck .., E, X, ss, co, hp, hs, hfr, h => by unfold chkSs at h; cases h
end
end
end Mn
namespace Mn
open PySem PySem.Spec PyProof.Rows L2
variable {P : Program} {w : World} {K : PySem.W.Frag} {mg : Str → Option Value} {base : Heap} {ga : Str → Addr} {xn : Str → Str}
variable {G : Gs} {C : Ct} {hot : Bool × Bool} {rp : Bool} {n : Nat} {N : List Str} {sc : Scope} {fnc : Str → Bool} {E : XK} {X : Cx}
/-- the own __init__ of an exception class -/
def chkI2 (sc : Scope) (B f s1 x : Str) : List Stmt → Bool
  | [.Expr (.Call (.Attribute (.Name b _) m ap) [.Name t1 _, .Constant (.str _) _ _] [] p) _, .Assign [.Attribute (.Name t2 _) g _] (.Name y _) _] =>
    decide (b = B) && gi sc B && ndb B && decide (m = ("__init__" : Str)) && (ap.endLine == p.line) && decide (g = f) && decide (t1 = s1) && decide (t2 = s1) && decide (y = x) && visB sc s1 && ndb s1 && !(s1 == ("__classdict__" : Str)) && visB sc x && ndb x && !(x == ("__classdict__" : Str))
  | _ => false
theorem xi_ok {c B f s1 x nm qual : Str} {params : Arguments} {body : List Stmt} {scope : Scope} {a : Addr} {fd : FuncData} (F : FunD K nm qual params body scope [] [] a fd) (S : FnScope [s1, x] [s1, x] scope) (T : OexC K (ga c)) (hno : PySem.W.findIn K (.ref (ga c)) f = some none) (TB : BasI K (ga B)) (hm : mg B = some (.ref (ga B)))
    (h : chkI2 scope B f s1 x body = true) : FnOk P w K mg base (L2.CX P w) 1 a fd [s1, x] (spXI (ga c) f) := by
  unfold chkI2 at h
  split at h
  · rename_i b p1 m ap t1 p2 z z1 z2 p p3 t2 p4 g p5 y p6 p7
    simp only [Bool.and_eq_true, decide_eq_true_eq] at h
    obtain ⟨⟨⟨⟨⟨⟨⟨⟨⟨⟨⟨⟨⟨⟨rfl, g1⟩, g2⟩, rfl⟩, g4⟩, rfl⟩, rfl⟩, rfl⟩, rfl⟩, g5⟩, g6⟩, g7⟩, g8⟩, g9⟩, g10⟩ := h
    refine F.ok S (fun vs H Q E hh => ?_) fun cdv A outer s H vs Q E hr hh => ?_
    · obtain ⟨_, _, rfl, _⟩ := hh
      rfl
    · obtain ⟨o, v, rfl, ho, q⟩ := hh
      generalize hX : cxOf (L2.CX P w) P w K mg base [t2, y] qual scope a cdv A outer s H E = X
      have eK : X.K = K := by subst hX; rfl
      have eN : X.N = [t2, y] := by subst hX; rfl
      have eS : X.env.scope = scope := by subst hX; rfl
      have eM : X.mg = mg := by subst hX; rfl
      have v1 : PE X (.Name t2 p2) (tVar 0) := pe_var (i := 0) (by rw [eN]; rfl) (by rw [eS]; exact vis_ok g5) (ndb_ok g6) (nb_ok g7)
      have v2 : PE X (.Name t2 p4) (tVar 0) := pe_var (i := 0) (by rw [eN]; rfl) (by rw [eS]; exact vis_ok g5) (ndb_ok g6) (nb_ok g7)
      have v3 : PE X (.Name y p6) (tVar 1) := pe_var (i := 1) (by rw [eN]; rfl) (by rw [eS]; exact vis_ok g8) (ndb_ok g9) (nb_ok g10)
      have args : PA X [.Name t2 p2, .Constant (.str z) z1 z2] (tCons (tVar 0) (tCons (tC (.str z)) tNil)) := pa_cons v1 (pa_cons pe_str pa_nil)
      have call := pe_basinit (X := X) (x := b) (p1 := p1) (p2 := ap) (pos := p) (by show X.env.scope.names.lookup b = _; rw [eS]; exact gi_ok g1) (by rw [eM]; exact hm) (by rw [eK]; exact TB) args (ndb_ok g2) (meth_tree (attr_plain rfl) rfl (by simp) g4) rfl rfl
      refine ⟨_, pss_cons (ps_expr call) (pss_cons (ps_ost v2 v3) pss_nil), ?_⟩
      refine ⟨_, rfl, o, ga c, [.str z], rfl, by simp, by rw [eK]; exact T, ho, ?_⟩
      refine ⟨_, rfl, _, rfl, o, ga c, rfl, by rw [eK]; exact T, by rw [eK]; exact hno, .inl ⟨ho, fun dx hd hne => ?_⟩⟩
      exact q dx hd hne
  · cases h
end Mn
namespace Mn
open PySem PySem.Spec PyProof.Rows L2
section
variable {P : Program} {w : World} {K : PySem.W.Frag} {mg : Str → Option Value} {base : Heap} {ga : Str → Addr} {xn : Str → Str}
variable {G : Gs} {Pm : Pr}
/-- the constants a body of level n + 1 sees -/
noncomputable def ctx (Pm : Pr) (n : Nat) : Ct := ⟨callm Pm n, (match n with
    | 0 => fun _ _ _ => .bad
    | k + 1 => fun c vs h => match Pm.init c with
      | some g => callm Pm k g vs h
      | none => .bad), Pm.con, Pm.na, (match n with
    | 0 => false
    | _ + 1 => true), none, Pm.xn, Pm.sub, Pm.isx, (match n with
    | 0 => false
    | 1 => false
    | _ + 2 => true)⟩
theorem callm_zero {f : Str} {vs : List MV} {h : MHeap} : callm Pm 0 f vs h = .bad := rfl
theorem callm_succ {n : Nat} {f : Str} {vs : List MV} {h : MHeap} : callm Pm (n + 1) f vs h = (match Pm.fn f with
    | some d => if vs.length = d.np then finO d.raw h (run (ctx Pm n) d.body (vs.map some ++ List.replicate (d.nl - d.np) none) h) else .bad
    | none => .bad) := by cases n with
  | zero => unfold callm ctx; rfl
  | succ n => cases n <;> (unfold callm ctx; rfl)
/-- a def of the text and its tree -/
def IsD (K : PySem.W.Frag) (Pm : Pr) (G : Gs) (f : Str) (a : Addr) (fd : FuncData) (ps : List Str) : Prop :=
  ∃ (d : Fn) (x qual : Str) (params : Arguments) (body : List Stmt) (scope : Scope) (N : List Str) (kws : List (Str × V)), Pm.fn f = some d ∧ FunD K x qual params body scope [] kws a fd ∧ FnScope N ps scope ∧ d.np = ps.length ∧ d.nl = N.length ∧ chkSs N G scope (fun _ => true) d.body body = true ∧ G.xc = false ∧ G.rp = false
theorem fin_post {raw : Bool} {hm : MHeap} {E : XK} {H : Hp} {Ω : Om} {r : Out} {Q : VK} (h0 : HRel K ga Ω hm H) (p : Post K ga xn E hm.length Ω H (finO raw hm r) (Kv K ga Q)) :
    PostS K ga xn E hm.length Ω H r { nx := fun _ H' => Q .non H', rt := Q } := by
  have key : ∀ {v : MV} {h : MHeap} {Ω' : Om} {H' : Hp} {x : V}, Post K ga xn E hm.length Ω H (finV raw hm v h) (Kv K ga Q) → hm.length ≤ h.length → Ext hm.length Ω H Ω' H' → HRel K ga Ω' h H' → VRel K ga Ω' h.length H' v x → Q x H' := by
    intro v h Ω' H' x p l e r vx
    unfold finV at p
    split at p
    · exact p Ω' H' l e r x vx
    · split at p
      · rename_i hc
        have hl : (h.take hm.length).length = hm.length := by simp [l]
        exact p Ω' H' (by rw [hl]; exact Nat.le_refl _) e (h0.take r e l hc) x (by rw [hl]; exact vx.down hc.1)
      · exact p.elim
  cases r with
  | next σm h => exact fun Ω' H' σ l e r _ => key (v := .non) p l e r (v_non.mpr rfl)
  | ret v h => exact fun Ω' H' x l e r vx => key p l e r vx
  | brk σm h => exact p.elim
  | cnt σm h => exact p.elim
  | exc c v h => exact p
  | bad => exact p.elim
theorem srel_start {Ω : Om} {L : Nat} {H : Hp} {ms : List MV} {vs : List V} (h : VRels K ga Ω L H ms vs) (k : Nat) : SRel K ga Ω L H (ms.map some ++ List.replicate k none) (vs.map some ++ List.replicate k none) := by
  refine ⟨by simp [vs_len h], fun i v hv => ?_⟩
  by_cases hi : i < ms.length
  · rw [List.getElem?_append_left (by simpa using hi), List.getElem?_map] at hv
    rw [List.getElem?_append_left (by simpa [← vs_len h] using hi), List.getElem?_map]
    cases q : ms[i]? with
    | none => rw [q] at hv; cases hv
    | some m =>
      rw [q] at hv
      cases hv
      obtain ⟨y, h1, h2⟩ := pr_get (vrels_iff.mp h) q
      exact ⟨y, by rw [h1]; rfl, h2⟩
  · rw [List.getElem?_append_right (by simpa using hi), List.getElem?_replicate] at hv
    split at hv <;> cases hv
theorem fn_step {n : Nat} {f : Str} {a : Addr} {fd : FuncData} {ps : List Str} (hd : IsD K Pm G f a fd ps) (gf : GF P w K mg base ga xn G (ctx Pm n) n) :
    FnOk P w K mg base (L2.CX P w) (n + 1) a fd ps (spM K ga xn (callm Pm (n + 1) f)) := by
  obtain ⟨d, x, qual, params, body, scope, N, kws, hf, F, S, hnp, hnl, hc, hcold, hrp⟩ := hd
  have split : ∀ {vs : List V} {H : Hp} {Q : VK} {E : XK}, spM K ga xn (callm Pm (n + 1) f) vs H Q E → ∃ Ω hm ms, HRel K ga Ω hm H ∧ VRels K ga Ω hm.length H ms vs ∧ ms.length = d.np ∧
      Post K ga xn E hm.length Ω H (finO d.raw hm (run (ctx Pm n) d.body (ms.map some ++ List.replicate (d.nl - d.np) none) hm)) (Kv K ga Q) := by
    rintro vs H Q E ⟨Ω, hm, ms, hr, vr, p⟩
    rw [callm_succ, hf] at p
    have p1 : Post K ga xn E hm.length Ω H (if ms.length = d.np then finO d.raw hm (run (ctx Pm n) d.body (ms.map some ++ List.replicate (d.nl - d.np) none) hm) else .bad) (Kv K ga Q) := p
    by_cases hl : ms.length = d.np
    · rw [if_pos hl] at p1
      exact ⟨Ω, hm, ms, hr, vr, hl, p1⟩
    · rw [if_neg hl] at p1
      exact p1.elim
  refine F.ok S (fun vs H Q E h => ?_) fun cdv A outer s H vs Q E hr h => ?_
  · obtain ⟨Ω, hm, ms, _, vr, hl, _⟩ := split h
    rw [← vs_len vr, hl, hnp]
  · obtain ⟨Ω, hm, ms, h0, vr, hl, p⟩ := split h
    have co : CO P w K mg base (false, G.rp) n N scope (fun _ => true) E (cxOf (L2.CX P w) P w K mg base N qual scope a cdv A outer s H E) :=
      ⟨rfl, rfl, rfl, rfl, rfl, rfl, rfl, rfl, fun _ => rfl, fun _ => hr, (fun z => by rw [hrp] at z; cases z), hr.units, S.nd, takes_of rfl rfl rfl rfl⟩
    refine ⟨TSm K ga xn E (ctx Pm n) d.body, okSs gf hcold d.body co (passes_of rfl) rfl rfl hc, Ω, _, hm, h0, ?_, fin_post h0 p⟩
    have e : L2.start N vs = vs.map some ++ List.replicate (d.nl - d.np) none := by
      unfold L2.start
      rw [hnl, hnp, ← vs_len vr, hl, hnp]
    rw [e]
    exact srel_start vr _
theorem vs_app {Ω : Om} {L : Nat} {H : Hp} : ∀ {a c : List MV} {b d : List V}, VRels K ga Ω L H a b → VRels K ga Ω L H c d → VRels K ga Ω L H (a ++ c) (b ++ d)
  | [], c, b, d, h, k => by
    unfold VRels at h
    subst h
    exact k
  | x :: a, c, b, d, h, k => by
    unfold VRels at h
    obtain ⟨y, ys, rfl, hy, hys⟩ := h
    show VRels K ga Ω L H (x :: (a ++ c)) (y :: (ys ++ d))
    unfold VRels
    exact ⟨y, _, rfl, hy, vs_app hys k⟩
theorem gN_vs {Ω : Om} {L : Nat} {H : Hp} {nm : List Str} {A : List MV} {B : List V} (r : VRels K ga Ω L H A B) : ∀ {ps : List Str}, VRels K ga Ω L H (gN nm ps A) (gN nm ps B)
  | [] => by unfold gN VRels; rfl
  | p :: ps => by
    have key : ∀ {nm : List Str} {A : List MV} {B : List V}, VRels K ga Ω L H A B → ((nm.zip A).lookup p = none ∧ (nm.zip B).lookup p = none) ∨ ∃ x y, (nm.zip A).lookup p = some x ∧ (nm.zip B).lookup p = some y ∧ VRel K ga Ω L H x y := by
      intro nm
      induction nm with
      | nil => exact fun _ => .inl ⟨rfl, rfl⟩
      | cons n nm ih =>
        intro A B r
        cases A with
        | nil =>
          unfold VRels at r
          subst r
          exact .inl ⟨rfl, rfl⟩
        | cons a A =>
          unfold VRels at r
          obtain ⟨y, ys, rfl, hy, hys⟩ := r
          rw [List.zip_cons_cons, List.zip_cons_cons, List.lookup_cons, List.lookup_cons]
          cases p == n with
          | true => exact .inr ⟨_, _, rfl, rfl, hy⟩
          | false => exact ih hys
    unfold gN
    rcases key (nm := nm) r with ⟨e1, e2⟩ | ⟨x, y, e1, e2, hr⟩
    · rw [List.filterMap_cons_none (f := fun p => (nm.zip A).lookup p) e1, List.filterMap_cons_none (f := fun p => (nm.zip B).lookup p) e2]
      exact gN_vs r
    · rw [List.filterMap_cons_some (f := fun p => (nm.zip A).lookup p) e1, List.filterMap_cons_some (f := fun p => (nm.zip B).lookup p) e2]
      unfold VRels
      exact ⟨y, _, rfl, hr, gN_vs r⟩
/-- a call by keywords, as a def of its own: the values in the def's order -/
def KwRel (K : PySem.W.Frag) (ga : Str → Addr) (Pm : Pr) (key g : Str) (n m : Nat) (gV : List V → List V → List V) : Prop :=
  ∀ j, KRl K ga (callm Pm (j + 1) key) (callm Pm j g) n m gV
/-- what the text's top leaves -/
structure Hd (K : PySem.W.Frag) (mg : Str → Option Value) (ga : Str → Addr) (Pm : Pr) (G : Gs) : Prop where
  fns : ∀ f ∈ G.fns, ∃ a fd ps, IsD K Pm G f a fd ps ∧ mg f = some (.ref a) ∧ PySem.W.keepIn K (.ref a) = true ∧ Binds K fd ps []
  mes : ∀ c m f, (c, m, f) ∈ G.mes → ∃ a fd ps, IsD K Pm G f a fd ps ∧ Cls K (ga c) ∧ Meth K (ga c) m a ∧ Binds K fd ps []
  nws : ∀ c ∈ G.nws, ∃ g a fd ps, Pm.init c = some g ∧ IsD K Pm G g a fd ps ∧ Mk K (ga c) a ∧ mg c = some (.ref (ga c)) ∧ Binds K fd ps []
  con : ∀ x v, Pm.con x = some v → ∃ u v', mg x = some u ∧ RelV v' u ∧ (∀ Ω L H, VRel K ga Ω L H v v') ∧ KTup K v v'
  blt : ∀ x ∈ G.blt, mg x = none
  na : ∀ c f, Pm.na c f = true → Cls K (ga c) ∧ NoAttr K (ga c) f
  rai : ∀ c ∈ G.xcs, ∃ (B s1 x nm qual : Str) (params : Arguments) (body : List Stmt) (scope : Scope) (fI : Addr) (fd : FuncData), FunD K nm qual params body scope [] [] fI fd ∧ FnScope [s1, x] [s1, x] scope ∧ OexC K (ga c) ∧ PySem.W.findIn K (.ref (ga c)) (Pm.xn c) = some none ∧ BasI K (ga B) ∧ mg B = some (.ref (ga B)) ∧
    chkI2 scope B (Pm.xn c) s1 x body = true ∧ PySem.W.findIn K (.ref (ga c)) "__init__" = some (some (.ref fI)) ∧ PySem.W.typeIn K (.ref fI) = some (.type "function") ∧ Binds K fd [s1, x] [] ∧ mg c = some (.ref (ga c))
  xnm : ∀ c ∈ G.xns, mg c = some (.ref (ga c))
  xis : ∀ c, Pm.isx c = true → XFx K (ga c) (Pm.xn c)
  xve : ∀ c b, Pm.sub c "ValueError" = some b → PySem.W.kitOne K (.ref (ga c)) (.type "ValueError") = some b
  xsub : ∀ c q b, Pm.sub c q = some b → q ≠ "ValueError" → PySem.W.kitOne K (.ref (ga c)) (.ref (ga q)) = some b ∧ PySem.W.exmOne K (.ref (ga c)) (.ref (ga q)) = some b
  eqo : ∀ c ∈ G.eqs, PySem.W.mroIn K (ga c) (.type "object") = some true ∧ PySem.W.findIn K (.ref (ga c)) "__eq__" = some (some (.builtin "object.__eq__"))
  ksf : ∀ s ∈ G.ksh, s.cls = false → ∃ g a fd ps gg gV, IsD K Pm G g a fd ps ∧ mg s.fn = some (.ref a) ∧ PySem.W.keepIn K (.ref a) = true ∧ KBn K fd ps s.n s.ks gg gV ∧ KwRel K ga Pm s.key g s.n s.ks.length gV
  ksc : ∀ s ∈ G.ksh, s.cls = true → ∃ g a fd ps gg gV, Pm.init s.key = some s.key ∧ IsD K Pm G g a fd ps ∧ Mk K (ga s.fn) a ∧ mg s.fn = some (.ref (ga s.fn)) ∧ KBn K fd ps 1 s.ks gg gV ∧ KwRel K ga Pm s.key g 1 s.ks.length gV
def Lv (P : Program) (w : World) (K : PySem.W.Frag) (mg : Str → Option Value) (base : Heap) (ga : Str → Addr) (xn : Str → Str) (Pm : Pr) (G : Gs) (n : Nat) : Prop :=
  ∀ f a fd ps, IsD K Pm G f a fd ps → FnOk P w K mg base (L2.CX P w) n a fd ps (spM K ga xn (callm Pm n f))
theorem gf_of (h : Hd K mg ga Pm G) (hxn : Pm.xn = xn) (ht : ∀ t ∈ G.tbs, TabF K w mg t.1 t.2) : ∀ {n : Nat}, Lv P w K mg base ga xn Pm G n → (∀ k, k < n → Lv P w K mg base ga xn Pm G k) → GF P w K mg base ga xn G (ctx Pm n) n := by
  intro n l1 l2
  refine ⟨fun f hf => ?_, fun c m f hf => ?_, fun c hc hmk => ?_, h.con, h.blt, h.na, fun c hc hok => ?_, h.xnm, fun c hc => ?_, h.xve, h.xsub, hxn, h.eqo, ht, fun s hs hc => ?_, fun s hs hc hmk => ?_⟩
  · obtain ⟨a, fd, ps, i, q1, q2, q3⟩ := h.fns f hf
    exact ⟨a, fd, ps, l1 f a fd ps i, q1, q2, q3⟩
  · obtain ⟨a, fd, ps, i, q1, q2, q3⟩ := h.mes c m f hf
    exact ⟨a, fd, ps, l1 f a fd ps i, q1, q2, q3⟩
  · obtain ⟨g, a, fd, ps, hg, i, q1, q2, q3⟩ := h.nws c hc
    cases n with
    | zero => cases hmk
    | succ k =>
      refine ⟨k, a, fd, ps, Nat.le_refl _, ?_, q1, q2, q3⟩
      have e : (ctx Pm (k + 1)).ci c = callm Pm k g := by
        funext vs h
        show (match Pm.init c with | some g => callm Pm k g vs h | none => Rs.bad) = _
        rw [hg]
      rw [e]
      exact l2 k (Nat.lt_succ_self _) g a fd ps i
  · obtain ⟨B, s1, x, nm, qual, params, body, scope, fI, fd, F, S, T, hno, TB, hB, hc2, q1, q2, q3, q4⟩ := h.rai c hc
    refine ⟨?_, fI, fd, [s1, x], ?_, T, q1, q2, q3, q4⟩
    · match n, hok with
      | 0, hok => cases hok
      | 1, hok => cases hok
      | n + 2, _ => omega
    · rw [← hxn]
      exact xi_ok F S T hno TB hB hc2
  · rw [← hxn]
    exact h.xis c hc
  · obtain ⟨g, a, fd, ps, gg, gV, i, q1, q2, q3, q4⟩ := h.ksf s hs hc
    cases n with
    | zero => exact ⟨0, _, a, fd, ps, gg, gV, Nat.le_refl _, l1 g a fd ps i, q1, q2, q3, fun _ _ _ _ _ _ _ _ _ _ _ => .inl rfl⟩
    | succ j => exact ⟨j, _, a, fd, ps, gg, gV, Nat.le_succ _, l2 j (Nat.lt_succ_self _) g a fd ps i, q1, q2, q3, q4 j⟩
  · obtain ⟨g, a, fd, ps, gg, gV, hi, i, q1, q2, q3, q4⟩ := h.ksc s hs hc
    cases n with
    | zero => cases hmk
    | succ k =>
      have e : (ctx Pm (k + 1)).ci s.key = callm Pm k s.key := by
        funext vs h
        show (match Pm.init s.key with | some g => callm Pm k g vs h | none => Rs.bad) = _
        rw [hi]
      cases k with
      | zero =>
        refine ⟨0, _, a, fd, ps, gg, gV, Nat.le_refl _, l2 0 (Nat.lt_succ_self _) g a fd ps i, q1, q2, q3, fun _ _ _ _ _ _ _ _ _ _ _ => .inl ?_⟩
        rw [e]
        rfl
      | succ j =>
        refine ⟨j, _, a, fd, ps, gg, gV, by omega, l2 j (by omega) g a fd ps i, q1, q2, q3, ?_⟩
        rw [e]
        exact q4 j
theorem kbn_of2 {x qual : Str} {params : Arguments} {body : List Stmt} {scope : Scope} {kws : List (Str × V)} {f : Addr} {fd : FuncData} {ps pn nm : List Str} {ks : List Str} {ms : List (Str × V)} (F : FunD K x qual params body scope [] kws f fd) (hp : psn params = pn)
    (hc : kwB params ks (ms.map (·.1)) ps = true) (hms : ∀ q ∈ ms, q ∈ kws) (hnm : nm = pn ++ ks ++ ms.map (·.1)) : ∃ g, KBn K fd ps pn.length ks g (fun vs zs => gN nm ps (vs ++ zs ++ ms.map (·.2))) := by
  subst hp hnm
  obtain ⟨mv, h⟩ := kbn_of F ks ms hc hms
  exact ⟨_, h⟩
/-- the wrapper of a call by keywords: its np values, put in the order of the def -/
theorem kw_wrap {key g : Str} {es : ME} {np : Nat} (gm : List MV → List MV) (hf : Pm.fn key = some ⟨np, np, true, .ret (.call g es)⟩) (he : ∀ (C : Ct) (vs : List MV) (h : MHeap), vs.length = np → evL C es (vs.map some) h = .ok (gm vs) h) (j : Nat) (vs : List MV) (h : MHeap) (hl : vs.length = np) :
    callm Pm (j + 1) key vs h = callm Pm j g (gm vs) h := by
  rw [callm_succ, hf]
  show (if vs.length = np then finO true h (run (ctx Pm j) (.ret (.call g es)) (vs.map some ++ List.replicate (np - np) none) h) else Rs.bad) = _
  rw [if_pos hl, Nat.sub_self, List.replicate_zero, List.append_nil]
  unfold run evE
  rw [he _ _ _ hl]
  show finO true h ((callm Pm j g (gm vs) h).out fun v h1 => .ret v h1) = _
  cases callm Pm j g (gm vs) h with
  | ok v h1 =>
    show finV true h v h1 = _
    unfold finV
    rw [if_pos rfl]
  | exc c v h1 => rfl
  | bad => rfl
theorem kw_rel {key g : Str} {es : ME} {nm ps : List Str} {n m : Nat} {cs : List MV} {ds : List V} (hf : Pm.fn key = some ⟨n + m, n + m, true, .ret (.call g es)⟩) (he : ∀ (C : Ct) (vs : List MV) (h : MHeap), vs.length = n + m → evL C es (vs.map some) h = .ok (gN nm ps (vs ++ cs)) h)
    (hd : ∀ Ω L H, VRels K ga Ω L H cs ds) : KwRel K ga Pm key g n m (fun vs zs => gN nm ps (vs ++ zs ++ ds)) := by
  intro j Ω L H vs ws xs zs h rv rw_ hl
  by_cases hm : ws.length = m
  · refine .inr ⟨hm, gN nm ps (vs ++ ws ++ cs), gN_vs (vs_app (vs_app rv rw_) (hd Ω L H)), ?_⟩
    exact kw_wrap (fun vs => gN nm ps (vs ++ cs)) hf he j (vs ++ ws) h (by rw [List.length_append, hl, hm])
  · refine .inl ?_
    rw [callm_succ, hf]
    show (if (vs ++ ws).length = n + m then _ else Rs.bad) = _
    rw [if_neg (by rw [List.length_append, hl]; omega)]
theorem lv_all (h : Hd K mg ga Pm G) (hxn : Pm.xn = xn) (ht : ∀ t ∈ G.tbs, TabF K w mg t.1 t.2) : ∀ n, Lv P w K mg base ga xn Pm G n ∧ (∀ k, k < n → Lv P w K mg base ga xn Pm G k)
  | 0 => by
    refine ⟨fun f a fd ps _ => ⟨fun vs H Q E s => ?_, fun A outer s H args us vs Q E _ _ _ _ hs => ?_⟩, fun k e => absurd e (Nat.not_lt_zero _)⟩
    · obtain ⟨Ω, hm, ms, _, _, p⟩ := s
      exact p.elim
    · obtain ⟨Ω, hm, ms, _, _, p⟩ := hs
      exact p.elim
  | n + 1 => by
    have ih := lv_all h hxn ht n
    exact ⟨fun f a fd ps i => fn_step i (gf_of h hxn ht ih.1 ih.2), fun k e => by
      rcases Nat.lt_succ_iff_lt_or_eq.mp e with e | rfl
      · exact ih.2 k e
      · exact ih.1⟩
/-- the law's own def: from the script's list -/
theorem law_spec {n : Nat} {f : Str} {H : Hp} {a : Addr} {ns : List Int} {h' : MHeap} (hO : Only H) (hS : SqL K H a (ns.map V.int)) (e : callm Pm n f [.scr (ns.map .int)] [] = .ok (.bl true) h') :
    spM K ga xn (callm Pm n f) [.ref a] H (fun v _ => v = .bl true) (fun _ _ _ => False) := by
  have hs : Scr K H a (ns.map V.int) := by
    rcases hS with (h | h) | h
    · rcases hO a with q | ⟨o, xs, q⟩
      · rw [q] at h; cases h
      · rw [q] at h; cases h
    · exact .inl h
    · exact .inr h
  refine ⟨⟨fun _ => 0, fun _ => False, fun _ => False⟩, [], [.scr (ns.map .int)], ⟨fun n o q => (by cases q), fun n m hn => absurd hn (Nat.not_lt_zero _), fun n o q => (by cases q), fun _ z => z.elim, fun n hn => absurd hn (Nat.not_lt_zero _), fun _ z => z.elim, fun _ z => z.elim⟩, ?_, ?_⟩
  · unfold VRels VRels
    refine ⟨_, _, rfl, v_scr.mpr ⟨a, _, rfl, hs, ?_⟩, rfl⟩
    clear e hS hs
    induction ns with
    | nil => unfold VRels; rfl
    | cons i is ih =>
      rw [List.map_cons, List.map_cons]
      unfold VRels
      exact ⟨_, _, rfl, v_int.mpr rfl, ih⟩
  · rw [e]
    intro Ω' H' _ _ _ x vx
    exact v_bl.mp vx
/-! ### the law's own def, where repr may stand -/
def rpG (G : Gs) : Gs := { G with rp := true }
theorem GF.rpG {C : Ct} {n : Nat} (gf : GF P w K mg base ga xn G C n) : GF P w K mg base ga xn (rpG G) C n :=
  ⟨gf.fns, gf.mes, gf.nws, gf.con, gf.blt, gf.na, gf.rai, gf.xnm, gf.xis, gf.xve, gf.xsub, gf.xnn, gf.eqo, gf.tbs, gf.ksf, gf.ksc⟩
def IsG (K : PySem.W.Frag) (Pm : Pr) (G : Gs) (f : Str) (a : Addr) (fd : FuncData) (ps : List Str) : Prop :=
  ∃ (d : Fn) (x qual : Str) (params : Arguments) (body : List Stmt) (scope : Scope) (N : List Str), Pm.fn f = some d ∧ FunD K x qual params body scope [] [] a fd ∧ FnScope N ps scope ∧ d.np = ps.length ∧ d.nl = N.length ∧ chkSs N (rpG G) scope (fun _ => true) d.body body = true ∧ G.xc = false
/-- a call of a def, in one place -/
theorem run_at {CX : CXT} {A0 : Around} {outer : List Env} {k : Nat} {x qual : Str} {params : Arguments} {body : List Stmt} {scope : Scope} {N ps : List Str} {a : Addr} {fd : FuncData} {s : Shared} {H : Hp} {args : Args} {us : List Value} {vs : List V} {Q : VK} {E : XK}
    (F : FunD K x qual params body scope [] [] a fd) (S : FnScope N ps scope) (hl : vs.length = ps.length) (hr : Room (k + 1) A0) (e0 : Env0 P w K mg base A0 outer s H) (hb : BindsTo s fd args (ps.zip us)) (rv : Vals vs us)
    (hbody : ∀ cdv : Value, Room k (A0.deeper (envOfC qual scope s.heap.objs.size a cdv)) → ∃ t, PSs (cxOf CX P w K mg base N qual scope a cdv A0 outer s H E) body t ∧ t { nx := fun _ G => Q .non G, rt := Q } (L2.start N vs) H) :
    codeAny (model P w) A0 (.call (.ref a) args) (CR CX outer P w H s Q E) s := by
  obtain ⟨oc, od, dV, kV, doc, pm, an, cdv, ct, osl, rfl, look, code, _, _⟩ := F.ex
  have kin : K.In s.heap := e0.mod.kin.keeps fun _ _ z => (e0.bs _ _ z).1
  have nol : s.heap.NoLimit := e0.mod.nolimit.keeps fun _ _ z => (e0.bs _ _ z).1
  have kinds : ∀ q ∈ ps.zip us, scope.names.lookup q.1 = some .local ∨ (scope.names.lookup q.1 = some .cell ∧ ((cellsFrom (s.heap.objs.size + 1) scope.names []).lookup q.1).isSome = true) := by
    rintro ⟨y, v⟩ hy
    exact (S.par y (List.of_mem_zip hy).1).imp id fun z => ⟨z, PySem.W.cellsFrom_some _ _ _ (.inl z)⟩
  refine codeAny_call_function hr.depth (kin _ _ look) rfl S.co S.gen rfl (PySem.W.codeRec_of kin code) (hb _ _ _ _ (wpAny_newFunctionEnv_cells S.kind kinds ?_))
  intro env he s1 ic
  subst he
  refine ⟨nol.keeps ic.toInCall.keep, codeAny_func ?_⟩
  obtain ⟨t, hps, ht⟩ := hbody cdv (hr.deeper _)
  have J0 : Inv (cxOf CX P w K mg base N qual scope a cdv A0 outer s H E) [] (L2.start N vs) H s1 := inv_start S hr.hd e0 hl rv ic
  refine wpAny_mono (hps.run [] s1 (L2.start N vs) H _ J0 ht) ?_ fun _ _ z => z
  intro fl s2 hs
  cases fl with
  | brk => obtain ⟨_, _, _, z⟩ := hs; exact z.elim
  | cont => obtain ⟨_, _, _, z⟩ := hs; exact z.elim
  | next =>
    obtain ⟨_, H2, J, z⟩ := hs
    exact ⟨V.non, H2, J.os, J.bare, J.base, J.hok, rfl, z⟩
  | ret u =>
    obtain ⟨v, _, H2, J, z0, z⟩ := hs
    exact ⟨v, H2, J.os, J.bare, J.base, J.hok, z0, z⟩
theorem law_at {A0 : Around} {outer : List Env} {n : Nat} {f : Str} {a : Addr} {fd : FuncData} {ps : List Str} {s : Shared} {H : Hp} {args : Args} {us : List Value} {vs : List V} {Q : VK} {E : XK} (hgd : A0.guards = some []) (hd : IsG K Pm G f a fd ps) (gf : GF P w K mg base ga xn G (ctx Pm n) n)
    (hr : Room (n + 1) A0) (e0 : Env0 P w K mg base A0 outer s H) (hb : BindsTo s fd args (ps.zip us)) (rv : Vals vs us) (sp : spM K ga xn (callm Pm (n + 1) f) vs H Q E) : codeAny (model P w) A0 (.call (.ref a) args) (CR (L2.CX P w) outer P w H s Q E) s := by
  obtain ⟨d, x, qual, params, body, scope, N, hf, F, S, hnp, hnl, hc, hcold⟩ := hd
  obtain ⟨Ω, hm, ms, h0, vr, p⟩ := sp
  rw [callm_succ, hf] at p
  have p1 : Post K ga xn E hm.length Ω H (if ms.length = d.np then finO d.raw hm (run (ctx Pm n) d.body (ms.map some ++ List.replicate (d.nl - d.np) none) hm) else .bad) (Kv K ga Q) := p
  by_cases hl : ms.length = d.np
  · rw [if_pos hl] at p1
    refine run_at F S (by rw [← vs_len vr, hl, hnp]) hr e0 hb rv fun cdv hr2 => ?_
    have co : CO P w K mg base (false, (rpG G).rp) n N scope (fun _ => true) E (cxOf (L2.CX P w) P w K mg base N qual scope a cdv A0 outer s H E) :=
      ⟨rfl, rfl, rfl, rfl, rfl, rfl, rfl, rfl, fun _ => rfl, fun _ => hr2, fun _ => hgd, hr2.units, S.nd, takes_of rfl rfl rfl rfl⟩
    refine ⟨TSm K ga xn E (ctx Pm n) d.body, okSs gf.rpG hcold d.body co (passes_of rfl) rfl rfl hc, Ω, _, hm, h0, ?_, fin_post h0 p1⟩
    have e : L2.start N vs = vs.map some ++ List.replicate (d.nl - d.np) none := by
      unfold L2.start
      rw [hnl, hnp, ← vs_len vr, hl, hnp]
    rw [e]
    exact srel_start vr _
  · rw [if_neg hl] at p1
    exact p1.elim
end
end Mn
namespace Mn
open PySem PySem.Spec PyProof.Rows L2
/-- a def that lets nothing out -/
theorem shut {P : Program} {w : World} {K : PySem.W.Frag} {mg : Str → Option Value} {base : Heap} {k : Nat} {f : Addr} {fd : FuncData} {ps : List Str} {sp : Sp} (F : FnOk P w K mg base (L2.CX P w) k f fd ps sp) :
    FnOk P w K mg base CX0 k f fd ps (fun vs H Q _ => sp vs H Q fun _ _ _ => False) :=
  ⟨fun vs H Q E q => F.len _ _ _ _ q, fun A outer s H args us vs Q E hr he hb hv hs => codeAny_mono (F.run A outer s H args us vs Q _ hr he hb hv hs) fun r s' h => by
    cases r with
    | ok c => cases c <;> exact h
    | error e => obtain ⟨a, B, H', cls, d, _, _, _, _, _, _, _, z⟩ := h; exact z.elim⟩

/-! ### running trees: simple equations -/
@[simp] theorem bind_ok {α β : Type} {a : α} {h : MHeap} {f : α → MHeap → Rs β} : (Rs.ok a h).bind f = f a h := rfl
@[simp] theorem out_ok {α : Type} {a : α} {h : MHeap} {f : α → MHeap → Out} : (Rs.ok a h).out f = f a h := rfl
@[simp] theorem seq_next {σ : MSt} {h : MHeap} {f : MSt → MHeap → Out} : (Out.next σ h).seq f = f σ h := Eq.trans rfl rfl
@[simp] theorem seq_ret {v : MV} {h : MHeap} {f : MSt → MHeap → Out} : (Out.ret v h).seq f = .ret v h := rfl
@[simp] theorem seq_brk {σ : MSt} {h : MHeap} {f : MSt → MHeap → Out} : (Out.brk σ h).seq f = .brk σ h := rfl
@[simp] theorem seq_cnt {σ : MSt} {h : MHeap} {f : MSt → MHeap → Out} : (Out.cnt σ h).seq f = .cnt σ h := rfl
@[simp] theorem seq_exc {c : Str} {v : MV} {h : MHeap} {f : MSt → MHeap → Out} : (Out.exc c v h).seq f = .exc c v h := rfl
theorem seq_assoc {o : Out} {f g : MSt → MHeap → Out} : (o.seq f).seq g = o.seq fun σ h => (f σ h).seq g := by cases o <;> rfl

/-! ### loops -/
theorem whlL_more {c : MSt → MHeap → Rs Bool} {b : MSt → MHeap → Out} : ∀ {k : Nat} {σ : MSt} {h : MHeap}, whlL c b k σ h ≠ .bad → ∀ j, k ≤ j → whlL c b j σ h = whlL c b k σ h
  | 0, _, _, p, _, _ => absurd rfl p
  | k + 1, σ, h, p, 0, hj => absurd hj (by omega)
  | k + 1, σ, h, p, j + 1, hj => by
    unfold whlL at p ⊢
    cases q : c σ h with
    | bad => rfl
    | exc x v h1 => rfl
    | ok t h1 =>
      rw [q] at p
      simp only [out_ok] at p ⊢
      cases t with
      | false => rfl
      | true =>
        simp only [if_true] at p ⊢
        cases r : b σ h1 with
        | next σ1 h2 =>
          rw [r] at p
          exact whlL_more p j (by omega)
        | cnt σ1 h2 =>
          rw [r] at p
          exact whlL_more p j (by omega)
        | _ => rfl
theorem whl_of {c : MSt → MHeap → Rs Bool} {b : MSt → MHeap → Out} {σ : MSt} {h : MHeap} {o : Out} (k : Nat) (e : whlL c b k σ h = o) (ho : o ≠ .bad) : whl c b σ h = o := by
  have p : ∃ k, whlL c b k σ h ≠ .bad := ⟨k, by rw [e]; exact ho⟩
  unfold whl
  rw [dif_pos p]
  have q := Classical.choose_spec p
  generalize Classical.choose p = j at q
  have hk : whlL c b k σ h ≠ .bad := by rw [e]; exact ho
  by_cases hjk : j ≤ k
  · rw [← e]
    exact (whlL_more q k hjk).symm
  · rw [whlL_more hk j (by omega), e]
theorem whl_good {c : MSt → MHeap → Rs Bool} {b : MSt → MHeap → Out} {σ : MSt} {h : MHeap} {o : Out} (e : whl c b σ h = o) (ho : o ≠ .bad) : ∃ k, whlL c b k σ h = o := by
  unfold whl at e
  split at e
  · exact ⟨_, e⟩
  · exact absurd e.symm ho
/-- one turn; the rest must not be bad -/
theorem whl_true {c : MSt → MHeap → Rs Bool} {b : MSt → MHeap → Out} {σ σ1 : MSt} {h h1 h2 : MHeap} {o : Out} (hc : c σ h = .ok true h1) (hb : b σ h1 = .next σ1 h2 ∨ b σ h1 = .cnt σ1 h2) (e : whl c b σ1 h2 = o) (ho : o ≠ .bad) : whl c b σ h = o := by
  obtain ⟨k, e⟩ := whl_good e ho
  refine whl_of (k + 1) ?_ ho
  unfold whlL
  rw [hc]
  rcases hb with hb | hb <;> simp only [out_ok, if_true, hb] <;> exact e
theorem whl_false {c : MSt → MHeap → Rs Bool} {b : MSt → MHeap → Out} {σ : MSt} {h h1 : MHeap} (hc : c σ h = .ok false h1) : whl c b σ h = .next σ h1 := by
  refine whl_of 1 ?_ (by simp)
  unfold whlL
  rw [hc]
  simp
theorem whl_brk {c : MSt → MHeap → Rs Bool} {b : MSt → MHeap → Out} {σ σ1 : MSt} {h h1 h2 : MHeap} (hc : c σ h = .ok true h1) (hb : b σ h1 = .brk σ1 h2) : whl c b σ h = .next σ1 h2 := by
  refine whl_of 1 ?_ (by simp)
  unfold whlL
  rw [hc]
  simp [hb]
theorem whl_ret {c : MSt → MHeap → Rs Bool} {b : MSt → MHeap → Out} {σ : MSt} {h h1 h2 : MHeap} {v : MV} (hc : c σ h = .ok true h1) (hb : b σ h1 = .ret v h2) : whl c b σ h = .ret v h2 := by
  refine whl_of 1 ?_ (by simp)
  unfold whlL
  rw [hc]
  simp [hb]
/-- a for loop that goes on at each turn -/
theorem forL_fold {β α : Type} (S : β → MSt) (Hh : β → MHeap) (step : β → α → β) (enc : α → MV) {ok : MHeap → Prop} {f : MV → MSt → MHeap → Out} (I : β → Prop) : ∀ {xs : List α} {b : β}, I b → (∀ b, I b → ok (Hh b)) →
    (∀ b x, I b → x ∈ xs → (f (enc x) (S b) (Hh b) = .next (S (step b x)) (Hh (step b x)) ∨ f (enc x) (S b) (Hh b) = .cnt (S (step b x)) (Hh (step b x))) ∧ I (step b x)) → forL ok f (xs.map enc) (S b) (Hh b) = .next (S (xs.foldl step b)) (Hh (xs.foldl step b))
  | [], b, hI, hok, _ => by
    unfold forL
    rw [List.map_nil]
    simp only [if_pos (hok b hI)]
    rfl
  | x :: xs, b, hI, hok, hf => by
    rw [List.map_cons]
    unfold forL
    rw [if_pos (hok b hI)]
    obtain ⟨q, hI'⟩ := hf b x hI (List.mem_cons_self ..)
    have r := forL_fold S Hh step enc I (xs := xs) hI' hok fun b y hb hy => hf b y hb (List.mem_cons_of_mem _ hy)
    rcases q with q | q <;> simp only [q] <;> exact r
/-- a comprehension, each turn known -/
theorem compL_eq {β α : Type} (Hh : β → MHeap) (step : β → α → β) (out : β → α → Option MV) (enc : α → MV) {ok : MHeap → Prop} {f : MV → MHeap → Rs (Option MV)} (I : β → Prop) : ∀ {xs : List α} {b : β} {acc : List MV}, I b → (∀ b, I b → ok (Hh b)) → acc.length + xs.length ≤ sizeLine →
    (∀ b x, I b → x ∈ xs → f (enc x) (Hh b) = .ok (out b x) (Hh (step b x)) ∧ I (step b x)) →
    compL ok f (xs.map enc) acc (Hh b) = .ok (acc ++ (xs.foldl (fun p x => (step p.1 x, p.2 ++ (out p.1 x).toList)) (b, ([] : List MV))).2) (Hh (xs.foldl step b))
  | [], b, acc, hI, hok, hl, _ => by
    unfold compL
    simp only [List.map_nil, if_pos (hok b hI), List.foldl_nil, List.append_nil]
  | x :: xs, b, acc, hI, hok, hl, hf => by
    rw [List.map_cons]
    unfold compL
    rw [List.length_cons] at hl
    rw [if_pos ⟨hok b hI, by omega⟩]
    obtain ⟨q, hI'⟩ := hf b x hI (List.mem_cons_self ..)
    have r := fun acc' (hl' : acc'.length + xs.length ≤ sizeLine) => compL_eq Hh step out enc (ok := ok) I (xs := xs) (acc := acc') hI' hok hl' fun b y hb hy => hf b y hb (List.mem_cons_of_mem _ hy)
    have e : ∀ (ys : List α) (b : β) (l : List MV), (ys.foldl (fun p x => (step p.1 x, p.2 ++ (out p.1 x).toList)) (b, l)).2 = l ++ (ys.foldl (fun p x => (step p.1 x, p.2 ++ (out p.1 x).toList)) (b, ([] : List MV))).2 := by
      intro ys
      induction ys with
      | nil => intro b l; simp
      | cons y ys ih => intro b l; rw [List.foldl_cons, List.foldl_cons, ih, ih (l := [] ++ _)]; simp
    cases w : out b x with
    | none =>
      rw [w] at q
      simp only [q]
      rw [r acc (by omega), List.foldl_cons, List.foldl_cons, w]
      simp
    | some v =>
      rw [w] at q
      simp only [q]
      rw [r (acc ++ [v]) (by simp; omega), List.foldl_cons, List.foldl_cons, w, e xs _ (([] : List MV) ++ _)]
      simp
end Mn
namespace Mn
open PySem PySem.Spec PyProof.Rows L2
/-! ### the evaluator's equations, for simp -/
@[simp ↓] theorem bind_def {α β : Type} {r : Rs α} {f : α → MHeap → Rs β} : r.bind f = (match r with
    | .ok a h => f a h
    | .exc c v h => .exc c v h
    | .bad => .bad) := rfl
@[simp ↓] theorem out_def {α : Type} {r : Rs α} {f : α → MHeap → Out} : r.out f = (match r with
    | .ok a h => f a h
    | .exc c v h => .exc c v h
    | .bad => .bad) := rfl
theorem seq_def {o : Out} {f : MSt → MHeap → Out} : o.seq f = (match o with
    | .next σ h => f σ h
    | .ret v h => .ret v h
    | .brk σ h => .brk σ h
    | .cnt σ h => .cnt σ h
    | .exc c v h => .exc c v h
    | .bad => .bad) := by cases o <;> rfl
@[simp] theorem evE_var {C : Ct} {i} {σ : MSt} {h : MHeap} : evE C (.var i) σ h = (match σ[i]? with
    | some (some v) => .ok v h
    | _ => .bad) := by (rw [evE]; try rfl)
@[simp] theorem evE_int {C : Ct} {i} {σ : MSt} {h : MHeap} : evE C (.int i) σ h = (.ok (.int i) h) := by (rw [evE]; try rfl)
@[simp] theorem evE_str {C : Ct} {s} {σ : MSt} {h : MHeap} : evE C (.str s) σ h = (.ok (.str s) h) := by (rw [evE]; try rfl)
@[simp] theorem evE_bl {C : Ct} {b} {σ : MSt} {h : MHeap} : evE C (.bl b) σ h = (.ok (.bl b) h) := by (rw [evE]; try rfl)
@[simp] theorem evE_non {C : Ct}  {σ : MSt} {h : MHeap} : evE C .non σ h = (.ok .non h) := by (rw [evE]; try rfl)
@[simp] theorem evE_con {C : Ct} {x} {σ : MSt} {h : MHeap} : evE C (.con x) σ h = (ofOpt (C.con x) h) := by (rw [evE]; try rfl)
@[simp] theorem evE_bin {C : Ct} {op} {a} {b} {σ : MSt} {h : MHeap} : evE C (.bin op a b) σ h = ((evE C a σ h).bind fun x h1 => (evE C b σ h1).bind fun y h2 => binV op x y h2) := by (rw [evE]; try rfl)
@[simp] theorem evE_neg {C : Ct} {a} {σ : MSt} {h : MHeap} : evE C (.neg a) σ h = ((evE C a σ h).bind fun x h1 => match x with
    | .int i => .ok (.int (-i)) h1
    | _ => .bad) := by (rw [evE]; try rfl)
@[simp] theorem evE_not {C : Ct} {a} {σ : MSt} {h : MHeap} : evE C (.not a) σ h = ((evE C a σ h).bind fun x h1 => match x with
    | .bl b => .ok (.bl (!b)) h1
    | _ => .bad) := by (rw [evE]; try rfl)
@[simp] theorem evE_cmp {C : Ct} {op} {a} {b} {σ : MSt} {h : MHeap} : evE C (.cmp op a b) σ h = ((evE C a σ h).bind fun x h1 => (evE C b σ h1).bind fun y h2 => cmpV op x y h2) := by (rw [evE]; try rfl)
@[simp] theorem evE_chn {C : Ct} {op1} {op2} {a} {b} {c} {σ : MSt} {h : MHeap} : evE C (.chn op1 op2 a b c) σ h = ((evE C a σ h).bind fun x h1 => (evE C b σ h1).bind fun y h2 => (cmpV op1 x y h2).bind fun t h3 => match t with
    | .bl true => (evE C c σ h3).bind fun z h4 => cmpV op2 y z h4
    | .bl false => .ok (.bl false) h3
    | _ => .bad) := by (rw [evE]; try rfl)
@[simp] theorem evE_chn3 {C : Ct} {op1} {op2} {op3} {a} {b} {c} {d} {σ : MSt} {h : MHeap} : evE C (.chn3 op1 op2 op3 a b c d) σ h = ((evE C a σ h).bind fun x h1 => (evE C b σ h1).bind fun y h2 => (cmpV op1 x y h2).bind fun t h3 => match t with
    | .bl true => (evE C c σ h3).bind fun z h4 => (cmpV op2 y z h4).bind fun t2 h5 => (match t2 with
      | .bl true => (evE C d σ h5).bind fun u h6 => cmpV op3 z u h6
      | .bl false => .ok (.bl false) h5
      | _ => .bad)
    | .bl false => .ok (.bl false) h3
    | _ => .bad) := by (rw [evE]; try rfl)
@[simp] theorem evE_and {C : Ct} {a} {b} {σ : MSt} {h : MHeap} : evE C (.and a b) σ h = ((evE C a σ h).bind fun x h1 => match x with
    | .bl true => evE C b σ h1
    | .bl false => .ok (.bl false) h1
    | _ => .bad) := by (rw [evE]; try rfl)
@[simp] theorem evE_or {C : Ct} {a} {b} {σ : MSt} {h : MHeap} : evE C (.or a b) σ h = ((evE C a σ h).bind fun x h1 => match x with
    | .bl true => .ok (.bl true) h1
    | .bl false => evE C b σ h1
    | _ => .bad) := by (rw [evE]; try rfl)
@[simp] theorem evE_ife {C : Ct} {c} {a} {b} {σ : MSt} {h : MHeap} : evE C (.ife c a b) σ h = ((evT C c σ h).bind fun t h1 => if t = true then evE C a σ h1 else evE C b σ h1) := by (rw [evE]; try rfl)
@[simp] theorem evE_tup {C : Ct} {es} {σ : MSt} {h : MHeap} : evE C (.tup es) σ h = ((evL C es σ h).bind fun vs h1 => if vs.length ≤ sizeLine then .ok (.tup vs) h1 else .bad) := by (rw [evE]; try rfl)
@[simp] theorem evE_idx {C : Ct} {a} {b} {σ : MSt} {h : MHeap} : evE C (.idx a b) σ h = ((evE C a σ h).bind fun x h1 => (evE C b σ h1).bind fun y h2 => itemV x y h2) := by (rw [evE]; try rfl)
@[simp] theorem evE_mk {C : Ct} {m} {f} {σ : MSt} {h : MHeap} : evE C (.mk m f) σ h = ((evF C f σ h).bind fun vs h1 => if m = true then .ok (.ref h1.length) (h1 ++ [.lst vs]) else .ok (.lst vs) h1) := by (rw [evE]; try rfl)
@[simp] theorem evE_frz {C : Ct} {e} {σ : MSt} {h : MHeap} : evE C (.frz e) σ h = ((evE C e σ h).bind fun v h1 => match frzV 40 h1 v with
    | some (y, h2) => .ok y h2
    | none => .bad) := by (rw [evE]; try rfl)
@[simp] theorem evE_call {C : Ct} {f} {es} {σ : MSt} {h : MHeap} : evE C (.call f es) σ h = ((evL C es σ h).bind fun vs h1 => C.cf f vs h1) := by (rw [evE]; try rfl)
@[simp] theorem evE_bc {C : Ct} {k} {es} {σ : MSt} {h : MHeap} : evE C (.bc k es) σ h = ((evL C es σ h).bind fun vs h1 => bfV k vs h1) := by (rw [evE]; try rfl)
@[simp] theorem evE_mth {C : Ct} {o} {c} {m} {f} {es} {σ : MSt} {h : MHeap} : evE C (.mth o c m f es) σ h = ((evE C o σ h).bind fun v h1 => match v with
    | .ref n => (match h1[n]? with
      | some (.ins c' fs) => if c' = c ∧ fs.lookup m = none then (evL C es σ h1).bind fun vs h2 => C.cf f (.ref n :: vs) h2 else .bad
      | _ => .bad)
    | _ => .bad) := by (rw [evE]; try rfl)
@[simp] theorem evE_bm {C : Ct} {k} {o} {es} {σ : MSt} {h : MHeap} : evE C (.bm k o es) σ h = ((evE C o σ h).bind fun v h1 => if lstOf h1 v = none then .bad else (evL C es σ h1).bind fun vs h2 => bmV k v vs h2) := by (rw [evE]; try rfl)
@[simp] theorem evE_kf {C : Ct} {key} {n} {es ks} {σ : MSt} {h : MHeap} : evE C (.kcl none key n es ks) σ h = ((evL C es σ h).bind fun vs h1 => (evL C ks σ h1).bind fun ws h2 => if vs.length = n then C.cf key (vs ++ ws) h2 else .bad) := by
  (rw [evE]; try rfl)
@[simp] theorem evE_kc {C : Ct} {c} {key} {n} {es ks} {σ : MSt} {h : MHeap} : evE C (.kcl (some c) key n es ks) σ h = (if C.mks = false then .bad else (evL C ks σ h).bind fun ws h1 => (C.ci key (.ref h1.length :: ws) (h1 ++ [.ins c []])).bind fun v h2 => match v with
    | .non => .ok (.ref h1.length) h2
    | _ => .bad) := by
  (rw [evE]; try rfl)
@[simp] theorem evE_new {C : Ct} {c} {es} {σ : MSt} {h : MHeap} : evE C (.new c es) σ h = (if C.mks = false then .bad else (evL C es σ h).bind fun vs h1 => (C.ci c (.ref h1.length :: vs) (h1 ++ [.ins c []])).bind fun v h2 => match v with
    | .non => .ok (.ref h1.length) h2
    | _ => .bad) := by (rw [evE]; try rfl)
@[simp] theorem evE_fld {C : Ct} {o} {f} {σ : MSt} {h : MHeap} : evE C (.fld o f) σ h = ((evE C o σ h).bind fun v h1 => match v with
    | .ref n => (match h1[n]? with
      | some (.ins c fs) => if C.na c f = true then ofOpt (fs.lookup f) h1 else .bad
      | _ => .bad)
    | _ => .bad) := by (rw [evE]; try rfl)
@[simp] theorem evL_nil {C : Ct}  {σ : MSt} {h : MHeap} : evL C .nil σ h = (.ok [] h) := by (rw [evL]; try rfl)
@[simp] theorem evL_cons {C : Ct} {e} {es} {σ : MSt} {h : MHeap} : evL C (.cons e es) σ h = ((evE C e σ h).bind fun v h1 => (evL C es σ h1).bind fun vs h2 => .ok (v :: vs) h2) := by (rw [evL]; try rfl)
@[simp] theorem evT_and {C : Ct} {a} {b} {σ : MSt} {h : MHeap} : evT C (.and a b) σ h = ((evT C a σ h).bind fun t h1 => if t = true then evT C b σ h1 else .ok false h1) := by (rw [evT]; try rfl)
@[simp] theorem evT_or {C : Ct} {a} {b} {σ : MSt} {h : MHeap} : evT C (.or a b) σ h = ((evT C a σ h).bind fun t h1 => if t = true then .ok true h1 else evT C b σ h1) := by (rw [evT]; try rfl)
@[simp] theorem evT_not {C : Ct} {a} {σ : MSt} {h : MHeap} : evT C (.not a) σ h = ((evT C a σ h).bind fun t h1 => .ok (!t) h1) := by (rw [evT]; try rfl)
@[simp] theorem evT_cmp {C : Ct} {op} {a} {b} {σ : MSt} {h : MHeap} : evT C (.cmp op a b) σ h = ((evE C a σ h).bind fun x h1 => (evE C b σ h1).bind fun y h2 => (cmpV op x y h2).bind fun z h3 => match z with
    | .bl t => .ok t h3
    | _ => .bad) := by (rw [evT]; try rfl)
@[simp] theorem evT_chn {C : Ct} {op1} {op2} {a} {b} {c} {σ : MSt} {h : MHeap} : evT C (.chn op1 op2 a b c) σ h = ((evE C a σ h).bind fun x h1 => (evE C b σ h1).bind fun y h2 => (cmpV op1 x y h2).bind fun t h3 => match t with
    | .bl true => (evE C c σ h3).bind fun z h4 => (cmpV op2 y z h4).bind fun u h5 => (match u with
      | .bl t => .ok t h5
      | _ => .bad)
    | .bl false => .ok false h3
    | _ => .bad) := by (rw [evT]; try rfl)
@[simp] theorem evT_tru {C : Ct} {e} {σ : MSt} {h : MHeap} : evT C (.tru e) σ h = ((evE C e σ h).bind fun v h1 => ofOpt (truM h1 v) h1) := by (rw [evT]; try rfl)
@[simp] theorem evF_fl {C : Ct} {es} {σ : MSt} {h : MHeap} : evF C (.fl es) σ h = ((evL C es σ h).bind fun vs h1 => if vs.length ≤ sizeLine then .ok vs h1 else .bad) := by (rw [evF]; try rfl)
@[simp] theorem evF_fc {C : Ct} {own} {tg} {elt} {it} {cond} {σ : MSt} {h : MHeap} : evF C (.fc own tg elt it cond) σ h = ((evI C it σ h).bind fun s h1 => compL s.Ok (fun x h2 => match setT tg x (wipeM σ own) with
    | some σ1 => (evC C cond σ1 h2).bind fun t h3 => if t = true then (evE C elt σ1 h3).bind fun v h4 => .ok (some v) h4 else .ok none h3
    | none => .bad) s.xs [] h1) := by (rw [evF]; try rfl)
@[simp] theorem evF_fs {C : Ct} {a} {lo} {hi} {σ : MSt} {h : MHeap} : evF C (.fs a lo hi) σ h = ((evE C a σ h).bind fun x h1 => (evO C lo σ h1).bind fun l h2 => (evO C hi σ h2).bind fun u h3 => match lstOf h3 x with
    | some xs => .ok (cutM xs l u) h3
    | none => .bad) := by (rw [evF]; try rfl)
@[simp] theorem evF_fli {C : Ct} {a} {σ : MSt} {h : MHeap} : evF C (.fli a) σ h = ((evE C a σ h).bind fun x h1 => ofOpt (seqOf h1 x) h1) := by (rw [evF]; try rfl)
@[simp] theorem evF_fso {C : Ct} {a} {σ : MSt} {h : MHeap} : evF C (.fso a) σ h = ((evE C a σ h).bind fun x h1 => match lstOf h1 x with
    | some xs => (match intsM xs with
      | some ns => .ok ((sortI ns).map .int) h1
      | none => .bad)
    | none => .bad) := by (rw [evF]; try rfl)
@[simp] theorem evF_fca {C : Ct} {a} {b} {σ : MSt} {h : MHeap} : evF C (.fca a b) σ h = ((evE C a σ h).bind fun x h1 => (evE C b σ h1).bind fun y h2 => match mlOf h2 x, mlOf h2 y with
    | some xs, some ys => if xs.length + ys.length ≤ sizeLine then .ok (xs ++ ys) h2 else .bad
    | _, _ => .bad) := by (rw [evF]; try rfl)
@[simp] theorem evF_fre {C : Ct} {a} {b} {σ : MSt} {h : MHeap} : evF C (.fre a b) σ h = ((evE C a σ h).bind fun x h1 => (evE C b σ h1).bind fun y h2 => match mlOf h2 x, y with
    | some xs, .int k => if bdF k ∧ xs.length * k.toNat ≤ sizeLine then .ok (List.replicate k.toNat xs).flatten h2 else .bad
    | _, _ => .bad) := by (rw [evF]; try rfl)
@[simp] theorem evC_nil {C : Ct}  {σ : MSt} {h : MHeap} : evC C .nil σ h = (.ok true h) := by (rw [evC]; try rfl)
@[simp] theorem evC_cons {C : Ct} {e} {es} {σ : MSt} {h : MHeap} : evC C (.cons e es) σ h = ((evT C e σ h).bind fun t h1 => if t = true then evC C es σ h1 else .ok false h1) := by (rw [evC]; try rfl)
@[simp] theorem evO_nil {C : Ct}  {σ : MSt} {h : MHeap} : evO C .nil σ h = (.ok none h) := by (rw [evO]; try rfl)
@[simp] theorem evO_cons {C : Ct} {e} {es} {σ : MSt} {h : MHeap} : evO C (.cons e es) σ h = ((evE C e σ h).bind fun v h1 => match v with
    | .int i => .ok (some i) h1
    | _ => .bad) := by (rw [evO]; try rfl)
@[simp] theorem evI_iv {C : Ct} {e} {σ : MSt} {h : MHeap} : evI C (.iv e) σ h = ((evE C e σ h).bind fun v h1 => match seqOf h1 v with
    | some xs => .ok ⟨xs, liveOf v xs⟩ h1
    | none => .bad) := by (rw [evI]; try rfl)
@[simp] theorem evI_ir1 {C : Ct} {a} {σ : MSt} {h : MHeap} : evI C (.ir1 a) σ h = ((evE C a σ h).bind fun v h1 => match v with
    | .int j => if bdR j then .ok ⟨rngL 0 1 j.toNat, []⟩ h1 else .bad
    | _ => .bad) := by (rw [evI]; try rfl)
@[simp] theorem evI_ir2 {C : Ct} {a} {b} {σ : MSt} {h : MHeap} : evI C (.ir2 a b) σ h = ((evE C a σ h).bind fun v h1 => (evE C b σ h1).bind fun w h2 => match v, w with
    | .int i, .int j => if bdR i ∧ bdR j then .ok ⟨rngL i 1 (j - i).toNat, []⟩ h2 else .bad
    | _, _ => .bad) := by (rw [evI]; try rfl)
@[simp] theorem evI_irn {C : Ct} {a} {b} {σ : MSt} {h : MHeap} : evI C (.irn a b) σ h = ((evE C a σ h).bind fun v h1 => (evE C b σ h1).bind fun w h2 => match v, w with
    | .int i, .int j => if bdR i ∧ bdR j then .ok ⟨rngL i (-1) (i - j).toNat, []⟩ h2 else .bad
    | _, _ => .bad) := by (rw [evI]; try rfl)
@[simp] theorem evI_ien {C : Ct} {e} {σ : MSt} {h : MHeap} : evI C (.ien e) σ h = ((evE C e σ h).bind fun v h1 => match seqOf h1 v with
    | some xs => .ok ⟨enL xs, liveOf v xs⟩ h1
    | none => .bad) := by (rw [evI]; try rfl)
@[simp] theorem evI_izip {C : Ct} {a} {b} {σ : MSt} {h : MHeap} : evI C (.izip a b) σ h = ((evE C a σ h).bind fun v h1 => (evE C b σ h1).bind fun w h2 => match lstOf h2 v, lstOf h2 w with
    | some xs, some ys => .ok ⟨zipM xs ys, liveOf v xs ++ liveOf w ys⟩ h2
    | _, _ => match v, w with
      | .tup xs, .tup ys => .ok ⟨zipM xs ys, []⟩ h2
      | _, _ => .bad) := by (rw [evI]; try rfl)
@[simp] theorem evI_irv {C : Ct} {e} {σ : MSt} {h : MHeap} : evI C (.irv e) σ h = ((evE C e σ h).bind fun v h1 => match lstOf h1 v with
    | some xs => .ok ⟨xs.reverse, liveOf v xs⟩ h1
    | none => .bad) := by (rw [evI]; try rfl)
@[simp] theorem run_skip {C : Ct}  {σ : MSt} {h : MHeap} : run C .skip σ h = (.next σ h) := by (rw [run]; try rfl)
@[simp] theorem run_seq {C : Ct} {a} {b} {σ : MSt} {h : MHeap} : run C (.seq a b) σ h = ((run C a σ h).seq (run C b)) := by (rw [run]; try rfl)
@[simp] theorem run_asg {C : Ct} {i} {e} {σ : MSt} {h : MHeap} : run C (.asg i e) σ h = ((evE C e σ h).out fun v h1 => .next (σ.set i (some v)) h1) := by (rw [run]; try rfl)
@[simp] theorem run_unp {C : Ct} {is} {e} {σ : MSt} {h : MHeap} : run C (.unp is e) σ h = ((evE C e σ h).out fun v h1 => match setT (.tp is) v σ with
    | some σ1 => .next σ1 h1
    | none => .bad) := by (rw [run]; try rfl)
@[simp] theorem run_una {C : Ct} {o} {f} {j} {e} {σ : MSt} {h : MHeap} : run C (.una o f j e) σ h = ((evE C e σ h).out fun v h1 => match v with
    | .tup [x, y] => (evE C o σ h1).out fun p h2 => (match setFV C.na p f x h2 with
      | some h3 => .next (σ.set j (some y)) h3
      | none => .bad)
    | _ => .bad) := by (rw [run]; try rfl)
@[simp] theorem run_par {C : Ct} {i} {j} {a} {b} {σ : MSt} {h : MHeap} : run C (.par i j a b) σ h = ((evE C a σ h).out fun v h1 => (evE C b σ h1).out fun w h2 => .next ((σ.set i (some v)).set j (some w)) h2) := by (rw [run]; try rfl)
@[simp] theorem run_setf {C : Ct} {o} {f} {e} {σ : MSt} {h : MHeap} : run C (.setf o f e) σ h = ((evE C e σ h).out fun v h1 => (evE C o σ h1).out fun x h2 => match setFV C.na x f v h2 with
    | some h3 => .next σ h3
    | none => .bad) := by (rw [run]; try rfl)
@[simp] theorem run_seti {C : Ct} {o} {i} {e} {σ : MSt} {h : MHeap} : run C (.seti o i e) σ h = ((evE C e σ h).out fun v h1 => (evE C o σ h1).out fun x h2 => (evE C i σ h2).out fun y h3 => match setIV x y v h3 with
    | some h4 => .next σ h4
    | none => .bad) := by (rw [run]; try rfl)
@[simp] theorem run_aug {C : Ct} {i} {op} {e} {σ : MSt} {h : MHeap} : run C (.aug i op e) σ h = (match σ[i]? with
    | some (some x) => (evE C e σ h).out fun y h1 => (match op, x, y with
      | .Add, .int a, .int b => .next (σ.set i (some (.int (a + b)))) h1
      | .Sub, .int a, .int b => .next (σ.set i (some (.int (a - b)))) h1
      | _, _, _ => .bad)
    | _ => .bad) := by (rw [run]; try rfl)
@[simp] theorem run_ex {C : Ct} {e} {σ : MSt} {h : MHeap} : run C (.ex e) σ h = ((evE C e σ h).out fun _ h1 => .next σ h1) := by (rw [run]; try rfl)
@[simp] theorem run_ret {C : Ct} {e} {σ : MSt} {h : MHeap} : run C (.ret e) σ h = ((evE C e σ h).out fun v h1 => .ret v h1) := by (rw [run]; try rfl)
@[simp] theorem run_retN {C : Ct}  {σ : MSt} {h : MHeap} : run C .retN σ h = (.ret .non h) := by (rw [run]; try rfl)
@[simp] theorem run_ite {C : Ct} {c} {a} {b} {σ : MSt} {h : MHeap} : run C (.ite c a b) σ h = ((evT C c σ h).out fun t h1 => if t = true then run C a σ h1 else run C b σ h1) := by (rw [run]; try rfl)
@[simp] theorem run_whl {C : Ct} {c} {b} {σ : MSt} {h : MHeap} : run C (.whl c b) σ h = (whl (evT C c) (run C b) σ h) := by (rw [run]; try rfl)
@[simp] theorem run_for_ {C : Ct} {tg} {it} {b} {σ : MSt} {h : MHeap} : run C (.for_ tg it b) σ h = ((evI C it σ h).out fun s h1 => forL s.Ok (fun x σ1 h2 => match setT tg x σ1 with
    | some σ2 => run C b σ2 h2
    | none => .bad) s.xs σ h1) := by (rw [run]; try rfl)
@[simp] theorem run_brk {C : Ct}  {σ : MSt} {h : MHeap} : run C .brk σ h = (.brk σ h) := by (rw [run]; try rfl)
@[simp] theorem run_cnt {C : Ct}  {σ : MSt} {h : MHeap} : run C .cnt σ h = (.cnt σ h) := by (rw [run]; try rfl)
@[simp] theorem run_never {C : Ct}  {σ : MSt} {h : MHeap} : run C .never σ h = (.bad) := by (rw [run]; try rfl)

section
variable {h : MHeap} {i j : Int}
@[simp] theorem binV_add : binV .Add (.int i) (.int j) h = .ok (.int (i + j)) h := rfl
@[simp] theorem binV_sub : binV .Sub (.int i) (.int j) h = .ok (.int (i - j)) h := rfl
@[simp] theorem binV_mul : binV .Mult (.int i) (.int j) h = if bdM i j then .ok (.int (i * j)) h else .bad := rfl
@[simp] theorem binV_muls {z : Str} : binV .Mult (.str z) (.int j) h = if 0 ≤ j ∧ j ≤ 1000 ∧ z.length ≤ 1000 then .ok (.str (PySem.Txt.mul z j)) h else .bad := rfl
@[simp] theorem binV_div : binV .FloorDiv (.int i) (.int j) h = if bdD j then .ok (.int (i / j)) h else .bad := rfl
@[simp] theorem binV_mod : binV .Mod (.int i) (.int j) h = if 0 < j then .ok (.int (i % j)) h else .bad := rfl
@[simp] theorem binV_shl : binV .LShift (.int i) (.int j) h = if bdS i j then .ok (.int (i * 2 ^ j.toNat)) h else .bad := rfl
@[simp] theorem binV_pow : binV .Pow (.int i) (.int j) h = if bdS i j then .ok (.int (i ^ j.toNat)) h else .bad := rfl
@[simp] theorem binV_shr : binV .RShift (.int i) (.int j) h = if 0 ≤ j then .ok (.int (i / 2 ^ j.toNat)) h else .bad := rfl
@[simp] theorem binV_and : binV .BitAnd (.int i) (.int j) h = .ok (.int (Builtin.bitAnd i j)) h := rfl
@[simp] theorem binV_or : binV .BitOr (.int i) (.int j) h = .ok (.int (Builtin.bitOr i j)) h := rfl
@[simp] theorem binV_xor : binV .BitXor (.int i) (.int j) h = .ok (.int (Builtin.bitXor i j)) h := rfl
@[simp] theorem binV_adds {s t : Str} : binV .Add (.str s) (.str t) h = if s.length + t.length ≤ sizeLine then .ok (.str (s ++ t)) h else .bad := rfl
@[simp] theorem binV_addt {xs ys : List MV} : binV .Add (.tup xs) (.tup ys) h = if xs.length ≠ 0 ∧ xs.length + ys.length ≤ sizeLine then .ok (.tup (xs ++ ys)) h else .bad := rfl
@[simp] theorem itemV_tup {xs : List MV} : itemV (.tup xs) (.int i) h = ofOpt (atI xs i) h := rfl
@[simp] theorem itemV_lst {xs : List MV} : itemV (.lst xs) (.int i) h = ofOpt (atI xs i) h := rfl
@[simp] theorem itemV_scr {xs : List MV} : itemV (.scr xs) (.int i) h = ofOpt (atI xs i) h := rfl
@[simp] theorem itemV_ref {n : Nat} : itemV (.ref n) (.int i) h = (match h[n]? with
    | some (.lst xs) => ofOpt (atI xs i) h
    | _ => .bad) := by
  unfold itemV
  dsimp only
  all_goals (cases h[n]? <;> first | rfl | (rename_i o; cases o <;> rfl))
@[simp] theorem truM_bl {b : Bool} : truM h (.bl b) = some b := rfl
@[simp] theorem truM_int : truM h (.int i) = some (i != 0) := rfl
@[simp] theorem truM_non : truM h .non = some false := rfl
@[simp] theorem truM_lst {xs : List MV} : truM h (.lst xs) = some (!xs.isEmpty) := rfl
@[simp] theorem truM_tup {xs : List MV} : truM h (.tup xs) = some (!xs.isEmpty) := rfl
@[simp] theorem truM_scr {xs : List MV} : truM h (.scr xs) = some (!xs.isEmpty) := rfl
@[simp] theorem ofOpt_none {α : Type} : ofOpt (none : Option α) h = .bad := rfl
@[simp] theorem ofOpt_some {α : Type} {a : α} : ofOpt (some a) h = .ok a h := rfl
@[simp] theorem cmpV_lt : cmpV .Lt (.int i) (.int j) h = .ok (.bl (decide (i < j))) h := rfl
@[simp] theorem cmpV_le : cmpV .LtE (.int i) (.int j) h = .ok (.bl (decide (i ≤ j))) h := rfl
@[simp] theorem cmpV_gt : cmpV .Gt (.int i) (.int j) h = .ok (.bl (decide (j < i))) h := rfl
@[simp] theorem cmpV_ge : cmpV .GtE (.int i) (.int j) h = .ok (.bl (decide (j ≤ i))) h := rfl
@[simp] theorem cmpV_eq {a b : MV} : cmpV .Eq a b h = (match eqR a b h with
    | some t => .ok (.bl t) h
    | none => .bad) := rfl
@[simp] theorem cmpV_ne {a b : MV} : cmpV .NotEq a b h = (match eqR a b h with
    | some t => .ok (.bl (!t)) h
    | none => .bad) := rfl
@[simp] theorem cmpV_is {a : MV} : cmpV .Is a .non h = .ok (.bl (isNon a)) h := rfl
@[simp] theorem cmpV_isb {x y : Bool} : cmpV .Is (.bl x) (.bl y) h = .ok (.bl (decide (x = y))) h := rfl
@[simp] theorem cmpV_isnb {x y : Bool} : cmpV .IsNot (.bl x) (.bl y) h = .ok (.bl (!decide (x = y))) h := rfl
@[simp] theorem cmpV_isn {a : MV} : cmpV .IsNot a .non h = .ok (.bl (!isNon a)) h := rfl
@[simp] theorem cmpV_in {a b : MV} : cmpV .In a b h = (match seqOf h b with
    | some xs => if flatM a = true ∧ xs.all flatM = true then .ok (.bl (inM a xs)) h else .bad
    | none => .bad) := rfl
@[simp] theorem cmpV_nin {a b : MV} : cmpV .NotIn a b h = (match seqOf h b with
    | some xs => if flatM a = true ∧ xs.all flatM = true then .ok (.bl (!inM a xs)) h else .bad
    | none => .bad) := rfl
@[simp] theorem seqOf_tup {xs : List MV} : seqOf h (.tup xs) = some xs := rfl
@[simp] theorem seqOf_lst {xs : List MV} : seqOf h (.lst xs) = some xs := rfl
@[simp] theorem seqOf_scr {xs : List MV} : seqOf h (.scr xs) = some xs := rfl
@[simp] theorem seqOf_ref {n : Nat} : seqOf h (.ref n) = (match h[n]? with
    | some (.lst xs) => some xs
    | _ => none) := rfl
@[simp] theorem lstOf_lst {xs : List MV} : lstOf h (.lst xs) = some xs := rfl
@[simp] theorem lstOf_scr {xs : List MV} : lstOf h (.scr xs) = some xs := rfl
@[simp] theorem lstOf_ref {n : Nat} : lstOf h (.ref n) = (match h[n]? with
    | some (.lst xs) => some xs
    | _ => none) := rfl
@[simp] theorem lstOf_tup {xs : List MV} : lstOf h (.tup xs) = none := rfl
@[simp] theorem mlOf_lst {xs : List MV} : mlOf h (.lst xs) = some xs := rfl
@[simp] theorem mlOf_ref {n : Nat} : mlOf h (.ref n) = (match h[n]? with
    | some (.lst xs) => some xs
    | _ => none) := rfl
@[simp] theorem bf_len_l {xs : List MV} : bfV .len [.lst xs] h = .ok (.int xs.length) h := rfl
@[simp] theorem bf_len_s {xs : List MV} : bfV .len [.scr xs] h = .ok (.int xs.length) h := rfl
@[simp] theorem bf_len_t {xs : List MV} : bfV .len [.tup xs] h = .ok (.int xs.length) h := rfl
@[simp] theorem bf_len_r {n : Nat} : bfV .len [.ref n] h = (match h[n]? with
    | some (.lst xs) => .ok (.int xs.length) h
    | some (.dct kvs) => .ok (.int kvs.length) h
    | _ => .bad) := by
  unfold bfV seqOf dctOf
  dsimp only
  all_goals (cases h[n]? <;> first | rfl | (rename_i o; cases o <;> rfl))
@[simp] theorem bf_int_i : bfV .int [.int i] h = .ok (.int i) h := rfl
@[simp] theorem bf_int_b {b : Bool} : bfV .int [.bl b] h = .ok (.int (if b then 1 else 0)) h := rfl
@[simp] theorem bf_abs_i : bfV .abs [.int i] h = .ok (.int (if i < 0 then -i else i)) h := rfl
@[simp] theorem bf_max : bfV .max2 [.int i, .int j] h = .ok (.int (if j > i then j else i)) h := rfl
@[simp] theorem bf_min : bfV .min2 [.int i, .int j] h = .ok (.int (if j < i then j else i)) h := rfl
@[simp] theorem bf_isI_i : bfV .isInt [.int i] h = .ok (.bl true) h := rfl
@[simp] theorem bf_isI_b {b : Bool} : bfV .isInt [.bl b] h = .ok (.bl true) h := rfl
@[simp] theorem bf_isB_i : bfV .isBool [.int i] h = .ok (.bl false) h := rfl
@[simp] theorem bf_isB_b {b : Bool} : bfV .isBool [.bl b] h = .ok (.bl true) h := rfl
@[simp] theorem bf_isL_l {xs : List MV} : bfV .isList [.lst xs] h = .ok (.bl true) h := rfl
@[simp] theorem bf_isT_t {xs : List MV} : bfV .isTuple [.tup xs] h = .ok (.bl true) h := rfl
@[simp] theorem bf_isT_l {xs : List MV} : bfV .isTuple [.lst xs] h = .ok (.bl false) h := rfl
@[simp] theorem bf_isL_t {xs : List MV} : bfV .isList [.tup xs] h = .ok (.bl false) h := rfl
@[simp] theorem bf_sumI {ns : List Int} : bfV .sum [.lst (ns.map .int)] h = .ok (.int ns.sum) h := by
  have e : intsM (ns.map MV.int) = some ns := by
    induction ns with
    | nil => rfl
    | cons i is ih => rw [List.map_cons]; unfold intsM; rw [ih]; rfl
  unfold bfV
  simp [e]
@[simp] theorem bm_app {n : Nat} {v : MV} : bmV .append (.ref n) [v] h = (match h[n]? with
    | some (.lst xs) => if xs.length < sizeLine then .ok .non (h.set n (.lst (xs ++ [v]))) else .bad
    | _ => .bad) := by
  unfold bmV bmV0
  dsimp only
  all_goals (cases h[n]? <;> first | rfl | (rename_i o; cases o <;> rfl))
@[simp] theorem bm_ext {n : Nat} {v : MV} : bmV .extend (.ref n) [v] h = (match h[n]? with
    | some (.lst xs) => (match mlOf h v with
      | some zs => if xs.length + zs.length ≤ sizeLine then .ok .non (h.set n (.lst (xs ++ zs))) else .bad
      | none => .bad)
    | _ => .bad) := by
  unfold bmV bmV0
  dsimp only
  all_goals (cases h[n]? <;> first | rfl | (rename_i o; cases o <;> rfl))
@[simp] theorem bm_p0 {n : Nat} : bmV .pop0 (.ref n) [.int 0] h = (match h[n]? with
    | some (.lst xs) => (match xs with
      | y :: ys => .ok y (h.set n (.lst ys))
      | [] => .bad)
    | _ => .bad) := by
  unfold bmV bmV0
  dsimp only
  all_goals (cases h[n]? <;> first | rfl | (rename_i o; cases o <;> rfl))
@[simp] theorem bm_p {n : Nat} : bmV .pop (.ref n) [] h = (match h[n]? with
    | some (.lst xs) => (match xs[xs.length - 1]? with
      | some y => .ok y (h.set n (.lst xs.dropLast))
      | none => .bad)
    | _ => .bad) := by
  unfold bmV bmV0
  dsimp only
  all_goals (cases h[n]? <;> first | rfl | (rename_i o; cases o <;> rfl))
end
/-! ### the further forms -/
@[simp] theorem evE_x1 {C : Ct} {k} {a} {σ : MSt} {h : MHeap} : evE C (.x1 k a) σ h = ((evE C a σ h).bind fun v h1 => x1V k v h1) := by (rw [evE]; try rfl)
@[simp] theorem evE_x2 {C : Ct} {k} {a b} {σ : MSt} {h : MHeap} : evE C (.x2 k a b) σ h = ((evE C a σ h).bind fun x h1 => if x2P k x h1 = true then (evE C b σ h1).bind fun y h2 => x2V k x y h2 else .bad) := by (rw [evE]; try rfl)
@[simp] theorem evE_x3 {C : Ct} {k} {a b c} {σ : MSt} {h : MHeap} : evE C (.x3 k a b c) σ h = ((evE C a σ h).bind fun x h1 => if x3P k x h1 = true then (evE C b σ h1).bind fun y h2 => (evE C c σ h2).bind fun z h3 => x3V k x y z h3 else .bad) := by (rw [evE]; try rfl)
@[simp] theorem evE_dd {C : Ct} {es} {σ : MSt} {h : MHeap} : evE C (.dd es) σ h = ((evL C es σ h).bind fun vs h1 => match pairsM vs with
    | some ps => if ps.length ≤ 15 then .ok (.ref h1.length) (h1 ++ [.dct (mergeM [] ps)]) else .bad
    | none => .bad) := by (rw [evE]; try rfl)
@[simp] theorem evE_lckv {C : Ct} {i} {e} {σ : MSt} {h : MHeap} : evE C (.lck (.var i) e) σ h = (match σ[i]? with
    | some (some v) => (match lckV v h with
      | some (n, kvs, false) => lckR n kvs (evE C e σ (h.set n (.dlk kvs)))
      | some (_, _, true) => evE C e σ h
      | none => .bad)
    | _ => .bad) := by
  rw [evE, evE]
  cases σ[i]? with
  | none => rfl
  | some o => cases o with
    | none => rfl
    | some v => simp only [if_true]; try rfl
@[simp] theorem evE_dcp {C : Ct} {own} {tg} {ke ve it cond} {σ : MSt} {h : MHeap} : evE C (.dcp own tg ke ve it cond) σ h = ((evI C it σ h).bind fun s h1 => (dcpL s.Ok (fun x h2 => match setT tg x (wipeM σ own) with
    | some σ1 => (evC C cond σ1 h2).bind fun t h3 => if t = true then (evE C ke σ1 h3).bind fun u h4 => (evE C ve σ1 h4).bind fun v h5 => (match keyM u with
      | some k => .ok (some (k, v)) h5
      | none => .bad) else .ok none h3
    | none => .bad) s.xs [] h1).bind fun kvs h2 => .ok (.ref h2.length) (h2 ++ [.dct kvs])) := by (rw [evE]; try rfl)
@[simp] theorem evT_x2 {C : Ct} {k} {a b} {σ : MSt} {h : MHeap} : evT C (.x2 k a b) σ h = ((evE C a σ h).bind fun x h1 => if x2P k x h1 = true then (evE C b σ h1).bind fun y h2 => (x2V k x y h2).bind fun z h3 => (match z with
    | .bl t => .ok t h3
    | _ => .bad) else .bad) := by (rw [evT]; try rfl)
@[simp] theorem evF_f1 {C : Ct} {k} {a} {σ : MSt} {h : MHeap} : evF C (.f1 k a) σ h = ((evE C a σ h).bind fun x h1 => f1V k x h1) := by (rw [evF]; try rfl)
@[simp] theorem evI_i1 {C : Ct} {k} {e} {σ : MSt} {h : MHeap} : evI C (.i1 k e) σ h = ((evE C e σ h).bind fun v h1 => (i1V k v h1).bind fun xs h2 => .ok ⟨xs, []⟩ h2) := by (rw [evI]; try rfl)
@[simp] theorem run_setd {C : Ct} {o i e} {σ : MSt} {h : MHeap} : run C (.setd o i e) σ h = ((evE C e σ h).out fun v h1 => (evE C o σ h1).out fun x h2 => (evE C i σ h2).out fun y h3 => match setDV x y v h3 with
    | some h4 => .next σ h4
    | none => .bad) := by (rw [run]; try rfl)
@[simp] theorem run_lckv {C : Ct} {i} {s} {σ : MSt} {h : MHeap} : run C (.lck (.var i) s) σ h = (match σ[i]? with
    | some (some v) => (match lckV v h with
      | some (n, kvs, false) => lckO n kvs (run C s σ (h.set n (.dlk kvs)))
      | some (_, _, true) => run C s σ h
      | none => .bad)
    | _ => .bad) := by
  rw [run, evE]
  cases σ[i]? with
  | none => rfl
  | some o => cases o with
    | none => rfl
    | some v => simp only [if_true]; try rfl
section
variable {h : MHeap} {n : Nat} {a b c : MV} {kvs : List (Key × MV)}
@[simp] theorem dctR_ref : dctR h (.ref n) = (match h[n]? with
    | some (.dct kvs) => some kvs
    | some (.dlk kvs) => some kvs
    | _ => none) := rfl
@[simp] theorem dctOf_ref : dctOf h (.ref n) = (match h[n]? with
    | some (.dct kvs) => some kvs
    | _ => none) := rfl
@[simp] theorem keyM_int {i : Int} : keyM (.int i) = some (.inl i) := rfl
@[simp] theorem keyM_str {i : Str} : keyM (.str i) = some (.inr i) := rfl
@[simp] theorem keyV_int {i : Int} : keyV (.inl i) = .int i := rfl
@[simp] theorem keyV_str {i : Str} : keyV (.inr i) = .str i := rfl
@[simp] theorem x1V_dof : x1V .dof a h = (match dctR h a with
    | some kvs => .ok (.ref h.length) (h ++ [.dct kvs])
    | none => .bad) := rfl
@[simp] theorem x2P_dix : x2P .dix a h = true := rfl
@[simp] theorem x2P_din : x2P .din a h = true := rfl
@[simp] theorem x2P_dnin : x2P .dnin a h = true := rfl
@[simp] theorem x2P_deq : x2P .deq a h = true := rfl
@[simp] theorem x2P_dne : x2P .dne a h = true := rfl
@[simp] theorem x2P_oeq {c : Str} : x2P (.oeq c) a h = true := rfl
@[simp] theorem x2P_dget : x2P .dget a h = (dctR h a).isSome := rfl
@[simp] theorem x3P_dget : x3P .dget a h = (dctR h a).isSome := rfl
@[simp] theorem x2V_tsl {xs : List MV} {i : Int} : x2V .tsl (.tup xs) (.int i) h = if 0 < i ∧ 0 < xs.length then .ok (.tup (cutM xs (some i) none)) h else .bad := rfl
@[simp] theorem x2P_tsl : x2P .tsl a h = true := rfl
@[simp] theorem x2P_tpx {xs : List MV} : x2P .tpx (.tup xs) h = strT xs := rfl
@[simp] theorem x2V_tpx {xs : List MV} {z : Str} : x2V .tpx (.tup xs) (.str z) h = (match strsL xs with
      | some ys => (match ys.findIdx? fun y => decide (y = z) with
        | some j => .ok (.int (j : Nat)) h
        | none => .bad)
      | none => .bad) := rfl
@[simp] theorem x2P_tgt : x2P .tgt a h = true := rfl
@[simp] theorem x2P_tlt : x2P .tlt a h = true := rfl
@[simp] theorem x2P_inr : x2P .inr a h = true := rfl
@[simp] theorem x2P_tin {x : Str} {ks : List Str} : x2P (.tin x ks) a h = true := rfl
@[simp] theorem x2V_tin {x z : Str} {ks : List Str} {b : MV} : x2V (.tin x ks) (.str z) b h = .ok (.bl (decide (z ∈ ks))) h := rfl
@[simp] theorem x1V_mxd {d : Int} : x1V (.mxd d) a h = (match lstOf h a with
  | some xs => (match intsM xs with
    | some ns => .ok (.int (if ns.length = 0 then d else maxI ns)) h
    | none => .bad)
  | none => .bad) := rfl
@[simp] theorem x2V_inr {i n : Int} : x2V .inr (.int i) (.int n) h = .ok (.bl (decide (0 ≤ i ∧ i < n))) h := rfl
@[simp] theorem x2V_tgt {xs ys : List MV} : x2V .tgt (.tup xs) (.tup ys) h = (match intsM xs, intsM ys with
  | some ns, some ms => .ok (.bl (lexG ns ms)) h
  | _, _ => .bad) := rfl
@[simp] theorem x2V_tlt {xs ys : List MV} : x2V .tlt (.tup xs) (.tup ys) h = (match intsM xs, intsM ys with
  | some ns, some ms => .ok (.bl (lexG ms ns)) h
  | _, _ => .bad) := rfl
@[simp] theorem x2V_dix : x2V .dix a b h = (match dctR h a, keyM b with
    | some kvs, some k => ofOpt (valM kvs k) h
    | _, _ => .bad) := rfl
@[simp] theorem x2V_din : x2V .din a b h = (match keyM a, dctR h b with
    | some k, some kvs => .ok (.bl (valM kvs k).isSome) h
    | _, _ => .bad) := rfl
@[simp] theorem x2V_dnin : x2V .dnin a b h = (match keyM a, dctR h b with
    | some k, some kvs => .ok (.bl (!(valM kvs k).isSome)) h
    | _, _ => .bad) := rfl
@[simp] theorem x2V_deq : x2V .deq a b h = (match dctOf h a, dctOf h b with
    | some ks, some ls => if deqM ks ls = true then .ok (.bl true) h else .bad
    | _, _ => .bad) := rfl
@[simp] theorem x2V_dne : x2V .dne a b h = (match dctOf h a, dctOf h b with
    | some ks, some ls => if deqM ks ls = true then .ok (.bl false) h else .bad
    | _, _ => .bad) := rfl
@[simp] theorem x2V_dget : x2V .dget a b h = (match dctR h a, keyM b with
    | some kvs, some k => .ok ((valM kvs k).getD .non) h
    | _, _ => .bad) := rfl
@[simp] theorem x2V_oeq {c : Str} : x2V (.oeq c) (.ref m) (.int i) h = (match h[m]? with
    | some (.ins d _) => if d = c then .ok (.bl false) h else .bad
    | _ => .bad) := rfl
@[simp] theorem x3V_dget : x3V .dget a b c h = (match dctR h a, keyM b with
    | some kvs, some k => .ok ((valM kvs k).getD c) h
    | _, _ => .bad) := rfl
@[simp] theorem setDV_ref : setDV (.ref n) b c h = (match h[n]?, keyM b with
    | some (.dct kvs), some k => if kvs.length < sizeLine then some (h.set n (.dct (putKM kvs k c))) else none
    | _, _ => none) := rfl
@[simp] theorem lckV_ref : lckV (.ref n) h = (match h[n]? with
    | some (.dct kvs) => some (n, kvs, false)
    | some (.dlk kvs) => some (n, kvs, true)
    | _ => none) := rfl
theorem lckR_ok {v : MV} {h2 : MHeap} (e : h2[n]? = some (.dlk kvs)) : lckR n kvs (.ok v h2) = .ok v (h2.set n (.dct kvs)) := if_pos e
theorem lckO_next {σ : MSt} {h2 : MHeap} (e : h2[n]? = some (.dlk kvs)) : lckO n kvs (.next σ h2) = .next σ (h2.set n (.dct kvs)) := if_pos e
theorem lckO_ret {v : MV} {h2 : MHeap} (e : h2[n]? = some (.dlk kvs)) : lckO n kvs (.ret v h2) = .ret v (h2.set n (.dct kvs)) := if_pos e
@[simp] theorem i1V_keys : i1V .keys (.ref n) h = (match h[n]? with
    | some (.dlk kvs) => .ok (kvs.map fun p => keyV p.1) h
    | _ => .bad) := rfl
@[simp] theorem i1V_chs {z : Str} : i1V .chs (.str z) h = .ok (chsM z) h := rfl
@[simp] theorem i1V_est {z : Str} : i1V .est (.str z) h = .ok (enL (chsM z)) h := rfl
@[simp] theorem i1V_rrg {j : Int} : i1V .rrg (.int j) h = (if bdR j then .ok (rngL (0 + ((j - 0).toNat : Nat) - 1) (-1) (j - 0).toNat) h else .bad) := rfl
@[simp] theorem i1V_vals : i1V .vals (.ref n) h = (match h[n]? with
    | some (.dlk kvs) => .ok (kvs.map fun p => p.2) h
    | _ => .bad) := rfl
@[simp] theorem i1V_items : i1V .items (.ref n) h = (match h[n]? with
    | some (.dlk kvs) => .ok (kvs.map fun p => .tup [keyV p.1, p.2]) h
    | _ => .bad) := rfl
@[simp] theorem f1V_pr : f1V .pr a h = (match lstOf h a with
    | some xs => (match prsI xs with
      | some ps => .ok ((ps.mergeSort leP).map prV) h
      | none => .bad)
    | none => .bad) := rfl
@[simp] theorem f1V_sk : f1V .sk a h = (match dctR h a with
    | some kvs => (match intKs kvs with
      | some ks => if ks.length < 64 then .ok ((sortI ks).map .int) h else .bad
      | none => .bad)
    | none => .bad) := rfl
@[simp] theorem evF_f2 {C : Ct} {k} {a b} {σ : MSt} {h : MHeap} : evF C (.f2 k a b) σ h = ((evE C a σ h).bind fun x h1 => (evE C b σ h1).bind fun y h2 => f2V k x y h2) := by (rw [evF]; try rfl)
@[simp] theorem f1V_rg1 {j : Int} : f1V .rg1 (.int j) h = if bdG 0 j then .ok (rngL 0 1 j.toNat) h else .bad := rfl
@[simp] theorem f2V_rg2 {i j : Int} : f2V .rg2 (.int i) (.int j) h = if bdG i j then .ok (rngL i 1 (j - i).toNat) h else .bad := rfl
@[simp] theorem f2V_rg0s {j c : Int} : f2V .rg0s (.int j) (.int c) h = if bdH 0 j c then .ok (rngL 0 c (cntR 0 j c)) h else .bad := rfl
@[simp] theorem x1V_tix {h : MHeap} {x : Str} {kvs : List (Str × Key)} {z : Str} : x1V (.tix x kvs) (.str z) h = (match kvs.lookup z with
    | some k => .ok (keyV k) h
    | none => .bad) := rfl
@[simp] theorem x1V_mnt {a : MV} : x1V .mnt a h = (match lstOf h a with
    | some xs => (match prsI xs with
      | some (p :: ps) => .ok (prV (minPr p ps)) h
      | _ => .bad)
    | none => .bad) := rfl
@[simp] theorem f1V_rev : f1V .rev a h = (match lstOf h a with
    | some xs => .ok xs.reverse h
    | none => .bad) := rfl
theorem prsI_map : ∀ {ps : List (Int × Int)}, prsI (ps.map prV) = some ps
  | [] => rfl
  | p :: ps => by
    rw [List.map_cons]
    show (prsI (ps.map prV)).map _ = _
    rw [prsI_map]
    rfl
@[simp] theorem bm_index_l {xs : List MV} {v : MV} : bmV .index (.lst xs) [v] h = if flatM v = true ∧ xs.all flatM = true then (match ixOf v xs with
      | some j => .ok (.int (j : Nat)) h
      | none => .bad) else .bad := rfl
@[simp] theorem bm_count_l {xs : List MV} {i : Int} : bmV .count (.lst xs) [.int i] h = (match intsM xs with
      | some ns => .ok (.int (ns.count i : Nat)) h
      | none => .bad) := rfl
@[simp] theorem bm_rem {n : Nat} {i : Int} : bmV .remove (.ref n) [.int i] h = (match h[n]? with
    | some (.lst xs) => (match intsM xs with
      | some ns => (match ns.findIdx? fun m => m == i with
          | some j => .ok .non (h.set n (.lst ((ns.eraseIdx j).map .int)))
          | none => .bad)
      | none => .bad)
    | _ => .bad) := by
  unfold bmV bmV0
  dsimp only
  all_goals (cases h[n]? with
    | none => rfl
    | some o => cases o with
      | lst xs => dsimp only; cases intsM xs <;> first | rfl | (dsimp only; cases prsI xs <;> rfl)
      | _ => rfl)
theorem blsM_map : ∀ {bs : List Bool}, blsM (bs.map .bl) = some bs
  | [] => rfl
  | b :: bs => by rw [List.map_cons]; unfold blsM; rw [blsM_map]; rfl
@[simp] theorem bm_remP {n : Nat} {a b : Int} : bmV .remove (.ref n) [.tup [.int a, .int b]] h = (match h[n]? with
    | some (.lst xs) => (match prsI xs with
      | some ps => (match ps.findIdx? fun p => decide (p = (a, b)) with
          | some j => .ok .non (h.set n (.lst (xs.eraseIdx j)))
          | none => .bad)
      | none => .bad)
    | _ => .bad) := by
  unfold bmV bmV0
  dsimp only
  all_goals (cases h[n]? with
    | none => rfl
    | some o => cases o with
      | lst xs => dsimp only; cases intsM xs <;> first | rfl | (dsimp only; cases prsI xs <;> rfl)
      | _ => rfl)
@[simp] theorem bf_all_l {xs : List MV} : bfV .all [.lst xs] h = (match blsM xs with
        | some ns => .ok (.bl (ns.all id)) h
        | none => .bad) := rfl
@[simp] theorem bf_any_l {xs : List MV} : bfV .any [.lst xs] h = (match blsM xs with
        | some ns => .ok (.bl (ns.any id)) h
        | none => .bad) := rfl
end
theorem bdR_of {j : Int} (h0 : -4611686018427387904 ≤ j) (h1 : j < 4611686018427387904) : bdR j := ⟨h0, h1⟩
@[simp] theorem bdR_t {j : Int} (h0 : -4611686018427387904 ≤ j) (h1 : j < 4611686018427387904) : bdR j = True := eq_true (bdR_of h0 h1)
@[simp] theorem bdM_l {i j : Int} (h0 : -18446744073709551616 < i) (h1 : i < 18446744073709551616) : bdM i j = True := eq_true (.inl ⟨h0, h1⟩)
@[simp] theorem bdM_r {i j : Int} (h0 : -18446744073709551616 < j) (h1 : j < 18446744073709551616) : bdM i j = True := eq_true (.inr ⟨h0, h1⟩)
@[simp] theorem bdD_t {j : Int} (h0 : 0 < j) (h1 : j < 18446744073709551616) : bdD j = True := eq_true ⟨h0, h1⟩
@[simp] theorem bdS_t {i j : Int} (h0 : 0 ≤ j) (h1 : j ≤ 1000000) (h2 : i.natAbs < 18446744073709551616) : bdS i j = True := eq_true ⟨h0, h1, h2⟩
@[simp] theorem okF_t {j : Int} (h0 : -9223372036854775808 ≤ j) (h1 : j < 9223372036854775808) : bdF j = True := eq_true ⟨h0, h1⟩
@[simp] theorem szl : sizeLine = 16777216 := sizeLine_eq
/-! ### the end of a call -/
theorem fin_raw {hm h : MHeap} {v : MV} : finV true hm v h = .ok v h := by unfold finV; rw [if_pos rfl]
theorem fin_take {hm h : MHeap} {v : MV} (c : Clean hm h v) : finV false hm v h = .ok v (h.take hm.length) := by
  unfold finV
  rw [if_neg Bool.false_ne_true, if_pos c]
theorem fin_same {hm h : MHeap} {v : MV} (hl : h.length = hm.length) (hb : below hm.length v = true) (hc : ∀ (n : Nat) (o : MO), h[n]? = some o → hm[n]? = some o ∨ belowO hm.length o = true) : finV false hm v h = .ok v h := by
  rw [fin_take ⟨hb, fun n o _ => hc n o⟩, ← hl, List.take_length]
theorem fin_id {raw : Bool} {hm : MHeap} {v : MV} (hb : below hm.length v = true) : finV raw hm v hm = .ok v hm := by
  cases raw with
  | true => exact fin_raw
  | false => exact fin_same rfl hb fun n o q => .inl q
theorem fin_app {hm r : MHeap} {v : MV} (hb : below hm.length v = true) : finV false hm v (hm ++ r) = .ok v hm := by
  rw [fin_take ⟨hb, fun n o hn q => .inl (by rw [List.getElem?_append_left hn] at q; exact q)⟩]
  simp
@[simp] theorem below_int {L : Nat} {i : Int} : below L (.int i) = true := by unfold below; rfl
@[simp] theorem below_bl {L : Nat} {i : Bool} : below L (.bl i) = true := by unfold below; rfl
@[simp] theorem below_str {L : Nat} {i : Str} : below L (.str i) = true := by unfold below; rfl
@[simp] theorem below_non {L : Nat} : below L .non = true := by unfold below; rfl
@[simp] theorem below_tup {L : Nat} {xs : List MV} : below L (.tup xs) = belows L xs := by rw [below]
@[simp] theorem below_lst {L : Nat} {xs : List MV} : below L (.lst xs) = belows L xs := by rw [below]
@[simp] theorem below_ref {L n : Nat} : below L (.ref n) = decide (n < L) := by rw [below]
@[simp] theorem belows_nil {L : Nat} : belows L [] = true := by unfold belows; rfl
@[simp] theorem belows_cons {L : Nat} {x : MV} {xs : List MV} : belows L (x :: xs) = (below L x && belows L xs) := by rw [belows]
theorem belows_all {L : Nat} : ∀ {xs : List MV}, belows L xs = true ↔ ∀ x ∈ xs, below L x = true
  | [] => by simp
  | x :: xs => by simp [belows_all (xs := xs)]
@[simp] theorem belows_app {L : Nat} {xs ys : List MV} : belows L (xs ++ ys) = (belows L xs && belows L ys) := by
  induction xs with
  | nil => simp
  | cons x xs ih => simp [ih, Bool.and_assoc]
@[simp] theorem belows_ints {L : Nat} {ns : List Int} : belows L (ns.map MV.int) = true := by
  rw [belows_all]
  intro x hx
  obtain ⟨i, _, rfl⟩ := List.mem_map.mp hx
  simp
@[simp] theorem ints_ints {ns : List Int} : intsM (ns.map MV.int) = some ns := by
  induction ns with
  | nil => rfl
  | cons i is ih => rw [List.map_cons]; unfold intsM; rw [ih]; rfl

/-! ### reading by an index -/
theorem ixN_cast {n k : Nat} : ixN n (k : Int) = if k < n then some k else none := by
  unfold ixN
  by_cases h : k < n
  · simp [h, Int.toNat]
  · simp [h]
theorem atI_cast {α : Type} {xs : List α} {k : Nat} : atI xs (k : Int) = xs[k]? := by
  unfold atI
  rw [ixN_cast]
  by_cases h : k < xs.length
  · rw [if_pos h]; rfl
  · rw [if_neg h, List.getElem?_eq_none (by omega)]; rfl
@[simp] theorem atI_0 {α : Type} {xs : List α} : atI xs 0 = xs[0]? := atI_cast (k := 0)
@[simp] theorem atI_1 {α : Type} {xs : List α} : atI xs 1 = xs[1]? := atI_cast (k := 1)
@[simp] theorem atI_2 {α : Type} {xs : List α} : atI xs 2 = xs[2]? := atI_cast (k := 2)
@[simp] theorem atI_3 {α : Type} {xs : List α} : atI xs 3 = xs[3]? := atI_cast (k := 3)
@[simp] theorem atI_4 {α : Type} {xs : List α} : atI xs 4 = xs[4]? := atI_cast (k := 4)
@[simp] theorem atI_5 {α : Type} {xs : List α} : atI xs 5 = xs[5]? := atI_cast (k := 5)
@[simp] theorem atI_6 {α : Type} {xs : List α} : atI xs 6 = xs[6]? := atI_cast (k := 6)
@[simp] theorem atI_7 {α : Type} {xs : List α} : atI xs 7 = xs[7]? := atI_cast (k := 7)
@[simp] theorem atI_8 {α : Type} {xs : List α} : atI xs 8 = xs[8]? := atI_cast (k := 8)
@[simp] theorem atI_9 {α : Type} {xs : List α} : atI xs 9 = xs[9]? := atI_cast (k := 9)
@[simp] theorem atI_10 {α : Type} {xs : List α} : atI xs 10 = xs[10]? := atI_cast (k := 10)
@[simp] theorem atI_11 {α : Type} {xs : List α} : atI xs 11 = xs[11]? := atI_cast (k := 11)
@[simp] theorem ixN_0 {n : Nat} : ixN n 0 = if 0 < n then some 0 else none := ixN_cast (k := 0)
@[simp] theorem ixN_1 {n : Nat} : ixN n 1 = if 1 < n then some 1 else none := ixN_cast (k := 1)
@[simp] theorem ixN_2 {n : Nat} : ixN n 2 = if 2 < n then some 2 else none := ixN_cast (k := 2)
@[simp] theorem ixN_3 {n : Nat} : ixN n 3 = if 3 < n then some 3 else none := ixN_cast (k := 3)
@[simp] theorem ixN_4 {n : Nat} : ixN n 4 = if 4 < n then some 4 else none := ixN_cast (k := 4)
@[simp] theorem ixN_5 {n : Nat} : ixN n 5 = if 5 < n then some 5 else none := ixN_cast (k := 5)
@[simp] theorem ixN_6 {n : Nat} : ixN n 6 = if 6 < n then some 6 else none := ixN_cast (k := 6)
@[simp] theorem ixN_7 {n : Nat} : ixN n 7 = if 7 < n then some 7 else none := ixN_cast (k := 7)
@[simp] theorem ixN_8 {n : Nat} : ixN n 8 = if 8 < n then some 8 else none := ixN_cast (k := 8)
@[simp] theorem ixN_9 {n : Nat} : ixN n 9 = if 9 < n then some 9 else none := ixN_cast (k := 9)
@[simp] theorem ixN_10 {n : Nat} : ixN n 10 = if 10 < n then some 10 else none := ixN_cast (k := 10)
@[simp] theorem ixN_11 {n : Nat} : ixN n 11 = if 11 < n then some 11 else none := ixN_cast (k := 11)

/-! ### equality of plain values -/
section
variable {h : MHeap} {a b : Int} {s t : Str} {p q : Bool}
theorem dat_int : datF h 8 (.int a) = some (.int a) := rfl
theorem dat_str : datF h 8 (.str s) = some (.str s) := rfl
theorem dat_bl : datF h 8 (.bl p) = some (.bool p) := rfl
theorem dat_non : datF h 8 .non = some .none := rfl
@[simp] theorem eq_ii : eqR (.int a) (.int b) h = some (a == b) := by
  unfold eqR; rw [dat_int, dat_int]; rfl
theorem eq_ss (_ : PyData.strOk s = true) (_ : PyData.strOk t = true) : eqR (.str s) (.str t) h = some (s == t) := rfl
@[simp] theorem eq_str : eqR (.str s) (.str t) h = some (s == t) := rfl
theorem ofs_inj {a b : String} : Str.ofString a = Str.ofString b ↔ a = b := by
  constructor
  · intro e
    rw [Str.ofString_eq_toList, Str.ofString_eq_toList] at e
    have e1 : a.toList.map Char.toNat = b.toList.map Char.toNat := by
      have := congrArg (fun s : Str => s.cps.toList) e
      simpa using this
    have e2 : a.toList = b.toList := by
      refine List.map_inj_right (fun x y hxy => ?_) |>.mp e1
      exact Char.toNat_inj.mp hxy
    exact String.toList_inj.mp e2
  · rintro rfl
    rfl
theorem ofs_ok {a : String} : PyData.strOk (Str.ofString a) = true := by
  rw [Str.ofString_eq_toList]
  unfold PyData.strOk
  rw [Array.all_eq_true']
  intro x hx
  have hx' : x ∈ a.toList.map Char.toNat := by simpa using hx
  obtain ⟨c, _, rfl⟩ := List.mem_map.mp hx'
  have := c.valid
  refine decide_eq_true ?_
  show c.val.toNat < 0x110000
  rcases this with h | h
  · omega
  · omega
@[simp] theorem eq_lit {a b : String} : eqR (.str (Str.ofString a)) (.str (Str.ofString b)) h = some (decide (a = b)) := by
  rw [eq_ss ofs_ok ofs_ok]
  by_cases e : a = b
  · subst e
    simp
  · have : Str.ofString a ≠ Str.ofString b := fun z => e (ofs_inj.mp z)
    simp [e, this]
theorem eq_sh {d e : PyData} {x y : MV} (hx : datF h 8 x = some d) (hy : datF h 8 y = some e) (sd : SeqAt.shaped d = true) (se : SeqAt.shaped e = true) : eqR x y h = some (PyData.eqv d e) := by
  unfold eqR
  have old : (match datF h 8 x, datF h 8 y with
    | some d, some e => if SeqAt.shaped d = true ∧ SeqAt.shaped e = true then some (PyData.eqv d e) else none
    | _, _ => none) = some (PyData.eqv d e) := by
    rw [hx, hy]
    show (if _ then _ else _) = _
    rw [if_pos ⟨sd, se⟩]
  cases q : strsM x y with
  | none => exact old
  | some u =>
    unfold strsM at q
    split at q
    · cases q
      rw [dat_str] at hx hy
      cases hx
      cases hy
      rfl
    · cases q
@[simp] theorem eq_sn {s : String} : eqR (.str (Str.ofString s)) .non h = some false := eq_sh dat_str dat_non (by show (PyData.strOk _ && _) = true; rw [ofs_ok]; rfl) rfl
@[simp] theorem eq_ns {s : String} : eqR .non (.str (Str.ofString s)) h = some false := eq_sh dat_non dat_str rfl (by show (PyData.strOk _ && _) = true; rw [ofs_ok]; rfl)
@[simp] theorem eq_bb : eqR (.bl p) (.bl q) h = some (p == q) := by
  unfold eqR; rw [dat_bl, dat_bl]; cases p <;> cases q <;> rfl
@[simp] theorem eq_nn : eqR .non .non h = some true := rfl
@[simp] theorem eq_ni : eqR .non (.int b) h = some false := rfl
@[simp] theorem eq_in : eqR (.int b) .non h = some false := rfl
end
end Mn
namespace Mn
open PySem PySem.Spec PyProof.Rows L2
/-! ### the drawing of numbers, form A: [cells, seed] -/
def tDraw : MS := .seq (.asg 2 (.idx (.var 0) (.int 0)))
    (.seq (.whl (.and (.cmp .Gt (.bc .len (.cons (.var 2) .nil)) (.int 0)) (.cmp .Eq (.idx (.var 2) (.int 0)) (.int 0)))
    (.seq (.ex (.bm .pop0 (.var 2) (.cons (.int 0) .nil)))
    .skip))
    (.seq (.ite (.cmp .Gt (.bc .len (.cons (.var 2) .nil)) (.int 0))
    (.seq (.asg 3 (.idx (.var 2) (.int 0)))
    (.seq (.seti (.var 2) (.int 0) (.bin .FloorDiv (.var 3) (.var 1)))
    (.seq (.ret (.bin .Mod (.bc .int (.cons (.var 3) .nil)) (.var 1)))
    .skip)))
    .skip)
    (.seq (.asg 4 (.bin .Mod (.bc .int (.cons (.bin .Add (.bin .Mult (.idx (.var 0) (.int 1)) (.int 48271)) (.int 12345)) .nil)) (.int 2147483647)))
    (.seq (.seti (.var 0) (.int 1) (.var 4))
    (.seq (.ret (.bin .Mod (.bc .int (.cons (.bin .FloorDiv (.var 4) (.int 64)) .nil)) (.var 1)))
    .skip)))))
structure Rg where
  cs : List Int
  sd : Int
def Rg.hp (g : Rg) (tl : MHeap) : MHeap := .lst (g.cs.map .int) :: .lst [.ref 0, .int g.sd] :: tl
def dropZ : List Int → List Int
  | [] => []
  | c :: cs => if c = 0 then dropZ cs else c :: cs
def Rg.mix (g : Rg) : Int := (g.sd * 48271 + 12345) % 2147483647
def Rg.v (g : Rg) (m : Int) : Int := match dropZ g.cs with
  | c :: _ => c % m
  | [] => g.mix / 64 % m
def Rg.n (g : Rg) (m : Int) : Rg := match dropZ g.cs with
  | c :: r => ⟨c / m :: r, g.sd⟩
  | [] => ⟨[], g.mix⟩
theorem Rg.v_lo {g : Rg} {m : Int} (h : 0 < m) : 0 ≤ g.v m := by
  unfold Rg.v
  split <;> exact Int.emod_nonneg _ (by omega)
theorem Rg.v_hi {g : Rg} {m : Int} (h : 0 < m) : g.v m < m := by
  unfold Rg.v
  split <;> exact Int.emod_lt_of_pos _ h
theorem hp_len {g : Rg} {tl : MHeap} : (g.hp tl).length = tl.length + 2 := rfl
theorem fin_hp {g g' : Rg} {tl : MHeap} {v : MV} (hb : below (tl.length + 2) v = true) : finV false (g.hp tl) v (g'.hp tl) = .ok v (g'.hp tl) := by
  refine fin_same rfl hb fun n o q => ?_
  match n with
  | 0 =>
    right
    cases q
    unfold belowO
    exact belows_ints
  | 1 =>
    right
    cases q
    unfold belowO
    simp [hp_len]
  | n + 2 => exact .inl q
theorem fin_hpA {g g' : Rg} {tl r : MHeap} {v : MV} (hb : below (tl.length + 2) v = true) : finV false (g.hp tl) v (g'.hp (tl ++ r)) = .ok v (g'.hp tl) := by
  rw [fin_take (hm := g.hp tl) ⟨hb, fun n o hn q => ?_⟩]
  · show Rs.ok v ((g'.hp tl ++ r).take (tl.length + 2)) = _
    rw [← hp_len (g := g')]
    simp
  · match n with
    | 0 =>
      right
      cases q
      unfold belowO
      exact belows_ints
    | 1 =>
      right
      cases q
      unfold belowO
      simp [hp_len]
    | n + 2 =>
      left
      have hn' : n < tl.length := by rw [hp_len] at hn; omega
      have q' : (tl ++ r)[n]? = some o := q
      rw [List.getElem?_append_left hn'] at q'
      exact q'
@[simp high] theorem hp_0 {g : Rg} {tl : MHeap} : (g.hp tl)[0]? = some (.lst (g.cs.map .int)) := rfl
@[simp high] theorem hp_1 {g : Rg} {tl : MHeap} : (g.hp tl)[1]? = some (.lst [.ref 0, .int g.sd]) := rfl
@[simp high] theorem hp_tl {g : Rg} {tl : MHeap} {n : Nat} : (g.hp tl)[n + 2]? = tl[n]? := rfl
@[simp high] theorem hp_2 {g : Rg} {tl : MHeap} : (g.hp tl)[2]? = tl[0]? := rfl
@[simp high] theorem hp_3 {g : Rg} {tl : MHeap} : (g.hp tl)[3]? = tl[1]? := rfl
@[simp high] theorem hp_4 {g : Rg} {tl : MHeap} : (g.hp tl)[4]? = tl[2]? := rfl
@[simp high] theorem hp_5 {g : Rg} {tl : MHeap} : (g.hp tl)[5]? = tl[3]? := rfl
@[simp high] theorem hp_6 {g : Rg} {tl : MHeap} : (g.hp tl)[6]? = tl[4]? := rfl
@[simp high] theorem hp_7 {g : Rg} {tl : MHeap} : (g.hp tl)[7]? = tl[5]? := rfl
@[simp high] theorem hp_8 {g : Rg} {tl : MHeap} : (g.hp tl)[8]? = tl[6]? := rfl
@[simp high] theorem hp_9 {g : Rg} {tl : MHeap} : (g.hp tl)[9]? = tl[7]? := rfl
@[simp high] theorem hp_10 {g : Rg} {tl : MHeap} : (g.hp tl)[10]? = tl[8]? := rfl
@[simp high] theorem hp_11 {g : Rg} {tl : MHeap} : (g.hp tl)[11]? = tl[9]? := rfl
@[simp high] theorem hp_12 {g : Rg} {tl : MHeap} : (g.hp tl)[12]? = tl[10]? := rfl
@[simp high] theorem hp_13 {g : Rg} {tl : MHeap} : (g.hp tl)[13]? = tl[11]? := rfl
theorem whl_zero {C : Ct} {σ : MSt} {sd : Int} {tl : MHeap} (h2 : σ[2]? = some (some (.ref 0))) : ∀ cs : List Int,
    whl (evT C (.and (.cmp .Gt (.bc .len (.cons (.var 2) .nil)) (.int 0)) (.cmp .Eq (.idx (.var 2) (.int 0)) (.int 0)))) (run C (.seq (.ex (.bm .pop0 (.var 2) (.cons (.int 0) .nil))) .skip)) σ ((⟨cs, sd⟩ : Rg).hp tl) = .next σ ((⟨dropZ cs, sd⟩ : Rg).hp tl)
  | [] => by
    rw [whl_false (h1 := (⟨[], sd⟩ : Rg).hp tl)]
    · rfl
    · simp [h2]
  | c :: cs => by
    by_cases hc : c = 0
    · subst hc
      refine whl_true (h1 := (⟨0 :: cs, sd⟩ : Rg).hp tl) (h2 := (⟨cs, sd⟩ : Rg).hp tl) (σ1 := σ) ?_ (.inl ?_) ?_ ?_
      · simp [h2]
      · simp [h2, Rg.hp]
      · rw [whl_zero h2 cs]
        rw [show dropZ (0 :: cs) = dropZ cs from by rw [dropZ, if_pos rfl]]
      · simp
    · have e : dropZ (c :: cs) = c :: cs := by rw [dropZ, if_neg hc]
      rw [whl_false (h1 := (⟨c :: cs, sd⟩ : Rg).hp tl), e]
      simp [h2, hc]
theorem draw_run {C : Ct} {g : Rg} {m : Int} {tl : MHeap} (h0 : 0 < m) (h1 : m < 18446744073709551616) : finO false (g.hp tl) (run C tDraw ([.ref 1, .int m].map some ++ List.replicate 3 none) (g.hp tl)) = .ok (.int (g.v m)) ((g.n m).hp tl) := by
  have hz : whl _ _ _ (g.hp tl) = _ := whl_zero (C := C) (σ := [some (.ref 1), some (.int m), some (.ref 0), none, none]) (sd := g.sd) (tl := tl) rfl g.cs
  have key : run C tDraw ([.ref 1, .int m].map some ++ List.replicate 3 none) (g.hp tl) = .ret (.int (g.v m)) ((g.n m).hp tl) := by
    unfold tDraw
    simp [hz]
    unfold Rg.v Rg.n
    cases q : dropZ g.cs with
    | nil =>
      simp [Rg.hp, Rg.mix, h0, h1, setIV]
    | cons c cs =>
      simp [Rg.hp, h0, h1, setIV]
  unfold finO
  rw [key]
  exact fin_hp (by simp)
end Mn
namespace Mn
open PySem PySem.Spec PyProof.Rows L2
/-! ### rules for loops -/
theorem run_for_of {α β : Type} {C : Ct} {t : Tg} {it : ME} {b : MS} {σ : MSt} {h : MHeap} {s : Src} {xs : List α} {b0 : β} {enc : α → MV} (S : β → MSt) (Hh : β → MHeap) (step : β → α → β) (I : β → Prop)
    (hi : evI C it σ h = .ok s (Hh b0)) (hx : s.xs = xs.map enc) (hσ : σ = S b0) (hI : I b0) (hok : ∀ b, I b → s.Ok (Hh b))
    (hf : ∀ c x, I c → x ∈ xs → ∃ σ2, setT t (enc x) (S c) = some σ2 ∧ (run C b σ2 (Hh c) = .next (S (step c x)) (Hh (step c x)) ∨ run C b σ2 (Hh c) = .cnt (S (step c x)) (Hh (step c x))) ∧ I (step c x)) :
    run C (.for_ t it b) σ h = .next (S (xs.foldl step b0)) (Hh (xs.foldl step b0)) := by
  rw [run, hi, hσ]
  show forL s.Ok _ s.xs (S b0) (Hh b0) = _
  rw [hx]
  refine forL_fold S Hh step enc I hI hok fun c x hc hm => ?_
  obtain ⟨σ2, q1, q2, q3⟩ := hf c x hc hm
  refine ⟨?_, q3⟩
  simp only [q1]
  exact q2
/-- a loop that goes on at each turn, ahead of the rest; z: what it leaves beside -/
theorem for_seqQ {α β ζ : Type} {C : Ct} {t : Tg} {it : ME} {b : MS} {σ : MSt} {h : MHeap} {s : Src} {xs : List α} {b0 : β} {enc : α → MV} {k : MSt → MHeap → Out} (Qo : Out → Prop) (S : β → ζ → MSt) (Hh : β → MHeap) (step : β → α → β) (I : Nat → β → Prop) (z0 : ζ)
    (hi : evI C it σ h = .ok s (Hh b0)) (hx : s.xs = xs.map enc) (hσ : σ = S b0 z0) (hI : I 0 b0) (hok : ∀ i b, I i b → s.Ok (Hh b))
    (hf : ∀ i c z x, I i c → xs[i]? = some x → ∃ σ2, setT t (enc x) (S c z) = some σ2 ∧ (∃ z', run C b σ2 (Hh c) = .next (S (step c x) z') (Hh (step c x)) ∨ run C b σ2 (Hh c) = .cnt (S (step c x) z') (Hh (step c x))) ∧ I (i + 1) (step c x))
    (hk : ∀ z, I xs.length (xs.foldl step b0) → Qo (k (S (xs.foldl step b0) z) (Hh (xs.foldl step b0)))) : Qo ((run C (.for_ t it b) σ h).seq k) := by
  suffices hh : ∀ (ys : List α) (i : Nat) (c : β) (z : ζ), I i c → xs.drop i = ys → ∃ z', forL s.Ok (fun x σ1 h2 => match setT t x σ1 with
      | some σ2 => run C b σ2 h2
      | none => .bad) (ys.map enc) (S c z) (Hh c) = .next (S (ys.foldl step c) z') (Hh (ys.foldl step c)) ∧ I (i + ys.length) (ys.foldl step c) by
    obtain ⟨z', e, hfin⟩ := hh xs 0 b0 z0 hI rfl
    rw [run, hi, hσ]
    show Qo ((forL s.Ok _ s.xs (S b0 z0) (Hh b0)).seq k)
    rw [hx]
    have e' := congrArg (fun r => Out.seq r k) e
    exact e'.symm ▸ (hk z' (by rw [Nat.zero_add] at hfin; exact hfin))
  intro ys
  induction ys with
  | nil =>
    intro i c z hc _
    refine ⟨z, ?_, hc⟩
    unfold forL
    rw [List.map_nil]
    simp only [if_pos (hok i c hc)]
    rfl
  | cons y ys ih =>
    intro i c z hc hy
    have hy0 : xs[i]? = some y := by
      have := congrArg (fun l => l[0]?) hy
      simpa using this
    have hy1 : xs.drop (i + 1) = ys := by rw [← List.drop_drop, hy]; rfl
    obtain ⟨σ2, q1, ⟨z1, q2⟩, q3⟩ := hf i c z y hc hy0
    obtain ⟨z', e, hfin⟩ := ih (i + 1) (step c y) z1 q3 hy1
    refine ⟨z', ?_, by rw [List.length_cons, show i + (ys.length + 1) = i + 1 + ys.length by omega]; exact hfin⟩
    rw [List.map_cons]
    unfold forL
    rw [if_pos (hok i c hc)]
    simp only [q1]
    rcases q2 with q2 | q2 <;> simp only [q2] <;> exact e
/-- a loop that goes on at each turn, ahead of the rest; z: what it leaves beside -/
theorem for_seq {α β ζ : Type} {C : Ct} {t : Tg} {it : ME} {b : MS} {σ : MSt} {h : MHeap} {s : Src} {xs : List α} {b0 : β} {enc : α → MV} {k : MSt → MHeap → Out} {o : Out} (S : β → ζ → MSt) (Hh : β → MHeap) (step : β → α → β) (I : Nat → β → Prop) (z0 : ζ)
    (hi : evI C it σ h = .ok s (Hh b0)) (hx : s.xs = xs.map enc) (hσ : σ = S b0 z0) (hI : I 0 b0) (hok : ∀ i b, I i b → s.Ok (Hh b))
    (hf : ∀ i c z x, I i c → xs[i]? = some x → ∃ σ2, setT t (enc x) (S c z) = some σ2 ∧ (∃ z', run C b σ2 (Hh c) = .next (S (step c x) z') (Hh (step c x)) ∨ run C b σ2 (Hh c) = .cnt (S (step c x) z') (Hh (step c x))) ∧ I (i + 1) (step c x))
    (hk : ∀ z, I xs.length (xs.foldl step b0) → k (S (xs.foldl step b0) z) (Hh (xs.foldl step b0)) = o) : (run C (.for_ t it b) σ h).seq k = o :=
  for_seqQ (fun r => r = o) S Hh step I z0 hi hx hσ hI hok hf hk
/-- how a turn may end -/
inductive Tn (β : Type) where
  | go (b : β) | stop (b : β) | back (v : MV) (b : β)
def foldS {α β : Type} (step : β → α → Tn β) : β → List α → Tn β
  | b, [] => .go b
  | b, x :: xs => match step b x with
    | .go c => foldS step c xs
    | .stop c => .stop c
    | .back v c => .back v c
theorem for_seqSQ {α β ζ : Type} {C : Ct} {t : Tg} {it : ME} {b : MS} {σ : MSt} {h : MHeap} {s : Src} {xs : List α} {b0 : β} {enc : α → MV} {k : MSt → MHeap → Out} (Qo : Out → Prop) (S : β → ζ → MSt) (Hh : β → MHeap) (step : β → α → Tn β) (I : Nat → β → Prop) (z0 : ζ)
    (hi : evI C it σ h = .ok s (Hh b0)) (hx : s.xs = xs.map enc) (hσ : σ = S b0 z0) (hI : I 0 b0) (hok : ∀ i b, I i b → s.Ok (Hh b))
    (hf : ∀ i c z x, I i c → xs[i]? = some x → ∃ σ2, setT t (enc x) (S c z) = some σ2 ∧ (match step c x with
      | .go c' => (∃ z', run C b σ2 (Hh c) = .next (S c' z') (Hh c') ∨ run C b σ2 (Hh c) = .cnt (S c' z') (Hh c')) ∧ I (i + 1) c'
      | .stop c' => ∃ z', run C b σ2 (Hh c) = .brk (S c' z') (Hh c')
      | .back v c' => run C b σ2 (Hh c) = .ret v (Hh c')))
    (hk : ∀ z, Qo (match foldS step b0 xs with
      | .go c => k (S c z) (Hh c)
      | .stop c => k (S c z) (Hh c)
      | .back v c => .ret v (Hh c))) : Qo ((run C (.for_ t it b) σ h).seq k) := by
  suffices hh : ∀ (ys : List α) (i : Nat) (c : β) (z : ζ), I i c → xs.drop i = ys → ∃ z', forL s.Ok (fun x σ1 h2 => match setT t x σ1 with
      | some σ2 => run C b σ2 h2
      | none => .bad) (ys.map enc) (S c z) (Hh c) = (match foldS step c ys with
      | .go c => .next (S c z') (Hh c)
      | .stop c => .next (S c z') (Hh c)
      | .back v c => .ret v (Hh c)) by
    obtain ⟨z', e⟩ := hh xs 0 b0 z0 hI rfl
    rw [run, hi, hσ]
    show Qo ((forL s.Ok _ s.xs (S b0 z0) (Hh b0)).seq k)
    rw [hx]
    have e' := congrArg (fun r => Out.seq r k) e
    refine e'.symm ▸ ?_
    have hk' := hk z'
    revert hk'
    cases foldS step b0 xs <;> exact fun x => x
  intro ys
  induction ys with
  | nil =>
    intro i c z hc _
    refine ⟨z, ?_⟩
    unfold forL foldS
    rw [List.map_nil]
    simp only [if_pos (hok i c hc)]
  | cons y ys ih =>
    intro i c z hc hy
    have hy0 : xs[i]? = some y := by
      have := congrArg (fun l => l[0]?) hy
      simpa using this
    have hy1 : xs.drop (i + 1) = ys := by rw [← List.drop_drop, hy]; rfl
    obtain ⟨σ2, q1, q2⟩ := hf i c z y hc hy0
    unfold foldS
    cases w : step c y with
    | go c' =>
      simp only [w] at q2
      obtain ⟨⟨z1, q2⟩, q3⟩ := q2
      obtain ⟨z', e⟩ := ih (i + 1) c' z1 q3 hy1
      refine ⟨z', ?_⟩
      rw [List.map_cons]
      unfold forL
      rw [if_pos (hok i c hc)]
      simp only [q1]
      rcases q2 with q2 | q2 <;> simp only [q2] <;> exact e
    | stop c' =>
      simp only [w] at q2
      obtain ⟨z1, q2⟩ := q2
      refine ⟨z1, ?_⟩
      rw [List.map_cons]
      unfold forL
      rw [if_pos (hok i c hc)]
      simp only [q1, q2]
    | back v c' =>
      simp only [w] at q2
      refine ⟨z, ?_⟩
      rw [List.map_cons]
      unfold forL
      rw [if_pos (hok i c hc)]
      simp only [q1, q2]
theorem for_seqS {α β ζ : Type} {C : Ct} {t : Tg} {it : ME} {b : MS} {σ : MSt} {h : MHeap} {s : Src} {xs : List α} {b0 : β} {enc : α → MV} {k : MSt → MHeap → Out} {o : Out} (S : β → ζ → MSt) (Hh : β → MHeap) (step : β → α → Tn β) (I : Nat → β → Prop) (z0 : ζ)
    (hi : evI C it σ h = .ok s (Hh b0)) (hx : s.xs = xs.map enc) (hσ : σ = S b0 z0) (hI : I 0 b0) (hok : ∀ i b, I i b → s.Ok (Hh b))
    (hf : ∀ i c z x, I i c → xs[i]? = some x → ∃ σ2, setT t (enc x) (S c z) = some σ2 ∧ (match step c x with
      | .go c' => (∃ z', run C b σ2 (Hh c) = .next (S c' z') (Hh c') ∨ run C b σ2 (Hh c) = .cnt (S c' z') (Hh c')) ∧ I (i + 1) c'
      | .stop c' => ∃ z', run C b σ2 (Hh c) = .brk (S c' z') (Hh c')
      | .back v c' => run C b σ2 (Hh c) = .ret v (Hh c')))
    (hk : ∀ z, (match foldS step b0 xs with
      | .go c => k (S c z) (Hh c)
      | .stop c => k (S c z) (Hh c)
      | .back v c => .ret v (Hh c)) = o) : (run C (.for_ t it b) σ h).seq k = o :=
  for_seqSQ (fun r => r = o) S Hh step I z0 hi hx hσ hI hok hf hk
/-- outputs and the last state -/
def scanM {α β γ : Type} (step : β → α → β) (out : β → α → γ) : β → List α → List γ
  | _, [] => []
  | b, x :: xs => out b x :: scanM step out (step b x) xs
theorem scanM_len {α β γ : Type} {step : β → α → β} {out : β → α → γ} : ∀ {b : β} {xs : List α}, (scanM step out b xs).length = xs.length
  | _, [] => rfl
  | b, x :: xs => by unfold scanM; rw [List.length_cons, scanM_len, List.length_cons]
theorem scanM_all {α β γ : Type} {step : β → α → β} {out : β → α → γ} {p : γ → Prop} {I : β → Prop} : ∀ {b : β} {xs : List α}, I b → (∀ b x, I b → x ∈ xs → p (out b x) ∧ I (step b x)) → ∀ y ∈ scanM step out b xs, p y
  | _, [], _, _, y, hy => by cases hy
  | b, x :: xs, hI, h, y, hy => by
    unfold scanM at hy
    rcases List.mem_cons.mp hy with rfl | hy
    · exact (h b x hI (List.mem_cons_self ..)).1
    · exact scanM_all (h b x hI (List.mem_cons_self ..)).2 (fun b y hb hm => h b y hb (List.mem_cons_of_mem _ hm)) y hy
theorem foldl_inv {α β : Type} {step : β → α → β} {I : β → Prop} : ∀ {xs : List α} {b : β}, I b → (∀ b x, I b → x ∈ xs → I (step b x)) → I (xs.foldl step b)
  | [], _, hI, _ => hI
  | x :: xs, b, hI, h => foldl_inv (xs := xs) (h b x hI (List.mem_cons_self ..)) fun b y hb hm => h b y hb (List.mem_cons_of_mem _ hm)
theorem compL_scan {α β : Type} {Hh : β → MHeap} {step : β → α → β} {out : β → α → MV} {enc : α → MV} {ok : MHeap → Prop} {f : MV → MHeap → Rs (Option MV)} {I : Nat → β → Prop} : ∀ {xs : List α} {i : Nat} {b : β} {acc : List MV}, I i b → (∀ i b, I i b → ok (Hh b)) → acc.length + xs.length ≤ sizeLine →
    (∀ j b x, I (i + j) b → xs[j]? = some x → f (enc x) (Hh b) = .ok (some (out b x)) (Hh (step b x)) ∧ I (i + j + 1) (step b x)) →
    compL ok f (xs.map enc) acc (Hh b) = .ok (acc ++ scanM step out b xs) (Hh (xs.foldl step b))
  | [], i, b, acc, hI, hok, hl, _ => by
    unfold compL scanM
    simp only [List.map_nil, if_pos (hok i b hI), List.foldl_nil, List.append_nil]
  | x :: xs, i, b, acc, hI, hok, hl, hf => by
    rw [List.map_cons]
    unfold compL scanM
    rw [List.length_cons] at hl
    rw [if_pos ⟨hok i b hI, by omega⟩]
    obtain ⟨q, hI'⟩ := hf 0 b x hI rfl
    simp only [q]
    rw [compL_scan (xs := xs) (i := i + 1) (acc := acc ++ [out b x]) hI' hok (by rw [List.length_append, List.length_singleton]; omega) fun j b y hb hy => by have := hf (j + 1) b y (by rw [show i + (j + 1) = i + 1 + j by omega]; exact hb) hy; rw [show i + (j + 1) = i + 1 + j by omega] at this; exact this]
    simp
/-- [e for t in it]: each turn may change the heap -/
theorem evF_scan {α β : Type} {C : Ct} {own : List Nat} {t : Tg} {el it : ME} {σ : MSt} {h : MHeap} {s : Src} {xs : List α} {b0 : β} {enc : α → MV} (Hh : β → MHeap) (step : β → α → β) (out : β → α → MV) (I : Nat → β → Prop)
    (hi : evI C it σ h = .ok s (Hh b0)) (hx : s.xs = xs.map enc) (hI : I 0 b0) (hok : ∀ i b, I i b → s.Ok (Hh b)) (hl : xs.length ≤ sizeLine)
    (hf : ∀ i c x, I i c → xs[i]? = some x → ∃ σ2, setT t (enc x) (wipeM σ own) = some σ2 ∧ evE C el σ2 (Hh c) = .ok (out c x) (Hh (step c x)) ∧ I (i + 1) (step c x)) :
    evF C (.fc own t el it .nil) σ h = .ok (scanM step out b0 xs) (Hh (xs.foldl step b0)) := by
  rw [evF, hi]
  show compL s.Ok _ s.xs [] (Hh b0) = _
  rw [hx]
  have := compL_scan (Hh := Hh) (step := step) (out := out) (enc := enc) (ok := s.Ok) (I := I) (xs := xs) (i := 0) (b := b0) (acc := []) (f := fun x h2 => match setT t x (wipeM σ own) with
    | some σ1 => (evC C .nil σ1 h2).bind fun t h3 => if t = true then (evE C el σ1 h3).bind fun v h4 => .ok (some v) h4 else .ok none h3
    | none => .bad) hI hok (by simpa using hl) fun j c x hc hm => by
      rw [Nat.zero_add] at hc ⊢
      obtain ⟨σ2, q1, q2, q3⟩ := hf j c x hc hm
      refine ⟨?_, q3⟩
      simp only [q1, evC_nil, bind_ok, if_true, q2]
  rw [List.nil_append] at this
  exact this
theorem compL_filt {α : Type} {h : MHeap} {p : α → Bool} {out : α → MV} {enc : α → MV} {ok : MHeap → Prop} {f : MV → MHeap → Rs (Option MV)} (hok : ok h) : ∀ {xs : List α} {acc : List MV}, acc.length + xs.length ≤ sizeLine →
    (∀ x, x ∈ xs → f (enc x) h = .ok (if p x = true then some (out x) else none) h) → compL ok f (xs.map enc) acc h = .ok (acc ++ (xs.filter p).map out) h
  | [], acc, hl, _ => by
    unfold compL
    simp only [List.map_nil, if_pos hok, List.filter_nil, List.append_nil]
  | x :: xs, acc, hl, hf => by
    rw [List.map_cons]
    unfold compL
    rw [List.length_cons] at hl
    rw [if_pos ⟨hok, by omega⟩]
    have q := hf x (List.mem_cons_self ..)
    by_cases hp : p x = true
    · rw [if_pos hp] at q
      simp only [q]
      rw [compL_filt hok (xs := xs) (acc := acc ++ [out x]) (by rw [List.length_append, List.length_singleton]; omega) fun y hy => hf y (List.mem_cons_of_mem _ hy), List.filter_cons_of_pos hp]
      simp
    · rw [if_neg hp] at q
      simp only [q]
      rw [compL_filt hok (xs := xs) (acc := acc) (by omega) fun y hy => hf y (List.mem_cons_of_mem _ hy), List.filter_cons_of_neg hp]
/-- [e for t in it if c]: nothing is changed -/
theorem evF_filt {α : Type} {C : Ct} {own : List Nat} {t : Tg} {el it cond : ME} {σ : MSt} {h h1 : MHeap} {s : Src} {xs : List α} {enc : α → MV} (p : α → Bool) (out : α → MV)
    (hi : evI C it σ h = .ok s h1) (hx : s.xs = xs.map enc) (hok : s.Ok h1) (hl : xs.length ≤ sizeLine)
    (hf : ∀ x, x ∈ xs → ∃ σ2, setT t (enc x) (wipeM σ own) = some σ2 ∧ evC C cond σ2 h1 = .ok (p x) h1 ∧ (p x = true → evE C el σ2 h1 = .ok (out x) h1)) :
    evF C (.fc own t el it cond) σ h = .ok ((xs.filter p).map out) h1 := by
  rw [evF, hi]
  show compL s.Ok _ s.xs [] h1 = _
  rw [hx]
  have := compL_filt (p := p) (out := out) (enc := enc) hok (xs := xs) (acc := []) (f := fun x h2 => match setT t x (wipeM σ own) with
    | some σ1 => (evC C cond σ1 h2).bind fun t h3 => if t = true then (evE C el σ1 h3).bind fun v h4 => .ok (some v) h4 else .ok none h3
    | none => .bad) (by simpa using hl) fun x hm => by
      obtain ⟨σ2, q1, q2, q3⟩ := hf x hm
      simp only [q1, q2, bind_ok]
      by_cases hp : p x = true
      · rw [if_pos hp, if_pos hp, q3 hp]
        rfl
      · rw [if_neg hp, if_neg hp]
  rw [List.nil_append] at this
  exact this
theorem evF_map {α : Type} {C : Ct} {own : List Nat} {t : Tg} {el it : ME} {σ : MSt} {h h1 : MHeap} {s : Src} {xs : List α} {enc : α → MV} (out : α → MV)
    (hi : evI C it σ h = .ok s h1) (hx : s.xs = xs.map enc) (hok : s.Ok h1) (hl : xs.length ≤ sizeLine)
    (hf : ∀ x, x ∈ xs → ∃ σ2, setT t (enc x) (wipeM σ own) = some σ2 ∧ evE C el σ2 h1 = .ok (out x) h1) :
    evF C (.fc own t el it .nil) σ h = .ok (xs.map out) h1 := by
  rw [evF_filt (fun _ => true) out hi hx hok hl fun x hm => ?_]
  · rw [List.filter_eq_self.mpr fun _ _ => rfl]
  · obtain ⟨σ2, q1, q2⟩ := hf x hm
    exact ⟨σ2, q1, evC_nil, fun _ => q2⟩
theorem scanM_map {α β γ δ : Type} {step : β → α → β} {out : β → α → γ} {f : γ → δ} : ∀ {b : β} {xs : List α}, scanM step (fun b x => f (out b x)) b xs = (scanM step out b xs).map f
  | _, [] => rfl
  | b, x :: xs => by unfold scanM; rw [scanM_map, List.map_cons]
theorem seq_post {r : Out} {k : MSt → MHeap → Out} {Qo : Out → Prop} (P : MSt → MHeap → Prop) (hr : ∃ σ h, r = .next σ h ∧ P σ h) (hk : ∀ σ h, P σ h → Qo (k σ h)) : Qo (r.seq k) := by
  obtain ⟨σ, h, rfl, p⟩ := hr
  exact hk σ h p
@[simp high] theorem hps_2 {g : Rg} {tl : MHeap} {o : MO} : (g.hp tl).set 2 o = g.hp (tl.set 0 o) := rfl
@[simp high] theorem hps_3 {g : Rg} {tl : MHeap} {o : MO} : (g.hp tl).set 3 o = g.hp (tl.set 1 o) := rfl
@[simp high] theorem hps_4 {g : Rg} {tl : MHeap} {o : MO} : (g.hp tl).set 4 o = g.hp (tl.set 2 o) := rfl
@[simp high] theorem hps_5 {g : Rg} {tl : MHeap} {o : MO} : (g.hp tl).set 5 o = g.hp (tl.set 3 o) := rfl
@[simp high] theorem hps_6 {g : Rg} {tl : MHeap} {o : MO} : (g.hp tl).set 6 o = g.hp (tl.set 4 o) := rfl
@[simp high] theorem hps_7 {g : Rg} {tl : MHeap} {o : MO} : (g.hp tl).set 7 o = g.hp (tl.set 5 o) := rfl
@[simp high] theorem hps_8 {g : Rg} {tl : MHeap} {o : MO} : (g.hp tl).set 8 o = g.hp (tl.set 6 o) := rfl
@[simp high] theorem hps_9 {g : Rg} {tl : MHeap} {o : MO} : (g.hp tl).set 9 o = g.hp (tl.set 7 o) := rfl
@[simp high] theorem hps_10 {g : Rg} {tl : MHeap} {o : MO} : (g.hp tl).set 10 o = g.hp (tl.set 8 o) := rfl
@[simp high] theorem hps_11 {g : Rg} {tl : MHeap} {o : MO} : (g.hp tl).set 11 o = g.hp (tl.set 9 o) := rfl
@[simp high] theorem hps_12 {g : Rg} {tl : MHeap} {o : MO} : (g.hp tl).set 12 o = g.hp (tl.set 10 o) := rfl
@[simp high] theorem hps_13 {g : Rg} {tl : MHeap} {o : MO} : (g.hp tl).set 13 o = g.hp (tl.set 11 o) := rfl
/-- the law says true -/
def Yes (r : Out) : Prop := ∃ h, r = .ret (.bl true) h
@[simp] theorem yes {h : MHeap} : Yes (.ret (.bl true) h) := ⟨h, rfl⟩
theorem law_fin {r : Out} (e : Yes r) : ∃ h', finO false [] r = .ok (.bl true) h' := by
  obtain ⟨h, rfl⟩ := e
  exact ⟨_, fin_take ⟨by simp, fun n o hn => absurd hn (by simp)⟩⟩
@[simp] theorem hp_app {g : Rg} {tl r : MHeap} : g.hp tl ++ r = g.hp (tl ++ r) := rfl
@[simp] theorem hp_length {g : Rg} {tl : MHeap} : (g.hp tl).length = tl.length + 2 := rfl
@[simp] theorem hp_set {g : Rg} {tl : MHeap} {n : Nat} {o : MO} : (g.hp tl).set (n + 2) o = g.hp (tl.set n o) := rfl
theorem ok_nil {xs : List MV} {h : MHeap} : Src.Ok ⟨xs, []⟩ h := fun p hp => by cases hp
@[simp] theorem srcOk_nil {xs : List MV} {h : MHeap} : Src.Ok ⟨xs, []⟩ h := ok_nil
@[simp ↓] theorem forL_nil {ok : MHeap → Prop} {f : MV → MSt → MHeap → Out} {σ : MSt} {h : MHeap} (hh : ok h) : forL ok f [] σ h = .next σ h := by
  unfold forL
  rw [if_pos hh]
@[simp ↓] theorem forL_cons {ok : MHeap → Prop} {f : MV → MSt → MHeap → Out} {x : MV} {xs : List MV} {σ : MSt} {h : MHeap} (hh : ok h) : forL ok f (x :: xs) σ h = (match f x σ h with
    | .next σ1 h1 => forL ok f xs σ1 h1
    | .cnt σ1 h1 => forL ok f xs σ1 h1
    | .brk σ1 h1 => .next σ1 h1
    | o => o) := by
  rw [forL, if_pos hh]
  all_goals (cases f x σ h <;> rfl)
@[simp] theorem live_lst {xs ys : List MV} : liveOf (.lst xs) ys = [] := rfl
@[simp] theorem live_scr {xs ys : List MV} : liveOf (.scr xs) ys = [] := rfl
@[simp] theorem live_tup {xs ys : List MV} : liveOf (.tup xs) ys = [] := rfl
@[simp] theorem live_ref {n : Nat} {ys : List MV} : liveOf (.ref n) ys = [(n, ys)] := rfl
@[simp] theorem setT_nm {i : Nat} {v : MV} {σ : MSt} : setT (.nm i) v σ = some (σ.set i (some v)) := rfl
@[simp] theorem setT_tpl {is : List Nat} {xs : List MV} {σ : MSt} : setT (.tp is) (.lst xs) σ = setAll is xs σ := rfl
@[simp] theorem setT_tp {is : List Nat} {xs : List MV} {σ : MSt} : setT (.tp is) (.tup xs) σ = setAll is xs σ := rfl
@[simp] theorem setAll_nil {σ : MSt} : setAll [] [] σ = some σ := rfl
@[simp] theorem setAll_cons {i : Nat} {is : List Nat} {x : MV} {xs : List MV} {σ : MSt} : setAll (i :: is) (x :: xs) σ = setAll is xs (σ.set i (some x)) := rfl
@[simp] theorem isNon_int {i : Int} : isNon (.int i) = false := rfl
@[simp] theorem isNon_non : isNon .non = true := rfl
@[simp] theorem isNon_str {i : Str} : isNon (.str i) = false := rfl
@[simp] theorem isNon_bl {i : Bool} : isNon (.bl i) = false := rfl
theorem rngL_map {lo c : Int} {n : Nat} : rngL lo c n = (List.range n).map fun i : Nat => .int (lo + (i : Int) * c) := rfl

/-! ### calls -/
section
variable {Pm : Pr}
theorem callm_of {f : Str} {d : Fn} {n : Nat} {vs : List MV} {h : MHeap} (hf : Pm.fn f = some d) (hl : vs.length = d.np) : callm Pm (n + 1) f vs h = finO d.raw h (run (ctx Pm n) d.body (vs.map some ++ List.replicate (d.nl - d.np) none) h) := by
  rw [callm_succ, hf]
  exact if_pos hl
@[simp] theorem ctx_cf {n : Nat} {f : Str} {vs : List MV} {h : MHeap} : (ctx Pm n).cf f vs h = callm Pm n f vs h := rfl
@[simp] theorem ctx_con {n : Nat} {x : Str} : (ctx Pm n).con x = Pm.con x := rfl
@[simp] theorem ctx_na {n : Nat} {c x : Str} : (ctx Pm n).na c x = Pm.na c x := rfl
@[simp] theorem ctx_mks {n : Nat} : (ctx Pm (n + 1)).mks = true := rfl
@[simp] theorem ctx_ci {n : Nat} {c : Str} {vs : List MV} {h : MHeap} : (ctx Pm (n + 1)).ci c vs h = (match Pm.init c with
    | some g => callm Pm n g vs h
    | none => .bad) := rfl
@[simp] theorem finO_ret {raw : Bool} {hm h : MHeap} {v : MV} : finO raw hm (.ret v h) = finV raw hm v h := rfl
@[simp] theorem finO_next {raw : Bool} {hm h : MHeap} {σ : MSt} : finO raw hm (.next σ h) = finV raw hm .non h := rfl
theorem draw_eq {n : Nat} {g : Rg} {m : Int} {tl : MHeap} (hd : Pm.fn "_law_draw" = some ⟨2, 5, false, tDraw⟩) (h0 : 0 < m) (h1 : m < 18446744073709551616) : callm Pm (n + 1) "_law_draw" [.ref 1, .int m] (g.hp tl) = .ok (.int (g.v m)) ((g.n m).hp tl) := by
  rw [callm_of hd rfl]
  exact draw_run h0 h1
end

/-! ### the state, form A -/
def tState (m : ME) : MS := .seq (.asg 1 (.int 7))
    (.seq (.for_ (.nm 2) (.iv (.var 0))
    (.seq (.asg 1 (.bin .Mod (.bc .int (.cons (.bin .Add (.bin .Mult (.var 1) (.int 31)) (.var 2)) .nil)) (.int 1000003)))
    .skip))
    (.seq (.ret (.mk true (.fl (.cons (.mk true (.fc [2] (.nm 2) m (.iv (.var 0)) .nil)) (.cons (.bin .Add (.var 1) (.int 1)) .nil)))))
    .skip))
def absI (i : Int) : Int := if i < 0 then -i else i
theorem state_run {C : Ct} {m : ME} {ns : List Int} (hl : ns.length ≤ 63) (hm : ∀ (i : Int) (σ : MSt) (h : MHeap), σ[2]? = some (some (.int i)) → evE C m σ h = .ok (.int (absI i)) h) :
    ∃ g : Rg, run C (tState m) ([.scr (ns.map .int)].map some ++ List.replicate 2 none) [] = .ret (.ref 1) (g.hp []) := by
  have hfor := run_for_of (C := C) (t := .nm 2) (it := .iv (.var 0)) (b := .seq (.asg 1 (.bin .Mod (.bc .int (.cons (.bin .Add (.bin .Mult (.var 1) (.int 31)) (.var 2)) .nil)) (.int 1000003))) .skip)
    (σ := [some (.scr (ns.map .int)), some (.int 7), none]) (h := []) (xs := ns) (enc := MV.int) (b0 := ((7 : Int), (none : Option MV))) (fun b => [some (.scr (ns.map .int)), some (.int b.1), b.2]) (fun _ => []) (fun b x => ((b.1 * 31 + x) % 1000003, some (.int x))) (fun _ => True)
    (s := ⟨ns.map .int, []⟩) (by simp) rfl rfl True.intro (fun _ _ => ok_nil) (fun c x _ _ => ⟨_, rfl, .inl (by simp), True.intro⟩)
  have hcomp : ∀ (σ : MSt) (h : MHeap), σ.length = 3 → σ[0]? = some (some (.scr (ns.map .int))) → evF C (.fc [2] (.nm 2) m (.iv (.var 0)) .nil) σ h = .ok (ns.map fun i => .int (absI i)) h := by
    intro σ h hs h0
    refine evF_map (s := ⟨ns.map .int, []⟩) (h1 := h) (enc := MV.int) _ (by simp [h0]) rfl ok_nil (by rw [sizeLine_eq]; omega) fun i _ => ⟨_, rfl, hm i _ h ?_⟩
    simp [wipeM, hs]
  generalize ns.foldl (fun b x => ((b.1 * 31 + x) % 1000003, some (MV.int x))) ((7 : Int), (none : Option MV)) = b at hfor
  refine ⟨⟨ns.map absI, b.1 + 1⟩, ?_⟩
  unfold tState
  rw [run_seq]
  simp [↓hfor, ↓hcomp, Rg.hp]
theorem state_eq {Pm : Pr} {n : Nat} {m : ME} {ns : List Int} (hd : Pm.fn "_law_state" = some ⟨1, 3, true, tState m⟩) (hl : ns.length ≤ 63) (hm : ∀ (C : Ct) (i : Int) (σ : MSt) (h : MHeap), σ[2]? = some (some (.int i)) → evE C m σ h = .ok (.int (absI i)) h) :
    ∃ g : Rg, callm Pm (n + 1) "_law_state" [.scr (ns.map .int)] [] = .ok (.ref 1) (g.hp []) := by
  obtain ⟨g, e⟩ := state_run (C := ctx Pm n) hl (hm _)
  refine ⟨g, ?_⟩
  rw [callm_of hd rfl]
  show finO true [] (run (ctx Pm n) (tState m) _ []) = _
  have e' : run (ctx Pm n) (tState m) (([.scr (ns.map .int)] : List MV).map some ++ List.replicate (3 - 1) none) [] = .ret (.ref 1) (g.hp []) := e
  rw [e']
  exact fin_raw
theorem abs_1 {C : Ct} (i : Int) (σ : MSt) (h : MHeap) (e : σ[2]? = some (some (.int i))) : evE C (.bc .abs (.cons (.var 2) .nil)) σ h = .ok (.int (absI i)) h := by
  simp [e, absI]
theorem abs_2 {C : Ct} (i : Int) (σ : MSt) (h : MHeap) (e : σ[2]? = some (some (.int i))) : evE C (.bc .abs (.cons (.bc .int (.cons (.var 2) .nil)) .nil)) σ h = .ok (.int (absI i)) h := by
  simp [e, absI]
end Mn
namespace Mn
open PySem PySem.Spec PyProof.Rows L2
/-! ### the drawing of numbers, form B: [script, place, number, seed] -/
structure Rb where
  sc : List Int
  pos : Nat
  cur : Int
  sd : Int
def Rb.st (g : Rb) : MO := .lst [.ref 0, .int (g.pos : Nat), .int g.cur, .int g.sd]
def Rb.hp (g : Rb) (tl : MHeap) : MHeap := .lst (g.sc.map .int) :: g.st :: tl
def Rb.mix (g : Rb) : Int := (g.sd * 48271 + 12345) % 2147483647
def Rb.nx (g : Rb) : Rb := if g.cur = 0 then (match g.sc[g.pos]? with
  | some c => ⟨g.sc, g.pos + 1, absI c, g.sd⟩
  | none => ⟨g.sc, g.pos + 1, g.mix / 64, g.mix⟩) else g
def Rb.v (g : Rb) (m : Int) : Int := g.nx.cur % m
def Rb.n (g : Rb) (m : Int) : Rb := ⟨g.nx.sc, g.nx.pos, g.nx.cur / m, g.nx.sd⟩
theorem Rb.v_lo {g : Rb} {m : Int} (h : 0 < m) : 0 ≤ g.v m := Int.emod_nonneg _ (by omega)
theorem Rb.v_hi {g : Rb} {m : Int} (h : 0 < m) : g.v m < m := Int.emod_lt_of_pos _ h
theorem hb_len {g : Rb} {tl : MHeap} : (g.hp tl).length = tl.length + 2 := rfl
@[simp] theorem hb_length {g : Rb} {tl : MHeap} : (g.hp tl).length = tl.length + 2 := rfl
@[simp high] theorem hb_0 {g : Rb} {tl : MHeap} : (g.hp tl)[0]? = some (.lst (g.sc.map .int)) := rfl
@[simp high] theorem hb_1 {g : Rb} {tl : MHeap} : (g.hp tl)[1]? = some (.lst [.ref 0, .int (g.pos : Nat), .int g.cur, .int g.sd]) := rfl
@[simp high] theorem hb_tl {g : Rb} {tl : MHeap} {n : Nat} : (g.hp tl)[n + 2]? = tl[n]? := rfl
@[simp] theorem hb_app {g : Rb} {tl r : MHeap} : g.hp tl ++ r = g.hp (tl ++ r) := rfl
@[simp] theorem hb_set {g : Rb} {tl : MHeap} {n : Nat} {o : MO} : (g.hp tl).set (n + 2) o = g.hp (tl.set n o) := rfl
theorem clean_hb {g g' : Rb} {tl tl' : MHeap} {v : MV} (hb : below (tl.length + 2) v = true) (ht : ∀ (n : Nat) (o : MO), n < tl.length → tl'[n]? = some o → tl[n]? = some o ∨ belowO (tl.length + 2) o = true) : Clean (g.hp tl) (g'.hp tl') v := by
  refine ⟨hb, fun n o hn q => ?_⟩
  match n with
  | 0 =>
    right
    cases q
    unfold belowO
    exact belows_ints
  | 1 =>
    right
    cases q
    unfold belowO Rb.st
    simp
  | n + 2 => exact ht n o (by rw [hb_length] at hn; omega) q
theorem fin_hb {g g' : Rb} {tl tl' : MHeap} {v : MV} (hb : below (tl.length + 2) v = true) (ht : ∀ (n : Nat) (o : MO), n < tl.length → tl'[n]? = some o → tl[n]? = some o ∨ belowO (tl.length + 2) o = true) : finV false (g.hp tl) v (g'.hp tl') = .ok v (g'.hp (tl'.take tl.length)) := by
  rw [fin_take (clean_hb hb ht)]
  rfl
theorem fin_hb0 {g g' : Rb} {tl : MHeap} {v : MV} (hb : below (tl.length + 2) v = true) : finV false (g.hp tl) v (g'.hp tl) = .ok v (g'.hp tl) := by
  rw [fin_hb hb fun n o _ q => .inl q, List.take_length]
def tDrawB : MS := .seq (.ite (.cmp .Eq (.idx (.var 0) (.int 2)) (.int 0))
    (.seq (.ite (.cmp .Lt (.idx (.var 0) (.int 1)) (.bc .len (.cons (.idx (.var 0) (.int 0)) .nil)))
    (.seq (.seti (.var 0) (.int 2) (.bc .abs (.cons (.idx (.idx (.var 0) (.int 0)) (.idx (.var 0) (.int 1))) .nil)))
    .skip)
    (.seq (.seti (.var 0) (.int 3) (.bin .Mod (.bc .int (.cons (.bin .Add (.bin .Mult (.idx (.var 0) (.int 3)) (.int 48271)) (.int 12345)) .nil)) (.int 2147483647)))
    (.seq (.seti (.var 0) (.int 2) (.bin .FloorDiv (.bc .int (.cons (.idx (.var 0) (.int 3)) .nil)) (.int 64)))
    .skip)))
    (.seq (.seti (.var 0) (.int 1) (.bin .Add (.idx (.var 0) (.int 1)) (.int 1)))
    .skip))
    .skip)
    (.seq (.asg 2 (.bin .Mod (.bc .int (.cons (.idx (.var 0) (.int 2)) .nil)) (.var 1)))
    (.seq (.seti (.var 0) (.int 2) (.bin .FloorDiv (.bc .int (.cons (.idx (.var 0) (.int 2)) .nil)) (.var 1)))
    (.seq (.ret (.var 2))
    .skip)))
@[simp] theorem setIV_ref {n : Nat} {k : Int} {v : MV} {h : MHeap} : setIV (.ref n) (.int k) v h = (match h[n]? with
    | some (.lst xs) => (match ixN xs.length k with
      | some j => some (h.set n (.lst (xs.set j v)))
      | none => none)
    | _ => none) := rfl
theorem drawB_run {C : Ct} {g : Rb} {m : Int} {tl : MHeap} (h0 : 0 < m) (h1 : m < 18446744073709551616) : run C tDrawB [some (.ref 1), some (.int m), none] (g.hp tl) = .ret (.int (g.v m)) ((g.n m).hp tl) := by
  unfold tDrawB Rb.v Rb.n Rb.nx
  by_cases hc : g.cur = 0
  · by_cases hp : g.pos < g.sc.length
    · have e : g.sc[g.pos]? = some (g.sc[g.pos]) := List.getElem?_eq_getElem hp
      rw [if_pos hc]
      simp [Rb.hp, Rb.st, hc, hp, e, h0, h1, atI_cast, absI]
    · have e : g.sc[g.pos]? = none := List.getElem?_eq_none (by omega)
      rw [if_pos hc]
      simp [Rb.hp, Rb.st, hc, hp, e, h0, h1, Rb.mix]
  · rw [if_neg hc]
    simp [Rb.hp, Rb.st, hc, h0, h1]
theorem drawB_eq {Pm : Pr} {n : Nat} {g : Rb} {m : Int} {tl : MHeap} (hd : Pm.fn "_law_draw" = some ⟨2, 3, false, tDrawB⟩) (h0 : 0 < m) (h1 : m < 18446744073709551616) : callm Pm (n + 1) "_law_draw" [.ref 1, .int m] (g.hp tl) = .ok (.int (g.v m)) ((g.n m).hp tl) := by
  rw [callm_of hd rfl]
  show finO false _ (run (ctx Pm n) tDrawB [some (.ref 1), some (.int m), none] (g.hp tl)) = _
  rw [drawB_run h0 h1]
  exact fin_hb0 (by simp)
def tStartB : MS := .seq (.asg 1 (.int 7))
    (.seq (.for_ (.nm 2) (.iv (.var 0))
    (.seq (.asg 1 (.bin .Mod (.bc .int (.cons (.bin .Add (.bin .Mult (.var 1) (.int 31)) (.var 2)) .nil)) (.int 1000003)))
    .skip))
    (.seq (.ret (.mk true (.fl (.cons (.mk true (.fli (.var 0))) (.cons (.int 0) (.cons (.int 0) (.cons (.bin .Add (.var 1) (.int 1)) .nil)))))))
    .skip))
theorem startB_eq {Pm : Pr} {n : Nat} {ns : List Int} (hd : Pm.fn "_law_start" = some ⟨1, 3, true, tStartB⟩) : ∃ g : Rb, callm Pm (n + 1) "_law_start" [.scr (ns.map .int)] [] = .ok (.ref 1) (g.hp []) := by
  suffices h : ∃ sd : Int, run (ctx Pm n) tStartB [some (.scr (ns.map .int)), none, none] [] = .ret (.ref 1) ((⟨ns, 0, 0, sd⟩ : Rb).hp []) by
    obtain ⟨sd, e⟩ := h
    refine ⟨⟨ns, 0, 0, sd⟩, ?_⟩
    rw [callm_of hd rfl]
    show finO true _ (run (ctx Pm n) tStartB [some (.scr (ns.map .int)), none, none] []) = _
    rw [e]
    exact fin_raw
  unfold tStartB
  refine ⟨ns.foldl (fun s x => (s * 31 + x) % 1000003) 7 + 1, ?_⟩
  simp [-run_for_]
  refine for_seq (enc := MV.int) (xs := ns) (s := ⟨ns.map .int, []⟩) (b0 := (7 : Int)) (fun (s : Int) (z : Option MV) => [some (.scr (ns.map .int)), some (.int s), z]) (fun _ => []) (fun s x => (s * 31 + x) % 1000003) (fun _ _ => True) none (by simp) rfl rfl True.intro (fun _ _ _ => ok_nil) (fun i s z x _ _ => ⟨_, rfl, ⟨some (.int x), .inl (by simp)⟩, True.intro⟩) (fun z _ => ?_)
  simp [Rb.hp, Rb.st]
end Mn
namespace Mn
open PySem PySem.Spec PyProof.Rows L2
@[simp] theorem ofs_eq {a b : String} : (Str.ofString a = Str.ofString b) = (a = b) := propext ofs_inj
@[simp] theorem ofs_beq {a b : String} : (Str.ofString a == Str.ofString b) = decide (a = b) := by
  by_cases e : a = b
  · subst e
    simp
  · have : Str.ofString a ≠ Str.ofString b := fun z => e (ofs_inj.mp z)
    simp [e]
@[simp] theorem lk_cons {α : Type} {a b : String} {v : α} {r : List (Str × α)} : List.lookup (Str.ofString a) ((Str.ofString b, v) :: r) = if a = b then some v else List.lookup (Str.ofString a) r := by
  rw [List.lookup_cons, ofs_beq]
  by_cases e : a = b <;> simp [e]
@[simp] theorem putM_nil {f : Str} {v : MV} : putM f v [] = [(f, v)] := rfl
@[simp] theorem putM_cons {f g : String} {v x : MV} {r : List (Str × MV)} : putM (Str.ofString f) v ((Str.ofString g, x) :: r) = if g = f then (Str.ofString g, v) :: r else (Str.ofString g, x) :: putM (Str.ofString f) v r := by
  rw [putM]
  by_cases e : g = f <;> simp [e]
@[simp] theorem setFV_ref {na : Str → Str → Bool} {n : Nat} {f : Str} {v : MV} {h : MHeap} : setFV na (.ref n) f v h = (match h[n]? with
    | some (.ins c fs) => if na c f = true ∧ fs.length < 1000 then some (h.set n (.ins c (putM f v fs))) else none
    | _ => none) := rfl
theorem isL_ref {h : MHeap} {n : Nat} {xs : List MV} (e : h[n]? = some (.lst xs)) : bfV .isList [.ref n] h = .ok (.bl true) h := by
  have t : tyIs .isList h (.ref n) = some true := by
    unfold tyIs
    simp only [e]
    rfl
  show (match tyIs .isList h (.ref n) with
    | some b => Rs.ok (MV.bl b) h
    | none => Rs.bad) = _
  rw [t]
@[simp ↓] theorem compL_nil {ok : MHeap → Prop} {f : MV → MHeap → Rs (Option MV)} {acc : List MV} {h : MHeap} (hh : ok h) : compL ok f [] acc h = .ok acc h := by
  unfold compL
  rw [if_pos hh]
@[simp ↓] theorem compL_cons {ok : MHeap → Prop} {f : MV → MHeap → Rs (Option MV)} {x : MV} {xs acc : List MV} {h : MHeap} (hh : ok h) (hl : acc.length < 16777216) : compL ok f (x :: xs) acc h = (match f x h with
    | .ok (some v) h1 => compL ok f xs (acc ++ [v]) h1
    | .ok none h1 => compL ok f xs acc h1
    | _ => .bad) := by
  rw [compL, if_pos ⟨hh, by rw [sizeLine_eq]; exact hl⟩]
  all_goals (cases f x h <;> first | rfl | (rename_i a h1; cases a <;> rfl))
theorem ite_true_of {C : Ct} {c : ME} {a b : MS} {σ : MSt} {h h1 : MHeap} (e : evT C c σ h = .ok true h1) : run C (.ite c a b) σ h = run C a σ h1 := by
  rw [run, e]
  rfl
theorem ite_false_of {C : Ct} {c : ME} {a b : MS} {σ : MSt} {h h1 : MHeap} (e : evT C c σ h = .ok false h1) : run C (.ite c a b) σ h = run C b σ h1 := by
  rw [run, e]
  rfl
theorem asg_of {C : Ct} {i : Nat} {e : ME} {b : MS} {σ : MSt} {h h1 : MHeap} {v : MV} (q : evE C e σ h = .ok v h1) : run C (.seq (.asg i e) b) σ h = run C b (σ.set i (some v)) h1 := by
  rw [run, run, q]
  rfl
theorem skip_of {C : Ct} {a : MS} {σ : MSt} {h : MHeap} : run C (.seq a .skip) σ h = run C a σ h := by
  rw [run]
  cases run C a σ h <;> (simp [Out.seq]; try rfl)
theorem maxI_mem {F : List Int} (h : F ≠ []) : maxI F ∈ F := by
  have go : ∀ (F : List Int) (a : Int), F.foldl max a = a ∨ F.foldl max a ∈ F := by
    intro F
    induction F with
    | nil => exact fun a => .inl rfl
    | cons y ys ih =>
      intro a
      rw [List.foldl_cons]
      rcases ih (max a y) with e | e
      · rw [e]
        by_cases hh : a ≤ y
        · right; rw [show max a y = y by omega]; exact List.mem_cons_self ..
        · left; omega
      · right; exact List.mem_cons_of_mem _ e
  cases F with
  | nil => exact absurd rfl h
  | cons x xs =>
    show xs.foldl max x ∈ x :: xs
    rcases go xs x with e | e
    · rw [e]; exact List.mem_cons_self ..
    · exact List.mem_cons_of_mem _ e
theorem bf_maxL_ints {F : List Int} {h : MHeap} (hF : F ≠ []) : bfV .maxL [.lst (F.map .int)] h = .ok (.int (maxI F)) h := by
  have e : 0 < F.length := by cases F with
    | nil => exact absurd rfl hF
    | cons x xs => simp
  unfold bfV
  simp [e]
/-! ### rules with invariants -/
/-- how one turn of a loop goes on: I behind it, K where the loop is left, Qo where the def is left -/
def LTurn (I : MSt → MHeap → Prop) (K : MSt → MHeap → Prop) (Qo : Out → Prop) (r : Out) : Prop :=
  match r with
  | .next σ h => I σ h
  | .cnt σ h => I σ h
  | .brk σ h => K σ h
  | .ret v h => Qo (.ret v h)
  | .exc c v h => Qo (.exc c v h)
  | .bad => False
theorem for_inv {α : Type} {C : Ct} {t : Tg} {it : ME} {b : MS} {σ : MSt} {h h1 : MHeap} {s : Src} {k : MSt → MHeap → Out} (xs : List α) (enc : α → MV) (Qo : Out → Prop) (I : Nat → MSt → MHeap → Prop)
    (hi : evI C it σ h = .ok s h1) (hx : s.xs = xs.map enc) (hI : I 0 σ h1) (hok : ∀ i σ h, I i σ h → s.Ok h)
    (hf : ∀ i x σ h, I i σ h → xs[i]? = some x → ∃ σ2, setT t (enc x) σ = some σ2 ∧ LTurn (I (i + 1)) (fun σ h => Qo (k σ h)) Qo (run C b σ2 h))
    (hk : ∀ σ h, I xs.length σ h → Qo (k σ h)) : Qo ((run C (.for_ t it b) σ h).seq k) := by
  suffices hh : ∀ (ys : List α) (i : Nat) (σ : MSt) (h : MHeap), I i σ h → xs.drop i = ys → i + ys.length = xs.length → Qo ((forL s.Ok (fun x σ1 h2 => match setT t x σ1 with
      | some σ2 => run C b σ2 h2
      | none => .bad) (ys.map enc) σ h).seq k) by
    rw [run, hi]
    show Qo ((forL s.Ok _ s.xs σ h1).seq k)
    rw [hx]
    exact hh xs 0 σ h1 hI rfl (by omega)
  intro ys
  induction ys with
  | nil =>
    intro i σ h hc hd hl
    unfold forL
    rw [List.map_nil]
    simp only [if_pos (hok i σ h hc)]
    show Qo (k σ h)
    have e : i = xs.length := by simpa using hl
    subst e
    exact hk σ h hc
  | cons y ys ih =>
    intro i σ h hc hy hl
    have hy0 : xs[i]? = some y := by
      have := congrArg (fun l => l[0]?) hy
      simpa using this
    have hy1 : xs.drop (i + 1) = ys := by rw [← List.drop_drop, hy]; rfl
    obtain ⟨σ2, q1, q2⟩ := hf i y σ h hc hy0
    rw [List.map_cons]
    unfold forL
    rw [if_pos (hok i σ h hc)]
    simp only [q1]
    cases r : run C b σ2 h with
    | next σ3 h3 => rw [r] at q2; exact ih (i + 1) σ3 h3 q2 hy1 (by rw [List.length_cons] at hl; omega)
    | cnt σ3 h3 => rw [r] at q2; exact ih (i + 1) σ3 h3 q2 hy1 (by rw [List.length_cons] at hl; omega)
    | brk σ3 h3 => rw [r] at q2; exact q2
    | ret v h3 => rw [r] at q2; exact q2
    | exc c v h3 => rw [r] at q2; exact q2
    | bad => rw [r] at q2; exact q2.elim
/-- while: I n, n goes down at each turn -/
theorem whl_inv {C : Ct} {c : ME} {b : MS} {σ : MSt} {h : MHeap} {k : MSt → MHeap → Out} (Qo : Out → Prop) (hbad : ¬ Qo .bad) (I : Nat → MSt → MHeap → Prop) (n0 : Nat) (hI : I n0 σ h)
    (hf : ∀ n σ h, I n σ h → ∃ t h1, evT C c σ h = .ok t h1 ∧ if t = true then LTurn (fun σ h => ∃ m, m < n ∧ I m σ h) (fun σ h => Qo (k σ h)) Qo (run C b σ h1) else Qo (k σ h1)) :
    Qo ((whl (evT C c) (run C b) σ h).seq k) := by
  suffices hh : ∀ (n : Nat) (σ : MSt) (h : MHeap), I n σ h → ∃ o, (∃ j, whlL (evT C c) (run C b) j σ h = o) ∧ o ≠ .bad ∧ Qo (o.seq k) by
    obtain ⟨o, ⟨j, e⟩, ho, hq⟩ := hh n0 σ h hI
    rw [whl_of j e ho]
    exact hq
  intro n
  induction n using Nat.strongRecOn with
  | _ n ih =>
    intro σ h hn
    obtain ⟨t, h1, e, q⟩ := hf n σ h hn
    cases t with
    | false =>
      rw [if_neg Bool.false_ne_true] at q
      refine ⟨.next σ h1, ⟨1, ?_⟩, by simp, q⟩
      unfold whlL
      rw [e]
      simp
    | true =>
      rw [if_pos rfl] at q
      cases r : run C b σ h1 with
      | next σ3 h3 =>
        rw [r] at q
        obtain ⟨m, hm, hI'⟩ := q
        obtain ⟨o, ⟨j, e'⟩, ho, hq⟩ := ih m hm σ3 h3 hI'
        refine ⟨o, ⟨j + 1, ?_⟩, ho, hq⟩
        unfold whlL
        rw [e]
        simp [r, e']
      | cnt σ3 h3 =>
        rw [r] at q
        obtain ⟨m, hm, hI'⟩ := q
        obtain ⟨o, ⟨j, e'⟩, ho, hq⟩ := ih m hm σ3 h3 hI'
        refine ⟨o, ⟨j + 1, ?_⟩, ho, hq⟩
        unfold whlL
        rw [e]
        simp [r, e']
      | brk σ3 h3 =>
        rw [r] at q
        refine ⟨.next σ3 h3, ⟨1, ?_⟩, by simp, q⟩
        unfold whlL
        rw [e]
        simp [r]
      | ret v h3 =>
        rw [r] at q
        refine ⟨.ret v h3, ⟨1, ?_⟩, by simp, q⟩
        unfold whlL
        rw [e]
        simp [r]
      | exc c v h3 =>
        rw [r] at q
        refine ⟨.exc c v h3, ⟨1, ?_⟩, by simp, q⟩
        unfold whlL
        rw [e]
        simp [r]
      | bad => rw [r] at q; exact q.elim
/-- a comprehension over an invariant: what was put out so far, the heap -/
theorem evF_inv {α : Type} {C : Ct} {own : List Nat} {t : Tg} {el it cond : ME} {σ : MSt} {h h1 : MHeap} {s : Src} (xs : List α) (enc : α → MV) (I : Nat → List MV → MHeap → Prop)
    (hi : evI C it σ h = .ok s h1) (hx : s.xs = xs.map enc) (hI : I 0 [] h1) (hok : ∀ i vs h, I i vs h → s.Ok h) (hl : xs.length ≤ sizeLine)
    (hf : ∀ i x vs h, I i vs h → xs[i]? = some x → ∃ σ2 b h2, setT t (enc x) (wipeM σ own) = some σ2 ∧ evC C cond σ2 h = .ok b h2 ∧ if b = true then ∃ v h3, evE C el σ2 h2 = .ok v h3 ∧ I (i + 1) (vs ++ [v]) h3 else I (i + 1) vs h2) :
    ∃ vs h', evF C (.fc own t el it cond) σ h = .ok vs h' ∧ I xs.length vs h' := by
  suffices hh : ∀ (ys : List α) (i : Nat) (vs : List MV) (h : MHeap), I i vs h → xs.drop i = ys → i + ys.length = xs.length → vs.length ≤ i → ∃ vs' h', compL s.Ok (fun x h2 => match setT t x (wipeM σ own) with
      | some σ1 => (evC C cond σ1 h2).bind fun t h3 => if t = true then (evE C el σ1 h3).bind fun v h4 => .ok (some v) h4 else .ok none h3
      | none => .bad) (ys.map enc) vs h = .ok vs' h' ∧ I xs.length vs' h' by
    obtain ⟨vs', h', e, q⟩ := hh xs 0 [] h1 hI rfl (by omega) (by simp)
    refine ⟨vs', h', ?_, q⟩
    rw [evF, hi]
    show compL s.Ok _ s.xs [] h1 = _
    rw [hx]
    exact e
  intro ys
  induction ys with
  | nil =>
    intro i vs h hc _ hl2 _
    have e : i = xs.length := by simpa using hl2
    subst e
    refine ⟨vs, h, ?_, hc⟩
    unfold compL
    simp only [List.map_nil, if_pos (hok _ _ _ hc)]
  | cons y ys ih =>
    intro i vs h hc hy hl2 hv
    have hy0 : xs[i]? = some y := by
      have := congrArg (fun l => l[0]?) hy
      simpa using this
    have hy1 : xs.drop (i + 1) = ys := by rw [← List.drop_drop, hy]; rfl
    rw [List.length_cons] at hl2
    obtain ⟨σ2, b, h2, q1, q2, q3⟩ := hf i y vs h hc hy0
    rw [List.map_cons]
    unfold compL
    rw [if_pos ⟨hok _ _ _ hc, by omega⟩]
    simp only [q1, q2, bind_ok]
    cases b with
    | true =>
      rw [if_pos rfl] at q3
      obtain ⟨v, h3, e3, q4⟩ := q3
      obtain ⟨vs', h', e, q⟩ := ih (i + 1) (vs ++ [v]) h3 q4 hy1 (by omega) (by simp; omega)
      refine ⟨vs', h', ?_, q⟩
      simp only [if_true, e3, bind_ok]
      exact e
    | false =>
      rw [if_neg Bool.false_ne_true] at q3
      obtain ⟨vs', h', e, q⟩ := ih (i + 1) vs h2 q3 hy1 (by omega) (by omega)
      refine ⟨vs', h', ?_, q⟩
      simp only [Bool.false_eq_true, if_false]
      exact e
/-- the part ahead of the rest -/
def Part (P : MSt → MHeap → Prop) (Qo : Out → Prop) (r : Out) : Prop :=
  match r with
  | .next σ h => P σ h
  | o => Qo o
theorem seq_part {r : Out} {k : MSt → MHeap → Out} (Qo : Out → Prop) (P : MSt → MHeap → Prop) (hr : Part P Qo r) (hk : ∀ σ h, P σ h → Qo (k σ h)) : Qo (r.seq k) := by
  cases r with
  | next σ h => exact hk σ h hr
  | _ => exact hr
end Mn
namespace Mn
open PySem PySem.Spec PyProof.Rows L2
/-! ### values without places: equality -/
/-- no place in it, nested to a depth below n -/
def pu : Nat → MV → Bool
  | _, .non => true
  | _, .bl _ => true
  | _, .int _ => true
  | _, .str s => PyData.strOk s
  | n + 1, .tup xs => xs.all (pu n)
  | n + 1, .lst xs => xs.all (pu n)
  | n + 1, .scr xs => xs.all (pu n)
  | _, _ => false
abbrev dv (v : MV) : Option PyData := datG (fun _ => none) v
abbrev dvs (v : List MV) : Option (List PyData) := datGs (fun _ => none) v
def eqD (a b : MV) : Bool := match dv a, dv b with
  | some d, some e => PyData.eqv d e
  | _, _ => false
def eqDs (a b : List MV) : Bool := match dvs a, dvs b with
  | some d, some e => PyData.eqvAll d e
  | _, _ => false
@[simp] theorem dv_non : dv .non = some .none := rfl
@[simp] theorem dv_bl {b : Bool} : dv (.bl b) = some (.bool b) := rfl
@[simp] theorem dv_int {b : Int} : dv (.int b) = some (.int b) := rfl
@[simp] theorem dv_str {b : Str} : dv (.str b) = some (.str b) := rfl
@[simp] theorem dv_tup {xs : List MV} : dv (.tup xs) = (dvs xs).map .tuple := rfl
@[simp] theorem dv_lst {xs : List MV} : dv (.lst xs) = (dvs xs).map .list := rfl
@[simp] theorem dv_scr {xs : List MV} : dv (.scr xs) = (dvs xs).map .list := rfl
theorem dvs_cons {x : MV} {xs : List MV} : dvs (x :: xs) = (match dv x, dvs xs with
    | some d, some ds => some (d :: ds)
    | _, _ => none) := rfl
@[simp] theorem eqDs_nn : eqDs [] [] = true := rfl
@[simp] theorem eqDs_nc {y : MV} {ys : List MV} : eqDs [] (y :: ys) = false := by
  unfold eqDs
  rw [dvs_cons]
  cases dv y <;> cases dvs ys <;> rfl
@[simp] theorem eqDs_cn {y : MV} {ys : List MV} : eqDs (y :: ys) [] = false := by
  unfold eqDs
  rw [dvs_cons]
  cases dv y <;> cases dvs ys <;> rfl
@[simp] theorem eqDs_cc {x y : MV} {xs ys : List MV} : eqDs (x :: xs) (y :: ys) = (eqD x y && eqDs xs ys) := by
  unfold eqDs eqD
  rw [dvs_cons, dvs_cons]
  cases dv x <;> cases dvs xs <;> cases dv y <;> cases dvs ys <;> simp [PyData.eqvAll]
@[simp] theorem eqD_tt {xs ys : List MV} : eqD (.tup xs) (.tup ys) = eqDs xs ys := by
  unfold eqDs eqD
  rw [dv_tup, dv_tup]
  cases dvs xs <;> cases dvs ys <;> simp [PyData.eqv]
@[simp] theorem eqD_ll {xs ys : List MV} : eqD (.lst xs) (.lst ys) = eqDs xs ys := by
  unfold eqDs eqD
  rw [dv_lst, dv_lst]
  cases dvs xs <;> cases dvs ys <;> simp [PyData.eqv]
@[simp] theorem eqD_ii {a b : Int} : eqD (.int a) (.int b) = (a == b) := by simp [eqD, PyData.eqv]
@[simp] theorem eqD_ss {a b : Str} : eqD (.str a) (.str b) = (a == b) := by simp [eqD, PyData.eqv]
@[simp] theorem eqD_bb {a b : Bool} : eqD (.bl a) (.bl b) = (a == b) := by simp [eqD, PyData.eqv]
@[simp] theorem eqD_nn : eqD .non .non = true := by simp [eqD, PyData.eqv]
@[simp] theorem eqD_tn {xs : List MV} : eqD (.tup xs) .non = false := by
  unfold eqD
  rw [dv_tup]
  cases dvs xs <;> simp [PyData.eqv]
@[simp] theorem eqD_nt {xs : List MV} : eqD .non (.tup xs) = false := by
  unfold eqD
  rw [dv_tup]
  cases dvs xs <;> simp [PyData.eqv]
@[simp] theorem eqD_ln {xs : List MV} : eqD (.lst xs) .non = false := by
  unfold eqD
  rw [dv_lst]
  cases dvs xs <;> simp [PyData.eqv]
@[simp] theorem eqD_nl {xs : List MV} : eqD .non (.lst xs) = false := by
  unfold eqD
  rw [dv_lst]
  cases dvs xs <;> simp [PyData.eqv]
@[simp] theorem eqD_in {i : Int} : eqD (.int i) .non = false := by simp [eqD, PyData.eqv]
@[simp] theorem eqD_ni {i : Int} : eqD .non (.int i) = false := by simp [eqD, PyData.eqv]
@[simp] theorem eqD_li {xs : List MV} {i : Int} : eqD (.lst xs) (.int i) = false := by
  unfold eqD
  rw [dv_lst]
  cases dvs xs <;> simp [PyData.eqv]
theorem depthAll_le {n : Nat} : ∀ {ds : List PyData}, (∀ d ∈ ds, d.depth ≤ n) → PyData.depthAll ds ≤ n
  | [], _ => Nat.zero_le _
  | d :: ds, h => by
    unfold PyData.depthAll
    exact Nat.max_le.mpr ⟨h d List.mem_cons_self, depthAll_le fun e he => h e (List.mem_cons_of_mem _ he)⟩
def rdH (h : MHeap) : Nat → Nat → Option (List PyData)
  | 0 => fun _ => none
  | k + 1 => fun n => match h[n]? with
    | some (.lst xs) => datL (datF h k) xs
    | _ => none
theorem datF_eq {h : MHeap} {k : Nat} {v : MV} : datF h k v = datG (rdH h k) v := by cases k <;> rfl
theorem pu_data {h : MHeap} : ∀ {n : Nat} {v : MV}, pu n v = true → ∃ d, dv v = some d ∧ (∀ k, datF h k v = some d) ∧ d.canLay0 = true ∧ d.depth ≤ n := by
  have leaf : ∀ {v : MV} {d : PyData} {n : Nat}, dv v = some d → (∀ k, datF h k v = some d) → d.canLay0 = true → d.depth = 0 → ∃ d, dv v = some d ∧ (∀ k, datF h k v = some d) ∧ d.canLay0 = true ∧ d.depth ≤ n := fun a b c e => ⟨_, a, b, c, by omega⟩
  have row : ∀ {n : Nat}, (∀ {v : MV}, pu n v = true → ∃ d, dv v = some d ∧ (∀ k, datF h k v = some d) ∧ d.canLay0 = true ∧ d.depth ≤ n) → ∀ {xs : List MV}, xs.all (pu n) = true → ∃ ds, dvs xs = some ds ∧ (∀ k, datGs (rdH h k) xs = some ds) ∧ PyData.canLayAll0 ds = true ∧ ∀ d ∈ ds, d.depth ≤ n := by
    intro n ih xs
    induction xs with
    | nil => exact fun _ => ⟨[], rfl, fun _ => rfl, rfl, fun d hd => absurd hd (by simp)⟩
    | cons x xs ihx =>
      intro hx
      rw [List.all_cons, Bool.and_eq_true] at hx
      obtain ⟨d, a1, a2, a3, a4⟩ := ih hx.1
      obtain ⟨ds, b1, b2, b3, b4⟩ := ihx hx.2
      refine ⟨d :: ds, ?_, fun k => ?_, ?_, ?_⟩
      · rw [dvs_cons, a1, b1]
      · have z := b2 k
        have y := a2 k
        rw [datF_eq] at y
        unfold datGs
        rw [y, z]
      · unfold PyData.canLayAll0
        rw [a3, b3]
        rfl
      · intro e he
        rcases List.mem_cons.mp he with rfl | he
        · exact a4
        · exact b4 e he
  intro n
  induction n with
  | zero =>
    intro v hv
    cases v with
    | non => exact leaf rfl (fun k => by cases k <;> rfl) rfl rfl
    | bl b => exact leaf rfl (fun k => by cases k <;> rfl) rfl rfl
    | int b => exact leaf rfl (fun k => by cases k <;> rfl) rfl rfl
    | str b => exact leaf rfl (fun k => by cases k <;> rfl) (by unfold pu at hv; exact hv) rfl
    | _ => unfold pu at hv; cases hv
  | succ n ih =>
    intro v hv
    cases v with
    | non => exact leaf rfl (fun k => by cases k <;> rfl) rfl rfl
    | bl b => exact leaf rfl (fun k => by cases k <;> rfl) rfl rfl
    | int b => exact leaf rfl (fun k => by cases k <;> rfl) rfl rfl
    | str b => exact leaf rfl (fun k => by cases k <;> rfl) (by unfold pu at hv; exact hv) rfl
    | tup xs =>
      unfold pu at hv
      obtain ⟨ds, b1, b2, b3, b4⟩ := row ih hv
      refine ⟨.tuple ds, by rw [dv_tup, b1]; rfl, fun k => ?_, by unfold PyData.canLay0; exact b3, ?_⟩
      · have z := b2 k
        rw [datF_eq]
        unfold datG
        rw [z]
        rfl
      · unfold PyData.depth
        exact Nat.succ_le_succ (depthAll_le b4)
    | lst xs =>
      unfold pu at hv
      obtain ⟨ds, b1, b2, b3, b4⟩ := row ih hv
      refine ⟨.list ds, by rw [dv_lst, b1]; rfl, fun k => ?_, by unfold PyData.canLay0; exact b3, ?_⟩
      · have z := b2 k
        rw [datF_eq]
        unfold datG
        rw [z]
        rfl
      · unfold PyData.depth
        exact Nat.succ_le_succ (depthAll_le b4)
    | scr xs =>
      unfold pu at hv
      obtain ⟨ds, b1, b2, b3, b4⟩ := row ih hv
      refine ⟨.list ds, by rw [dv_scr, b1]; rfl, fun k => ?_, by unfold PyData.canLay0; exact b3, ?_⟩
      · have z := b2 k
        rw [datF_eq]
        unfold datG
        rw [z]
        rfl
      · unfold PyData.depth
        exact Nat.succ_le_succ (depthAll_le b4)
    | _ => unfold pu at hv; cases hv
theorem eq_pu {h : MHeap} {v w : MV} (n : Nat) (hn : n ≤ 64) (hv : pu n v = true) (hw : pu n w = true) : eqR v w h = some (eqD v w) := by
  obtain ⟨d, a1, a2, a3, a4⟩ := pu_data (h := h) hv
  obtain ⟨e, b1, b2, b3, b4⟩ := pu_data (h := h) hw
  rw [eq_sh (a2 8) (b2 8) (by unfold SeqAt.shaped; rw [a3, decide_eq_true (by omega : d.depth ≤ 64)]; rfl) (by unfold SeqAt.shaped; rw [b3, decide_eq_true (by omega : e.depth ≤ 64)]; rfl)]
  unfold eqD
  rw [a1, b1]
theorem eqD_refl {v : MV} {n : Nat} (hv : pu n v = true) : eqD v v = true := by
  obtain ⟨d, a1, a2, a3, a4⟩ := pu_data (h := []) hv
  unfold eqD
  rw [a1]
  exact SeqAt.eqv_refl d a3
@[simp] theorem pu_int {n : Nat} {i : Int} : pu n (.int i) = true := by cases n <;> rfl
@[simp] theorem pu_bl {n : Nat} {i : Bool} : pu n (.bl i) = true := by cases n <;> rfl
@[simp] theorem pu_non {n : Nat} : pu n .non = true := by cases n <;> rfl
@[simp] theorem pu_lit {n : Nat} {s : String} : pu n (.str (Str.ofString s)) = true := by cases n <;> exact ofs_ok
@[simp] theorem pu_tup {n : Nat} {xs : List MV} : pu (n + 1) (.tup xs) = xs.all (pu n) := by rw [pu]
@[simp] theorem pu_lst {n : Nat} {xs : List MV} : pu (n + 1) (.lst xs) = xs.all (pu n) := by rw [pu]
theorem all_ints {n : Nat} {ns : List Int} : (ns.map MV.int).all (pu n) = true := by
  rw [List.all_eq_true]
  intro x hx
  obtain ⟨i, _, rfl⟩ := List.mem_map.mp hx
  exact pu_int
theorem eqDs_ints : ∀ {a b : List Int}, eqDs (a.map .int) (b.map .int) = decide (a = b)
  | [], [] => rfl
  | [], b :: bs => by rw [List.map_cons, List.map_nil, eqDs_nc]; simp
  | a :: as, [] => by rw [List.map_cons, List.map_nil, eqDs_cn]; simp
  | a :: as, b :: bs => by
    rw [List.map_cons, List.map_cons, eqDs_cc, eqDs_ints, eqD_ii]
    by_cases h : a = b <;> by_cases g : as = bs <;> simp [h, g]
/-- two lists of ints -/
theorem eq_ints {h : MHeap} {a b : List Int} : eqR (.lst (a.map .int)) (.lst (b.map .int)) h = some (decide (a = b)) := by
  rw [eq_pu 1 (by decide) (by rw [pu_lst]; exact all_ints) (by rw [pu_lst]; exact all_ints), eqD_ll, eqDs_ints]
/-! bounds of places (the kernel must not meet them as numerals of succ) -/
@[simp high] theorem lo62 {m : Nat} : (-4611686018427387904 ≤ (m : Int)) = True := eq_true (by omega)
@[simp high] theorem lo63 {m : Nat} : (-9223372036854775808 ≤ (m : Int)) = True := eq_true (by omega)
@[simp high] theorem lo64 {m : Nat} : (-18446744073709551616 < (m : Int)) = True := eq_true (by omega)
theorem evI_r1 {C : Ct} {a : ME} {σ : MSt} {h h1 : MHeap} {m : Nat} (e : evE C a σ h = .ok (.int (m : Int)) h1) (hm : (m : Int) < 4611686018427387904) : evI C (.ir1 a) σ h = .ok ⟨rngL 0 1 m, []⟩ h1 := by
  have c : bdR (m : Int) := bdR_of (by omega) hm
  rw [evI_ir1, e]
  simp only [bind_ok, if_pos c, Int.toNat_natCast]
theorem rng0 {m : Nat} : rngL 0 1 m = (List.range m).map fun i : Nat => .int (i : Int) := by
  unfold rngL
  apply List.map_congr_left
  intro i _
  simp
/-! ### freezing what holds no place -/
theorem frzL_id {f : MHeap → MV → Option (MV × MHeap)} : ∀ {xs : List MV} {h : MHeap}, (∀ x ∈ xs, ∀ h, f h x = some (x, h)) → frzL f h xs = some (xs, h)
  | [], _, _ => rfl
  | x :: xs, h, p => by
    unfold frzL
    rw [p x List.mem_cons_self]
    simp only
    rw [frzL_id fun y hy => p y (List.mem_cons_of_mem _ hy)]
theorem frz_pu : ∀ {n k : Nat} {v : MV} {h : MHeap}, pu n v = true → n < k → frzV k h v = some (v, h)
  | n, 0, _, _, _, hk => absurd hk (Nat.not_lt_zero _)
  | 0, k + 1, v, h, p, _ => by
    unfold frzV
    cases v <;> first | rfl | (unfold pu at p; cases p)
  | n + 1, k + 1, v, h, p, hk => by
    unfold frzV
    cases v <;> first | rfl | (unfold pu at p; cases p; done) | skip
    · rename_i xs
      rw [pu_tup, List.all_eq_true] at p
      dsimp only
      rw [frzL_id fun x hx h => frz_pu (p x hx) (by omega)]
    · rename_i xs
      rw [pu_lst, List.all_eq_true] at p
      dsimp only
      rw [frzL_id fun x hx h => frz_pu (p x hx) (by omega)]
theorem frz_ref {n m : Nat} {h : MHeap} {xs : List MV} (e : h[n]? = some (.lst xs)) (p : xs.all (pu m) = true) (hm : m < 39) : frzV 40 h (.ref n) = some (.lst xs, h.set n .dead) := by
  unfold frzV
  dsimp only
  rw [e]
  dsimp only
  rw [frzL_id fun x hx h => frz_pu (List.all_eq_true.mp p x hx) hm]
theorem pu_mono : ∀ {n m : Nat} {v : MV}, pu n v = true → n ≤ m → pu m v = true
  | 0, m, v, p, _ => by cases v <;> first | (cases m <;> exact p) | (unfold pu at p; cases p)
  | n + 1, 0, _, _, h => absurd h (by omega)
  | n + 1, m + 1, v, p, h => by
    cases v <;> first | exact p | (unfold pu at p; cases p; done) | skip
    all_goals
      unfold pu at p ⊢
      rw [List.all_eq_true] at p ⊢
      exact fun x hx => pu_mono (p x hx) (by omega)
theorem below_pu {L : Nat} : ∀ {n : Nat} {v : MV}, pu n v = true → below L v = true
  | 0, v, p => by cases v <;> first | (unfold below; rfl) | (unfold pu at p; cases p)
  | n + 1, v, p => by
    cases v <;> first | (unfold below; rfl) | (unfold pu at p; cases p; done) | skip
    all_goals
      unfold pu at p
      rw [List.all_eq_true] at p
      unfold below
      exact belows_all.mpr fun x hx => below_pu (p x hx)
end Mn
namespace Mn
open PySem PySem.Spec PyProof.Rows L2
/-! ### data of the module: tuples of tuples -/
inductive CD where
  | non | bl (b : Bool) | int (i : Int) | str (x : Str) | tup (xs : List CD)
mutual
def cdV : CD → MV
  | .non => .non
  | .bl b => .bl b
  | .int i => .int i
  | .str x => .str x
  | .tup xs => .tup (cdVs xs)
def cdVs : List CD → List MV
  | [] => []
  | x :: xs => cdV x :: cdVs xs
end
mutual
def cdB (K : PySem.W.Frag) : CD → Value → Bool
  | .non, u => (match u with
    | .none => true
    | _ => false)
  | .bl b, u => (match u with
    | .bool c => decide (b = c)
    | _ => false)
  | .int i, u => (match u with
    | .int j _ => decide (i = j)
    | _ => false)
  | .str x, u => (match u with
    | .str y _ => decide (x = y)
    | _ => false)
  | .tup xs, u => (match u with
    | .ref a => (match K.lookup a with
      | some ⟨.type c, none, .seq its _, _⟩ => decide (c = "tuple") && (decide (its.size ≤ sizeLine) && cdBs K xs its.toList)
      | _ => false)
    | _ => false)
def cdBs (K : PySem.W.Frag) : List CD → List Value → Bool
  | [], us => us.isEmpty
  | x :: xs, us => (match us with
    | u :: us => cdB K x u && cdBs K xs us
    | [] => false)
end
mutual
theorem cdB_ok {K : PySem.W.Frag} {ga : Str → Addr} : ∀ {d : CD} {u : Value}, cdB K d u = true → ∃ v, RelV v u ∧ ∀ (Ω : Om) (L : Nat) (H : Hp), VRel K ga Ω L H (cdV d) v
  | .non, u, h => by
    cases u <;> first | (exact ⟨.non, rfl, fun _ _ _ => v_non.mpr rfl⟩) | (simp [cdB] at h)
  | .bl b, u, h => by
    cases u <;> first | (simp [cdB] at h; done) | skip
    simp [cdB] at h
    subst h
    exact ⟨.bl b, rfl, fun _ _ _ => v_bl.mpr rfl⟩
  | .int i, u, h => by
    cases u <;> first | (simp [cdB] at h; done) | skip
    simp [cdB] at h
    subst h
    exact ⟨.int i, ⟨_, rfl⟩, fun _ _ _ => v_int.mpr rfl⟩
  | .str i, u, h => by
    cases u <;> first | (simp [cdB] at h; done) | skip
    simp [cdB] at h
    subst h
    exact ⟨.str i, ⟨_, rfl⟩, fun _ _ _ => v_str.mpr rfl⟩
  | .tup xs, u, h => by
    cases u with
    | ref a =>
      unfold cdB at h
      dsimp only at h
      split at h
      · rename_i c its n sl q
        rw [Bool.and_eq_true, Bool.and_eq_true] at h
        obtain ⟨h1, h2, h3⟩ := h
        obtain rfl : c = "tuple" := of_decide_eq_true h1
        obtain ⟨vs, r1, r2⟩ := cdBs_ok (ga := ga) h3
        exact ⟨.ref a, rfl, fun Ω L H => by
          unfold cdV
          exact v_tup.mpr ⟨a, vs, rfl, .inr ⟨_, its, n, q, rfl, rfl, of_decide_eq_true h2, r1⟩, r2 Ω L H⟩⟩
      · cases h
    | _ => simp [cdB] at h
theorem cdBs_ok {K : PySem.W.Frag} {ga : Str → Addr} : ∀ {ds : List CD} {us : List Value}, cdBs K ds us = true → ∃ vs, Vals vs us ∧ ∀ (Ω : Om) (L : Nat) (H : Hp), VRels K ga Ω L H (cdVs ds) vs
  | [], us, h => by
    cases us with
    | nil => exact ⟨[], .nil, fun _ _ _ => by unfold cdVs VRels; rfl⟩
    | cons u us => simp [cdBs] at h
  | d :: ds, us, h => by
    cases us with
    | nil => simp [cdBs] at h
    | cons u us =>
      unfold cdBs at h
      dsimp only at h
      rw [Bool.and_eq_true] at h
      obtain ⟨v, r1, r2⟩ := cdB_ok (ga := ga) h.1
      obtain ⟨vs, r3, r4⟩ := cdBs_ok (ga := ga) h.2
      exact ⟨v :: vs, .cons r1 r3, fun Ω L H => by
        unfold cdVs VRels
        exact ⟨v, vs, rfl, r2 Ω L H, r4 Ω L H⟩⟩
end
def keyB (k : Key) (u : Value) : Bool := match k, u with
  | .inl i, .int j _ => decide (i = j)
  | .inr x, .str y _ => decide (x = y)
  | _, _ => false
theorem keyB_ok {k : Key} {u : Value} : keyB k u = true → RelV (match k with
    | .inl i => V.int i
    | .inr y => V.str y) u := by
  intro h
  cases k with
  | inl i =>
    cases u <;> first | (simp [keyB] at h; done) | skip
    simp [keyB] at h
    subst h
    exact ⟨_, rfl⟩
  | inr i =>
    cases u <;> first | (simp [keyB] at h; done) | skip
    simp [keyB] at h
    subst h
    exact ⟨_, rfl⟩
/-! ### further facts: exception classes -/
inductive XFa where
  | con (x : Str) (d : CD) | tbl (x : Str) (kvs : List (Str × Key))
  | oex (c : Str) | xfx (c f : Str) | bas (c : Str) | kit (c q : Str) (b : Bool) | kitv (c : Str) (b : Bool) | fi (c : Str) | eqo (c : Str)
def XFa.ok (K : PySem.W.Frag) : XFa → Bool
  | .con x d => (match PySem.W.nsIn K mainGlobals x with
    | some (some u) => cdB K d u
    | _ => false)
  | .tbl x kvs => kvs.all fun q => match PySem.W.nsIn K (He.ga K x) q.1 with
    | some (some u) => keyB q.2 u
    | _ => false
  | .oex c => oexB K (He.ga K c)
  | .xfx c f => xfxB K (He.ga K c) f
  | .bas c => basB K (He.ga K c)
  | .kit c q b => decide (PySem.W.kitOne K (.ref (He.ga K c)) (.ref (He.ga K q)) = some b) && decide (PySem.W.exmOne K (.ref (He.ga K c)) (.ref (He.ga K q)) = some b)
  | .kitv c b => decide (PySem.W.kitOne K (.ref (He.ga K c)) (.type "ValueError") = some b)
  | .eqo c => decide (PySem.W.mroIn K (He.ga K c) (.type "object") = some true) && decide (PySem.W.findIn K (.ref (He.ga K c)) "__eq__" = some (some (.builtin "object.__eq__")))
  | .fi c => decide (PySem.W.findIn K (.ref (He.ga K c)) "__init__" = some (some (.ref (He.fAd K (c, some "__init__"))))) && decide (PySem.W.typeIn K (.ref (He.fAd K (c, some "__init__"))) = some (.type "function"))
/-! ### a head's facts with tables: the module's names that hold tuples -/
def obsT (fa : List He.Fa) (fn : List He.DefD) (ts : List (Str × List He.Dv)) (xs : List XFa) (K : PySem.W.Frag) : He.AlD := ((He.obsD fa fn K).1 && ((ts.all fun t => He.tupB K t.1 t.2) && xs.all (XFa.ok K)), (He.obsD fa fn K).2)
def SaysT (fa : List He.Fa) (fn : List He.DefD) (ts : List (Str × List He.Dv)) (xs : List XFa) (K : PySem.W.Frag) : Prop := obsT fa fn ts xs K = He.valD fn
def obsTG (n : Nat) (fa : List He.Fa) (fn : List He.DefD) (ts : List (Str × List He.Dv)) (xs : List XFa) (g : Addr → Option Obj) : He.AlD := obsT fa fn ts xs (He.frG g (cStatics :: He.asD g n))
def hookT (n : Nat) (fa : List He.Fa) (fn : List He.DefD) (ts : List (Str × List He.Dv)) (xs : List XFa) : PySem.W.Hook where
  α := He.AlD
  obs := fun s => obsTG n fa fn ts xs s.heap.get?
  val := fun _ => He.valD fn
  says := fun _ h => ∃ K : PySem.W.Frag, K.In h ∧ SaysT fa fn ts xs K
  of := fun _ _ e => ⟨_, He.frG_in, e⟩
  keeps := fun _ _ _ ⟨K, hK, c⟩ k => ⟨K, PySem.W.Frag.In.keeps hK k, c⟩
theorem obsTG_eq {n : Nat} {fa : List He.Fa} {fn : List He.DefD} {ts : List (Str × List He.Dv)} {xs : List XFa} {g : Addr → Option Obj} {s : Shared} (h : ∀ a, g a = s.heap.get? a) : obsTG n fa fn ts xs g = (hookT n fa fn ts xs).obs s := by
  have e : g = s.heap.get? := funext h
  rw [e] <;> rfl
section
variable {fa : List He.Fa} {fn : List He.DefD} {ts : List (Str × List He.Dv)} {xs : List XFa} {K : PySem.W.Frag}
theorem SaysT.says (c : SaysT fa fn ts xs K) : He.SaysD fa fn K := by
  have c1 : ((He.obsD fa fn K).1 && ((ts.all fun t => He.tupB K t.1 t.2) && xs.all (XFa.ok K))) = true := congrArg (fun z : He.AlD => z.1) (show obsT fa fn ts xs K = He.valD fn from c)
  have c0 : (obsT fa fn ts xs K).2 = (He.valD fn).2 := by
    have e : obsT fa fn ts xs K = He.valD fn := c
    rw [e]
  have c2 : (He.obsD fa fn K).2 = (He.valD fn).2 := c0
  rw [Bool.and_eq_true] at c1
  exact Prod.ext c1.1 c2
theorem SaysT.tab (c : SaysT fa fn ts xs K) (i : Nat) {t : Str × List He.Dv} (h : ts[i]? = some t := by rfl) : He.tupB K t.1 t.2 = true := by
  have c1 : ((He.obsD fa fn K).1 && ((ts.all fun t => He.tupB K t.1 t.2) && xs.all (XFa.ok K))) = true := congrArg (fun z : He.AlD => z.1) (show obsT fa fn ts xs K = He.valD fn from c)
  rw [Bool.and_eq_true, Bool.and_eq_true] at c1
  exact List.all_eq_true.mp c1.2.1 t (List.mem_of_getElem? h)
theorem SaysT.xfa (c : SaysT fa fn ts xs K) (i : Nat) {t : XFa} (h : xs[i]? = some t := by rfl) : t.ok K = true := by
  have c1 : ((He.obsD fa fn K).1 && ((ts.all fun t => He.tupB K t.1 t.2) && xs.all (XFa.ok K))) = true := congrArg (fun z : He.AlD => z.1) (show obsT fa fn ts xs K = He.valD fn from c)
  rw [Bool.and_eq_true, Bool.and_eq_true] at c1
  exact List.all_eq_true.mp c1.2.2 t (List.mem_of_getElem? h)
end
variable {K : PySem.W.Frag} {ga : Str → Addr}
theorem vs_of_ints {Ω : Om} {L : Nat} {H : Hp} : ∀ {ns : List Int}, VRels K ga Ω L H (ns.map .int) (ns.map V.int)
  | [] => by unfold List.map VRels; rfl
  | n :: ns => by
    rw [List.map_cons, List.map_cons]
    unfold VRels
    exact ⟨_, _, rfl, v_int.mpr rfl, vs_of_ints⟩
theorem con_tup {x : Str} {ns : List Int} (h : He.tupB K x (ns.map .int) = true) {Ω : Om} {L : Nat} {H : Hp} : VRel K ga Ω L H (.tup (ns.map .int)) (.ref (He.ga K x)) := by
  have := He.tupB_ok h H
  rw [List.map_map] at this
  exact v_tup.mpr ⟨_, _, rfl, this, vs_of_ints⟩
theorem cdB_k {K : PySem.W.Frag} {xs : List CD} {u : Value} (h : cdB K (.tup xs) u = true) : ∃ a o, u = .ref a ∧ K.lookup a = some o ∧ o.cls = .type "tuple" ∧ o.dict = none := by
  cases u with
  | ref a =>
    unfold cdB at h
    dsimp only at h
    split at h
    · rename_i c its n sl q
      rw [Bool.and_eq_true] at h
      obtain rfl : c = "tuple" := of_decide_eq_true h.1
      exact ⟨a, _, rfl, q, rfl, rfl⟩
    · cases h
  | _ => simp [cdB] at h
theorem con_cd {h : Heap} {mg : Str → Option Value} (X : K.In h) (G : h.Ns mainGlobals mg) {x : Str} {d : CD} (c : (XFa.con x d).ok K = true) : ∃ u v', mg x = some u ∧ RelV v' u ∧ (∀ (Ω : Om) (L : Nat) (H : Hp), VRel K ga Ω L H (cdV d) v') ∧ KTup K (cdV d) v' := by
  unfold XFa.ok at c
  dsimp only at c
  split at c
  · rename_i u q
    obtain ⟨v, r1, r2⟩ := cdB_ok (ga := ga) c
    refine ⟨u, v, PySem.W.mg_of X G q, r1, r2, fun p xs e1 e2 _ => ?_⟩
    cases d with
    | tup ds =>
      obtain ⟨a, o, rfl, e4, e5, e6⟩ := cdB_k c
      subst e1
      cases r1
      exact ⟨o, e4, e5, e6⟩
    | _ => unfold cdV at e2; cases e2
  · cases c
/-- no tuple of texts -/
theorem ktup_i {K : PySem.W.Frag} {i : Int} {v : V} : KTup K (.int i) v := fun _ _ _ e => nomatch e
theorem ktup_s {K : PySem.W.Frag} {i : Str} {v : V} : KTup K (.str i) v := fun _ _ _ e => nomatch e
theorem ktup_t {K : PySem.W.Frag} {ns : List Int} {v : V} : KTup K (.tup (ns.map .int)) v := fun _ _ _ e h => by
  cases e
  cases ns with
  | nil => cases h
  | cons n ns => cases h
/-! ### a head's facts with dicts of the module -/
abbrev AlU : Type := He.AlD × List (Option (List (Option (Str × Int))))
abbrev TbU : Type := Str × List (Str × Key)
def obsU (fa : List He.Fa) (fn : List He.DefD) (ts : List (Str × List He.Dv)) (xs : List XFa) (ds : List TbU) (K : PySem.W.Frag) : AlU := (obsT fa fn ts xs K, ds.map fun t => He.dicW K (He.ga K t.1))
def valU (fn : List He.DefD) (ds : List TbU) (w : World) : AlU := (He.valD fn, ds.map fun t => some (He.keysIn w.params (t.2.map (·.1))))
def SaysU (fa : List He.Fa) (fn : List He.DefD) (ts : List (Str × List He.Dv)) (xs : List XFa) (ds : List TbU) (w : World) (K : PySem.W.Frag) : Prop := obsU fa fn ts xs ds K = valU fn ds w
def obsUG (n : Nat) (fa : List He.Fa) (fn : List He.DefD) (ts : List (Str × List He.Dv)) (xs : List XFa) (ds : List TbU) (g : Addr → Option Obj) : AlU := obsU fa fn ts xs ds (He.frG g (cStatics :: He.asD g n))
def hookU (n : Nat) (fa : List He.Fa) (fn : List He.DefD) (ts : List (Str × List He.Dv)) (xs : List XFa) (ds : List TbU) : PySem.W.Hook where
  α := AlU
  obs := fun s => obsUG n fa fn ts xs ds s.heap.get?
  val := fun w => valU fn ds w
  says := fun w h => ∃ K : PySem.W.Frag, K.In h ∧ SaysU fa fn ts xs ds w K
  of := fun _ _ e => ⟨_, He.frG_in, e⟩
  keeps := fun _ _ _ ⟨K, hK, c⟩ k => ⟨K, PySem.W.Frag.In.keeps hK k, c⟩
theorem obsUG_eq {n : Nat} {fa : List He.Fa} {fn : List He.DefD} {ts : List (Str × List He.Dv)} {xs : List XFa} {ds : List TbU} {g : Addr → Option Obj} {s : Shared} (h : ∀ a, g a = s.heap.get? a) : obsUG n fa fn ts xs ds g = (hookU n fa fn ts xs ds).obs s := by
  have e : g = s.heap.get? := funext h
  rw [e] <;> rfl
section
variable {fa : List He.Fa} {fn : List He.DefD} {ts : List (Str × List He.Dv)} {xs : List XFa} {ds : List TbU} {w : World}
theorem SaysU.t (c : SaysU fa fn ts xs ds w K) : SaysT fa fn ts xs K := congrArg (fun z : AlU => z.1) c
theorem tab_ok {mg : Str → Option Value} {x : Str} {kvs : List (Str × Key)} (hd : He.dicW K (He.ga K x) = some (He.keysIn w.params (kvs.map (·.1)))) (hm : mg x = some (.ref (He.ga K x))) (hx : (XFa.tbl x kvs).ok K = true) : TabF K w mg x kvs := by
  obtain ⟨es, n, D⟩ := He.dicW_ok hd
  refine ⟨He.ga K x, es, n, hm, D, fun z => ?_⟩
  have hk : es.toList.map He.keyOf = He.keysIn w.params (kvs.map (·.1)) := by
    unfold He.dicW at hd
    rw [D.at_] at hd
    simpa [D.low] using hd
  have keys : ∀ (l : List DictEntry) (ks : List Str), l.map He.keyOf = He.keysIn w.params ks → l.any (·.refKey) = false ∧ ∀ z, z ∉ ks → l.find? (·.key.isStr z) = none := by
    intro l
    induction l with
    | nil => exact fun ks h => ⟨rfl, fun z hz => rfl⟩
    | cons e r ih =>
      intro ks h
      cases ks with
      | nil => cases h
      | cons k ks =>
        have h1 : He.keyOf e :: r.map He.keyOf = some (k, PyData.keyHash w.params k) :: He.keysIn w.params ks := h
        injection h1 with h2 h3
        obtain ⟨q1, q2⟩ := ih ks h3
        unfold He.keyOf at h2
        split at h2
        · rename_i y t q
          have h4 := Option.some.inj h2
          obtain ⟨h5, h6⟩ := Prod.mk.inj h4
          subst h5
          refine ⟨?_, fun z hz => ?_⟩
          · rw [List.any_cons, q1, Bool.or_false]
            unfold DictEntry.refKey
            rw [q]
          · rw [List.find?_cons]
            have : e.key.isStr z = false := by
              rw [q]
              show (y == z) = false
              exact beq_eq_false_iff_ne.mpr fun e => hz (e ▸ List.mem_cons_self ..)
            rw [this]
            exact q2 z fun m => hz (List.mem_cons_of_mem _ m)
        · cases h2
  obtain ⟨k1, k2⟩ := keys _ _ hk
  cases hl : kvs.lookup z with
  | none =>
    refine ⟨none, ?_, rfl⟩
    have hz : z ∉ kvs.map (·.1) := fun m => by
      obtain ⟨q, hq, rfl⟩ := List.mem_map.mp m
      have := List.lookup_eq_none_iff.mp hl q hq
      simp at this
    unfold PySem.W.nsIn
    rw [D.at_]
    dsimp only
    rw [k2 z hz, k1]
    rfl
  | some k =>
    have hm : (z, k) ∈ kvs := by
      clear hx hk keys k1 k2 hd
      induction kvs with
      | nil => simp at hl
      | cons q r ih =>
        obtain ⟨y, u⟩ := q
        rw [List.lookup_cons] at hl
        cases e : z == y with
        | true =>
          rw [e] at hl
          cases hl
          rw [eq_of_beq e]
          exact List.mem_cons_self ..
        | false =>
          rw [e] at hl
          exact List.mem_cons_of_mem _ (ih hl)
    have h2 := List.all_eq_true.mp (show (kvs.all fun q => match PySem.W.nsIn K (He.ga K x) q.1 with
      | some (some u) => keyB q.2 u
      | _ => false) = true from hx) _ hm
    dsimp only at h2
    split at h2
    · rename_i u q
      exact ⟨some u, q, u, rfl, keyB_ok h2⟩
    · cases h2
theorem SaysU.tbs {mg : Str → Option Value} (c : SaysU fa fn ts xs ds w K) (i : Nat) {t : TbU} (h : ds[i]? = some t := by rfl) (j : Nat) (h2 : xs[j]? = some (.tbl t.1 t.2) := by rfl) (hm : mg t.1 = some (.ref (He.ga K t.1))) : TabF K w mg t.1 t.2 := by
  have e : ds.map (fun t => He.dicW K (He.ga K t.1)) = ds.map fun t => some (He.keysIn w.params (t.2.map (·.1))) := congrArg (fun z : AlU => z.2) c
  have e2 : (ds.map fun t => He.dicW K (He.ga K t.1))[i]? = (ds.map fun t => some (He.keysIn w.params (t.2.map (·.1))))[i]? := by rw [e]
  rw [List.getElem?_map, List.getElem?_map, h] at e2
  exact tab_ok (Option.some.inj e2) hm (c.t.xfa j h2)
end
end Mn
namespace Mn
open PySem PySem.Spec PyProof.Rows L2
/-! ### the end of a law in whose def repr may stand -/
theorem call_top {P : Program} {w : World} {K : PySem.W.Frag} {mg mb : Str → Option Value} {fa a : Addr} {s : Shared} {vs : List Value} {ns : List Int} (KX : K.In s.heap) (nsM : s.heap.Ns mainGlobals mg) (nsB : s.heap.Ns builtinsNs mb) (bt : ∀ y : Str, y ≠ "__name__" → mb y = bootBuiltins y)
    (nol : s.heap.NoLimit) (gens : s.gens = #[]) (ha : s.heap.get? a = some { cls := .type "list", data := .seq vs.toArray }) (hi : IntsAre vs ns) (hl : ns.length ≤ sizeLine)
    (R : ∀ (base : Heap) (H : Hp), K.In base → base.Ns mainGlobals mg → Only H → SqL K H a (ns.map V.int) → Env0 P w K mg base callerA [] s H → codeAny (model P w) callerA (.call (.ref fa) ⟨[.ref a], []⟩) (CR (L2.CX P w) [] P w H s (fun v _ => v = .bl true) fun _ _ _ => False) s) :
    codeAny (model P w) callerA (.call (.ref fa) ⟨[.ref a], []⟩) (fun r t => r = .ok (.ret (.bool true)) ∧ OldK s.heap t.heap ∧ t.os = s.os ∧ AllBare t.gens) s := by
  have rv := vals_ints hi
  have len := hi.length
  suffices core : ∀ H : Hp, Only H → SqL K H a (ns.map V.int) → HOk P w H s.heap → (∀ b, H b ≠ none → b = a) → (H a ≠ none → K.lookup a = none) → codeAny (model P w) callerA (.call (.ref fa) ⟨[.ref a], []⟩) (fun r t => r = .ok (.ret (.bool true)) ∧ OldK s.heap t.heap ∧ t.os = s.os ∧ AllBare t.gens) s by
    cases hk : K.lookup a with
    | some o =>
      have e := KX a o hk
      rw [ha] at e
      cases e
      exact core (fun _ => none) (fun _ => .inl rfl) (.inr ⟨_, vs.toArray, _, hk, rfl, rfl, rfl, by rw [List.size_toArray, len]; exact hl, by simpa using rv⟩) (fun _ u z => by cases (show (none : Option HO) = some u from z)) (fun _ z => absurd rfl z) fun z => absurd rfl z
    | none =>
      have at_ : ∀ b, b = a → (if b = a then some (HO.frz { cls := .type "list", data := .seq vs.toArray } (.lst (ns.map V.int))) else none) = some (HO.frz { cls := .type "list", data := .seq vs.toArray } (.lst (ns.map V.int))) := fun b z => if_pos z
      have no_ : ∀ b, b ≠ a → (if b = a then some (HO.frz { cls := .type "list", data := .seq vs.toArray } (.lst (ns.map V.int))) else none) = none := fun b z => if_neg z
      refine core (fun b => if b = a then some (.frz { cls := .type "list", data := .seq vs.toArray } (.lst (ns.map V.int))) else none) ?_ (.inl (.inr ⟨_, at_ a rfl⟩)) ?_ ?_ fun _ => hk
      · intro b
        by_cases z : b = a
        · exact .inr ⟨_, _, at_ b z⟩
        · exact .inl (no_ b z)
      · intro b u q
        by_cases z : b = a
        · cases (at_ b z).symm.trans q
          subst z
          exact ⟨ha, by rw [List.length_map]; exact hl, vs, _, rv, ha⟩
        · cases (no_ b z).symm.trans q
      · intro b q
        by_cases z : b = a
        · exact z
        · exact absurd (no_ b z) q
  intro H hO hS hok only hK
  have grd : ∀ {b : Addr} {o : Obj}, s.heap.get? b = some o → H b = none → (hidT s.heap H).get? b = some o := fun e n => hidT_get e n
  have dicts : ∀ {b : Addr} {o : Obj} {es : Array DictEntry} {ep : Nat}, s.heap.get? b = some o → o.data = .dict es ep → H b = none := by
    intro b o es ep e d
    by_cases z : H b = none
    · exact z
    · have e' := only b z
      subst e'
      rw [ha] at e
      cases e
      cases (show Data.seq vs.toArray _ = Data.dict es ep from d)
  have nss : ∀ {b : Addr} {m : Str → Option Value}, s.heap.Ns b m → (hidT s.heap H).Ns b m := by
    rintro b m ⟨o, es, ep, e, d, z⟩
    exact ⟨o, es, ep, grd e (dicts e d), d, z⟩
  have kin : K.In (hidT s.heap H) := by
    intro b o e
    refine grd (KX b o e) ?_
    by_cases z : H b = none
    · exact z
    · have e' := only b z
      subst e'
      rw [hK z] at e
      cases e
  obtain ⟨mc, c1, c2⟩ := nol
  have env : Env0 P w K mg (hidT s.heap H) callerA [] s H :=
    ⟨rfl, ⟨kin, nss nsM, ⟨mb, nss nsB, bt⟩, mc, nss c1, c2⟩, fun _ _ e => of_hidT e, Nat.le_of_eq (hidT_size _ _), trivial, fun b z => absurd (show b ∈ ([] : List Addr) from z) (by simp), hok, .of_eq gens⟩
  refine codeAny_mono (R _ H kin (nss nsM) hO hS env) fun r t z => ?_
  cases r with
  | error e =>
    obtain ⟨_, _, _, _, _, _, _, _, _, _, _, _, z⟩ := z
    exact z.elim
  | ok fl =>
    cases fl with
    | next => exact z.elim
    | brk => exact z.elim
    | cont => exact z.elim
    | ret u =>
      obtain ⟨v, H2, os, bare, un, hok2, rel, q⟩ := z
      obtain rfl : v = .bl true := q
      obtain rfl : u = Value.bool true := rel
      refine ⟨rfl, OldK.of_keep ?_, os, bare⟩
      intro b o e
      cases q : H b with
      | none => exact un.keep b o e q (fun z => absurd (show b ∈ ([] : List Addr) from z) (by simp)) (by simp)
      | some u =>
        rcases hO b with z | ⟨ob, xs, z⟩
        · rw [q] at z
          cases z
        · obtain ⟨e1, _⟩ := hok b _ z
          obtain ⟨e2, _⟩ := hok2 b _ (un.frzs b ob _ z)
          rw [e] at e1
          cases e1
          exact e2
/-- a law whose def may hold repr: the function object, the run at the caller's place -/
theorem walkG {l : PySem.W.OpenLaw} {n : Nat} {q : Program} {loose : List Str} {XP : (Str → Option Value) → Heap → Prop} {YP : World → Heap → Prop} {d : DefRec} (hn : l.most = some n) (hn2 : n ≤ sizeLine) (hdf : d.params.defaults = [])
    (F : ∀ (w : World) (mg : Str → Option Value) (fa : Addr) (h : Heap), YP w h → h.Ns mainGlobals mg → mg d.name = some (.ref fa) →
      ∃ K : PySem.W.Frag, K.In h ∧ ∀ (base : Heap) (s : Shared) (H : Hp) (a : Addr) (ns : List Int), ns.length ≤ n → K.In base → base.Ns mainGlobals mg → Only H → SqL K H a (ns.map V.int) → Env0 l.prog w K mg base callerA [] s H →
        codeAny (model l.prog w) callerA (.call (.ref fa) ⟨[.ref a], []⟩) (CR (L2.CX l.prog w) [] l.prog w H s (fun v _ => v = .bl true) fun _ _ _ => False) s) :
    PySem.W.WalkO q loose XP YP l.row.toRowW d [] (fun f vs => PySem.call f vs) := by
  refine Att.attach_call hn hdf fun w s₀ s₁ mg mb fa o pm cd doc a vs ns G Y ho hd hcd hmg hobj hints hlen hg => ?_
  obtain ⟨K, KX, R⟩ := F w mg fa _ Y G.T.g hmg
  exact call_top KX G.T.g G.T.b G.T.builtins G.T.nolimit hg hobj hints (Nat.le_trans hlen hn2) fun base H k1 k2 hO hS e0 => R base s₁ H a ns hlen k1 k2 hO hS e0
end Mn
namespace Mn
open PySem PySem.Spec PyProof.Rows L2
/-! ### common facts -/
theorem in_int {v : Int} {ns : List Int} : inM (.int v) (ns.map .int) = decide (v ∈ ns) := by
  unfold inM
  induction ns with
  | nil => simp
  | cons a as ih =>
    rw [List.map_cons, List.any_cons, ih]
    have e : eqM (.int a) (.int v) = (a == v) := rfl
    rw [e]
    by_cases h : v = a
    · subst h; simp
    · have : ¬ a = v := fun z => h z.symm
      simp [h, this]
theorem flat_int {ns : List Int} : (ns.map MV.int).all flatM = true := by
  rw [List.all_eq_true]
  intro x hx
  obtain ⟨i, _, rfl⟩ := List.mem_map.mp hx
  rfl
@[simp] theorem flatM_int {i : Int} : flatM (.int i) = true := rfl
@[simp high] theorem cmpV_in_ints {v : Int} {ns : List Int} {h : MHeap} : cmpV .In (.int v) (.lst (ns.map .int)) h = .ok (.bl (decide (v ∈ ns))) h := by
  rw [cmpV_in, seqOf_lst]
  simp only [flat_int, flatM_int, and_self, if_true, in_int]
@[simp high] theorem cmpV_nin_ints {v : Int} {ns : List Int} {h : MHeap} : cmpV .NotIn (.int v) (.lst (ns.map .int)) h = .ok (.bl (!decide (v ∈ ns))) h := by
  rw [cmpV_nin, seqOf_lst]
  simp only [flat_int, flatM_int, and_self, if_true, in_int]
theorem cmpV_in_ref {v : Int} {ns : List Int} {h : MHeap} {r : Nat} (e : h[r]? = some (.lst (ns.map .int))) : cmpV .In (.int v) (.ref r) h = .ok (.bl (decide (v ∈ ns))) h := by
  rw [cmpV_in, seqOf_ref, e]
  simp only [flat_int, flatM_int, and_self, if_true, in_int]
theorem cmpV_nin_ref {v : Int} {ns : List Int} {h : MHeap} {r : Nat} (e : h[r]? = some (.lst (ns.map .int))) : cmpV .NotIn (.int v) (.ref r) h = .ok (.bl (!decide (v ∈ ns))) h := by
  rw [cmpV_nin, seqOf_ref, e]
  simp only [flat_int, flatM_int, and_self, if_true, in_int]
theorem fold_range {α β : Type} {f : β → α → β} {d : α} {b : β} {xs : List α} : (List.range xs.length).foldl (fun b k => f b (xs.getD k d)) b = xs.foldl f b := by
  have e : (List.range xs.length).map (fun k => xs.getD k d) = xs := by
    apply List.ext_getElem
    · simp
    · intro i h1 h2
      simp [List.getD_eq_getElem?_getD, List.getElem?_eq_getElem h2]
  conv => rhs; rw [← e]
  rw [List.foldl_map]
theorem fold_app {α β : Type} {f : α → β} : ∀ {xs : List α} {b : List β}, xs.foldl (fun b k => b ++ [f k]) b = b ++ xs.map f
  | [], b => by simp
  | x :: xs, b => by rw [List.foldl_cons, fold_app, List.map_cons]; simp
@[simp] theorem get_end {h : MHeap} {o : MO} : (h ++ [o])[h.length]? = some o := by simp
theorem get_endc {h r : MHeap} {o : MO} : (h ++ o :: r)[h.length]? = some o := by simp
@[simp] theorem set_end {h : MHeap} {o p : MO} : (h ++ [o]).set h.length p = h ++ [p] := by simp
theorem get_app {h r : MHeap} {n : Nat} {o : MO} (e : h[n]? = some o) : (h ++ r)[n]? = some o := by
  rw [List.getElem?_append_left (List.getElem?_eq_some_iff.mp e).1]
  exact e
theorem get_lt {h : MHeap} {n : Nat} {o : MO} (e : h[n]? = some o) : n < h.length := (List.getElem?_eq_some_iff.mp e).1
theorem frz_end {h : MHeap} {xs : List MV} (m : Nat) (hm : m < 39) (p : xs.all (pu m) = true) : frzV 40 (h ++ [.lst xs]) (.ref h.length) = some (.lst xs, h ++ [.dead]) := by
  rw [frz_ref get_end p hm, set_end]
theorem frz_endi {h : MHeap} {xs : List Int} : frzV 40 (h ++ [.lst (xs.map .int)]) (.ref h.length) = some (.lst (xs.map .int), h ++ [.dead]) := frz_end 0 (by decide) all_ints
theorem fin_set {h : MHeap} {r : Nat} {o : MO} {v : MV} (hb : below h.length v = true) (ho : belowO h.length o = true) : finV false h v (h.set r o) = .ok v (h.set r o) := by
  refine fin_same (by simp) hb fun k p e => ?_
  by_cases hk : r = k
  · subst hk
    rw [List.getElem?_set] at e
    split at e
    · split at e
      · cases e
        exact .inr ho
      · cases e
    · exact .inl e
  · rw [List.getElem?_set_ne hk] at e
    exact .inl e
theorem cut_to {α : Type} {xs : List α} {w : Nat} : cutM xs none (some (w : Int)) = xs.take w := by
  unfold cutM
  rw [HT.sIx_nat, HT.sIx_none, List.drop_zero, Nat.sub_zero]
  by_cases h : w ≤ xs.length
  · rw [Nat.min_eq_left h]
  · rw [Nat.min_eq_right (by omega), List.take_of_length_le (Nat.le_refl _), List.take_of_length_le (by omega)]
theorem cut_from {α : Type} {xs : List α} {w : Nat} : cutM xs (some (w : Int)) none = xs.drop w := by
  unfold cutM
  rw [HT.sIx_nat, HT.sIx_none]
  by_cases h : w ≤ xs.length
  · rw [Nat.min_eq_left h, List.take_of_length_le (by simp)]
  · rw [Nat.min_eq_right (by omega), List.drop_length, List.drop_of_length_le (by omega)]
    simp
theorem cut_mid {α : Type} {xs : List α} {u w : Nat} (h : w ≤ xs.length) : cutM xs (some (u : Int)) (some (w : Int)) = (xs.take w).drop u := by
  unfold cutM
  rw [HT.sIx_nat, HT.sIx_nat, Nat.min_eq_left h]
  by_cases g : u ≤ xs.length
  · rw [Nat.min_eq_left g, List.drop_take]
  · rw [Nat.min_eq_right (by omega), List.drop_length, List.drop_of_length_le (by simp; omega)]
    simp
theorem enL_map {α : Type} {f : α → MV} {xs : List α} : enL (xs.map f) = xs.zipIdx.map fun p => .tup [.int (p.2 : Nat), f p.1] := by
  unfold enL
  rw [List.zipIdx_map, List.map_map]
  rfl
@[simp] theorem seqOf_ok {h : MHeap} {n : Nat} {xs : List MV} (e : h[n]? = some (.lst xs)) : seqOf h (.ref n) = some xs := by
  rw [seqOf_ref, e]
theorem ok_one {n : Nat} {xs ys : List MV} {h : MHeap} (e : h[n]? = some (.lst ys)) : Src.Ok ⟨xs, [(n, ys)]⟩ h := fun p hp => by
  cases List.mem_singleton.mp hp
  exact e
theorem rg {n i x : Nat} (h : (List.range n)[i]? = some x) : i < n ∧ x = i := by
  obtain ⟨a, b⟩ := List.getElem?_eq_some_iff.mp h
  simp at a b
  exact ⟨a, b.symm⟩
theorem zix {α : Type} {xs : List α} {i k : Nat} {x : α} (h : xs.zipIdx[i]? = some (x, k)) : i = k ∧ xs[i]? = some x := by
  rw [List.getElem?_zipIdx] at h
  cases e : xs[i]? with
  | none => rw [e] at h; cases h
  | some y =>
    rw [e] at h
    simp at h
    exact ⟨h.2, by rw [h.1]⟩
theorem nd_take {α : Type} {x : List α} {j : Nat} {y : α} (nd : x.Nodup) (e : x[j]? = some y) : y ∉ x.take j := by
  intro m
  rw [← List.take_append_drop j x] at nd
  have md : y ∈ x.drop j := List.mem_of_getElem? (i := 0) (by rw [List.getElem?_drop]; exact e)
  exact (List.nodup_append.mp nd).2.2 y m y md rfl
end Mn
namespace Mn
open PySem PySem.Spec PyProof.Rows L2
/-! ### exceptions: the evaluator's equations -/
section
variable {C : Ct} {σ : MSt} {h : MHeap}
@[simp] theorem run_rai {c : Str} {e : ME} : run C (.rai c e) σ h = (if C.rok = true ∧ C.isx c = true then (evE C e σ h).out fun v h1 => if flatX v = true then .exc c v h1 else .bad else .bad) := by (rw [run]; try rfl)
@[simp] theorem run_tryA {b s : MS} {i : Nat} {c : Str} : run C (.tryA b i c s) σ h = (match run C b σ h with
    | .exc c' v h1 => caughtR C i c s (List.replicate σ.length none) c' v h1
    | o => o) := by
  rw [run]
  try (cases run C b σ h <;> rfl)
@[simp] theorem run_tryB {k : Tk} {f : Str} {es : ME} {s : MS} {i : Nat} {c : Str} : run C (.tryB k f es i c s) σ h = (match evL C es σ h with
    | .ok vs h1 => (match C.cf f vs h1 with
      | .ok v h2 => tkF k σ v h2
      | .exc c' v h2 => caughtR C i c s σ c' v h2
      | .bad => .bad)
    | _ => .bad) := by
  rw [run]
  try (cases evL C es σ h <;> rfl)
@[simp] theorem tkF_ex {v : MV} : tkF .ex σ v h = .next σ h := rfl
@[simp] theorem tkF_asg {v : MV} {j : Nat} : tkF (.asg j) σ v h = .next (σ.set j (some v)) h := rfl
@[simp] theorem tkF_ret {v : MV} : tkF .ret σ v h = .ret v h := rfl
@[simp] theorem flatX_int {i : Int} : flatX (.int i) = true := rfl
@[simp] theorem flatX_str {i : Str} : flatX (.str i) = true := rfl
@[simp] theorem wipeO_next {i : Nat} : wipeO i (.next σ h) = .next (σ.set i none) h := rfl
@[simp] theorem wipeO_ret {i : Nat} {v : MV} : wipeO i (.ret v h) = .ret v h := rfl
theorem caught_of {s : MS} {i : Nat} {c c' : Str} {v : MV} {r : Out} (hs : C.sub c' c = some true) (hf : flatX v = true) (hr : ∀ a d, wipeO i (runX { C with xc := some (a, d, c') } s (σ.set i (some (.xcp a d (C.xn c') v))) h) = r) : caughtR C i c s σ c' v h = r := by
  unfold caughtR
  rw [hs]
  simp only [hf, if_true]
  unfold suiteR
  have p : ∃ r, ∀ a d, wipeO i (runX { C with xc := some (a, d, c') } s (σ.set i (some (.xcp a d (C.xn c') v))) h) = r := ⟨r, hr⟩
  rw [dif_pos p, ← Classical.choose_spec p 0 0]
  exact hr 0 0
theorem caught_no {s : MS} {i : Nat} {c c' : Str} {v : MV} (hs : C.sub c' c = some false) : caughtR C i c s σ c' v h = .exc c' v h := by
  unfold caughtR
  rw [hs]
@[simp] theorem runX_skip : runX C .skip σ h = .next σ h := by (rw [runX]; try rfl)
@[simp] theorem runX_seq {a b : MS} : runX C (.seq a b) σ h = (runX C a σ h).seq (runX C b) := by (rw [runX]; try rfl)
@[simp] theorem runX_asg {i : Nat} {e : ME} : runX C (.asg i e) σ h = ((evE C e σ h).out fun v h1 => .next (σ.set i (some v)) h1) := by (rw [runX]; try rfl)
@[simp] theorem runX_ret {e : ME} : runX C (.ret e) σ h = ((evE C e σ h).out fun v h1 => .ret v h1) := by (rw [runX]; try rfl)
@[simp] theorem runX_retN : runX C .retN σ h = .ret .non h := by (rw [runX]; try rfl)
@[simp] theorem runX_ite {c : ME} {a b : MS} : runX C (.ite c a b) σ h = ((evT C c σ h).out fun t h1 => if t = true then runX C a σ h1 else runX C b σ h1) := by (rw [runX]; try rfl)
@[simp] theorem evE_xfl {i : Nat} {f : Str} : evE C (.xfl i f) σ h = (match C.xc, σ[i]? with
    | some (a, d, c), some (some (.xcp a' d' f' v)) => if a = a' ∧ d = d' ∧ f = f' ∧ C.isx c = true ∧ C.xn c = f then .ok v h else .bad
    | _, _ => .bad) := by (rw [evE]; try rfl)
@[simp] theorem evE_xis {i : Nat} {q : Str} : evE C (.xis i q) σ h = (match C.xc, σ[i]? with
    | some (a, d, c), some (some (.xcp a' d' f' v)) => if a = a' ∧ d = d' ∧ C.isx c = true then ofOpt ((C.sub c q).map .bl) h else .bad
    | _, _ => .bad) := by (rw [evE]; try rfl)
end
section
variable {Pm : Pr} {n : Nat}
@[simp] theorem ctx_rok : (ctx Pm (n + 2)).rok = true := rfl
@[simp] theorem ctx_isx {c : Str} : (ctx Pm n).isx c = Pm.isx c := rfl
@[simp] theorem ctx_sub {c d : Str} : (ctx Pm n).sub c d = Pm.sub c d := rfl
@[simp] theorem ctx_xn {c : Str} : (ctx Pm n).xn c = Pm.xn c := rfl
@[simp] theorem ctx_xc : (ctx Pm n).xc = none := rfl
@[simp] theorem finO_exc {raw : Bool} {hm h : MHeap} {c : Str} {v : MV} : finO raw hm (.exc c v h) = .exc c v h := rfl
end
end Mn
namespace Mn
open PySem PySem.Spec PyProof.Rows L2
/-! ### values that repr can show: depth at most n, bulk at most w -/
def Rp (n w : Nat) (v : MV) : Prop := pu n v = true ∧ ∃ d, dv v = some d ∧ d.showable = true ∧ d.leavesShort 13 = true ∧ d.bulk ≤ w
def Rps (n w : Nat) (vs : List MV) : Prop := vs.all (pu n) = true ∧ ∃ ds, dvs vs = some ds ∧ PyData.showableAll ds = true ∧ PyData.leavesShortAll 13 ds = true ∧ PyData.bulkAll ds ≤ w
theorem Rp.mono {n m w u : Nat} {v : MV} (h : Rp n w v) (a : n ≤ m) (b : w ≤ u) : Rp m u v := by
  obtain ⟨p, d, h1, h2, h3, h4⟩ := h
  exact ⟨pu_mono p a, d, h1, h2, h3, by omega⟩
theorem Rps.mono {n m w u : Nat} {v : List MV} (h : Rps n w v) (a : n ≤ m) (b : w ≤ u) : Rps m u v := by
  obtain ⟨p, d, h1, h2, h3, h4⟩ := h
  refine ⟨?_, d, h1, h2, h3, by omega⟩
  rw [List.all_eq_true] at p ⊢
  exact fun x hx => pu_mono (p x hx) a
theorem rp_non {n w : Nat} : Rp n w .non := ⟨by cases n <;> rfl, _, rfl, rfl, rfl, by simp [PyData.bulk]⟩
theorem rp_bl {n w : Nat} {b : Bool} : Rp n w (.bl b) := ⟨by cases n <;> rfl, _, rfl, rfl, rfl, by simp [PyData.bulk]⟩
theorem rp_int {n w : Nat} {i : Int} (h : i.natAbs < 10 ^ 12) : Rp n w (.int i) := by
  refine ⟨by cases n <;> rfl, _, rfl, ?_, ?_, by simp [PyData.bulk]⟩
  · show decide (i.natAbs.log2 < 1920) = true
    refine decide_eq_true ?_
    by_cases c : i.natAbs = 0
    · rw [c]; decide
    · have := (Nat.log2_lt c).mpr (show i.natAbs < 2 ^ 40 by omega)
      omega
  · show decide ((PyData.shown (.int i)).length ≤ 13) = true
    exact decide_eq_true (PyData.shown_int_le h)
theorem rp_str {n w : Nat} {x : Str} (h : PyData.strOk x = true) (l : x.length ≤ w) : Rp n w (.str x) := by
  refine ⟨by cases n <;> exact h, _, rfl, rfl, ?_, ?_⟩
  · show (x.cps.toList.all fun c => decide (c < 16 ^ 8)) = true
    unfold PyData.strOk at h
    rw [Array.all_eq_true'] at h
    rw [List.all_eq_true]
    intro c hc
    have := of_decide_eq_true (h c (by simpa using hc))
    exact decide_eq_true (by omega)
  · show x.cps.size ≤ w
    exact l
theorem rps_nil {n w : Nat} : Rps n w [] := ⟨rfl, [], rfl, rfl, rfl, by simp [PyData.bulkAll]⟩
theorem rps_cons {n a b w : Nat} {x : MV} {xs : List MV} (h : Rp n a x) (t : Rps n b xs) (l : a + 1 + b ≤ w) : Rps n w (x :: xs) := by
  obtain ⟨p, d, h1, h2, h3, h4⟩ := h
  obtain ⟨q, ds, t1, t2, t3, t4⟩ := t
  refine ⟨by rw [List.all_cons, p, q]; rfl, d :: ds, by rw [dvs_cons, h1, t1], ?_, ?_, ?_⟩
  · unfold PyData.showableAll; rw [h2, t2]; rfl
  · unfold PyData.leavesShortAll; rw [h3, t3]; rfl
  · unfold PyData.bulkAll; omega
theorem rps_all {n w u : Nat} : ∀ {xs : List MV}, (∀ x ∈ xs, Rp n w x) → xs.length * (w + 1) ≤ u → Rps n u xs
  | [], _, _ => rps_nil
  | x :: xs, h, l => by
    rw [List.length_cons, Nat.succ_mul] at l
    exact rps_cons (b := xs.length * (w + 1)) (h x List.mem_cons_self) (rps_all (fun y hy => h y (List.mem_cons_of_mem _ hy)) (Nat.le_refl _)) (by omega)
theorem rp_tup {n w : Nat} {xs : List MV} (h : Rps n w xs) : Rp (n + 1) w (.tup xs) := by
  obtain ⟨p, ds, h1, h2, h3, h4⟩ := h
  refine ⟨by unfold pu; exact p, .tuple ds, by rw [dv_tup, h1]; rfl, ?_, ?_, ?_⟩
  · unfold PyData.showable; exact h2
  · unfold PyData.leavesShort; exact h3
  · unfold PyData.bulk; exact h4
theorem rp_lst {n w : Nat} {xs : List MV} (h : Rps n w xs) : Rp (n + 1) w (.lst xs) := by
  obtain ⟨p, ds, h1, h2, h3, h4⟩ := h
  refine ⟨by unfold pu; exact p, .list ds, by rw [dv_lst, h1]; rfl, ?_, ?_, ?_⟩
  · unfold PyData.showable; exact h2
  · unfold PyData.leavesShort; exact h3
  · unfold PyData.bulk; exact h4
theorem rp_rpr {n w : Nat} {v : MV} (h : Rp n w v) (hc : conM v = true) (hn : n ≤ 40) (hw : w ≤ 2 ^ 20) : ∃ x : Str, ∀ h, rprV h v = some x := by
  obtain ⟨p, d, h1, h2, h3, h4⟩ := h
  obtain ⟨d', e1, e2, e3, e4⟩ := pu_data (h := []) p
  rw [h1] at e1
  cases e1
  refine ⟨d.shown, fun h => ?_⟩
  obtain ⟨d', f1, f2, f3, f4⟩ := pu_data (h := h) p
  rw [h1] at f1
  cases f1
  unfold rprV
  rw [f2]
  exact if_pos ⟨hc, h2, PyData.hasDict_of_canLay d e3, by omega, PyData.shown_fits_bulk (B := 13) (by decide) (by decide) h3 (by omega)⟩
end Mn
namespace Mn
open PySem PySem.Spec PyProof.Rows L2
theorem datGs_cons {f : Nat → Option (List PyData)} {x : MV} {xs : List MV} : datGs f (x :: xs) = (match datG f x, datGs f xs with
    | some d, some ds => some (d :: ds)
    | _, _ => none) := by
  (rw [datGs]; try rfl)
theorem datL_cons {f : MV → Option PyData} {x : MV} {xs : List MV} : datL f (x :: xs) = (match f x, datL f xs with
    | some d, some ds => some (d :: ds)
    | _, _ => none) := rfl
theorem datL_pu {h : MHeap} {n : Nat} : ∀ {xs : List MV}, xs.all (pu n) = true → datL (datF h 7) xs = datGs (rdH h 8) xs
  | [], _ => rfl
  | x :: xs, p => by
    rw [List.all_cons, Bool.and_eq_true] at p
    obtain ⟨d, _, a2, _⟩ := pu_data (h := h) p.1
    rw [datL_cons, datGs_cons, datL_pu p.2, ← datF_eq, a2 7, a2 8]
theorem dat_ref {h : MHeap} {r n : Nat} {xs : List MV} (e : h[r]? = some (.lst xs)) (p : xs.all (pu n) = true) : datF h 8 (.ref r) = datF h 8 (.lst xs) := by
  have e1 : datF h 8 (.lst xs) = (datGs (rdH h 8) xs).map .list := by rw [datF_eq, datG]
  have e2 : datF h 8 (.ref r) = (datL (datF h 7) xs).map .list := by
    rw [datF_eq, datG]
    show Option.map _ (match h[r]? with
      | some (.lst xs) => datL (datF h 7) xs
      | _ => none) = _
    rw [e]
  rw [e1, e2, datL_pu p]
/-- a live list of pure values == the same list -/
theorem eq_rl {h : MHeap} {r : Nat} {xs : List MV} (n : Nat) (hn : n ≤ 63) (e : h[r]? = some (.lst xs)) (p : xs.all (pu n) = true) : eqR (.ref r) (.lst xs) h = some true := by
  obtain ⟨d, a1, a2, a3, a4⟩ := pu_data (h := h) (v := .lst xs) (n := n + 1) (by rw [pu_lst]; exact p)
  have sh : SeqAt.shaped d = true := by unfold SeqAt.shaped; rw [a3, decide_eq_true (by omega : d.depth ≤ 64)]; rfl
  rw [eq_sh (by rw [dat_ref e p]; exact a2 8) (a2 8) sh sh, SeqAt.eqv_refl d a3]
theorem eq_lr {h : MHeap} {r : Nat} {xs : List MV} (n : Nat) (hn : n ≤ 63) (e : h[r]? = some (.lst xs)) (p : xs.all (pu n) = true) : eqR (.lst xs) (.ref r) h = some true := by
  obtain ⟨d, a1, a2, a3, a4⟩ := pu_data (h := h) (v := .lst xs) (n := n + 1) (by rw [pu_lst]; exact p)
  have sh : SeqAt.shaped d = true := by unfold SeqAt.shaped; rw [a3, decide_eq_true (by omega : d.depth ≤ 64)]; rfl
  rw [eq_sh (a2 8) (by rw [dat_ref e p]; exact a2 8) sh sh, SeqAt.eqv_refl d a3]
theorem bls_true {α : Type} : ∀ {D : List α}, blsM (D.map fun _ => MV.bl true) = some (D.map fun _ => true)
  | [] => rfl
  | a :: r => by
    rw [List.map_cons]
    unfold blsM
    rw [bls_true (D := r)]
    rfl
theorem all_trues {α : Type} {D : List α} {h : MHeap} : bfV .all [.lst (D.map fun _ => MV.bl true)] h = .ok (.bl true) h := by
  show (match blsM (D.map fun _ => MV.bl true) with
        | some ns => Rs.ok (MV.bl (ns.all id)) h
        | none => .bad) = _
  rw [bls_true]
  have : (D.map fun _ => true).all id = true := by rw [List.all_eq_true]; intro x hx; obtain ⟨y, _, rfl⟩ := List.mem_map.mp hx; rfl
  simp only [this]
theorem zmap {α β : Type} {f : α → β} {l : List α} : (l.zipIdx.map fun p => f p.1) = l.map f := by
  have e : (l.zipIdx.map fun p => f p.1) = (l.zipIdx.map Prod.fst).map f := by rw [List.map_map]; rfl
  rw [e, List.zipIdx_map_fst]
theorem zip_snoc {α : Type} {T : List α} {t : α} : (T ++ [t]).zipIdx = T.zipIdx ++ [(t, T.length)] := by
  rw [List.zipIdx_append]
  simp
theorem fold_maxP {α : Type} (P : α → Prop) [DecidablePred P] (v : Int) : ∀ (ts : List α) (b : Int), ts.foldl (fun b t => if P t then max b v else b) b = if (∃ t ∈ ts, P t) then max b v else b
  | [], b => by simp
  | t :: ts, b => by
    rw [List.foldl_cons, fold_maxP P v ts]
    by_cases h : P t
    · rw [if_pos h, if_pos (⟨t, List.mem_cons_self .., h⟩ : ∃ u ∈ t :: ts, P u)]
      split <;> omega
    · rw [if_neg h]
      have e : (∃ u ∈ ts, P u) ↔ ∃ u ∈ t :: ts, P u := by
        constructor
        · rintro ⟨u, hu, h2⟩; exact ⟨u, List.mem_cons_of_mem _ hu, h2⟩
        · rintro ⟨u, hu, h2⟩
          rcases List.mem_cons.mp hu with rfl | hu
          · exact absurd h2 h
          · exact ⟨u, hu, h2⟩
      simp only [e]
theorem count_sorted {α : Type} (lt : α → α → Bool) : ∀ {l : List α} {r : Nat} {x : α}, l.Pairwise (fun a b => lt a b = true ∧ lt b a = false) → lt x x = false → l[r]? = some x → l.countP (fun y => lt y x) = r
  | [], r, x, _, _, h => by simp at h
  | a :: l, 0, x, p, hx, h => by
    simp at h
    subst h
    rw [List.countP_cons, hx, List.countP_eq_zero.mpr fun b hb => by rw [(List.rel_of_pairwise_cons p hb).2]; simp]
    simp
  | a :: l, r + 1, x, p, hx, h => by
    rw [List.getElem?_cons_succ] at h
    rw [List.countP_cons, count_sorted lt (List.Pairwise.of_cons p) hx h, (List.rel_of_pairwise_cons p (List.mem_of_getElem? h)).1]
    simp
theorem max2_int {i j : Int} {h : MHeap} : bfV .max2 [.int i, .int j] h = .ok (.int (max i j)) h := by
  show Rs.ok (MV.int (if j > i then j else i)) h = _
  congr 2
  by_cases e : j > i
  · rw [if_pos e]; omega
  · rw [if_neg e]; omega
theorem lex2 {a b c d : Int} : lexG [a, b] [c, d] = decide (c < a ∨ (c = a ∧ d < b)) := by
  unfold lexG
  by_cases h : a = c
  · subst h
    rw [if_pos rfl]
    unfold lexG
    by_cases h2 : b = d
    · subst h2
      rw [if_pos rfl]
      simp [lexG]
    · rw [if_neg h2]
      simp
  · rw [if_neg h]
    refine decide_eq_decide.mpr ?_
    omega
end Mn
namespace Mn
open PySem PySem.Spec PyProof.Rows L2
/-! ### more common facts -/
def NX (I : MSt → MHeap → Prop) (o : Out) : Prop := ∃ σ h, o = .next σ h ∧ I σ h
theorem nx_turn {I K : MSt → MHeap → Prop} {Q : Out → Prop} {o : Out} (h : NX I o) : LTurn I K Q o := by
  obtain ⟨σ, h, rfl, i⟩ := h
  exact i
@[simp] theorem atI_last {α : Type} {xs : List α} : atI xs (-1) = xs.getLast? := by
  unfold atI ixN
  cases xs with
  | nil => simp
  | cons x r =>
    have h1 : ¬ (0 : Int) ≤ -1 := by omega
    rw [if_neg h1]
    have h2 : -((x :: r).length : Int) ≤ -1 := by rw [List.length_cons]; omega
    rw [List.getLast?_eq_getElem?]
    first
    | (rw [if_pos h2]
       show (x :: r)[(((x :: r).length : Int) + -1).toNat]? = _
       congr 1
       omega)
    | (simp [h2]; omega)
theorem last_map {α β : Type} {f : α → β} {xs : List α} : (xs.map f).getLast? = xs.getLast?.map f := List.getLast?_map ..
def Bl (v : MV) : Prop := ∀ L, below L v = true
@[simp] theorem bl_int {i : Int} : Bl (.int i) := fun _ => below_int
@[simp] theorem bl_bl {i : Bool} : Bl (.bl i) := fun _ => below_bl
@[simp] theorem bl_str {i : Str} : Bl (.str i) := fun _ => below_str
@[simp] theorem bl_non : Bl .non := fun _ => below_non
@[simp] theorem bl_tup {xs : List MV} : Bl (.tup xs) ↔ ∀ x ∈ xs, Bl x := ⟨fun h x hx L => belows_all.mp (by have := h L; rwa [below_tup] at this) x hx, fun h L => by rw [below_tup]; exact belows_all.mpr fun x hx => h x hx L⟩
@[simp] theorem bl_lst {xs : List MV} : Bl (.lst xs) ↔ ∀ x ∈ xs, Bl x := ⟨fun h x hx L => belows_all.mp (by have := h L; rwa [below_lst] at this) x hx, fun h L => by rw [below_lst]; exact belows_all.mpr fun x hx => h x hx L⟩
theorem bl_ints {ns : List Int} : Bl (.lst (ns.map .int)) := bl_lst.mpr fun x hx => by obtain ⟨y, _, rfl⟩ := List.mem_map.mp hx; simp
theorem pu_bl_ {n : Nat} {v : MV} (h : pu n v = true) : Bl v := fun _ => below_pu h
/-- a call that changed one old object and left new ones -/
theorem fin_sapp {h t : MHeap} {r : Nat} {o : MO} {v : MV} (hb : below h.length v = true) (ho : belowO h.length o = true) : finV false h v (h.set r o ++ t) = .ok v (h.set r o) := by
  rw [fin_take ⟨hb, fun k p hk e => ?_⟩]
  · rw [show h.length = (h.set r o).length from by simp, List.take_left]
  · rw [List.getElem?_append_left (by simpa using hk)] at e
    by_cases hr : r = k
    · subst hr
      rw [List.getElem?_set] at e
      simp [hk] at e
      subst e
      exact .inr ho
    · rw [List.getElem?_set_ne hr] at e
      exact .inl e
/-- a new live list of pure values, frozen at the end of a call -/
theorem ret_frz {C : Ct} {σ : MSt} {h : MHeap} {r : Nat} {i : Nat} {xs : List MV} {m : Nat} (hi : σ[i]? = some (some (.ref r))) (hr : h[r]? = some (.lst xs)) (p : xs.all (pu m) = true) (hm : m < 39) : run C (.seq (.ret (.frz (.var i))) .skip) σ h = .ret (.lst xs) (h.set r .dead) := by
  have e := frz_ref hr p hm
  simp [hi, e]
end Mn
/-! ### the trees of this law -/
namespace Lw
open PySem PySem.Spec PyProof.Rows L2 Mn

def N_wrap : List Str := ["n"]
def b_wrap : MS := .seq (.ret (.bin .Mod (.var 0) (.con "MODULUS")))
    .skip
def d_wrap : Fn := ⟨1, 1, false, b_wrap⟩
def N_signed : List Str := ["w"]
def b_signed : MS := .seq (.ite (.cmp .Lt (.var 0) (.con "SIGN"))
    (.seq (.ret (.var 0))
    .skip)
    .skip)
    (.seq (.ret (.bin .Sub (.var 0) (.con "MODULUS")))
    .skip)
def d_signed : Fn := ⟨1, 1, false, b_signed⟩
def N__arithmetic : List Str := ["operator", "a", "b"]
def b__arithmetic : MS := .seq (.ite (.cmp .Eq (.var 0) (.str "+"))
    (.seq (.ret (.call "wrap" (.cons (.bin .Add (.var 1) (.var 2)) .nil)))
    .skip)
    .skip)
    (.seq (.ite (.cmp .Eq (.var 0) (.str "-"))
    (.seq (.ret (.call "wrap" (.cons (.bin .Sub (.var 1) (.var 2)) .nil)))
    .skip)
    .skip)
    (.seq (.ite (.cmp .Eq (.var 0) (.str "*"))
    (.seq (.ret (.call "wrap" (.cons (.bin .Mult (.var 1) (.var 2)) .nil)))
    .skip)
    .skip)
    (.seq (.ite (.cmp .Eq (.var 0) (.str "/"))
    (.seq (.ret (.ife (.cmp .Eq (.var 2) (.int 0)) (.int 0) (.bin .FloorDiv (.var 1) (.var 2))))
    .skip)
    .skip)
    (.seq (.ite (.cmp .Eq (.var 0) (.str "mod"))
    (.seq (.ret (.ife (.cmp .Eq (.var 2) (.int 0)) (.var 1) (.bin .Mod (.var 1) (.var 2))))
    .skip)
    .skip)
    (.seq (.ret .non)
    .skip)))))
def d__arithmetic : Fn := ⟨3, 3, false, b__arithmetic⟩
def N__bits : List Str := ["operator", "a", "b"]
def b__bits : MS := .seq (.ite (.cmp .Eq (.var 0) (.str "&"))
    (.seq (.ret (.bin .BitAnd (.var 1) (.var 2)))
    .skip)
    .skip)
    (.seq (.ite (.cmp .Eq (.var 0) (.str "|"))
    (.seq (.ret (.bin .BitOr (.var 1) (.var 2)))
    .skip)
    .skip)
    (.seq (.ite (.cmp .Eq (.var 0) (.str "^"))
    (.seq (.ret (.bin .BitXor (.var 1) (.var 2)))
    .skip)
    .skip)
    (.seq (.ite (.cmp .Eq (.var 0) (.str "<<"))
    (.seq (.ret (.call "wrap" (.cons (.bin .LShift (.var 1) (.bin .BitAnd (.var 2) (.int 31))) .nil)))
    .skip)
    .skip)
    (.seq (.ite (.cmp .Eq (.var 0) (.str ">>"))
    (.seq (.ret (.bin .RShift (.var 1) (.bin .BitAnd (.var 2) (.int 31))))
    .skip)
    .skip)
    (.seq (.ret .non)
    .skip)))))
def d__bits : Fn := ⟨3, 3, false, b__bits⟩
def N__truth : List Str := ["operator", "a", "b"]
def b__truth : MS := .seq (.ite (.cmp .Eq (.var 0) (.str "<"))
    (.seq (.ret (.cmp .Lt (.var 1) (.var 2)))
    .skip)
    .skip)
    (.seq (.ite (.cmp .Eq (.var 0) (.str "<="))
    (.seq (.ret (.cmp .LtE (.var 1) (.var 2)))
    .skip)
    .skip)
    (.seq (.ite (.cmp .Eq (.var 0) (.str "~<"))
    (.seq (.ret (.cmp .Lt (.call "signed" (.cons (.var 1) .nil)) (.call "signed" (.cons (.var 2) .nil))))
    .skip)
    .skip)
    (.seq (.ite (.cmp .Eq (.var 0) (.str "~<="))
    (.seq (.ret (.cmp .LtE (.call "signed" (.cons (.var 1) .nil)) (.call "signed" (.cons (.var 2) .nil))))
    .skip)
    .skip)
    (.seq (.ite (.cmp .Eq (.var 0) (.str "=="))
    (.seq (.ret (.cmp .Eq (.var 1) (.var 2)))
    .skip)
    .skip)
    (.seq (.ite (.cmp .Eq (.var 0) (.str "!="))
    (.seq (.ret (.cmp .NotEq (.var 1) (.var 2)))
    .skip)
    .skip)
    (.seq (.ite (.cmp .Eq (.var 0) (.str "and"))
    (.seq (.ret (.and (.cmp .NotEq (.var 1) (.int 0)) (.cmp .NotEq (.var 2) (.int 0))))
    .skip)
    .skip)
    (.seq (.ret (.or (.cmp .NotEq (.var 1) (.int 0)) (.cmp .NotEq (.var 2) (.int 0))))
    .skip)))))))
def d__truth : Fn := ⟨3, 3, false, b__truth⟩
def N_combine : List Str := ["operator", "a", "b", "value"]
def b_combine : MS := .seq (.asg 3 (.call "_arithmetic" (.cons (.var 0) (.cons (.var 1) (.cons (.var 2) .nil)))))
    (.seq (.ite (.cmp .Is (.var 3) .non)
    (.seq (.asg 3 (.call "_bits" (.cons (.var 0) (.cons (.var 1) (.cons (.var 2) .nil)))))
    .skip)
    .skip)
    (.seq (.ite (.cmp .Is (.var 3) .non)
    (.seq (.asg 3 (.bc .int (.cons (.call "_truth" (.cons (.var 0) (.cons (.var 1) (.cons (.var 2) .nil)))) .nil)))
    .skip)
    .skip)
    (.seq (.ret (.var 3))
    .skip)))
def d_combine : Fn := ⟨3, 4, false, b_combine⟩
def N_alter : List Str := ["operator", "a"]
def b_alter : MS := .seq (.ite (.cmp .Eq (.var 0) (.str "neg"))
    (.seq (.ret (.call "wrap" (.cons (.neg (.var 1)) .nil)))
    .skip)
    .skip)
    (.seq (.ite (.cmp .Eq (.var 0) (.str "inv"))
    (.seq (.ret (.bin .BitXor (.con "MASK") (.var 1)))
    .skip)
    .skip)
    (.seq (.ret (.bc .int (.cons (.cmp .Eq (.var 1) (.int 0)) .nil)))
    .skip))
def d_alter : Fn := ⟨2, 2, false, b_alter⟩
def N_evaluate : List Str := ["e", "names", "kind", "row", "left"]
def b_evaluate : MS := .seq (.asg 2 (.idx (.var 0) (.int 0)))
    (.seq (.ite (.cmp .Eq (.var 2) (.str "num"))
    (.seq (.ret (.idx (.var 0) (.int 1)))
    .skip)
    .skip)
    (.seq (.ite (.cmp .Eq (.var 2) (.str "cell"))
    (.seq (.ret (.idx (.x2 .dix (.var 1) (.idx (.var 0) (.int 1))) (.int 0)))
    .skip)
    .skip)
    (.seq (.ite (.cmp .Eq (.var 2) (.str "at"))
    (.seq (.asg 3 (.x2 .dix (.var 1) (.idx (.var 0) (.int 1))))
    (.seq (.ret (.idx (.var 3) (.bin .Mod (.call "evaluate" (.cons (.idx (.var 0) (.int 2)) (.cons (.var 1) .nil))) (.bc .len (.cons (.var 3) .nil)))))
    .skip))
    .skip)
    (.seq (.ite (.cmp .In (.var 2) (.tup (.cons (.str "neg") (.cons (.str "inv") (.cons (.str "not") .nil)))))
    (.seq (.ret (.call "alter" (.cons (.var 2) (.cons (.call "evaluate" (.cons (.idx (.var 0) (.int 1)) (.cons (.var 1) .nil))) .nil))))
    .skip)
    .skip)
    (.seq (.asg 4 (.call "evaluate" (.cons (.idx (.var 0) (.int 1)) (.cons (.var 1) .nil))))
    (.seq (.ret (.call "combine" (.cons (.var 2) (.cons (.var 4) (.cons (.call "evaluate" (.cons (.idx (.var 0) (.int 2)) (.cons (.var 1) .nil))) .nil)))))
    .skip))))))
def d_evaluate : Fn := ⟨2, 5, false, b_evaluate⟩
def N__law_state : List Str := ["script", "seed", "cell"]
def b__law_state : MS := .seq (.asg 1 (.int 7))
    (.seq (.for_ (.nm 2) (.iv (.var 0))
    (.seq (.asg 1 (.bin .Mod (.bc .int (.cons (.bin .Add (.bin .Mult (.var 1) (.int 31)) (.var 2)) .nil)) (.int 1000003)))
    .skip))
    (.seq (.ret (.mk true (.fl (.cons (.mk true (.fc [2] (.nm 2) (.bc .abs (.cons (.bc .int (.cons (.var 2) .nil)) .nil)) (.iv (.var 0)) .nil)) (.cons (.bin .Add (.var 1) (.int 1)) .nil)))))
    .skip))
def d__law_state : Fn := ⟨1, 3, true, b__law_state⟩
def N__law_draw : List Str := ["state", "many", "cells", "value", "mixed"]
def b__law_draw : MS := .seq (.asg 2 (.idx (.var 0) (.int 0)))
    (.seq (.whl (.and (.cmp .Gt (.bc .len (.cons (.var 2) .nil)) (.int 0)) (.cmp .Eq (.idx (.var 2) (.int 0)) (.int 0)))
    (.seq (.ex (.bm .pop0 (.var 2) (.cons (.int 0) .nil)))
    .skip))
    (.seq (.ite (.cmp .Gt (.bc .len (.cons (.var 2) .nil)) (.int 0))
    (.seq (.asg 3 (.idx (.var 2) (.int 0)))
    (.seq (.seti (.var 2) (.int 0) (.bin .FloorDiv (.var 3) (.var 1)))
    (.seq (.ret (.bin .Mod (.bc .int (.cons (.var 3) .nil)) (.var 1)))
    .skip)))
    .skip)
    (.seq (.asg 4 (.bin .Mod (.bc .int (.cons (.bin .Add (.bin .Mult (.idx (.var 0) (.int 1)) (.int 48271)) (.int 12345)) .nil)) (.int 2147483647)))
    (.seq (.seti (.var 0) (.int 1) (.var 4))
    (.seq (.ret (.bin .Mod (.bc .int (.cons (.bin .FloorDiv (.var 4) (.int 64)) .nil)) (.var 1)))
    .skip)))))
def d__law_draw : Fn := ⟨2, 5, false, b__law_draw⟩
def N__law_pick : List Str := ["state", "row"]
def b__law_pick : MS := .seq (.ret (.idx (.var 1) (.call "_law_draw" (.cons (.var 0) (.cons (.bc .len (.cons (.var 1) .nil)) .nil)))))
    .skip
def d__law_pick : Fn := ⟨2, 2, false, b__law_pick⟩
def N__law_word : List Str := ["state", "edges"]
def b__law_word : MS := .seq (.asg 1 (.mk false (.fl (.cons (.int 0) (.cons (.int 1) (.cons (.int 32768) (.cons (.int 65535) (.cons (.int 65536) (.cons (.int 2147483647) (.cons (.int 2147483648) (.cons (.int 4294967295) .nil)))))))))))
    (.seq (.ite (.cmp .Eq (.call "_law_draw" (.cons (.var 0) (.cons (.int 3) .nil))) (.int 0))
    (.seq (.ret (.call "_law_pick" (.cons (.var 0) (.cons (.var 1) .nil))))
    .skip)
    .skip)
    (.seq (.ret (.call "_law_draw" (.cons (.var 0) (.cons (.call "_law_pick" (.cons (.var 0) (.cons (.mk false (.fl (.cons (.int 7) (.cons (.int 4294967296) .nil)))) .nil))) .nil))))
    .skip))
def d__law_word : Fn := ⟨1, 2, false, b__law_word⟩
def N__law_expr : List Str := ["state", "env", "deep", "signs", "kind", "name", "size", "rows", "first"]
def b__law_expr : MS := .seq (.asg 3 (.mk false (.fl (.cons (.str "+") (.cons (.str "-") (.cons (.str "*") (.cons (.str "/") (.cons (.str "mod") (.cons (.str "&") (.cons (.str "|") (.cons (.str "^") (.cons (.str "<<") (.cons (.str ">>") (.cons (.str "<") (.cons (.str "<=") (.cons (.str "~<") (.cons (.str "~<=") (.cons (.str "==") (.cons (.str "!=") (.cons (.str "and") (.cons (.str "or") .nil)))))))))))))))))))))
    (.seq (.asg 4 (.call "_law_draw" (.cons (.var 0) (.cons (.int 6) .nil))))
    (.seq (.ite (.or (.cmp .LtE (.var 2) (.int 1)) (.cmp .Lt (.var 4) (.int 2)))
    (.seq (.asg 7 (.mk false (.fca (.mk false (.fc [5, 6] (.tp [5, 6]) (.tup (.cons (.str "cell") (.cons (.var 5) .nil))) (.iv (.idx (.var 1) (.int 0))) (.cons (.cmp .Eq (.var 6) (.int 0)) .nil))) (.mk false (.fc [5] (.nm 5) (.tup (.cons (.str "cell") (.cons (.var 5) .nil))) (.iv (.idx (.var 1) (.int 1))) .nil)))))
    (.seq (.ite (.or (.cmp .Eq (.bc .len (.cons (.var 7) .nil)) (.int 0)) (.cmp .Eq (.call "_law_draw" (.cons (.var 0) (.cons (.int 3) .nil))) (.int 0)))
    (.seq (.ret (.tup (.cons (.str "num") (.cons (.call "_law_word" (.cons (.var 0) .nil)) .nil))))
    .skip)
    .skip)
    (.seq (.ret (.call "_law_pick" (.cons (.var 0) (.cons (.var 7) .nil))))
    .skip)))
    .skip)
    (.seq (.asg 7 (.mk false (.fc [5, 6] (.tp [5, 6]) (.var 5) (.iv (.idx (.var 1) (.int 0))) (.cons (.cmp .Gt (.var 6) (.int 0)) .nil))))
    (.seq (.ite (.and (.cmp .Eq (.var 4) (.int 2)) (.cmp .Gt (.bc .len (.cons (.var 7) .nil)) (.int 0)))
    (.seq (.ret (.tup (.cons (.str "at") (.cons (.call "_law_pick" (.cons (.var 0) (.cons (.var 7) .nil))) (.cons (.call "_law_expr" (.cons (.var 0) (.cons (.var 1) (.cons (.bin .Sub (.var 2) (.int 1)) .nil)))) .nil)))))
    .skip)
    .skip)
    (.seq (.ite (.cmp .Eq (.var 4) (.int 3))
    (.seq (.ret (.tup (.cons (.call "_law_pick" (.cons (.var 0) (.cons (.mk false (.fl (.cons (.str "neg") (.cons (.str "inv") (.cons (.str "not") .nil))))) .nil))) (.cons (.call "_law_expr" (.cons (.var 0) (.cons (.var 1) (.cons (.bin .Sub (.var 2) (.int 1)) .nil)))) .nil))))
    .skip)
    .skip)
    (.seq (.asg 8 (.call "_law_expr" (.cons (.var 0) (.cons (.var 1) (.cons (.bin .Sub (.var 2) (.int 1)) .nil)))))
    (.seq (.ret (.tup (.cons (.call "_law_pick" (.cons (.var 0) (.cons (.var 3) .nil))) (.cons (.var 8) (.cons (.call "_law_expr" (.cons (.var 0) (.cons (.var 1) (.cons (.bin .Sub (.var 2) (.int 1)) .nil)))) .nil)))))
    .skip)))))))
def d__law_expr : Fn := ⟨3, 9, false, b__law_expr⟩
def N__law_two : List Str := ["sign", "a", "b", "left", "right", "rows"]
def b__law_two : MS := .seq (.ite (.cmp .In (.var 0) (.mk false (.fl (.cons (.str "/") (.cons (.str "mod") .nil)))))
    (.seq (.ite (.cmp .Eq (.var 2) (.int 0))
    (.seq (.ret (.idx (.mk false (.fl (.cons (.int 0) (.cons (.var 1) .nil)))) (.bc .int (.cons (.cmp .Eq (.var 0) (.str "mod")) .nil))))
    .skip)
    .skip)
    (.seq (.ret (.idx (.mk false (.fl (.cons (.bin .FloorDiv (.var 1) (.var 2)) (.cons (.bin .Mod (.bc .int (.cons (.var 1) .nil)) (.var 2)) .nil)))) (.bc .int (.cons (.cmp .Eq (.var 0) (.str "mod")) .nil))))
    .skip))
    .skip)
    (.seq (.ite (.cmp .Eq (.var 0) (.str "<<"))
    (.seq (.ret (.bin .Mod (.bc .int (.cons (.bin .LShift (.var 1) (.bin .Mod (.bc .int (.cons (.var 2) .nil)) (.int 32))) .nil)) (.int 4294967296)))
    .skip)
    .skip)
    (.seq (.ite (.cmp .Eq (.var 0) (.str ">>"))
    (.seq (.ret (.bin .RShift (.var 1) (.bin .Mod (.bc .int (.cons (.var 2) .nil)) (.int 32))))
    .skip)
    .skip)
    (.seq (.asg 3 (.var 1))
    (.seq (.asg 4 (.var 2))
    (.seq (.ite (.cmp .In (.var 0) (.mk false (.fl (.cons (.str "~<") (.cons (.str "~<=") .nil)))))
    (.seq (.asg 3 (.bin .Mod (.bc .int (.cons (.bin .Add (.var 1) (.int 2147483648)) .nil)) (.int 4294967296)))
    (.seq (.asg 4 (.bin .Mod (.bc .int (.cons (.bin .Add (.var 2) (.int 2147483648)) .nil)) (.int 4294967296)))
    .skip))
    .skip)
    (.seq (.asg 5 (.dd (.cons (.str "+") (.cons (.bin .Add (.var 1) (.var 2)) (.cons (.str "-") (.cons (.bin .Sub (.var 1) (.var 2)) (.cons (.str "*") (.cons (.bin .Mult (.var 1) (.var 2)) (.cons (.str "&") (.cons (.bin .BitAnd (.var 1) (.var 2)) (.cons (.str "|") (.cons (.bin .BitOr (.var 1) (.var 2)) (.cons (.str "^") (.cons (.bin .BitXor (.var 1) (.var 2)) (.cons (.str "<") (.cons (.bc .int (.cons (.cmp .Lt (.var 1) (.var 2)) .nil)) (.cons (.str "<=") (.cons (.bc .int (.cons (.cmp .LtE (.var 1) (.var 2)) .nil)) (.cons (.str "~<") (.cons (.bc .int (.cons (.cmp .Lt (.var 3) (.var 4)) .nil)) (.cons (.str "~<=") (.cons (.bc .int (.cons (.cmp .LtE (.var 3) (.var 4)) .nil)) (.cons (.str "==") (.cons (.bc .int (.cons (.cmp .Eq (.var 1) (.var 2)) .nil)) (.cons (.str "!=") (.cons (.bc .int (.cons (.cmp .NotEq (.var 1) (.var 2)) .nil)) (.cons (.str "and") (.cons (.bc .int (.cons (.and (.cmp .Gt (.var 1) (.int 0)) (.cmp .Gt (.var 2) (.int 0))) .nil)) (.cons (.str "or") (.cons (.bc .int (.cons (.or (.cmp .Gt (.var 1) (.int 0)) (.cmp .Gt (.var 2) (.int 0))) .nil)) .nil))))))))))))))))))))))))))))))
    (.seq (.ret (.bin .Mod (.bc .int (.cons (.x2 .dix (.var 5) (.var 0)) .nil)) (.int 4294967296)))
    .skip)))))))
def d__law_two : Fn := ⟨3, 6, false, b__law_two⟩
def N__law_value : List Str := ["e", "names", "row", "left"]
def b__law_value : MS := .seq (.ite (.cmp .Eq (.idx (.var 0) (.int 0)) (.str "num"))
    (.seq (.ret (.idx (.var 0) (.int 1)))
    .skip)
    .skip)
    (.seq (.ite (.cmp .Eq (.idx (.var 0) (.int 0)) (.str "cell"))
    (.seq (.ret (.idx (.x2 .dix (.var 1) (.idx (.var 0) (.int 1))) (.int 0)))
    .skip)
    .skip)
    (.seq (.ite (.cmp .Eq (.idx (.var 0) (.int 0)) (.str "at"))
    (.seq (.asg 2 (.x2 .dix (.var 1) (.idx (.var 0) (.int 1))))
    (.seq (.ret (.idx (.var 2) (.bin .Mod (.bc .int (.cons (.call "_law_value" (.cons (.idx (.var 0) (.int 2)) (.cons (.var 1) .nil))) .nil)) (.bc .len (.cons (.var 2) .nil)))))
    .skip))
    .skip)
    (.seq (.asg 3 (.call "_law_value" (.cons (.idx (.var 0) (.int 1)) (.cons (.var 1) .nil))))
    (.seq (.ite (.cmp .In (.idx (.var 0) (.int 0)) (.mk false (.fl (.cons (.str "neg") (.cons (.str "inv") (.cons (.str "not") .nil))))))
    (.seq (.ret (.x2 .dix (.dd (.cons (.str "neg") (.cons (.bin .Mod (.bc .int (.cons (.bin .Sub (.int 0) (.var 3)) .nil)) (.int 4294967296)) (.cons (.str "inv") (.cons (.bin .Sub (.int 4294967295) (.var 3)) (.cons (.str "not") (.cons (.bc .int (.cons (.cmp .Eq (.var 3) (.int 0)) .nil)) .nil))))))) (.idx (.var 0) (.int 0))))
    .skip)
    .skip)
    (.seq (.ret (.call "_law_two" (.cons (.idx (.var 0) (.int 0)) (.cons (.var 3) (.cons (.call "_law_value" (.cons (.idx (.var 0) (.int 2)) (.cons (.var 1) .nil))) .nil)))))
    .skip)))))
def d__law_value : Fn := ⟨2, 4, false, b__law_value⟩
def N__law_parts : List Str := ["e", "part"]
def b__law_parts : MS := .seq (.ret (.bin .Add (.int 1) (.bc .sum (.cons (.mk false (.fc [1] (.nm 1) (.call "_law_parts" (.cons (.var 1) .nil)) (.iv (.x2 .tsl (.var 0) (.int 1))) (.cons (.tru (.bc .isTuple (.cons (.var 1) .nil))) .nil))) .nil))))
    .skip
def d__law_parts : Fn := ⟨1, 2, false, b__law_parts⟩
def N_law : List Str := ["script", "state", "cells", "names", "name", "size", "k", "before", "e", "due", "actual"]
def b_law : MS := .seq (.asg 1 (.call "_law_state" (.cons (.var 0) .nil)))
    (.seq (.asg 2 (.mk false (.fl (.cons (.tup (.cons (.str "first") (.cons (.int 0) .nil))) (.cons (.tup (.cons (.str "row") (.cons (.bin .Add (.int 1) (.call "_law_draw" (.cons (.var 1) (.cons (.int 64) .nil)))) .nil))) (.cons (.tup (.cons (.str "x") (.cons (.int 0) .nil))) (.cons (.tup (.cons (.str "y") (.cons (.int 2) .nil))) .nil)))))))
    (.seq (.asg 3 (.dd .nil))
    (.seq (.for_ (.tp [4, 5]) (.iv (.var 2))
    (.seq (.setd (.var 3) (.var 4) (.mk true (.fc [6] (.nm 6) (.call "_law_word" (.cons (.var 1) .nil)) (.ir1 (.bc .max2 (.cons (.int 1) (.cons (.var 5) .nil)))) .nil)))
    .skip))
    (.seq (.asg 7 (.x1 .rpr (.var 3)))
    (.seq (.for_ (.nm 6) (.ir1 (.int 3))
    (.seq (.asg 8 (.call "_law_expr" (.cons (.var 1) (.cons (.mk false (.fl (.cons (.var 2) (.cons (.mk false (.fl .nil)) (.cons (.mk false (.fl .nil)) (.cons (.mk false (.fl .nil)) (.cons (.int 0) .nil))))))) (.cons (.bin .Add (.int 1) (.call "_law_draw" (.cons (.var 1) (.cons (.int 6) .nil)))) .nil)))))
    (.seq (.whl (.cmp .Gt (.call "_law_parts" (.cons (.var 8) .nil)) (.int 40))
    (.seq (.asg 8 (.idx (.var 8) (.neg (.int 1))))
    .skip))
    (.seq (.asg 9 (.call "_law_value" (.cons (.var 8) (.cons (.var 3) .nil))))
    (.seq (.asg 10 (.call "evaluate" (.cons (.var 8) (.cons (.var 3) .nil))))
    (.seq (.ite (.or (.not (.tru (.bc .isInt (.cons (.var 10) .nil)))) (.or (.tru (.bc .isBool (.cons (.var 10) .nil))) (.cmp .NotEq (.var 10) (.var 9))))
    (.seq (.ret (.bl false))
    .skip)
    .skip)
    .skip))))))
    (.seq (.ret (.cmp .Eq (.x1 .rpr (.var 3)) (.var 7)))
    .skip))))))
def d_law : Fn := ⟨1, 11, false, b_law⟩
def tabF (f : Str) : Option Fn := if f = "wrap" then some d_wrap else if f = "signed" then some d_signed else if f = "_arithmetic" then some d__arithmetic else if f = "_bits" then some d__bits else if f = "_truth" then some d__truth else if f = "combine" then some d_combine else if f = "alter" then some d_alter else if f = "evaluate" then some d_evaluate else if f = "_law_state" then some d__law_state else if f = "_law_draw" then some d__law_draw else if f = "_law_pick" then some d__law_pick else if f = "_law_word" then some d__law_word else if f = "_law_expr" then some d__law_expr else if f = "_law_two" then some d__law_two else if f = "_law_value" then some d__law_value else if f = "_law_parts" then some d__law_parts else if f = "law" then some d_law else none
def tabI (f : Str) : Option Str :=  none
def tabC (f : Str) : Option MV := if f = "MASK" then some (.int 4294967295) else if f = "MODULUS" then some (.int 4294967296) else if f = "SIGN" then some (.int 2147483648) else none
def tabN (_ _ : Str) : Bool := false
def tabX (c : Str) : Str :=  ""
def tabS (c x : Str) : Option Bool :=  none
def tabZ (c : Str) : Bool :=  false
def Pm : Pr := ⟨tabF, tabI, tabC, tabN, tabX, tabS, tabZ⟩
def Gl : Gs := ⟨(("_arithmetic" : Str) :: ("_bits" : Str) :: ("_law_draw" : Str) :: ("_law_expr" : Str) :: ("_law_parts" : Str) :: ("_law_pick" : Str) :: ("_law_state" : Str) :: ("_law_two" : Str) :: ("_law_value" : Str) :: ("_law_word" : Str) :: ("_truth" : Str) :: ("alter" : Str) :: ("combine" : Str) :: ("evaluate" : Str) :: ("signed" : Str) :: ("wrap" : Str) :: []), [], [], ["abs", "bool", "int", "isinstance", "len", "max", "range", "repr", "sum", "tuple"], false, false, [], [], [], [], []⟩
theorem fn_wrap : Pm.fn "wrap" = some d_wrap := by first | rfl | (show tabF _ = _; unfold tabF; simp) | kernel_rfl
theorem fn_signed : Pm.fn "signed" = some d_signed := by first | rfl | (show tabF _ = _; unfold tabF; simp) | kernel_rfl
theorem fn__arithmetic : Pm.fn "_arithmetic" = some d__arithmetic := by first | rfl | (show tabF _ = _; unfold tabF; simp) | kernel_rfl
theorem fn__bits : Pm.fn "_bits" = some d__bits := by first | rfl | (show tabF _ = _; unfold tabF; simp) | kernel_rfl
theorem fn__truth : Pm.fn "_truth" = some d__truth := by first | rfl | (show tabF _ = _; unfold tabF; simp) | kernel_rfl
theorem fn_combine : Pm.fn "combine" = some d_combine := by first | rfl | (show tabF _ = _; unfold tabF; simp) | kernel_rfl
theorem fn_alter : Pm.fn "alter" = some d_alter := by first | rfl | (show tabF _ = _; unfold tabF; simp) | kernel_rfl
theorem fn_evaluate : Pm.fn "evaluate" = some d_evaluate := by first | rfl | (show tabF _ = _; unfold tabF; simp) | kernel_rfl
theorem fn__law_state : Pm.fn "_law_state" = some d__law_state := by first | rfl | (show tabF _ = _; unfold tabF; simp) | kernel_rfl
theorem fn__law_draw : Pm.fn "_law_draw" = some d__law_draw := by first | rfl | (show tabF _ = _; unfold tabF; simp) | kernel_rfl
theorem fn__law_pick : Pm.fn "_law_pick" = some d__law_pick := by first | rfl | (show tabF _ = _; unfold tabF; simp) | kernel_rfl
theorem fn__law_word : Pm.fn "_law_word" = some d__law_word := by first | rfl | (show tabF _ = _; unfold tabF; simp) | kernel_rfl
theorem fn__law_expr : Pm.fn "_law_expr" = some d__law_expr := by first | rfl | (show tabF _ = _; unfold tabF; simp) | kernel_rfl
theorem fn__law_two : Pm.fn "_law_two" = some d__law_two := by first | rfl | (show tabF _ = _; unfold tabF; simp) | kernel_rfl
theorem fn__law_value : Pm.fn "_law_value" = some d__law_value := by first | rfl | (show tabF _ = _; unfold tabF; simp) | kernel_rfl
theorem fn__law_parts : Pm.fn "_law_parts" = some d__law_parts := by first | rfl | (show tabF _ = _; unfold tabF; simp) | kernel_rfl
theorem fn_law : Pm.fn "law" = some d_law := by first | rfl | (show tabF _ = _; unfold tabF; simp) | kernel_rfl
theorem cl_wrap {n : Nat} {h : MHeap} {x0 : MV} : callm Pm (n + 1) "wrap" [x0] h = finO false h (run (ctx Pm n) b_wrap [some x0] h) := callm_of fn_wrap rfl
theorem cl_signed {n : Nat} {h : MHeap} {x0 : MV} : callm Pm (n + 1) "signed" [x0] h = finO false h (run (ctx Pm n) b_signed [some x0] h) := callm_of fn_signed rfl
theorem cl__arithmetic {n : Nat} {h : MHeap} {x0 x1 x2 : MV} : callm Pm (n + 1) "_arithmetic" [x0, x1, x2] h = finO false h (run (ctx Pm n) b__arithmetic [some x0, some x1, some x2] h) := callm_of fn__arithmetic rfl
theorem cl__bits {n : Nat} {h : MHeap} {x0 x1 x2 : MV} : callm Pm (n + 1) "_bits" [x0, x1, x2] h = finO false h (run (ctx Pm n) b__bits [some x0, some x1, some x2] h) := callm_of fn__bits rfl
theorem cl__truth {n : Nat} {h : MHeap} {x0 x1 x2 : MV} : callm Pm (n + 1) "_truth" [x0, x1, x2] h = finO false h (run (ctx Pm n) b__truth [some x0, some x1, some x2] h) := callm_of fn__truth rfl
theorem cl_combine {n : Nat} {h : MHeap} {x0 x1 x2 : MV} : callm Pm (n + 1) "combine" [x0, x1, x2] h = finO false h (run (ctx Pm n) b_combine [some x0, some x1, some x2, none] h) := callm_of fn_combine rfl
theorem cl_alter {n : Nat} {h : MHeap} {x0 x1 : MV} : callm Pm (n + 1) "alter" [x0, x1] h = finO false h (run (ctx Pm n) b_alter [some x0, some x1] h) := callm_of fn_alter rfl
theorem cl_evaluate {n : Nat} {h : MHeap} {x0 x1 : MV} : callm Pm (n + 1) "evaluate" [x0, x1] h = finO false h (run (ctx Pm n) b_evaluate [some x0, some x1, none, none, none] h) := callm_of fn_evaluate rfl
theorem cl__law_state {n : Nat} {h : MHeap} {x0 : MV} : callm Pm (n + 1) "_law_state" [x0] h = finO true h (run (ctx Pm n) b__law_state [some x0, none, none] h) := callm_of fn__law_state rfl
theorem cl__law_draw {n : Nat} {h : MHeap} {x0 x1 : MV} : callm Pm (n + 1) "_law_draw" [x0, x1] h = finO false h (run (ctx Pm n) b__law_draw [some x0, some x1, none, none, none] h) := callm_of fn__law_draw rfl
theorem cl__law_pick {n : Nat} {h : MHeap} {x0 x1 : MV} : callm Pm (n + 1) "_law_pick" [x0, x1] h = finO false h (run (ctx Pm n) b__law_pick [some x0, some x1] h) := callm_of fn__law_pick rfl
theorem cl__law_word {n : Nat} {h : MHeap} {x0 : MV} : callm Pm (n + 1) "_law_word" [x0] h = finO false h (run (ctx Pm n) b__law_word [some x0, none] h) := callm_of fn__law_word rfl
theorem cl__law_expr {n : Nat} {h : MHeap} {x0 x1 x2 : MV} : callm Pm (n + 1) "_law_expr" [x0, x1, x2] h = finO false h (run (ctx Pm n) b__law_expr [some x0, some x1, some x2, none, none, none, none, none, none] h) := callm_of fn__law_expr rfl
theorem cl__law_two {n : Nat} {h : MHeap} {x0 x1 x2 : MV} : callm Pm (n + 1) "_law_two" [x0, x1, x2] h = finO false h (run (ctx Pm n) b__law_two [some x0, some x1, some x2, none, none, none] h) := callm_of fn__law_two rfl
theorem cl__law_value {n : Nat} {h : MHeap} {x0 x1 : MV} : callm Pm (n + 1) "_law_value" [x0, x1] h = finO false h (run (ctx Pm n) b__law_value [some x0, some x1, none, none] h) := callm_of fn__law_value rfl
theorem cl__law_parts {n : Nat} {h : MHeap} {x0 : MV} : callm Pm (n + 1) "_law_parts" [x0] h = finO false h (run (ctx Pm n) b__law_parts [some x0, none] h) := callm_of fn__law_parts rfl
theorem cl_law {n : Nat} {h : MHeap} {x0 : MV} : callm Pm (n + 1) "law" [x0] h = finO false h (run (ctx Pm n) b_law [some x0, none, none, none, none, none, none, none, none, none, none] h) := callm_of fn_law rfl
theorem con_MASK : Pm.con "MASK" = some (.int 4294967295) := by first | rfl | (show tabC _ = _; unfold tabC; simp)
theorem con_MODULUS : Pm.con "MODULUS" = some (.int 4294967296) := by first | rfl | (show tabC _ = _; unfold tabC; simp)
theorem con_SIGN : Pm.con "SIGN" = some (.int 2147483648) := by first | rfl | (show tabC _ = _; unfold tabC; simp)
end Lw
namespace Lw
open PySem PySem.Spec PyProof.Rows L2 Mn
/-! ### what is drawn: expressions, statements, programs -/
/-- a value that points at nothing that lives -/
def Bl (v : MV) : Prop := ∀ L, below L v = true
inductive Ex where
  | num (w : Int) | cell (x : Str) | at_ (x : Str) (e : Ex) | un (o : Str) (e : Ex) | bin (o : Str) (a b : Ex)
def encE : Ex → MV
  | .num w => .tup [.str "num", .int w]
  | .cell x => .tup [.str "cell", .str x]
  | .at_ x e => .tup [.str "at", .str x, encE e]
  | .un o e => .tup [.str o, encE e]
  | .bin o a b => .tup [.str o, encE a, encE b]
def dE : Ex → Nat
  | .num _ => 1
  | .cell _ => 1
  | .at_ _ e => dE e + 1
  | .un _ e => dE e + 1
  | .bin _ a b => max (dE a) (dE b) + 1
abbrev uns : List Str := ["neg", "inv", "not"]
abbrev signs : List Str := ("+" : Str) :: ("-" : Str) :: ("*" : Str) :: ("/" : Str) :: ("mod" : Str) :: ("&" : Str) :: ("|" : Str) :: ("^" : Str) :: ("<<" : Str) :: (">>" : Str) :: ("<" : Str) :: ("<=" : Str) :: ("~<" : Str) :: ("~<=" : Str) :: ("==" : Str) :: ("!=" : Str) :: ("and" : Str) :: ("or" : Str) :: []
structure En where
  cells : List (Str × Nat)
  names : List Str
  ports : List (Bool × Str)
  calls : List (Str × Str × Nat)
  d : Nat
def way (b : Bool) : Str := if b then "out" else "in"
abbrev encC (p : Str × Nat) : MV := .tup [.str p.1, .int p.2]
abbrev encPt (p : Bool × Str) : MV := .tup [.str (way p.1), .str p.2]
abbrev encCl (p : Str × Str × Nat) : MV := .tup [.str p.1, .str p.2.1, .int p.2.2]
def encEn (v : En) : MV := .lst [.lst (v.cells.map encC), .lst (v.names.map .str), .lst (v.ports.map encPt), .lst (v.calls.map encCl), .int v.d]
def okE (v : En) : Ex → Prop
  | .num w => 0 ≤ w ∧ w < 4294967296
  | .cell x => (x, 0) ∈ v.cells ∨ x ∈ v.names
  | .at_ x e => (∃ k, 0 < k ∧ (x, k) ∈ v.cells) ∧ okE v e
  | .un o e => o ∈ uns ∧ okE v e
  | .bin o a b => o ∈ signs ∧ okE v a ∧ okE v b
theorem bl_E : ∀ e, Bl (encE e)
  | .num w => fun L => by simp [encE]
  | .cell x => fun L => by simp [encE]
  | .at_ x e => fun L => by simp [encE, bl_E e L]
  | .un o e => fun L => by simp [encE, bl_E e L]
  | .bin o a b => fun L => by simp [encE, bl_E a L, bl_E b L]
theorem draw {n : Nat} {g : Rg} {m : Int} {tl : MHeap} (h0 : 0 < m) (h1 : m < 18446744073709551616) : callm Pm (n + 1) "_law_draw" [.ref 1, .int m] (g.hp tl) = .ok (.int (g.v m)) ((g.n m).hp tl) := draw_eq fn__law_draw h0 h1
theorem pick_ {n : Nat} {g : Rg} {tl : MHeap} {xs : List MV} (hx : xs ≠ []) (hl : xs.length < 1000) (hb : ∀ x ∈ xs, Bl x) : ∃ (x : MV) (g' : Rg), x ∈ xs ∧ callm Pm (n + 2) "_law_pick" [.ref 1, .lst xs] (g.hp tl) = .ok x (g'.hp tl) := by
  have l0 : 0 < xs.length := List.length_pos_iff.mpr hx
  have v0 := Rg.v_lo (g := g) (m := (xs.length : Int)) (by omega)
  have v1 := Rg.v_hi (g := g) (m := (xs.length : Int)) (by omega)
  obtain ⟨k, ek⟩ := Int.eq_ofNat_of_zero_le v0
  have hk : k < xs.length := by omega
  have dr := draw (n := n) (g := g) (m := (xs.length : Int)) (tl := tl) (by omega) (by omega)
  rw [ek] at dr
  have ex : xs[k]? = some xs[k] := List.getElem?_eq_getElem hk
  refine ⟨xs[k], g.n xs.length, List.getElem_mem hk, ?_⟩
  rw [cl__law_pick]
  unfold b__law_pick
  simp [dr, atI_cast, ex]
  exact fin_hp (hb _ (List.getElem_mem hk) _)
theorem word_ {n : Nat} {g : Rg} {tl : MHeap} : ∃ (w : Int) (g' : Rg), 0 ≤ w ∧ w < 4294967296 ∧ callm Pm (n + 3) "_law_word" [.ref 1] (g.hp tl) = .ok (.int w) (g'.hp tl) := by
  by_cases c : g.v 3 = 0
  · obtain ⟨x, g', hx, e⟩ := pick_ (n := n) (g := g.n 3) (tl := tl) (xs := [.int 0, .int 1, .int 32768, .int 65535, .int 65536, .int 2147483647, .int 2147483648, .int 4294967295]) (by simp) (by simp) (fun x hx L => by simp at hx; rcases hx with rfl | rfl | rfl | rfl | rfl | rfl | rfl | rfl <;> simp)
    obtain ⟨w, rfl, w0, w1⟩ : ∃ w : Int, x = .int w ∧ 0 ≤ w ∧ w < 4294967296 := by
      simp at hx
      rcases hx with rfl | rfl | rfl | rfl | rfl | rfl | rfl | rfl <;> exact ⟨_, rfl, by omega, by omega⟩
    refine ⟨w, g', w0, w1, ?_⟩
    rw [cl__law_word]
    unfold b__law_word
    simp [draw, c, e]
    exact fin_hp (by simp)
  · obtain ⟨x, g1, hx, e⟩ := pick_ (n := n) (g := g.n 3) (tl := tl) (xs := [.int 7, .int 4294967296]) (by simp) (by simp) (fun x hx L => by simp at hx; rcases hx with rfl | rfl <;> simp)
    obtain ⟨m, rfl, m0, m1⟩ : ∃ m : Int, x = .int m ∧ 0 < m ∧ m ≤ 4294967296 := by
      simp at hx
      rcases hx with rfl | rfl <;> exact ⟨_, rfl, by omega, by omega⟩
    have v1 := Rg.v_hi (g := g1) m0
    refine ⟨g1.v m, g1.n m, Rg.v_lo m0, by omega, ?_⟩
    rw [cl__law_word]
    unfold b__law_word
    simp [draw, c, e, m0, show m < 18446744073709551616 by omega]
    exact fin_hp (by simp)
theorem cells_ {v : En} (hl : v.cells.length + v.names.length < 1000) : ∃ A B : List MV, (∀ x ∈ A ++ B, ∃ e, x = encE e ∧ okE v e ∧ dE e ≤ 1) ∧ A.length + B.length < 1000 ∧ ∀ (C : Ct) (σ : MSt) (h : MHeap), σ[1]? = some (some (encEn v)) → 6 < σ.length →
    evF C (.fc [5, 6] (.tp [5, 6]) (.tup (.cons (.str "cell") (.cons (.var 5) .nil))) (.iv (.idx (.var 1) (.int 0))) (.cons (.cmp .Eq (.var 6) (.int 0)) .nil)) σ h = .ok A h ∧ evF C (.fc [5] (.nm 5) (.tup (.cons (.str "cell") (.cons (.var 5) .nil))) (.iv (.idx (.var 1) (.int 1))) .nil) σ h = .ok B h := by
  refine ⟨(v.cells.filter fun p => decide (p.2 = 0)).map fun p => encE (.cell p.1), v.names.map fun x => encE (.cell x), ?_, ?_, fun C σ h h1 h6 => ⟨?_, ?_⟩⟩
  · intro x hx
    rcases List.mem_append.mp hx with hx | hx
    · obtain ⟨p, hp, rfl⟩ := List.mem_map.mp hx
      have hp2 := List.mem_filter.mp hp
      have e := of_decide_eq_true hp2.2
      exact ⟨_, rfl, .inl (by rw [← e]; exact hp2.1), by simp [dE]⟩
    · obtain ⟨p, hp, rfl⟩ := List.mem_map.mp hx
      exact ⟨_, rfl, .inr hp, by simp [dE]⟩
  · have l1 := List.length_filter_le (fun p : Str × Nat => decide (p.2 = 0)) v.cells
    simp only [List.length_map]
    omega
  · refine evF_filt (s := ⟨v.cells.map encC, []⟩) (enc := encC) (fun p => decide (p.2 = 0)) (fun p => encE (.cell p.1)) (by simp [h1, encEn]) rfl ok_nil (by rw [sizeLine_eq]; omega) fun x _ => ⟨((wipeM σ [5, 6]).set 5 (some (.str x.1))).set 6 (some (.int x.2)), rfl, ?_, fun _ => ?_⟩
    · by_cases hz : x.2 = 0 <;> simp [wipeM, h6, hz]
    · simp [wipeM, h6, encE, show 5 < σ.length by omega]
  · refine evF_map (s := ⟨v.names.map .str, []⟩) (enc := .str) (fun x => encE (.cell x)) (by simp [h1, encEn]) rfl ok_nil (by rw [sizeLine_eq]; omega) fun x _ => ⟨(wipeM σ [5]).set 5 (some (.str x)), rfl, ?_⟩
    simp [wipeM, h6, encE, show 5 < σ.length by omega]
theorem arrs_ {v : En} (hl : v.cells.length + v.names.length < 1000) : ∃ A : List MV, (∀ x ∈ A, ∃ y k, x = .str y ∧ 0 < k ∧ (y, k) ∈ v.cells) ∧ A.length < 1000 ∧ ∀ (C : Ct) (σ : MSt) (h : MHeap), σ[1]? = some (some (encEn v)) → 6 < σ.length →
    evF C (.fc [5, 6] (.tp [5, 6]) (.var 5) (.iv (.idx (.var 1) (.int 0))) (.cons (.cmp .Gt (.var 6) (.int 0)) .nil)) σ h = .ok A h := by
  refine ⟨(v.cells.filter fun p => decide (0 < p.2)).map fun p => .str p.1, ?_, ?_, fun C σ h h1 h6 => ?_⟩
  · intro x hx
    obtain ⟨p, hp, rfl⟩ := List.mem_map.mp hx
    have hp2 := List.mem_filter.mp hp
    exact ⟨_, p.2, rfl, of_decide_eq_true hp2.2, hp2.1⟩
  · have l1 := List.length_filter_le (fun p : Str × Nat => decide (0 < p.2)) v.cells
    simp only [List.length_map]
    omega
  · refine evF_filt (s := ⟨v.cells.map encC, []⟩) (enc := encC) (fun p => decide (0 < p.2)) (fun p => .str p.1) (by simp [h1, encEn]) rfl ok_nil (by rw [sizeLine_eq]; omega) fun x _ => ⟨((wipeM σ [5, 6]).set 5 (some (.str x.1))).set 6 (some (.int x.2)), rfl, ?_, fun _ => ?_⟩
    · by_cases hz : 0 < x.2
      · simp [wipeM, h6, hz]
      · simp [wipeM, h6, hz]
    · simp [wipeM, h6, show 5 < σ.length by omega]
theorem bl_str {x : Str} : Bl (.str x) := fun L => below_str
theorem leaf_ {v : En} (hl : v.cells.length + v.names.length < 1000) {n : Nat} {g : Rg} {tl : MHeap} {deep : Int} (hk : deep ≤ 1 ∨ g.v 6 < 2) : ∃ (e : Ex) (g' : Rg), okE v e ∧ dE e ≤ 1 ∧ callm Pm (n + 4) "_law_expr" [.ref 1, encEn v, .int deep] (g.hp tl) = .ok (encE e) (g'.hp tl) := by
  obtain ⟨A, B, hAB, lAB, ev⟩ := cells_ hl
  have dk := draw (n := n + 2) (g := g) (m := 6) (tl := tl) (by omega) (by omega)
  generalize hg1 : g.n 6 = g1 at dk
  generalize g.v 6 = k at dk hk
  have d3 := draw (n := n + 2) (g := g1) (m := 3) (tl := tl) (by omega) (by omega)
  obtain ⟨w, g2, w0, w1, ew⟩ := word_ (n := n) (g := g1) (tl := tl)
  obtain ⟨w', g2', w0', w1', ew'⟩ := word_ (n := n) (g := g1.n 3) (tl := tl)
  obtain ⟨e1, e2⟩ := ev (ctx Pm (n + 3)) [some (.ref 1), some (encEn v), some (.int deep), some (.lst (signs.map .str)), some (.int k), none, none, none, none] (g1.hp tl) rfl (by simp)
  simp only [signs, List.map_cons, List.map_nil] at e1 e2
  have le : A.length + B.length ≤ 16777216 := by omega
  have key : ∃ (e : Ex) (g' : Rg), okE v e ∧ dE e ≤ 1 ∧ run (ctx Pm (n + 3)) b__law_expr [some (.ref 1), some (encEn v), some (.int deep), none, none, none, none, none, none] (g.hp tl) = .ret (encE e) (g'.hp tl) := by
    by_cases c0 : A ++ B = []
    · refine ⟨.num w, g2, ⟨w0, w1⟩, by simp [dE], ?_⟩
      have lz : A.length + B.length = 0 := by rw [← List.length_append, c0]; rfl
      unfold b__law_expr
      rcases hk with hk | hk
      · simp [-evF_fc, dk, e1, e2, sizeLine_eq, hk, le, lz, ew, encE]
      · simp [-evF_fc, dk, e1, e2, sizeLine_eq, hk, le, lz, ew, encE]
    · have lz : ¬ (A.length + B.length = 0) := fun h => c0 (List.length_eq_zero_iff.mp (by rw [List.length_append]; exact h))
      have lzi : ¬ ((A.length : Int) + (B.length : Int) = 0) := by omega
      by_cases c3 : g1.v 3 = 0
      · refine ⟨.num w', g2', ⟨w0', w1'⟩, by simp [dE], ?_⟩
        rw [c3] at d3
        unfold b__law_expr
        rcases hk with hk | hk
        · simp [-evF_fc, dk, d3, e1, e2, sizeLine_eq, hk, le, lz, lzi, ew', encE]
        · simp [-evF_fc, dk, d3, e1, e2, sizeLine_eq, hk, le, lz, lzi, ew', encE]
      · obtain ⟨x, g', hx, px⟩ := pick_ (n := n + 1) (g := g1.n 3) (tl := tl) (xs := A ++ B) c0 (by rw [List.length_append]; omega) (fun x hx => by
          obtain ⟨e, rfl, _⟩ := hAB x hx
          exact bl_E e)
        obtain ⟨e, rfl, h1, h2⟩ := hAB x hx
        refine ⟨e, g', h1, h2, ?_⟩
        unfold b__law_expr
        rcases hk with hk | hk
        · simp [-evF_fc, dk, d3, e1, e2, sizeLine_eq, hk, le, lz, lzi, c3, px]
        · simp [-evF_fc, dk, d3, e1, e2, sizeLine_eq, hk, le, lz, lzi, c3, px]
  obtain ⟨e, g', h1, h2, h3⟩ := key
  refine ⟨e, g', h1, h2, ?_⟩
  rw [cl__law_expr, h3]
  exact fin_hp (bl_E e _)
end Lw
namespace Lw
open PySem PySem.Spec PyProof.Rows L2 Mn
theorem expr_ {v : En} (hl : v.cells.length + v.names.length < 1000) : ∀ (d : Nat) {n : Nat} {g : Rg} {tl : MHeap}, ∃ (e : Ex) (g' : Rg), okE v e ∧ dE e ≤ max d 1 ∧ callm Pm (n + d + 4) "_law_expr" [.ref 1, encEn v, .int d] (g.hp tl) = .ok (encE e) (g'.hp tl)
  | 0, n, g, tl => leaf_ hl (n := n) (deep := (0 : Nat)) (.inl (by decide))
  | d + 1, n, g, tl => by
    by_cases c : ((d + 1 : Nat) : Int) ≤ 1 ∨ g.v 6 < 2
    · obtain ⟨e, g', h1, h2, h3⟩ := leaf_ hl (n := n + d + 1) (g := g) (tl := tl) (deep := ((d + 1 : Nat) : Int)) c
      exact ⟨e, g', h1, by omega, h3⟩
    · obtain ⟨A, hA, lA, ev⟩ := arrs_ hl
      have dk := draw (n := n + d + 3) (g := g) (m := 6) (tl := tl) (by omega) (by omega)
      have c1 : ¬ ((d : Int) + 1 ≤ 1) := fun h => c (.inl (by omega))
      have c2 : ¬ (g.v 6 < 2) := fun h => c (.inr h)
      generalize hg1 : g.n 6 = g1 at dk
      generalize g.v 6 = k at dk c2
      have e1 := ev (ctx Pm (n + d + 4)) [some (.ref 1), some (encEn v), some (.int ((d : Int) + 1)), some (.lst (signs.map .str)), some (.int k), none, none, none, none] (g1.hp tl) rfl (by simp)
      simp only [signs, List.map_cons, List.map_nil] at e1
      have key : ∃ (e : Ex) (g' : Rg), okE v e ∧ dE e ≤ max (d + 1) 1 ∧ run (ctx Pm (n + d + 4)) b__law_expr [some (.ref 1), some (encEn v), some (.int ((d : Int) + 1)), none, none, none, none, none, none] (g.hp tl) = .ret (encE e) (g'.hp tl) := by
        by_cases k2 : k = 2 ∧ A ≠ []
        · obtain ⟨rfl, ne⟩ := k2
          obtain ⟨x, g2, hx, px⟩ := pick_ (n := n + d + 2) (g := g1) (tl := tl) (xs := A) ne lA (fun x hx => by
            obtain ⟨y, _, rfl, _⟩ := hA x hx
            exact bl_str)
          obtain ⟨y, s, rfl, s0, hs⟩ := hA x hx
          obtain ⟨e, g3, h1, h2, h3⟩ := expr_ hl d (n := n) (g := g2) (tl := tl)
          refine ⟨.at_ y e, g3, ⟨⟨s, s0, hs⟩, h1⟩, by simp only [dE]; omega, ?_⟩
          unfold b__law_expr
          simp [-evF_fc, dk, c1, e1, List.length_pos_iff.mpr ne, px, h3, encE]
        · by_cases k3 : k = 3
          · subst k3
            obtain ⟨x, g2, hx, px⟩ := pick_ (n := n + d + 2) (g := g1) (tl := tl) (xs := [.str "neg", .str "inv", .str "not"]) (by simp) (by simp) (fun x hx => by
              simp at hx; rcases hx with rfl | rfl | rfl <;> exact bl_str)
            obtain ⟨y, rfl, hy⟩ : ∃ y, x = .str y ∧ y ∈ uns := by
              simp at hx; rcases hx with rfl | rfl | rfl <;> exact ⟨_, rfl, by simp [uns]⟩
            obtain ⟨e, g3, h1, h2, h3⟩ := expr_ hl d (n := n) (g := g2) (tl := tl)
            refine ⟨.un y e, g3, ⟨hy, h1⟩, by simp only [dE]; omega, ?_⟩
            unfold b__law_expr
            simp [-evF_fc, dk, c1, e1, px, h3, encE]
          · obtain ⟨a, g2, a1, a2, a3⟩ := expr_ hl d (n := n) (g := g1) (tl := tl)
            obtain ⟨x, g3, hx, px⟩ := pick_ (n := n + d + 2) (g := g2) (tl := tl) (xs := signs.map .str) (by simp) (by simp) (fun x hx => by
              obtain ⟨y, _, rfl⟩ := List.mem_map.mp hx
              exact bl_str)
            obtain ⟨y, hy, rfl⟩ := List.mem_map.mp hx
            obtain ⟨b, g4, b1, b2, b3⟩ := expr_ hl d (n := n) (g := g3) (tl := tl)
            simp only [signs, List.map_cons, List.map_nil] at px
            refine ⟨.bin y a b, g4, ⟨hy, a1, b1⟩, by simp only [dE]; omega, ?_⟩
            unfold b__law_expr
            by_cases k2' : k = 2
            · have : A = [] := Classical.byContradiction fun h => k2 ⟨k2', h⟩
              subst this k2'
              simp [-evF_fc, dk, c1, e1, px, a3, b3, encE]
            · simp [-evF_fc, dk, c1, c2, k2', k3, e1, px, a3, b3, encE]
      obtain ⟨e, g', h1, h2, h3⟩ := key
      refine ⟨e, g', h1, h2, ?_⟩
      rw [show n + (d + 1) + 4 = n + d + 4 + 1 by omega, cl__law_expr]
      rw [show ((d + 1 : Nat) : Int) = (d : Int) + 1 by omega, h3]
      exact fin_hp (bl_E e _)
end Lw
namespace Lw
open PySem PySem.Spec PyProof.Rows L2 Mn
theorem in_str {v : Str} {ns : List Str} : inM (.str v) (ns.map .str) = decide (v ∈ ns) := by
  unfold inM
  induction ns with
  | nil => simp
  | cons a as ih =>
    rw [List.map_cons, List.any_cons, ih]
    have e : eqM (.str a) (.str v) = (a == v) := rfl
    rw [e]
    by_cases h : v = a
    · subst h; simp
    · have : ¬ a = v := fun z => h z.symm
      simp [h, this]
theorem flat_str {ns : List Str} : (ns.map MV.str).all flatM = true := by
  rw [List.all_eq_true]
  intro x hx
  obtain ⟨i, _, rfl⟩ := List.mem_map.mp hx
  rfl
@[simp high] theorem cmpV_in_strs {v : Str} {ns : List Str} {h : MHeap} : cmpV .In (.str v) (.lst (ns.map .str)) h = .ok (.bl (decide (v ∈ ns))) h := by
  rw [cmpV_in, seqOf_lst]
  simp only [flat_str, show flatM (.str v) = true from rfl, and_self, if_true, in_str]
theorem x1_rpr {v : MV} {h : MHeap} {x : Str} (e : rprV h v = some x) : x1V .rpr v h = .ok (.str x) h := by
  show (match rprV h v with
    | some x => Rs.ok (MV.str x) h
    | none => Rs.bad) = _
  rw [e]
end Lw
namespace Lw
open PySem PySem.Spec PyProof.Rows L2 Mn
/-! plain law: bits -/
def sumB (F : Nat → Int) (m : Nat) : Int := (List.range m).foldl (fun t k => t + F k * 2 ^ k) 0
theorem sumB_succ {F : Nat → Int} {m : Nat} : sumB F (m + 1) = sumB F m + F m * 2 ^ m := by
  unfold sumB
  rw [List.range_succ, List.foldl_append]
  rfl
theorem sumB_nat {F : Nat → Int} {z : Nat} (h : ∀ k, F k = ((z / 2 ^ k % 2 : Nat) : Int)) : ∀ m, sumB F m = ((z % 2 ^ m : Nat) : Int)
  | 0 => by simp [sumB, Nat.mod_one]
  | m + 1 => by
    rw [sumB_succ, sumB_nat h m, h m, Nat.mod_pow_succ]
    push_cast
    rw [Int.mul_comm ((2 : Int) ^ m)]
theorem sumB_sub {F G : Nat → Int} : ∀ m, sumB (fun k => F k - G k) m = sumB F m - sumB G m
  | 0 => by simp [sumB]
  | m + 1 => by
    rw [sumB_succ, sumB_succ, sumB_succ, sumB_sub m, Int.sub_mul]
    omega
def bt (a : Int) (k : Nat) : Int := a / 2 ^ k % 2
theorem bt_nat {x k : Nat} : bt (x : Int) k = ((x / 2 ^ k % 2 : Nat) : Int) := by
  unfold bt
  push_cast
  rfl
theorem tb {x k : Nat} : x / 2 ^ k % 2 = (x.testBit k).toNat := by
  rw [Nat.testBit_eq_decide_div_mod_eq]
  have : x / 2 ^ k % 2 < 2 := Nat.mod_lt _ (by decide)
  by_cases h : x / 2 ^ k % 2 = 1
  · simp [h]
  · have : x / 2 ^ k % 2 = 0 := by omega
    simp [this]
theorem and_sum {a b : Int} (a0 : 0 ≤ a) (a1 : a < 4294967296) (b0 : 0 ≤ b) (b1 : b < 4294967296) : sumB (fun k => bt a k * bt b k) 32 = Builtin.bitAnd a b := by
  obtain ⟨x, rfl⟩ := Int.eq_ofNat_of_zero_le a0
  obtain ⟨y, rfl⟩ := Int.eq_ofNat_of_zero_le b0
  rw [bitAnd_pp a0 b0, sumB_nat (z := x &&& y)]
  · rw [Nat.mod_eq_of_lt]
    · rfl
    · exact Nat.lt_of_le_of_lt Nat.and_le_left (by omega)
  · intro k
    rw [bt_nat, bt_nat, tb, tb, tb, Nat.testBit_and]
    cases x.testBit k <;> cases y.testBit k <;> rfl
theorem or_sum {a b : Int} (a0 : 0 ≤ a) (a1 : a < 4294967296) (b0 : 0 ≤ b) (b1 : b < 4294967296) : sumB (fun k => bt a k + bt b k - bt a k * bt b k) 32 = Builtin.bitOr a b := by
  obtain ⟨x, rfl⟩ := Int.eq_ofNat_of_zero_le a0
  obtain ⟨y, rfl⟩ := Int.eq_ofNat_of_zero_le b0
  rw [bitOr_nn a0 b0, sumB_nat (z := x ||| y)]
  · rw [Nat.mod_eq_of_lt]
    · rfl
    · exact Nat.or_lt_two_pow (n := 32) (by omega) (by omega)
  · intro k
    rw [bt_nat, bt_nat, tb, tb, tb, Nat.testBit_or]
    cases x.testBit k <;> cases y.testBit k <;> rfl
theorem xor_sum {a b : Int} (a0 : 0 ≤ a) (a1 : a < 4294967296) (b0 : 0 ≤ b) (b1 : b < 4294967296) : sumB (fun k => bt a k + bt b k - 2 * bt a k * bt b k) 32 = Builtin.bitXor a b := by
  show _ = Builtin.bitOr a b - Builtin.bitAnd a b
  rw [← and_sum a0 a1 b0 b1, ← or_sum a0 a1 b0 b1, ← sumB_sub]
  congr 1
  funext k
  rw [show 2 * bt a k * bt b k = bt a k * bt b k + bt a k * bt b k by rw [Int.mul_assoc]; omega]
  omega
theorem inv_sum {a : Int} (a0 : 0 ≤ a) (a1 : a < 4294967296) : Builtin.bitXor 4294967295 a = 4294967295 - a := by
  show Builtin.bitOr 4294967295 a - Builtin.bitAnd 4294967295 a = _
  obtain ⟨x, rfl⟩ := Int.eq_ofNat_of_zero_le a0
  rw [bitOr_nn (by decide) a0, bitAnd_pp (by decide) a0]
  show (((4294967295 ||| x : Nat) : Int)) - ((4294967295 &&& x : Nat) : Int) = _
  have hx : x < 2 ^ 32 := by omega
  have e1 : 4294967295 &&& x = x := by
    rw [Nat.and_comm, show 4294967295 = 2 ^ 32 - 1 by decide, Nat.and_two_pow_sub_one_eq_mod, Nat.mod_eq_of_lt hx]
  have e2 : 4294967295 ||| x = 4294967295 := by
    apply Nat.eq_of_testBit_eq
    intro i
    rw [Nat.testBit_or, show 4294967295 = 2 ^ 32 - 1 by decide, Nat.testBit_two_pow_sub_one]
    by_cases hi : i < 32
    · simp [hi]
    · rw [Nat.testBit_lt_two_pow (Nat.lt_of_lt_of_le hx (Nat.pow_le_pow_right (by decide) (by omega)))]
      simp
  rw [e1, e2]
  rfl
def shl (j : Nat) (a : Int) (m : Nat) : Int := (List.range m).foldl (fun (t : Int) (k : Nat) => if k < j then 2 * t % 4294967296 else t) a
def shr (j : Nat) (a : Int) (m : Nat) : Int := (List.range m).foldl (fun (t : Int) (k : Nat) => if k < j then t / 2 else t) a
theorem shl_eq {j : Nat} {a : Int} (a0 : 0 ≤ a) (a1 : a < 4294967296) : ∀ m, shl j a m = a * 2 ^ (min m j) % 4294967296
  | 0 => by
    simp only [shl, List.range_zero, List.foldl_nil, Nat.zero_min, Int.pow_zero, Int.mul_one]
    omega
  | m + 1 => by
    have e : shl j a (m + 1) = if m < j then 2 * shl j a m % 4294967296 else shl j a m := by
      unfold shl
      rw [List.range_succ, List.foldl_append]
      rfl
    rw [e, shl_eq a0 a1 m]
    by_cases h : m < j
    · rw [if_pos h, show min m j = m by omega, show min (m + 1) j = m + 1 by omega, Int.pow_succ, ← Int.mul_assoc, Int.mul_comm (a * 2 ^ m) 2, Int.mul_emod, Int.emod_emod, ← Int.mul_emod]
    · rw [if_neg h, show min m j = j by omega, show min (m + 1) j = j by omega]
theorem shr_eq {j : Nat} {a : Int} : ∀ m, shr j a m = a / 2 ^ (min m j)
  | 0 => by simp [shr]
  | m + 1 => by
    have e : shr j a (m + 1) = if m < j then shr j a m / 2 else shr j a m := by
      unfold shr
      rw [List.range_succ, List.foldl_append]
      rfl
    rw [e, shr_eq m]
    by_cases h : m < j
    · rw [if_pos h, show min m j = m by omega, show min (m + 1) j = m + 1 by omega, Int.pow_succ, Int.ediv_ediv_of_nonneg (by exact Int.le_of_lt (Int.pow_pos (by decide)))]
    · rw [if_neg h, show min m j = j by omega, show min (m + 1) j = j by omega]
theorem and31 {b : Int} (b0 : 0 ≤ b) : Builtin.bitAnd b 31 = b % 32 := by
  obtain ⟨y, rfl⟩ := Int.eq_ofNat_of_zero_le b0
  rw [bitAnd_pp b0 (by decide)]
  show ((y &&& 31 : Nat) : Int) = _
  rw [show 31 = 2 ^ 5 - 1 by decide, Nat.and_two_pow_sub_one_eq_mod]
  rfl
end Lw
namespace Lw
open PySem PySem.Spec PyProof.Rows L2 Mn
section
variable {n : Nat} {a b i : Int} {h : MHeap}
theorem wrap_ : callm Pm (n + 1) "wrap" [.int i] h = .ok (.int (i % 4294967296)) h := by
  simp [cl_wrap, b_wrap, con_MODULUS, fin_id]
def sg (i : Int) : Int := if i < 2147483648 then i else i - 4294967296
theorem signed_ : callm Pm (n + 1) "signed" [.int i] h = .ok (.int (sg i)) h := by
  unfold sg
  by_cases hc : i < 2147483648
  · simp [cl_signed, b_signed, con_SIGN, con_MODULUS, fin_id, hc]
  · simp [cl_signed, b_signed, con_SIGN, con_MODULUS, fin_id, hc]
theorem c_and : callm Pm (n + 3) "combine" [.str "&", .int a, .int b] h = .ok (.int (Builtin.bitAnd a b)) h := by
  simp [cl_combine, b_combine, cl__arithmetic, b__arithmetic, cl__bits, b__bits, fin_id]
theorem c_or : callm Pm (n + 3) "combine" [.str "|", .int a, .int b] h = .ok (.int (Builtin.bitOr a b)) h := by
  simp [cl_combine, b_combine, cl__arithmetic, b__arithmetic, cl__bits, b__bits, fin_id]
theorem c_xor : callm Pm (n + 3) "combine" [.str "^", .int a, .int b] h = .ok (.int (Builtin.bitXor a b)) h := by
  simp [cl_combine, b_combine, cl__arithmetic, b__arithmetic, cl__bits, b__bits, fin_id]
theorem c_shl (a0 : 0 ≤ a) (a1 : a < 4294967296) (b0 : 0 ≤ b) : callm Pm (n + 3) "combine" [.str "<<", .int a, .int b] h = .ok (.int (a * 2 ^ (b % 32).toNat % 4294967296)) h := by
  have r0 := Int.emod_nonneg b (show (32 : Int) ≠ 0 by decide)
  have r1 := Int.emod_lt_of_pos b (show (0 : Int) < 32 by decide)
  simp [cl_combine, b_combine, cl__arithmetic, b__arithmetic, cl__bits, b__bits, fin_id, and31 b0, wrap_, r0, show b % 32 ≤ 1000000 by omega, show a.natAbs < 18446744073709551616 by omega]
theorem c_shr (b0 : 0 ≤ b) : callm Pm (n + 3) "combine" [.str ">>", .int a, .int b] h = .ok (.int (a / 2 ^ (b % 32).toNat)) h := by
  have r0 := Int.emod_nonneg b (show (32 : Int) ≠ 0 by decide)
  simp [cl_combine, b_combine, cl__arithmetic, b__arithmetic, cl__bits, b__bits, fin_id, and31 b0, r0]
def bi (c : Bool) : Int := if c = true then 1 else 0
theorem c_lt : callm Pm (n + 3) "combine" [.str "<", .int a, .int b] h = .ok (.int (bi (decide (a < b)))) h := by
  simp [cl_combine, b_combine, cl__arithmetic, b__arithmetic, cl__bits, b__bits, cl__truth, b__truth, fin_id, bi]
theorem c_le : callm Pm (n + 3) "combine" [.str "<=", .int a, .int b] h = .ok (.int (bi (decide (a ≤ b)))) h := by
  simp [cl_combine, b_combine, cl__arithmetic, b__arithmetic, cl__bits, b__bits, cl__truth, b__truth, fin_id, bi]
theorem c_slt : callm Pm (n + 3) "combine" [.str "~<", .int a, .int b] h = .ok (.int (bi (decide (sg a < sg b)))) h := by
  simp [cl_combine, b_combine, cl__arithmetic, b__arithmetic, cl__bits, b__bits, cl__truth, b__truth, fin_id, bi, signed_]
theorem c_sle : callm Pm (n + 3) "combine" [.str "~<=", .int a, .int b] h = .ok (.int (bi (decide (sg a ≤ sg b)))) h := by
  simp [cl_combine, b_combine, cl__arithmetic, b__arithmetic, cl__bits, b__bits, cl__truth, b__truth, fin_id, bi, signed_]
theorem c_eq : callm Pm (n + 3) "combine" [.str "==", .int a, .int b] h = .ok (.int (bi (a == b))) h := by
  simp [cl_combine, b_combine, cl__arithmetic, b__arithmetic, cl__bits, b__bits, cl__truth, b__truth, fin_id, bi]
theorem c_ne : callm Pm (n + 3) "combine" [.str "!=", .int a, .int b] h = .ok (.int (bi (!(a == b)))) h := by
  simp [cl_combine, b_combine, cl__arithmetic, b__arithmetic, cl__bits, b__bits, cl__truth, b__truth, fin_id, bi]
theorem c_land : callm Pm (n + 3) "combine" [.str "and", .int a, .int b] h = .ok (.int (bi (!(a == 0) && !(b == 0)))) h := by
  rcases Decidable.em (a = 0) with ha | ha <;> rcases Decidable.em (b = 0) with hb | hb
  · subst ha hb; simp [cl_combine, b_combine, cl__arithmetic, b__arithmetic, cl__bits, b__bits, cl__truth, b__truth, fin_id, bi]
  · subst ha; simp [cl_combine, b_combine, cl__arithmetic, b__arithmetic, cl__bits, b__bits, cl__truth, b__truth, fin_id, bi, show (b == 0) = false by simpa using hb]
  · subst hb; simp [cl_combine, b_combine, cl__arithmetic, b__arithmetic, cl__bits, b__bits, cl__truth, b__truth, fin_id, bi, show (a == 0) = false by simpa using ha]
  · simp [cl_combine, b_combine, cl__arithmetic, b__arithmetic, cl__bits, b__bits, cl__truth, b__truth, fin_id, bi, show (a == 0) = false by simpa using ha, show (b == 0) = false by simpa using hb]
theorem c_lor : callm Pm (n + 3) "combine" [.str "or", .int a, .int b] h = .ok (.int (bi (!(a == 0) || !(b == 0)))) h := by
  rcases Decidable.em (a = 0) with ha | ha <;> rcases Decidable.em (b = 0) with hb | hb
  · subst ha hb; simp [cl_combine, b_combine, cl__arithmetic, b__arithmetic, cl__bits, b__bits, cl__truth, b__truth, fin_id, bi]
  · subst ha; simp [cl_combine, b_combine, cl__arithmetic, b__arithmetic, cl__bits, b__bits, cl__truth, b__truth, fin_id, bi, show (b == 0) = false by simpa using hb]
  · subst hb; simp [cl_combine, b_combine, cl__arithmetic, b__arithmetic, cl__bits, b__bits, cl__truth, b__truth, fin_id, bi, show (a == 0) = false by simpa using ha]
  · simp [cl_combine, b_combine, cl__arithmetic, b__arithmetic, cl__bits, b__bits, cl__truth, b__truth, fin_id, bi, show (a == 0) = false by simpa using ha, show (b == 0) = false by simpa using hb]
theorem al_inv (a0 : 0 ≤ a) (a1 : a < 4294967296) : callm Pm (n + 2) "alter" [.str "inv", .int a] h = .ok (.int (4294967295 - a)) h := by
  simp [cl_alter, b_alter, con_MASK, fin_id, inv_sum a0 a1]
theorem al_not : callm Pm (n + 2) "alter" [.str "not", .int a] h = .ok (.int (bi (a == 0))) h := by
  simp [cl_alter, b_alter, fin_id, bi]
theorem ar_add : callm Pm (n + 3) "combine" [.str "+", .int a, .int b] h = .ok (.int ((a + b) % 4294967296)) h := by
  simp [cl_combine, b_combine, cl__arithmetic, b__arithmetic, wrap_, fin_id]
theorem ar_sub : callm Pm (n + 3) "combine" [.str "-", .int a, .int b] h = .ok (.int ((a - b) % 4294967296)) h := by
  simp [cl_combine, b_combine, cl__arithmetic, b__arithmetic, wrap_, fin_id]
theorem ar_mul (ha : -18446744073709551616 < a) (ha' : a < 18446744073709551616) : callm Pm (n + 3) "combine" [.str "*", .int a, .int b] h = .ok (.int ((a * b) % 4294967296)) h := by
  simp [cl_combine, b_combine, cl__arithmetic, b__arithmetic, wrap_, fin_id, ha, ha']
theorem ar_div (h0 : 0 ≤ b) (h1 : b < 18446744073709551616) : callm Pm (n + 3) "combine" [.str "/", .int a, .int b] h = .ok (.int (if b = 0 then 0 else a / b)) h := by
  by_cases hb : b = 0
  · simp [cl_combine, b_combine, cl__arithmetic, b__arithmetic, wrap_, fin_id, hb]
  · simp [cl_combine, b_combine, cl__arithmetic, b__arithmetic, wrap_, fin_id, hb, h1, show 0 < b by omega]
theorem ar_mod (h0 : 0 ≤ b) : callm Pm (n + 3) "combine" [.str "mod", .int a, .int b] h = .ok (.int (if b = 0 then a else a % b)) h := by
  by_cases hb : b = 0
  · simp [cl_combine, b_combine, cl__arithmetic, b__arithmetic, wrap_, fin_id, hb]
  · simp [cl_combine, b_combine, cl__arithmetic, b__arithmetic, wrap_, fin_id, hb, show 0 < b by omega]
theorem al_neg : callm Pm (n + 2) "alter" [.str "neg", .int a] h = .ok (.int ((-a) % 4294967296)) h := by
  simp [cl_alter, b_alter, wrap_, fin_id]
end
end Lw

namespace Lw
open PySem PySem.Spec PyProof.Rows L2 Mn
/-! ### operators on words -/
def Wd (a : Int) : Prop := 0 ≤ a ∧ a < 4294967296
def unI (o : Str) (a : Int) : Int := if o = "neg" then (-a) % 4294967296 else if o = "inv" then 4294967295 - a else bi (a == 0)
def biI (o : Str) (a b : Int) : Int :=
  if o = "+" then (a + b) % 4294967296 else if o = "-" then (a - b) % 4294967296 else if o = "*" then (a * b) % 4294967296
  else if o = "/" then (if b = 0 then 0 else a / b) else if o = "mod" then (if b = 0 then a else a % b)
  else if o = "&" then Builtin.bitAnd a b else if o = "|" then Builtin.bitOr a b else if o = "^" then Builtin.bitXor a b
  else if o = "<<" then a * 2 ^ (b % 32).toNat % 4294967296 else if o = ">>" then a / 2 ^ (b % 32).toNat
  else if o = "<" then bi (decide (a < b)) else if o = "<=" then bi (decide (a ≤ b)) else if o = "~<" then bi (decide (sg a < sg b)) else if o = "~<=" then bi (decide (sg a ≤ sg b))
  else if o = "==" then bi (a == b) else if o = "!=" then bi (!(a == b)) else if o = "and" then bi (!(a == 0) && !(b == 0)) else bi (!(a == 0) || !(b == 0))
theorem wd_bi {c : Bool} : Wd (bi c) := by unfold Wd bi; split <;> omega
theorem wd_mod {a : Int} : Wd (a % 4294967296) := ⟨Int.emod_nonneg _ (by decide), Int.emod_lt_of_pos _ (by decide)⟩
theorem wd_un {o : Str} {a : Int} (h : Wd a) : Wd (unI o a) := by
  unfold unI
  split
  · exact wd_mod
  · split
    · obtain ⟨h0, h1⟩ := h
      exact ⟨by omega, by omega⟩
    · exact wd_bi
theorem wd_and {a b : Int} (ha : Wd a) (hb : Wd b) : Wd (Builtin.bitAnd a b) := by
  obtain ⟨a0, a1⟩ := ha
  obtain ⟨b0, b1⟩ := hb
  obtain ⟨x, rfl⟩ := Int.eq_ofNat_of_zero_le a0
  obtain ⟨y, rfl⟩ := Int.eq_ofNat_of_zero_le b0
  rw [bitAnd_pp a0 b0]
  have : x &&& y ≤ x := Nat.and_le_left
  exact ⟨Int.natCast_nonneg _, by show ((x &&& y : Nat) : Int) < _; omega⟩
theorem wd_or {a b : Int} (ha : Wd a) (hb : Wd b) : Wd (Builtin.bitOr a b) := by
  obtain ⟨a0, a1⟩ := ha
  obtain ⟨b0, b1⟩ := hb
  obtain ⟨x, rfl⟩ := Int.eq_ofNat_of_zero_le a0
  obtain ⟨y, rfl⟩ := Int.eq_ofNat_of_zero_le b0
  rw [bitOr_nn a0 b0]
  have : x ||| y < 2 ^ 32 := Nat.or_lt_two_pow (n := 32) (by omega) (by omega)
  exact ⟨Int.natCast_nonneg _, by show ((x ||| y : Nat) : Int) < _; omega⟩
theorem wd_xor {a b : Int} (ha : Wd a) (hb : Wd b) : Wd (Builtin.bitXor a b) := by
  rw [← xor_sum ha.1 ha.2 hb.1 hb.2]
  obtain ⟨a0, a1⟩ := ha
  obtain ⟨b0, b1⟩ := hb
  obtain ⟨x, rfl⟩ := Int.eq_ofNat_of_zero_le a0
  obtain ⟨y, rfl⟩ := Int.eq_ofNat_of_zero_le b0
  rw [sumB_nat (z := x ^^^ y)]
  · have : (x ^^^ y) % 2 ^ 32 < 2 ^ 32 := Nat.mod_lt _ (by decide)
    exact ⟨Int.natCast_nonneg _, by omega⟩
  · intro k
    rw [bt_nat, bt_nat, tb, tb, tb, Nat.testBit_xor]
    cases x.testBit k <;> cases y.testBit k <;> rfl
theorem wd_div {a b : Int} (ha : Wd a) (hb : 0 ≤ b) : Wd (a / b) := by
  obtain ⟨a0, a1⟩ := ha
  refine ⟨Int.ediv_nonneg a0 hb, ?_⟩
  have := Int.ediv_le_self b a0
  omega
theorem wd_ite {c : Prop} [Decidable c] {x y : Int} (hx : c → Wd x) (hy : ¬ c → Wd y) : Wd (if c then x else y) := by
  by_cases h : c
  · rw [if_pos h]; exact hx h
  · rw [if_neg h]; exact hy h
theorem wd_b2 {o : Str} {a b : Int} (ha : Wd a) (hb : Wd b) : Wd (biI o a b) := by
  unfold biI
  refine wd_ite (fun _ => wd_mod) fun _ => wd_ite (fun _ => wd_mod) fun _ => wd_ite (fun _ => wd_mod) fun _ => wd_ite (fun _ => wd_ite (fun _ => ⟨by omega, by omega⟩) fun _ => wd_div ha hb.1) fun _ => wd_ite (fun _ => wd_ite (fun _ => ha) fun hz => ?_) fun _ => wd_ite (fun _ => wd_and ha hb) fun _ => wd_ite (fun _ => wd_or ha hb) fun _ => wd_ite (fun _ => wd_xor ha hb) fun _ => wd_ite (fun _ => wd_mod) fun _ => wd_ite (fun _ => wd_div ha (Int.pow_nonneg (by decide))) fun _ => wd_ite (fun _ => wd_bi) fun _ => wd_ite (fun _ => wd_bi) fun _ => wd_ite (fun _ => wd_bi) fun _ => wd_ite (fun _ => wd_bi) fun _ => wd_ite (fun _ => wd_bi) fun _ => wd_ite (fun _ => wd_bi) fun _ => wd_ite (fun _ => wd_bi) fun _ => wd_bi
  obtain ⟨b0, b1⟩ := hb
  have h1 := Int.emod_nonneg a hz
  have h2 := Int.emod_lt_of_pos a (show 0 < b by omega)
  exact ⟨h1, by omega⟩
theorem combine_ {n : Nat} {o : Str} {a b : Int} {h : MHeap} (ho : o ∈ signs) (ha : Wd a) (hb : Wd b) : callm Pm (n + 3) "combine" [.str o, .int a, .int b] h = .ok (.int (biI o a b)) h := by
  obtain ⟨a0, a1⟩ := ha
  obtain ⟨b0, b1⟩ := hb
  simp only [signs, List.mem_cons, List.not_mem_nil, or_false] at ho
  rcases ho with rfl | rfl | rfl | rfl | rfl | rfl | rfl | rfl | rfl | rfl | rfl | rfl | rfl | rfl | rfl | rfl | rfl | rfl
  · rw [ar_add]; simp [biI]
  · rw [ar_sub]; simp [biI]
  · rw [ar_mul (by omega) (by omega)]; simp [biI]
  · rw [ar_div b0 (by omega)]; simp [biI]
  · rw [ar_mod b0]; simp [biI]
  · rw [c_and]; simp [biI]
  · rw [c_or]; simp [biI]
  · rw [c_xor]; simp [biI]
  · rw [c_shl a0 a1 b0]; simp [biI]
  · rw [c_shr b0]; simp [biI]
  · rw [c_lt]; simp [biI]
  · rw [c_le]; simp [biI]
  · rw [c_slt]; simp [biI]
  · rw [c_sle]; simp [biI]
  · rw [c_eq]; simp [biI]
  · rw [c_ne]; simp [biI]
  · rw [c_land]; simp [biI]
  · rw [c_lor]; simp [biI]
theorem alter_ {n : Nat} {o : Str} {a : Int} {h : MHeap} (ho : o ∈ uns) (ha : Wd a) : callm Pm (n + 2) "alter" [.str o, .int a] h = .ok (.int (unI o a)) h := by
  simp only [uns, List.mem_cons, List.not_mem_nil, or_false] at ho
  rcases ho with rfl | rfl | rfl
  · rw [al_neg]; simp [unI]
  · rw [al_inv ha.1 ha.2]; simp [unI]
  · rw [al_not]; simp [unI]
/-! the law's own reckoning -/
theorem merge_nd : ∀ {ps acc : List (Key × MV)}, ((acc ++ ps).map (·.1)).Nodup → mergeM acc ps = acc ++ ps
  | [], acc, _ => by simp [mergeM]
  | p :: ps, acc, nd => by
    have e : putKM acc p.1 p.2 = acc ++ [p] := by
      unfold putKM
      rw [if_neg]
      intro h
      rw [List.any_eq_true] at h
      obtain ⟨q, hq, e⟩ := h
      have e := of_decide_eq_true e
      rw [List.map_append, List.nodup_append] at nd
      exact nd.2.2 q.1 (List.mem_map_of_mem hq) p.1 (by simp) e
    show mergeM (putKM acc p.1 p.2) ps = _
    rw [e, merge_nd (by simpa using nd), List.append_assoc]
    rfl
def twoL (a b l r : Int) : List (Key × MV) := [(.inr "+", .int (a + b)), (.inr "-", .int (a - b)), (.inr "*", .int (a * b)), (.inr "&", .int (Builtin.bitAnd a b)), (.inr "|", .int (Builtin.bitOr a b)), (.inr "^", .int (Builtin.bitXor a b)), (.inr "<", .int (if a < b then 1 else 0)), (.inr "<=", .int (if a ≤ b then 1 else 0)), (.inr "~<", .int (if l < r then 1 else 0)), (.inr "~<=", .int (if l ≤ r then 1 else 0)), (.inr "==", .int (if a = b then 1 else 0)), (.inr "!=", .int (if a = b then 0 else 1)), (.inr "and", .int (if 0 < a ∧ 0 < b then 1 else 0)), (.inr "or", .int (if 0 < a ∨ 0 < b then 1 else 0))]
theorem twoL_nd {a b l r : Int} : mergeM [] (twoL a b l r) = twoL a b l r := by
  rw [merge_nd]
  · rfl
  · show ([.inr "+", .inr "-", .inr "*", .inr "&", .inr "|", .inr "^", .inr "<", .inr "<=", .inr "~<", .inr "~<=", .inr "==", .inr "!=", .inr "and", .inr "or"] : List Key).Nodup
    decide +kernel
theorem tv0 {a b l r : Int} : valM (twoL a b l r) (.inr "+") = some (.int (a + b)) := by first | rfl | kernel_rfl
theorem tv1 {a b l r : Int} : valM (twoL a b l r) (.inr "-") = some (.int (a - b)) := by first | rfl | kernel_rfl
theorem tv2 {a b l r : Int} : valM (twoL a b l r) (.inr "*") = some (.int (a * b)) := by first | rfl | kernel_rfl
theorem tv3 {a b l r : Int} : valM (twoL a b l r) (.inr "&") = some (.int (Builtin.bitAnd a b)) := by first | rfl | kernel_rfl
theorem tv4 {a b l r : Int} : valM (twoL a b l r) (.inr "|") = some (.int (Builtin.bitOr a b)) := by first | rfl | kernel_rfl
theorem tv5 {a b l r : Int} : valM (twoL a b l r) (.inr "^") = some (.int (Builtin.bitXor a b)) := by first | rfl | kernel_rfl
theorem tv6 {a b l r : Int} : valM (twoL a b l r) (.inr "<") = some (.int (if a < b then 1 else 0)) := by first | rfl | kernel_rfl
theorem tv7 {a b l r : Int} : valM (twoL a b l r) (.inr "<=") = some (.int (if a ≤ b then 1 else 0)) := by first | rfl | kernel_rfl
theorem tv8 {a b l r : Int} : valM (twoL a b l r) (.inr "~<") = some (.int (if l < r then 1 else 0)) := by first | rfl | kernel_rfl
theorem tv9 {a b l r : Int} : valM (twoL a b l r) (.inr "~<=") = some (.int (if l ≤ r then 1 else 0)) := by first | rfl | kernel_rfl
theorem tv10 {a b l r : Int} : valM (twoL a b l r) (.inr "==") = some (.int (if a = b then 1 else 0)) := by first | rfl | kernel_rfl
theorem tv11 {a b l r : Int} : valM (twoL a b l r) (.inr "!=") = some (.int (if a = b then 0 else 1)) := by first | rfl | kernel_rfl
theorem tv12 {a b l r : Int} : valM (twoL a b l r) (.inr "and") = some (.int (if 0 < a ∧ 0 < b then 1 else 0)) := by first | rfl | kernel_rfl
theorem tv13 {a b l r : Int} : valM (twoL a b l r) (.inr "or") = some (.int (if 0 < a ∨ 0 < b then 1 else 0)) := by first | rfl | kernel_rfl
theorem in2 {C : Ct} {σ : MSt} {h : MHeap} {o x y : Str} (e : σ[0]? = some (some (.str o))) : evT C (.cmp .In (.var 0) (.mk false (.fl (.cons (.str x) (.cons (.str y) .nil))))) σ h = .ok (decide (o = x) || decide (o = y)) h := by
  have q := cmpV_in_strs (v := o) (ns := [x, y]) (h := h)
  simp only [List.map_cons, List.map_nil] at q
  simp [-cmpV_in, e, q]
theorem eq0 {C : Ct} {σ : MSt} {h : MHeap} {o x : Str} (e : σ[0]? = some (some (.str o))) : evT C (.cmp .Eq (.var 0) (.str x)) σ h = .ok (decide (o = x)) h := by
  by_cases c : o = x <;> simp [e, c]
theorem two_ {n : Nat} {o : Str} {a b : Int} {h : MHeap} (ho : o ∈ signs) (ha : Wd a) (hb : Wd b) : callm Pm (n + 1) "_law_two" [.str o, .int a, .int b] h = .ok (.int (biI o a b)) h := by
  obtain ⟨a0, a1⟩ := ha
  obtain ⟨b0, b1⟩ := hb
  have hs1 : sg a < sg b ↔ (a + 2147483648) % 4294967296 < (b + 2147483648) % 4294967296 := by unfold sg; omega
  have hs2 : sg a ≤ sg b ↔ (a + 2147483648) % 4294967296 ≤ (b + 2147483648) % 4294967296 := by unfold sg; omega
  have m1 : ∀ c : Bool, bi c % 4294967296 = bi c := fun c => by cases c <;> rfl
  have aa := wd_and ⟨a0, a1⟩ ⟨b0, b1⟩
  have oo := wd_or ⟨a0, a1⟩ ⟨b0, b1⟩
  have xx := wd_xor ⟨a0, a1⟩ ⟨b0, b1⟩
  have e1 : Builtin.bitAnd a b % 4294967296 = Builtin.bitAnd a b := Int.emod_eq_of_lt aa.1 aa.2
  have e2 : Builtin.bitOr a b % 4294967296 = Builtin.bitOr a b := Int.emod_eq_of_lt oo.1 oo.2
  have e3 : Builtin.bitXor a b % 4294967296 = Builtin.bitXor a b := Int.emod_eq_of_lt xx.1 xx.2
  have p1 : decide (0 < a) = !(a == 0) := by
    by_cases c : a = 0
    · subst c; rfl
    · simp [c, show 0 < a by omega]
  have p2 : decide (0 < b) = !(b == 0) := by
    by_cases c : b = 0
    · subst c; rfl
    · simp [c, show 0 < b by omega]
  have r0 := Int.emod_nonneg b (show (32 : Int) ≠ 0 by decide)
  have r1 := Int.emod_lt_of_pos b (show (0 : Int) < 32 by decide)
  have dd' : ∀ (o : Str) (l r : Int) (C : Ct) (z : Option MV) (H : MHeap), evE C (.dd (.cons (.str "+") (.cons (.bin .Add (.var 1) (.var 2)) (.cons (.str "-") (.cons (.bin .Sub (.var 1) (.var 2)) (.cons (.str "*") (.cons (.bin .Mult (.var 1) (.var 2)) (.cons (.str "&") (.cons (.bin .BitAnd (.var 1) (.var 2)) (.cons (.str "|") (.cons (.bin .BitOr (.var 1) (.var 2)) (.cons (.str "^") (.cons (.bin .BitXor (.var 1) (.var 2)) (.cons (.str "<") (.cons (.bc .int (.cons (.cmp .Lt (.var 1) (.var 2)) .nil)) (.cons (.str "<=") (.cons (.bc .int (.cons (.cmp .LtE (.var 1) (.var 2)) .nil)) (.cons (.str "~<") (.cons (.bc .int (.cons (.cmp .Lt (.var 3) (.var 4)) .nil)) (.cons (.str "~<=") (.cons (.bc .int (.cons (.cmp .LtE (.var 3) (.var 4)) .nil)) (.cons (.str "==") (.cons (.bc .int (.cons (.cmp .Eq (.var 1) (.var 2)) .nil)) (.cons (.str "!=") (.cons (.bc .int (.cons (.cmp .NotEq (.var 1) (.var 2)) .nil)) (.cons (.str "and") (.cons (.bc .int (.cons (.and (.cmp .Gt (.var 1) (.int 0)) (.cmp .Gt (.var 2) (.int 0))) .nil)) (.cons (.str "or") (.cons (.bc .int (.cons (.or (.cmp .Gt (.var 1) (.int 0)) (.cmp .Gt (.var 2) (.int 0))) .nil)) .nil))))))))))))))))))))))))))))) [some (.str o), some (.int a), some (.int b), some (.int l), some (.int r), z] H = .ok (.ref H.length) (H ++ [.dct (twoL a b l r)]) := by
    intro o l r C z H
    have an : evE C (.and (.cmp .Gt (.var 1) (.int 0)) (.cmp .Gt (.var 2) (.int 0))) [some (.str o), some (.int a), some (.int b), some (.int l), some (.int r), z] H = .ok (.bl (decide (0 < a) && decide (0 < b))) H := by by_cases c1 : 0 < a <;> simp [c1]
    have orr : evE C (.or (.cmp .Gt (.var 1) (.int 0)) (.cmp .Gt (.var 2) (.int 0))) [some (.str o), some (.int a), some (.int b), some (.int l), some (.int r), z] H = .ok (.bl (decide (0 < a) || decide (0 < b))) H := by by_cases c1 : 0 < a <;> simp [c1]
    rw [← twoL_nd]
    simp [-evE_and, -evE_or, an, orr, show -18446744073709551616 < a by omega, show a < 18446744073709551616 by omega]
    show (match some (twoL a b l r) with
      | some ps => if ps.length ≤ 15 then Rs.ok (MV.ref H.length) (H ++ [MO.dct (mergeM [] ps)]) else Rs.bad
      | none => Rs.bad) = _
    simp [show (twoL a b l r).length ≤ 15 from Nat.le_of_ble_eq_true rfl]
  have plain : ∀ (o : Str) (v : Int), o ≠ "/" → o ≠ "mod" → o ≠ "<<" → o ≠ ">>" → o ≠ "~<" → o ≠ "~<=" → valM (twoL a b a b) (.inr o) = some (.int v) → finO false h (run (ctx Pm n) b__law_two [some (.str o), some (.int a), some (.int b), none, none, none] h) = .ok (.int (v % 4294967296)) h := by
    intro o v h1 h2 h3 h4 h5 h6 hv
    unfold b__law_two
    rw [run_seq, ite_false_of (h1 := h) (by rw [in2 rfl]; simp [h1, h2]), run_skip, seq_next, run_seq, ite_false_of (h1 := h) (by rw [eq0 rfl]; simp [h3]), run_skip, seq_next, run_seq, ite_false_of (h1 := h) (by rw [eq0 rfl]; simp [h4]), run_skip, seq_next, asg_of (v := .int a) (h1 := h) (by simp), asg_of (v := .int b) (h1 := h) (by simp), run_seq, ite_false_of (h1 := h) (by rw [in2 rfl]; simp [h5, h6]), run_skip, seq_next]
    simp only [List.set_cons_succ, List.set_cons_zero]
    rw [asg_of (dd' o a b (ctx Pm n) none h)]
    simp [hv]
    refine fin_app ?_
    simp
  have sgn : ∀ (o : Str) (v : Int), o = "~<" ∨ o = "~<=" → valM (twoL a b ((a + 2147483648) % 4294967296) ((b + 2147483648) % 4294967296)) (.inr o) = some (.int v) → finO false h (run (ctx Pm n) b__law_two [some (.str o), some (.int a), some (.int b), none, none, none] h) = .ok (.int (v % 4294967296)) h := by
    intro o v ho hv
    have n1 : o ≠ "/" := by rcases ho with rfl | rfl <;> simp
    have n2 : o ≠ "mod" := by rcases ho with rfl | rfl <;> simp
    have n3 : o ≠ "<<" := by rcases ho with rfl | rfl <;> simp
    have n4 : o ≠ ">>" := by rcases ho with rfl | rfl <;> simp
    unfold b__law_two
    rw [run_seq, ite_false_of (h1 := h) (by rw [in2 rfl]; simp [n1, n2]), run_skip, seq_next, run_seq, ite_false_of (h1 := h) (by rw [eq0 rfl]; simp [n3]), run_skip, seq_next, run_seq, ite_false_of (h1 := h) (by rw [eq0 rfl]; simp [n4]), run_skip, seq_next, asg_of (v := .int a) (h1 := h) (by simp), asg_of (v := .int b) (h1 := h) (by simp), run_seq, ite_true_of (h1 := h) (by rw [in2 rfl]; rcases ho with rfl | rfl <;> simp)]
    simp only [List.set_cons_succ, List.set_cons_zero]
    rw [asg_of (v := .int ((a + 2147483648) % 4294967296)) (h1 := h) (by simp), asg_of (v := .int ((b + 2147483648) % 4294967296)) (h1 := h) (by simp), run_skip, seq_next]
    simp only [List.set_cons_succ, List.set_cons_zero]
    rw [asg_of (dd' o _ _ (ctx Pm n) none h)]
    simp [hv]
    refine fin_app ?_
    simp
  rw [cl__law_two]
  simp only [signs, List.mem_cons, List.not_mem_nil, or_false] at ho
  rcases ho with rfl | rfl | rfl | rfl | rfl | rfl | rfl | rfl | rfl | rfl | rfl | rfl | rfl | rfl | rfl | rfl | rfl | rfl
  all_goals simp only [biI, ofs_eq]
  · rw [plain _ _ (by simp) (by simp) (by simp) (by simp) (by simp) (by simp) tv0]; simp
  · rw [plain _ _ (by simp) (by simp) (by simp) (by simp) (by simp) (by simp) tv1]; simp
  · rw [plain _ _ (by simp) (by simp) (by simp) (by simp) (by simp) (by simp) tv2]; simp
  · unfold b__law_two
    by_cases c : b = 0
    · simp [c, inM, eqM, show ∀ x : Str, flatM (.str x) = true from fun _ => rfl]; exact fin_id (by simp)
    · simp [c, inM, eqM, show ∀ x : Str, flatM (.str x) = true from fun _ => rfl, show b < 18446744073709551616 by omega, show 0 < b by omega]; exact fin_id (by simp)
  · unfold b__law_two
    by_cases c : b = 0
    · simp [c, inM, eqM, show ∀ x : Str, flatM (.str x) = true from fun _ => rfl]; exact fin_id (by simp)
    · simp [c, inM, eqM, show ∀ x : Str, flatM (.str x) = true from fun _ => rfl, show b < 18446744073709551616 by omega, show 0 < b by omega]; exact fin_id (by simp)
  · rw [plain _ _ (by simp) (by simp) (by simp) (by simp) (by simp) (by simp) tv3]; simp [e1]
  · rw [plain _ _ (by simp) (by simp) (by simp) (by simp) (by simp) (by simp) tv4]; simp [e2]
  · rw [plain _ _ (by simp) (by simp) (by simp) (by simp) (by simp) (by simp) tv5]; simp [e3]
  · unfold b__law_two
    simp [r0, inM, eqM, show ∀ x : Str, flatM (.str x) = true from fun _ => rfl, show b % 32 ≤ 1000000 by omega, show a.natAbs < 18446744073709551616 by omega]; exact fin_id (by simp)
  · unfold b__law_two
    simp [r0, inM, eqM, show ∀ x : Str, flatM (.str x) = true from fun _ => rfl]; exact fin_id (by simp)
  · rw [plain _ _ (by simp) (by simp) (by simp) (by simp) (by simp) (by simp) tv6]; by_cases c : a < b <;> simp [c, bi]
  · rw [plain _ _ (by simp) (by simp) (by simp) (by simp) (by simp) (by simp) tv7]; by_cases c : a ≤ b <;> simp [c, bi]
  · rw [sgn _ _ (by simp) tv8]; simp [hs1]; by_cases c : (a + 2147483648) % 4294967296 < (b + 2147483648) % 4294967296 <;> simp [c, bi]
  · rw [sgn _ _ (by simp) tv9]; simp [hs2]; by_cases c : (a + 2147483648) % 4294967296 ≤ (b + 2147483648) % 4294967296 <;> simp [c, bi]
  · rw [plain _ _ (by simp) (by simp) (by simp) (by simp) (by simp) (by simp) tv10]; by_cases c : a = b <;> simp [c, bi]
  · rw [plain _ _ (by simp) (by simp) (by simp) (by simp) (by simp) (by simp) tv11]; by_cases c : a = b <;> simp [c, bi]
  · rw [plain _ _ (by simp) (by simp) (by simp) (by simp) (by simp) (by simp) tv12]; rw [← p1, ← p2]; by_cases c : 0 < a <;> by_cases c' : 0 < b <;> simp [c, c', bi]
  · rw [plain _ _ (by simp) (by simp) (by simp) (by simp) (by simp) (by simp) tv13]; rw [← p1, ← p2]; by_cases c : 0 < a <;> by_cases c' : 0 < b <;> simp [c, c', bi]
/-! ### cells and arrays -/
abbrev Env := List (Str × Nat)
abbrev Sto := List (List Int)
def Env.at? (E : Env) (x : Str) : Option Nat := (E.find? fun p => decide (p.1 = x)).map (·.2)
def rowE (E : Env) (S : Sto) (x : Str) : List Int := S.getD ((E.at? x).getD 0) []
def val (E : Env) (S : Sto) : Ex → Int
  | .num w => w
  | .cell x => (rowE E S x).getD 0 0
  | .at_ x e => (rowE E S x).getD (val E S e % ((rowE E S x).length : Int)).toNat 0
  | .un o e => unI o (val E S e)
  | .bin o a b => biI o (val E S a) (val E S b)
def eK (rs : List Nat) (p : Str × Nat) : Key × MV := (.inr p.1, .ref (rs.getD p.2 0))
structure Rl (h : MHeap) (d : Nat) (rs : List Nat) (E : Env) (S : Sto) : Prop where
  dct : h[d]? = some (.dct (E.map (eK rs)))
  len : rs.length = S.length
  row : ∀ (i r : Nat), rs[i]? = some r → h[r]? = some (.lst ((S.getD i []).map .int))
  nd : rs.Nodup
structure Inv (v : En) (Ks : List Str) (E : Env) (S : Sto) : Prop where
  cells : ∀ c ∈ v.cells, ∃ i, E.at? c.1 = some i ∧ i < S.length ∧ (S.getD i []).length = max 1 c.2
  names : ∀ x ∈ v.names, ∃ i, E.at? x = some i ∧ i < S.length ∧ (S.getD i []).length = 1
  wd : ∀ row ∈ S, row.length ≤ 100 ∧ ∀ w ∈ row, Wd w
  kn : (E.map (·.1)).Nodup
  ks : ∀ p ∈ E, p.1 ∈ Ks
  kl : Ks.length ≤ 100
  ix : ∀ p ∈ E, p.2 < S.length
theorem valM_eK {E : Env} {rs : List Nat} {x : Str} : valM (E.map (eK rs)) (.inr x) = (E.at? x).map fun i => .ref (rs.getD i 0) := by
  unfold valM Env.at?
  induction E with
  | nil => rfl
  | cons p r ih =>
    rw [List.map_cons, List.find?_cons, List.find?_cons]
    have e : decide ((eK rs p).1 = .inr x) = decide (p.1 = x) := by
      unfold eK
      by_cases c : p.1 = x <;> simp [c]
    rw [e]
    by_cases c : p.1 = x
    · simp [c, eK]
    · simp only [c, decide_false]
      exact ih
theorem Rl.get {h : MHeap} {d : Nat} {rs : List Nat} {E : Env} {S : Sto} (R : Rl h d rs E S) {x : Str} {i : Nat} (ea : E.at? x = some i) (li : i < S.length) : ∃ r, valM (E.map (eK rs)) (.inr x) = some (.ref r) ∧ rs[i]? = some r ∧ h[r]? = some (.lst ((S.getD i []).map .int)) := by
  have lr : i < rs.length := by rw [R.len]; exact li
  refine ⟨rs[i], ?_, List.getElem?_eq_getElem lr, R.row i _ (List.getElem?_eq_getElem lr)⟩
  rw [valM_eK, ea]
  simp [List.getD_eq_getElem?_getD, List.getElem?_eq_getElem lr]
theorem row_of {E : Env} {S : Sto} {x : Str} {i : Nat} (ea : E.at? x = some i) : rowE E S x = S.getD i [] := by
  unfold rowE
  rw [ea]
  rfl
theorem Inv.row {v : En} {Ks : List Str} {E : Env} {S : Sto} (I : Inv v Ks E S) {i : Nat} : ∀ w ∈ S.getD i [], Wd w := by
  intro w hw
  by_cases c : i < S.length
  · rw [List.getD_eq_getElem?_getD, List.getElem?_eq_getElem c] at hw
    exact (I.wd _ (List.getElem_mem c)).2 w hw
  · rw [List.getD_eq_getElem?_getD, List.getElem?_eq_none (by omega)] at hw
    cases hw
theorem Inv.rowl {v : En} {Ks : List Str} {E : Env} {S : Sto} (I : Inv v Ks E S) {i : Nat} : (S.getD i []).length ≤ 100 := by
  by_cases c : i < S.length
  · rw [List.getD_eq_getElem?_getD, List.getElem?_eq_getElem c]
    exact (I.wd _ (List.getElem_mem c)).1
  · rw [List.getD_eq_getElem?_getD, List.getElem?_eq_none (by omega)]
    simp
theorem getD_in {l : List Int} {j : Nat} (h : j < l.length) : l[j]? = some (l.getD j 0) ∧ l.getD j 0 ∈ l := by
  rw [List.getD_eq_getElem?_getD, List.getElem?_eq_getElem h]
  exact ⟨rfl, List.getElem_mem h⟩
theorem cell_at {v : En} {Ks : List Str} {E : Env} {S : Sto} (I : Inv v Ks E S) {x : Str} (h : (x, 0) ∈ v.cells ∨ x ∈ v.names) : ∃ i, E.at? x = some i ∧ i < S.length ∧ (S.getD i []).length = 1 := by
  rcases h with h | h
  · obtain ⟨i, a, b, c⟩ := I.cells _ h
    exact ⟨i, a, b, by simpa using c⟩
  · exact I.names x h
theorem arr_at {v : En} {Ks : List Str} {E : Env} {S : Sto} (I : Inv v Ks E S) {x : Str} (h : ∃ k, 0 < k ∧ (x, k) ∈ v.cells) : ∃ i, E.at? x = some i ∧ i < S.length ∧ 0 < (S.getD i []).length := by
  obtain ⟨k, hk, h⟩ := h
  obtain ⟨i, a, b, c⟩ := I.cells _ h
  exact ⟨i, a, b, by rw [c]; omega⟩
theorem mod_nat {a : Int} {n : Nat} (h : 0 < n) : ∃ j : Nat, a % (n : Int) = (j : Int) ∧ j < n ∧ (a % (n : Int)).toNat = j := by
  have h0 := Int.emod_nonneg a (show (n : Int) ≠ 0 by omega)
  have h1 := Int.emod_lt_of_pos a (show (0 : Int) < n by omega)
  exact ⟨(a % (n : Int)).toNat, by omega, by omega, rfl⟩
theorem wd_val {v : En} {Ks : List Str} {E : Env} {S : Sto} (I : Inv v Ks E S) : ∀ {e : Ex}, okE v e → Wd (val E S e)
  | .num w, h => h
  | .cell x, h => by
    obtain ⟨i, a, b, c⟩ := cell_at I h
    simp only [val]
    rw [row_of a]
    exact I.row _ (getD_in (by omega)).2
  | .at_ x e, h => by
    obtain ⟨i, a, b, c⟩ := arr_at I h.1
    simp only [val]
    rw [row_of a]
    obtain ⟨j, e1, e2, e3⟩ := mod_nat (a := val E S e) c
    rw [e3]
    exact I.row _ (getD_in e2).2
  | .un o e, h => wd_un (wd_val I h.2)
  | .bin o a b, h => wd_b2 (wd_val I h.2.1) (wd_val I h.2.2)
theorem uns_kind {o : Str} (h : o ∈ uns) : o ≠ "num" ∧ o ≠ "cell" ∧ o ≠ "at" := by
  simp only [uns, List.mem_cons, List.not_mem_nil, or_false] at h
  rcases h with rfl | rfl | rfl <;> simp
theorem signs_kind : ∀ {o : Str}, o ∈ signs → o ≠ "num" ∧ o ≠ "cell" ∧ o ≠ "at" ∧ o ∉ uns := by
  have : signs.all (fun o => decide (o ≠ "num" ∧ o ≠ "cell" ∧ o ≠ "at" ∧ o ∉ uns)) = true := by decide +kernel
  intro o ho
  exact of_decide_eq_true (List.all_eq_true.mp this o ho)
theorem in3 {C : Ct} {a b : ME} {σ : MSt} {h : MHeap} {o : Str} {v : MV} (ea : evE C a σ h = .ok (.str o) h) (eb : evE C b σ h = .ok v h) (ev : ∀ H, seqOf H v = some (uns.map .str)) : evT C (.cmp .In a b) σ h = .ok (decide (o ∈ uns)) h := by
  have fs : ∀ x : Str, flatM (.str x) = true := fun _ => rfl
  rw [evT_cmp, ea]
  simp only [bind_ok, eb, cmpV_in, ev, flat_str, fs, and_self, if_true, in_str]
section
variable {v : En} {Ks : List Str} {E : Env} {S : Sto} {h : MHeap} {d : Nat} {rs : List Nat}
theorem evaluate_ (R : Rl h d rs E S) (I : Inv v Ks E S) : ∀ {e : Ex} {m : Nat}, okE v e → dE e + 3 ≤ m → callm Pm (m + 1) "evaluate" [encE e, .ref d] h = .ok (.int (val E S e)) h
  | .num w, m, ho, hm => by
    rw [cl_evaluate]
    unfold b_evaluate
    simp [encE, val]
    exact fin_id (by simp)
  | .cell x, m, ho, hm => by
    obtain ⟨i, a, b, c⟩ := cell_at I ho
    obtain ⟨r, e1, e2, e3⟩ := R.get a b
    rw [cl_evaluate]
    unfold b_evaluate
    simp only [val]
    rw [row_of a]
    generalize S.getD i [] = row at *
    obtain ⟨q1, q2⟩ := getD_in (l := row) (j := 0) (by omega)
    have q3 : (row.map MV.int)[0]? = some (.int (row.getD 0 0)) := by rw [List.getElem?_map, q1]; rfl
    simp [encE, R.dct, e1, e3, -List.getElem?_map, q3]
    exact fin_id (by simp)
  | .at_ x e, m, ho, hm => by
    obtain ⟨i, a, b, c⟩ := arr_at I ho.1
    obtain ⟨r, e1, e2, e3⟩ := R.get a b
    simp only [dE] at hm
    obtain ⟨m, rfl⟩ : ∃ k, m = k + 1 := ⟨m - 1, by omega⟩
    have ih := evaluate_ R I ho.2 (m := m) (by omega)
    rw [cl_evaluate]
    unfold b_evaluate
    simp only [val]
    rw [row_of a]
    generalize S.getD i [] = row at *
    obtain ⟨j, f1, f2, f3⟩ := mod_nat (a := val E S e) c
    rw [f3]
    obtain ⟨q1, q2⟩ := getD_in (l := row) (j := j) (by omega)
    have q3 : (row.map MV.int)[j]? = some (.int (row.getD j 0)) := by rw [List.getElem?_map, q1]; rfl
    simp [encE, R.dct, e1, e3, ih, c, f1, atI_cast, -List.getElem?_map, q3]
    exact fin_id (by simp)
  | .un o e, m, ho, hm => by
    simp only [dE] at hm
    obtain ⟨m, rfl⟩ : ∃ k, m = k + 1 := ⟨m - 1, by omega⟩
    have ih := evaluate_ R I ho.2 (m := m) (by omega)
    obtain ⟨k1, k2, k3⟩ := uns_kind ho.1
    have al := alter_ (n := m - 1) (h := h) ho.1 (wd_val I ho.2)
    rw [show m - 1 + 2 = m + 1 by omega] at al
    rw [cl_evaluate]
    unfold b_evaluate
    have t := in3 (C := ctx Pm (m + 1)) (a := .var 2) (b := .tup (.cons (.str "neg") (.cons (.str "inv") (.cons (.str "not") .nil)))) (σ := [some (encE (.un o e)), some (.ref d), some (.str o), none, none]) (h := h) (o := o) (v := .tup (uns.map .str)) (by simp) (by simp) (fun H => by simp)
    rw [decide_eq_true ho.1] at t
    rw [asg_of (v := .str o) (h1 := h) (by simp [encE]), run_seq, ite_false_of (h1 := h) (by simp [k1]), run_skip, seq_next, run_seq, ite_false_of (h1 := h) (by simp [k2]), run_skip, seq_next, run_seq, ite_false_of (h1 := h) (by simp [k3]), run_skip, seq_next]
    simp only [List.set_cons_succ, List.set_cons_zero]
    rw [run_seq, ite_true_of t]
    simp [encE, ih, al, val]
    exact fin_id (by simp)
  | .bin o a b, m, ho, hm => by
    simp only [dE] at hm
    obtain ⟨m, rfl⟩ : ∃ k, m = k + 1 := ⟨m - 1, by omega⟩
    have ih := evaluate_ R I ho.2.1 (m := m) (by omega)
    have ih2 := evaluate_ R I ho.2.2 (m := m) (by omega)
    obtain ⟨k1, k2, k3, k4⟩ := signs_kind ho.1
    have al := combine_ (n := m - 2) (h := h) ho.1 (wd_val I ho.2.1) (wd_val I ho.2.2)
    rw [show m - 2 + 3 = m + 1 by omega] at al
    rw [cl_evaluate]
    unfold b_evaluate
    have t := in3 (C := ctx Pm (m + 1)) (a := .var 2) (b := .tup (.cons (.str "neg") (.cons (.str "inv") (.cons (.str "not") .nil)))) (σ := [some (encE (.bin o a b)), some (.ref d), some (.str o), none, none]) (h := h) (o := o) (v := .tup (uns.map .str)) (by simp) (by simp) (fun H => by simp)
    rw [decide_eq_false k4] at t
    rw [asg_of (v := .str o) (h1 := h) (by simp [encE]), run_seq, ite_false_of (h1 := h) (by simp [k1]), run_skip, seq_next, run_seq, ite_false_of (h1 := h) (by simp [k2]), run_skip, seq_next, run_seq, ite_false_of (h1 := h) (by simp [k3]), run_skip, seq_next]
    simp only [List.set_cons_succ, List.set_cons_zero]
    rw [run_seq, ite_false_of t, run_skip, seq_next]
    simp [encE, ih, ih2, al, val]
    exact fin_id (by simp)
end
def unL (a : Int) : List (Key × MV) := [(.inr "neg", .int (-a % 4294967296)), (.inr "inv", .int (4294967295 - a)), (.inr "not", .int (if a = 0 then 1 else 0))]
theorem unL_nd {a : Int} : mergeM [] (unL a) = unL a := by
  rw [merge_nd]
  · rfl
  · show ([.inr "neg", .inr "inv", .inr "not"] : List Key).Nodup
    decide +kernel
theorem unL_v {a : Int} {o : Str} (ho : o ∈ uns) : valM (unL a) (.inr o) = some (.int (unI o a)) := by
  simp only [uns, List.mem_cons, List.not_mem_nil, or_false] at ho
  have e1 : valM (unL a) (.inr "neg") = some (.int (-a % 4294967296)) := by first | rfl | kernel_rfl
  have e2 : valM (unL a) (.inr "inv") = some (.int (4294967295 - a)) := by first | rfl | kernel_rfl
  have e3 : valM (unL a) (.inr "not") = some (.int (if a = 0 then 1 else 0)) := by first | rfl | kernel_rfl
  rcases ho with rfl | rfl | rfl
  · rw [e1]; simp [unI]
  · rw [e2]; simp [unI]
  · rw [e3]
    by_cases c : a = 0 <;> simp [unI, bi, c]
section
variable {v : En} {Ks : List Str} {E : Env} {S : Sto} {h : MHeap} {d : Nat} {rs : List Nat}
theorem value_ (R : Rl h d rs E S) (I : Inv v Ks E S) : ∀ {e : Ex} {m : Nat}, okE v e → dE e + 3 ≤ m → callm Pm (m + 1) "_law_value" [encE e, .ref d] h = .ok (.int (val E S e)) h
  | .num w, m, ho, hm => by
    rw [cl__law_value]
    unfold b__law_value
    simp [encE, val]
    exact fin_id (by simp)
  | .cell x, m, ho, hm => by
    obtain ⟨i, a, b, c⟩ := cell_at I ho
    obtain ⟨r, e1, e2, e3⟩ := R.get a b
    rw [cl__law_value]
    unfold b__law_value
    simp only [val]
    rw [row_of a]
    generalize S.getD i [] = row at *
    obtain ⟨q1, q2⟩ := getD_in (l := row) (j := 0) (by omega)
    have q3 : (row.map MV.int)[0]? = some (.int (row.getD 0 0)) := by rw [List.getElem?_map, q1]; rfl
    simp [encE, R.dct, e1, e3, -List.getElem?_map, q3]
    exact fin_id (by simp)
  | .at_ x e, m, ho, hm => by
    obtain ⟨i, a, b, c⟩ := arr_at I ho.1
    obtain ⟨r, e1, e2, e3⟩ := R.get a b
    simp only [dE] at hm
    obtain ⟨m, rfl⟩ : ∃ k, m = k + 1 := ⟨m - 1, by omega⟩
    have ih := value_ R I ho.2 (m := m) (by omega)
    rw [cl__law_value]
    unfold b__law_value
    simp only [val]
    rw [row_of a]
    generalize S.getD i [] = row at *
    obtain ⟨j, f1, f2, f3⟩ := mod_nat (a := val E S e) c
    rw [f3]
    obtain ⟨q1, q2⟩ := getD_in (l := row) (j := j) (by omega)
    have q3 : (row.map MV.int)[j]? = some (.int (row.getD j 0)) := by rw [List.getElem?_map, q1]; rfl
    simp [encE, R.dct, e1, e3, ih, c, f1, atI_cast, -List.getElem?_map, q3]
    exact fin_id (by simp)
  | .un o e, m, ho, hm => by
    simp only [dE] at hm
    obtain ⟨m, rfl⟩ : ∃ k, m = k + 1 := ⟨m - 1, by omega⟩
    have ih := value_ R I ho.2 (m := m) (by omega)
    obtain ⟨k1, k2, k3⟩ := uns_kind ho.1
    rw [cl__law_value]
    unfold b__law_value
    have t := in3 (C := ctx Pm (m + 1)) (a := .idx (.var 0) (.int 0)) (b := .mk false (.fl (.cons (.str "neg") (.cons (.str "inv") (.cons (.str "not") .nil))))) (σ := [some (encE (.un o e)), some (.ref d), none, some (.int (val E S e))]) (h := h) (o := o) (v := .lst (uns.map .str)) (by simp [encE]) (by simp) (fun H => by simp)
    rw [decide_eq_true ho.1] at t
    have dd : evE (ctx Pm (m + 1)) (.dd (.cons (.str "neg") (.cons (.bin .Mod (.bc .int (.cons (.bin .Sub (.int 0) (.var 3)) .nil)) (.int 4294967296)) (.cons (.str "inv") (.cons (.bin .Sub (.int 4294967295) (.var 3)) (.cons (.str "not") (.cons (.bc .int (.cons (.cmp .Eq (.var 3) (.int 0)) .nil)) .nil))))))) [some (encE (.un o e)), some (.ref d), none, some (.int (val E S e))] h = .ok (.ref h.length) (h ++ [.dct (unL (val E S e))]) := by
      rw [← unL_nd]
      simp
      show (match some (unL (val E S e)) with
        | some ps => if ps.length ≤ 15 then Rs.ok (MV.ref h.length) (h ++ [MO.dct (mergeM [] ps)]) else Rs.bad
        | none => Rs.bad) = _
      simp [show (unL (val E S e)).length ≤ 15 from Nat.le_of_ble_eq_true rfl]
    rw [run_seq, ite_false_of (h1 := h) (by simp [encE, k1]), run_skip, seq_next, run_seq, ite_false_of (h1 := h) (by simp [encE, k2]), run_skip, seq_next, run_seq, ite_false_of (h1 := h) (by simp [encE, k3]), run_skip, seq_next, asg_of (v := .int (val E S e)) (h1 := h) (by simp [encE, ih])]
    simp only [List.set_cons_succ, List.set_cons_zero]
    rw [run_seq, ite_true_of t]
    have it : itemV (encE (.un o e)) (.int 0) (h ++ [.dct (unL (val E S e))]) = .ok (.str o) (h ++ [.dct (unL (val E S e))]) := by simp [encE]
    simp [-evE_dd, dd, it, unL_v ho.1, val]
    refine fin_app ?_
    simp
  | .bin o a b, m, ho, hm => by
    simp only [dE] at hm
    obtain ⟨m, rfl⟩ : ∃ k, m = k + 1 := ⟨m - 1, by omega⟩
    have ih := value_ R I ho.2.1 (m := m) (by omega)
    have ih2 := value_ R I ho.2.2 (m := m) (by omega)
    obtain ⟨k1, k2, k3, k4⟩ := signs_kind ho.1
    have al := two_ (n := m) (h := h) ho.1 (wd_val I ho.2.1) (wd_val I ho.2.2)
    rw [cl__law_value]
    unfold b__law_value
    have t := in3 (C := ctx Pm (m + 1)) (a := .idx (.var 0) (.int 0)) (b := .mk false (.fl (.cons (.str "neg") (.cons (.str "inv") (.cons (.str "not") .nil))))) (σ := [some (encE (.bin o a b)), some (.ref d), none, some (.int (val E S a))]) (h := h) (o := o) (v := .lst (uns.map .str)) (by simp [encE]) (by simp) (fun H => by simp)
    rw [decide_eq_false k4] at t
    rw [run_seq, ite_false_of (h1 := h) (by simp [encE, k1]), run_skip, seq_next, run_seq, ite_false_of (h1 := h) (by simp [encE, k2]), run_skip, seq_next, run_seq, ite_false_of (h1 := h) (by simp [encE, k3]), run_skip, seq_next, asg_of (v := .int (val E S a)) (h1 := h) (by simp [encE, ih])]
    simp only [List.set_cons_succ, List.set_cons_zero]
    rw [run_seq, ite_false_of t, run_skip, seq_next]
    simp [encE, ih2, al, val]
    exact fin_id (by simp)
end
end Lw
namespace Lw
open PySem PySem.Spec PyProof.Rows L2 Mn
/-! ### the parts of an expression -/
def pN : Ex → Nat
  | .num _ => 1
  | .cell _ => 1
  | .at_ _ e => pN e + 1
  | .un _ e => pN e + 1
  | .bin _ a b => pN a + pN b + 1
theorem isT_E {e : Ex} {h : MHeap} : bfV .isTuple [encE e] h = .ok (.bl true) h := by cases e <;> simp [encE]
theorem cut1 {x : MV} {xs : List MV} : cutM (x :: xs) (some 1) none = xs := cut_from (w := 1)
theorem parts_run {m : Nat} {h : MHeap} {hd : MV} {its : List (MV × Option Nat)} (hl : its.length ≤ 3) (h0 : ∀ x ∈ its, x.2 = none → bfV .isTuple [x.1] h = .ok (.bl false) h) (h1 : ∀ x ∈ its, ∀ k, x.2 = some k → bfV .isTuple [x.1] h = .ok (.bl true) h ∧ callm Pm m "_law_parts" [x.1] h = .ok (.int (k : Nat)) h) :
    callm Pm (m + 1) "_law_parts" [.tup (hd :: its.map (·.1))] h = .ok (.int (1 + ((its.filter fun x => x.2.isSome).map fun x => ((x.2.getD 0 : Nat) : Int)).sum)) h := by
  have ev := evF_filt (C := ctx Pm m) (own := [1]) (t := .nm 1) (el := .call "_law_parts" (.cons (.var 1) .nil)) (it := .iv (.x2 .tsl (.var 0) (.int 1))) (cond := .cons (.tru (.bc .isTuple (.cons (.var 1) .nil))) .nil) (σ := [some (.tup (hd :: its.map (·.1))), none]) (h := h) (h1 := h) (s := ⟨its.map (·.1), []⟩) (xs := its) (enc := (·.1)) (fun x => x.2.isSome) (fun x => .int ((x.2.getD 0 : Nat) : Int)) (by simp [cut1]) rfl ok_nil (by rw [sizeLine_eq]; omega) fun x hx => ⟨[some (.tup (hd :: its.map (·.1))), some x.1], rfl, ?_, fun hp => ?_⟩
  · rw [cl__law_parts]
    unfold b__law_parts
    have e : ((its.filter fun x => x.2.isSome).map fun x => MV.int ((x.2.getD 0 : Nat) : Int)) = ((its.filter fun x => x.2.isSome).map fun x => ((x.2.getD 0 : Nat) : Int)).map .int := by rw [List.map_map]; rfl
    rw [e] at ev
    simp [-evF_fc, -List.map_map, ev]
    first | done | exact fin_id (by simp)
  · cases q : x.2 with
    | none => simp [h0 x hx q]
    | some k => simp [(h1 x hx k q).1]
  · cases q : x.2 with
    | none => rw [q] at hp; cases hp
    | some k => simp [(h1 x hx k q).2]
theorem isT_i {i : Int} {h : MHeap} : bfV .isTuple [.int i] h = .ok (.bl false) h := rfl
theorem isT_s {x : Str} {h : MHeap} : bfV .isTuple [.str x] h = .ok (.bl false) h := rfl
theorem parts_ : ∀ {e : Ex} {m : Nat} {h : MHeap}, dE e ≤ m → callm Pm (m + 1) "_law_parts" [encE e] h = .ok (.int (pN e : Nat)) h
  | .num w, m, h, hm => parts_run (hd := .str "num") (its := [(.int w, none)]) (by simp) (by simp [isT_i]) (by simp)
  | .cell x, m, h, hm => parts_run (hd := .str "cell") (its := [(.str x, none)]) (by simp) (by simp [isT_s]) (by simp)
  | .at_ x e, m + 1, h, hm => by
    have ih := parts_ (e := e) (m := m) (h := h) (by simp only [dE] at hm; omega)
    have := parts_run (m := m + 1) (h := h) (hd := .str "at") (its := [(.str x, none), (encE e, some (pN e))]) (by simp) (by simp [isT_s]) (by simp [isT_E, ih])
    rw [show ((pN (.at_ x e) : Nat) : Int) = 1 + ([((pN e : Nat) : Int)]).sum by simp [pN]; omega]
    exact this
  | .un o e, m + 1, h, hm => by
    have ih := parts_ (e := e) (m := m) (h := h) (by simp only [dE] at hm; omega)
    have := parts_run (m := m + 1) (h := h) (hd := .str o) (its := [(encE e, some (pN e))]) (by simp) (by simp) (by simp [isT_E, ih])
    rw [show ((pN (.un o e) : Nat) : Int) = 1 + ([((pN e : Nat) : Int)]).sum by simp [pN]; omega]
    exact this
  | .bin o a b, m + 1, h, hm => by
    have ih1 := parts_ (e := a) (m := m) (h := h) (by simp only [dE] at hm; omega)
    have ih2 := parts_ (e := b) (m := m) (h := h) (by simp only [dE] at hm; omega)
    have := parts_run (m := m + 1) (h := h) (hd := .str o) (its := [(encE a, some (pN a)), (encE b, some (pN b))]) (by simp) (by simp) (by simp [isT_E, ih1, ih2])
    rw [show ((pN (.bin o a b) : Nat) : Int) = 1 + ([((pN a : Nat) : Int), ((pN b : Nat) : Int)]).sum by simp [pN]; omega]
    exact this
  | .at_ _ _, 0, _, hm => by simp only [dE] at hm; omega
  | .un _ _, 0, _, hm => by simp only [dE] at hm; omega
  | .bin _ _ _, 0, _, hm => by simp only [dE] at hm; omega
/-- the last part -/
def lastE : Ex → Ex
  | .at_ _ e => e
  | .un _ e => e
  | .bin _ _ b => b
  | e => e
theorem last_ {e : Ex} {h : MHeap} (hp : 1 < pN e) : itemV (encE e) (.int (-1)) h = .ok (encE (lastE e)) h := by
  cases e with
  | num w => simp [pN] at hp
  | cell x => simp [pN] at hp
  | _ => simp [encE, lastE]
theorem last_lt {e : Ex} (hp : 1 < pN e) : dE (lastE e) < dE e := by
  cases e with
  | num w => simp [pN] at hp
  | cell x => simp [pN] at hp
  | _ => simp only [lastE, dE]; omega
theorem last_ok {v : En} {e : Ex} (h : okE v e) : okE v (lastE e) := by
  cases e with
  | num w => exact h
  | cell x => exact h
  | at_ x e => exact h.2
  | un x e => exact h.2
  | bin x a b => exact h.2.2
end Lw
namespace Lw
open PySem PySem.Spec PyProof.Rows L2 Mn
/-! ### repr of a live dict -/
theorem rpr_dct {h : MHeap} {n : Nat} {kvs : List (Key × MV)} {ds : List (PyData × PyData)} (e : h[n]? = some (.dct kvs)) (q : datPx (datF h 7) kvs = some ds) (h1 : PyData.showableKv ds = true) (h2 : nodX ds = true) (h3 : PyData.leavesShortKv 13 ds = true) (h4 : PyData.depthKv ds ≤ 39) (h5 : PyData.bulkKv ds ≤ 2 ^ 20) :
    rprV h (.ref n) = some (PyData.dict ds).shown := by
  have a1 : datF h 8 (.ref n) = none := by
    show ((match h[n]? with
      | some (.lst xs) => datL (datF h 7) xs
      | _ => none).map PyData.list) = none
    rw [e]
    rfl
  have a2 : datDx h (.ref n) = some ds := by
    unfold datDx
    simp only [e]
    exact q
  have b1 : (PyData.dict ds).showable = true := by rw [PyData.showable]; exact h1
  have b2 : (PyData.dict ds).leavesShort 13 = true := by rw [PyData.leavesShort]; exact h3
  have b3 : (PyData.dict ds).bulk ≤ 2 ^ 20 := by rw [PyData.bulk]; exact h5
  have b4 : (PyData.dict ds).depth ≤ 40 := by rw [PyData.depth]; omega
  unfold rprV
  rw [a1]
  simp only [a2]
  exact if_pos ⟨b1, h2, b4, PyData.shown_fits_bulk (B := 13) (by decide) (by decide) b2 b3⟩
theorem dat_ints {f : MV → Option PyData} (hf : ∀ i, f (.int i) = some (.int i)) : ∀ {ws : List Int}, datL f (ws.map .int) = some (ws.map .int)
  | [] => rfl
  | w :: ws => by
    rw [List.map_cons, datL_cons, hf, dat_ints hf]
    rfl
theorem dat_row {h : MHeap} {r : Nat} {ws : List Int} (e : h[r]? = some (.lst (ws.map .int))) : datF h 7 (.ref r) = some (.list (ws.map .int)) := by
  show ((match h[r]? with
      | some (.lst xs) => datL (datF h 6) xs
      | _ => none).map PyData.list) = _
  rw [e]
  simp only [dat_ints (f := datF h 6) (fun i => rfl)]
  rfl
def dtE (S : Sto) (p : Str × Nat) : PyData × PyData := (.str p.1, .list ((S.getD p.2 []).map .int))
theorem dat_rl {h : MHeap} {d : Nat} {rs : List Nat} {E : Env} {S : Sto} (R : Rl h d rs E S) : ∀ {F : Env}, (∀ p ∈ F, p.2 < S.length) → datPx (datF h 7) (F.map (eK rs)) = some (F.map (dtE S))
  | [], _ => rfl
  | p :: F, hp => by
    have l := hp p List.mem_cons_self
    have lr : p.2 < rs.length := by rw [R.len]; exact l
    have e1 : rs.getD p.2 0 = rs[p.2] := by rw [List.getD_eq_getElem?_getD, List.getElem?_eq_getElem lr]; rfl
    have e2 := dat_row (R.row p.2 _ (List.getElem?_eq_getElem lr))
    rw [List.map_cons, List.map_cons]
    show datPx (datF h 7) ((.inr p.1, .ref (rs.getD p.2 0)) :: F.map (eK rs)) = _
    rw [e1]
    unfold datPx
    rw [e2, dat_rl R (fun q hq => hp q (List.mem_cons_of_mem _ hq))]
    rfl
theorem row_facts : ∀ {ws : List Int}, (∀ w ∈ ws, Wd w) → PyData.showableAll (ws.map .int) = true ∧ PyData.leavesShortAll 13 (ws.map .int) = true ∧ PyData.hasDictAll (ws.map .int) = false ∧ PyData.depthAll (ws.map .int) = 0 ∧ PyData.bulkAll (ws.map .int) = ws.length
  | [], _ => ⟨rfl, rfl, rfl, rfl, rfl⟩
  | w :: ws, h => by
    obtain ⟨a1, a2, a3, a4, a5⟩ := row_facts (ws := ws) fun x hx => h x (List.mem_cons_of_mem _ hx)
    obtain ⟨w0, w1⟩ := h w List.mem_cons_self
    obtain ⟨_, d, e1, e2, e3, _⟩ := rp_int (n := 0) (w := 0) (i := w) (by omega)
    cases (show some (PyData.int w) = some d from e1)
    rw [List.map_cons]
    refine ⟨?_, ?_, ?_, ?_, ?_⟩
    · rw [PyData.showableAll, e2, a1]; rfl
    · rw [PyData.leavesShortAll, e3, a2]; rfl
    · rw [PyData.hasDictAll, a3, PyData.hasDict]; rfl
    · rw [PyData.depthAll, a4, PyData.depth]; rfl
    · rw [PyData.bulkAll, a5, PyData.bulk, List.length_cons]; omega
/-- the names of a law's dict are short -/
def ShE (F : Env) : Prop := ∀ p ∈ F, PyData.leavesShort 13 (.str p.1) = true ∧ (PyData.str p.1).bulk ≤ 100
theorem dict_facts {S : Sto} (hS : ∀ i, (S.getD i []).length ≤ 100 ∧ ∀ w ∈ S.getD i [], Wd w) : ∀ {F : Env}, ShE F → PyData.showableKv (F.map (dtE S)) = true ∧ nodX (F.map (dtE S)) = true ∧ PyData.leavesShortKv 13 (F.map (dtE S)) = true ∧ PyData.depthKv (F.map (dtE S)) ≤ 1 ∧ PyData.bulkKv (F.map (dtE S)) ≤ F.length * 202
  | [], _ => ⟨rfl, rfl, rfl, Nat.zero_le _, Nat.zero_le _⟩
  | p :: F, h => by
    obtain ⟨a1, a2, a3, a4, a5⟩ := dict_facts hS (F := F) fun x hx => h x (List.mem_cons_of_mem _ hx)
    obtain ⟨w0, w1⟩ := h p List.mem_cons_self
    obtain ⟨s1, s2⟩ := hS p.2
    obtain ⟨b1, b2, b3, b4, b5⟩ := row_facts s2
    rw [List.map_cons]
    show PyData.showableKv ((.str p.1, .list ((S.getD p.2 []).map .int)) :: F.map (dtE S)) = true ∧ nodX ((.str p.1, .list ((S.getD p.2 []).map .int)) :: F.map (dtE S)) = true ∧ PyData.leavesShortKv 13 ((.str p.1, .list ((S.getD p.2 []).map .int)) :: F.map (dtE S)) = true ∧ PyData.depthKv ((.str p.1, .list ((S.getD p.2 []).map .int)) :: F.map (dtE S)) ≤ 1 ∧ PyData.bulkKv ((.str p.1, .list ((S.getD p.2 []).map .int)) :: F.map (dtE S)) ≤ (p :: F).length * 202
    refine ⟨?_, ?_, ?_, ?_, ?_⟩
    · rw [PyData.showableKv, PyData.showable, PyData.showable, b1, a1]; rfl
    · unfold nodX at a2 ⊢
      rw [List.all_cons, a2, PyData.hasDict, b3]; rfl
    · rw [PyData.leavesShortKv, w0, PyData.leavesShort, b2, a3]; rfl
    · rw [PyData.depthKv, PyData.depth, PyData.depth, b4]; omega
    · have e : (PyData.list ((S.getD p.2 []).map .int)).bulk = (S.getD p.2 []).length := by rw [PyData.bulk]; exact b5
      rw [PyData.bulkKv, e, List.length_cons]
      omega
theorem rpr_rl {h : MHeap} {d : Nat} {rs : List Nat} {E : Env} {S : Sto} (R : Rl h d rs E S) (ix : ∀ p ∈ E, p.2 < S.length) (hE : ShE E) (hl : E.length ≤ 100) (hS : ∀ i, (S.getD i []).length ≤ 100 ∧ ∀ w ∈ S.getD i [], Wd w) : rprV h (.ref d) = some (PyData.dict (E.map (dtE S))).shown := by
  obtain ⟨a1, a2, a3, a4, a5⟩ := dict_facts hS hE
  exact rpr_dct R.dct (dat_rl R ix) a1 a2 a3 (by omega) (by omega)
end Lw
namespace Lw
open PySem PySem.Spec PyProof.Rows L2 Mn
/-! ### the names of the law -/
theorem wrow_ {k : Nat} {g : Rg} {tl : MHeap} {σ : MSt} (hk : k ≤ 64) (s1 : σ[1]? = some (some (.ref 1))) (s5 : σ[5]? = some (some (.int (k : Int)))) (l : 6 < σ.length) :
    ∃ (ws : List Int) (g' : Rg), ws.length = max 1 k ∧ (∀ w ∈ ws, Wd w) ∧ evF (ctx Pm 79) (.fc [6] (.nm 6) (.call "_law_word" (.cons (.var 1) .nil)) (.ir1 (.bc .max2 (.cons (.int 1) (.cons (.var 5) .nil)))) .nil) σ (g.hp tl) = .ok (ws.map .int) (g'.hp tl) := by
  have mx : evE (ctx Pm 79) (.bc .max2 (.cons (.int 1) (.cons (.var 5) .nil))) σ (g.hp tl) = .ok (.int ((max 1 k : Nat) : Int)) (g.hp tl) := by
    by_cases c : (k : Int) > 1
    · simp [s5, c, show max 1 k = k by omega]
    · simp [s5, c, show max 1 k = 1 by omega]
  obtain ⟨vs, h', e, I⟩ := evF_inv (C := ctx Pm 79) (own := [6]) (t := .nm 6) (el := .call "_law_word" (.cons (.var 1) .nil)) (it := .ir1 (.bc .max2 (.cons (.int 1) (.cons (.var 5) .nil)))) (cond := .nil) (σ := σ) (h := g.hp tl) (h1 := g.hp tl) (s := ⟨rngL 0 1 (max 1 k), []⟩) (List.range (max 1 k)) (fun i : Nat => .int (i : Int))
    (fun i vs h => ∃ (ws : List Int) (g' : Rg), ws.length = i ∧ (∀ w ∈ ws, Wd w) ∧ vs = ws.map .int ∧ h = g'.hp tl) (evI_r1 mx (by omega)) rng0 ⟨[], g, rfl, (by simp), rfl, rfl⟩ (fun _ _ _ _ => ok_nil) (by rw [sizeLine_eq, List.length_range]; omega) (fun i x vs h hI hx => by
      obtain ⟨ws, g', e1, e2, rfl, rfl⟩ := hI
      obtain ⟨w, g2, q1, q2, q3⟩ := word_ (n := 76) (g := g') (tl := tl)
      refine ⟨(wipeM σ [6]).set 6 (some (.int (x : Int))), true, g'.hp tl, rfl, by simp, ?_⟩
      rw [if_pos rfl]
      refine ⟨.int w, g2.hp tl, ?_, ws ++ [w], g2, by simp [e1], fun e he => ?_, by simp, rfl⟩
      · simp [wipeM, s1, q3]
      · rcases List.mem_append.mp he with he | he
        · exact e2 e he
        · rw [List.mem_singleton.mp he]
          exact ⟨q1, q2⟩)
  obtain ⟨es, g', e1, e2, rfl, rfl⟩ := I
  exact ⟨es, g', by rw [e1, List.length_range], e2, e⟩
def csL (k : Nat) : List (Str × Nat) := [("first", 0), ("row", 1 + k), ("x", 0), ("y", 2)]
def nmE : Env := [("first", 0), ("row", 1), ("x", 2), ("y", 3)]
def kvE : List (Key × MV) := [(.inr "first", .ref 3), (.inr "row", .ref 4), (.inr "x", .ref 5), (.inr "y", .ref 6)]
theorem kvE_eq : kvE = nmE.map (eK [3, 4, 5, 6]) := rfl
theorem kv0 : putKM (kvE.take 0) (.inr "first") (.ref 3) = kvE.take 1 := by first | rfl | kernel_rfl
theorem kv1 : putKM (kvE.take 1) (.inr "row") (.ref 4) = kvE.take 2 := by first | rfl | kernel_rfl
theorem kv2 : putKM (kvE.take 2) (.inr "x") (.ref 5) = kvE.take 3 := by first | rfl | kernel_rfl
theorem kv3 : putKM (kvE.take 3) (.inr "y") (.ref 6) = kvE.take 4 := by first | rfl | kernel_rfl
def SWd (S : Sto) : Prop := ∀ row ∈ S, row.length ≤ 100 ∧ ∀ w ∈ row, Wd w
def rowsM (S : Sto) : MHeap := S.map fun r => .lst (r.map .int)
theorem kv_put {k i : Nat} {c : Str × Nat} (h : (csL k)[i]? = some c) : putKM (kvE.take i) (.inr c.1) (.ref (3 + i)) = kvE.take (i + 1) := by
  match i, h with
  | 0, h => simp [csL] at h; subst h; exact kv0
  | 1, h => simp [csL] at h; subst h; exact kv1
  | 2, h => simp [csL] at h; subst h; exact kv2
  | 3, h => simp [csL] at h; subst h; exact kv3
  | i + 4, h => simp [csL] at h
structure NmI (ns : List Int) (k i : Nat) (σ : MSt) (H : MHeap) : Prop where
  of :: at_ : ∃ (g : Rg) (S : Sto) (z4 z5 : Option MV), σ = [some (.scr (ns.map .int)), some (.ref 1), some (.lst ((csL k).map encC)), some (.ref 2), z4, z5, none, none, none, none, none] ∧ S.length = i ∧ (∀ (j : Nat) (c : Str × Nat), (csL k)[j]? = some c → j < i → (S.getD j []).length = max 1 c.2) ∧ SWd S ∧ H = g.hp (.dct (kvE.take i) :: rowsM S)
theorem names_ {ns : List Int} {k : Nat} (hk : k < 64) {g : Rg} {kk : MSt → MHeap → Out} (Qo : Out → Prop)
    (hq : ∀ σ H, NmI ns k 4 σ H → Qo (kk σ H)) :
    Qo ((run (ctx Pm 79) (.for_ (.tp [4, 5]) (.iv (.var 2))
    (.seq (.setd (.var 3) (.var 4) (.mk true (.fc [6] (.nm 6) (.call "_law_word" (.cons (.var 1) .nil)) (.ir1 (.bc .max2 (.cons (.int 1) (.cons (.var 5) .nil)))) .nil)))
    .skip)) [some (.scr (ns.map .int)), some (.ref 1), some (.lst ((csL k).map encC)), some (.ref 2), none, none, none, none, none, none, none] (g.hp [.dct []])).seq kk) := by
  refine for_inv (csL k) encC Qo (fun i σ H => NmI ns k i σ H) (s := ⟨(csL k).map encC, []⟩) (h1 := g.hp [.dct []]) (by simp) rfl ⟨g, [], none, none, rfl, rfl, fun _ _ _ h => absurd h (by omega), (by intro _ h; cases h), rfl⟩ (fun _ _ _ _ => ok_nil) ?_ (fun σ H h => hq σ H h)
  rintro i c σ H ⟨g, S, z4, z5, rfl, lS, hl, w, rfl⟩ hc
  have li := (List.getElem?_eq_some_iff.mp hc).1
  have li : i < 4 := li
  have c64 : c.2 ≤ 64 := by
    have := List.mem_of_getElem? hc
    simp [csL] at this
    rcases this with rfl | rfl | rfl | rfl <;> simp <;> omega
  refine ⟨_, rfl, nx_turn ?_⟩
  simp only [List.set_cons_succ, List.set_cons_zero]
  obtain ⟨ws, g', e1, e2, e3⟩ := wrow_ (k := c.2) (g := g) (tl := .dct (kvE.take i) :: rowsM S) (σ := [some (.scr (ns.map .int)), some (.ref 1), some (.lst ((csL k).map encC)), some (.ref 2), some (.str c.1), some (.int c.2), none, none, none, none, none]) c64 rfl rfl (by simp)
  have ll : (g'.hp (.dct (kvE.take i) :: rowsM S)).length = 3 + i := by
    rw [hp_length, List.length_cons]; unfold rowsM; rw [List.length_map, lS]; omega
  have kl : (kvE.take i).length < sizeLine := by
    rw [sizeLine_eq]
    have : (kvE.take i).length ≤ 4 := by rw [List.length_take]; exact Nat.min_le_right _ _
    omega
  have sd : setDV (.ref 2) (.str c.1) (.ref (3 + i)) (g'.hp (.dct (kvE.take i) :: rowsM S) ++ [.lst (ws.map .int)]) = some (g'.hp (.dct (kvE.take (i + 1)) :: rowsM (S ++ [ws]))) := by
    rw [← kv_put hc]
    have : rowsM (S ++ [ws]) = rowsM S ++ [.lst (ws.map .int)] := by unfold rowsM; rw [List.map_append]; rfl
    rw [this, setDV_ref, hp_app]
    show (if (kvE.take i).length < sizeLine then some _ else none) = _
    rw [if_pos kl]
    rfl
  refine ⟨_, _, ?_, ⟨g', S ++ [ws], some (.str c.1), some (.int c.2), rfl, by simp [lS], fun j d hd hj => ?_, fun row hr => ?_, rfl⟩⟩
  · rw [run_seq, run_setd, evE_mk, e3]
    simp only [bind_ok, if_true, out_ok, evE_var, List.getElem?_cons_succ, List.getElem?_cons_zero, ll, sd, seq_next, run_skip]
  · by_cases cj : j < i
    · rw [List.getD_eq_getElem?_getD, List.getElem?_append_left (by omega), ← List.getD_eq_getElem?_getD]
      exact hl j d hd cj
    · obtain rfl : j = i := by omega
      rw [hc] at hd
      cases hd
      rw [List.getD_eq_getElem?_getD, ← lS, List.getElem?_append_right (Nat.le_refl _)]
      simp [e1]
  · rcases List.mem_append.mp hr with hr | hr
    · exact w row hr
    · rw [List.mem_singleton] at hr
      subst hr
      exact ⟨by rw [e1]; omega, e2⟩
end Lw
namespace Lw
open PySem PySem.Spec PyProof.Rows L2 Mn
/-! ### the three rounds -/
def vE (k : Nat) : En := ⟨csL k, [], [], [], 0⟩
structure SOk (k : Nat) (S : Sto) : Prop where
  len : S.length = 4
  row : ∀ (j : Nat) (c : Str × Nat), (csL k)[j]? = some c → j < 4 → (S.getD j []).length = max 1 c.2
  wd : SWd S
theorem rlE {k : Nat} {S : Sto} (O : SOk k S) (g : Rg) : Rl (g.hp (.dct (kvE.take 4) :: rowsM S)) 2 [3, 4, 5, 6] nmE S := by
  refine ⟨rfl, by rw [O.len]; rfl, fun i r h => ?_, by decide⟩
  have li : i < 4 := (List.getElem?_eq_some_iff.mp h).1
  have hr : r = 3 + i := by
    match i, h with
    | 0, h => simp at h; omega
    | 1, h => simp at h; omega
    | 2, h => simp at h; omega
    | 3, h => simp at h; omega
    | i + 4, h => simp at h
  subst hr
  have : (rowsM S)[i]? = some (.lst ((S.getD i []).map .int)) := by
    have l2 : i < S.length := by rw [O.len]; exact li
    unfold rowsM
    rw [List.getElem?_map, List.getElem?_eq_getElem l2, List.getD_eq_getElem?_getD, List.getElem?_eq_getElem l2]
    rfl
  rw [← this, show 3 + i = (i + 1) + 2 by omega]
  rfl
theorem at0 : nmE.at? "first" = some 0 := by first | rfl | kernel_rfl
theorem at1 : nmE.at? "row" = some 1 := by first | rfl | kernel_rfl
theorem at2 : nmE.at? "x" = some 2 := by first | rfl | kernel_rfl
theorem at3 : nmE.at? "y" = some 3 := by first | rfl | kernel_rfl
theorem invE {k : Nat} {S : Sto} (O : SOk k S) : Inv (vE k) ["first", "row", "x", "y"] nmE S := by
  have l4 := O.len
  refine ⟨fun c hc => ?_, fun x hx => (by cases hx), O.wd, by unfold nmE; decide +kernel, fun p hp => ?_, by decide, fun p hp => ?_⟩
  · have hc : c ∈ csL k := hc
    simp [csL] at hc
    rcases hc with rfl | rfl | rfl | rfl
    · exact ⟨0, at0, by omega, O.row 0 _ rfl (by omega)⟩
    · exact ⟨1, at1, by omega, O.row 1 _ rfl (by omega)⟩
    · exact ⟨2, at2, by omega, O.row 2 _ rfl (by omega)⟩
    · exact ⟨3, at3, by omega, O.row 3 _ rfl (by omega)⟩
  · simp [nmE] at hp
    rcases hp with rfl | rfl | rfl | rfl <;> simp
  · simp [nmE] at hp
    rcases hp with rfl | rfl | rfl | rfl <;> simp <;> omega
theorem shE : ShE nmE := fun p hp => by
  simp [nmE] at hp
  rcases hp with rfl | rfl | rfl | rfl <;> exact ⟨by decide +kernel, by decide +kernel⟩
theorem rprE {k : Nat} {S : Sto} (O : SOk k S) (g : Rg) : rprV (g.hp (.dct (kvE.take 4) :: rowsM S)) (.ref 2) = some (PyData.dict (nmE.map (dtE S))).shown :=
  rpr_rl (rlE O g) (invE O).ix shE (by decide) fun i => ⟨(invE O).rowl, (invE O).row⟩
/-- the state in the rounds -/
structure TI (ns : List Int) (k : Nat) (S : Sto) (x : Str) (σ : MSt) (H : MHeap) : Prop where
  of :: at_ : ∃ (g : Rg) (z4 z5 z6 z8 z9 z10 : Option MV), σ = [some (.scr (ns.map .int)), some (.ref 1), some (.lst ((csL k).map encC)), some (.ref 2), z4, z5, z6, some (.str x), z8, z9, z10] ∧ H = g.hp (.dct (kvE.take 4) :: rowsM S)
def turnB : MS := .seq (.asg 8 (.call "_law_expr" (.cons (.var 1) (.cons (.mk false (.fl (.cons (.var 2) (.cons (.mk false (.fl .nil)) (.cons (.mk false (.fl .nil)) (.cons (.mk false (.fl .nil)) (.cons (.int 0) .nil))))))) (.cons (.bin .Add (.int 1) (.call "_law_draw" (.cons (.var 1) (.cons (.int 6) .nil)))) .nil)))))
    (.seq (.whl (.cmp .Gt (.call "_law_parts" (.cons (.var 8) .nil)) (.int 40))
    (.seq (.asg 8 (.idx (.var 8) (.neg (.int 1))))
    .skip))
    (.seq (.asg 9 (.call "_law_value" (.cons (.var 8) (.cons (.var 3) .nil))))
    (.seq (.asg 10 (.call "evaluate" (.cons (.var 8) (.cons (.var 3) .nil))))
    (.seq (.ite (.or (.not (.tru (.bc .isInt (.cons (.var 10) .nil)))) (.or (.tru (.bc .isBool (.cons (.var 10) .nil))) (.cmp .NotEq (.var 10) (.var 9))))
    (.seq (.ret (.bl false))
    .skip)
    .skip)
    .skip))))
theorem isI {i : Int} {h : MHeap} : bfV .isInt [.int i] h = .ok (.bl true) h := rfl
theorem isB {i : Int} {h : MHeap} : bfV .isBool [.int i] h = .ok (.bl false) h := rfl
theorem turn_ {ns : List Int} {k : Nat} {S : Sto} {x : Str} (O : SOk k S) {σ : MSt} {H : MHeap} (T : TI ns k S x σ H) : NX (TI ns k S x) (run (ctx Pm 79) turnB σ H) := by
  obtain ⟨g, z4, z5, z6, z8, z9, z10, rfl, rfl⟩ := T
  obtain ⟨tl, etl⟩ : ∃ tl, tl = MO.dct (kvE.take 4) :: rowsM S := ⟨_, rfl⟩
  have R := fun g => rlE O g
  rw [← etl] at R ⊢
  have d1 := draw (n := 78) (g := g) (m := 6) (tl := tl) (by omega) (by omega)
  obtain ⟨m, em⟩ := Int.eq_ofNat_of_zero_le (Rg.v_lo (g := g) (m := 6) (by omega))
  have m1 := Rg.v_hi (g := g) (m := 6) (by omega)
  rw [em] at d1 m1
  obtain ⟨e, g2, k1, k2, k3⟩ := expr_ (v := vE k) (by simp [vE, csL]) (1 + m) (n := 79 - (1 + m) - 4) (g := g.n 6) (tl := tl)
  rw [show 79 - (1 + m) - 4 + (1 + m) + 4 = 79 by omega] at k3
  have en : encEn (vE k) = .lst [.lst ((csL k).map encC), .lst [], .lst [], .lst [], .int 0] := rfl
  rw [en, show ((1 + m : Nat) : Int) = 1 + (m : Int) by omega] at k3
  unfold turnB
  rw [asg_of (v := encE e) (h1 := g2.hp tl) (by simp [-List.map_cons, d1, k3])]
  simp only [List.set_cons_succ, List.set_cons_zero]
  rw [run_seq]
  show NX (TI ns k S x) ((whl (evT (ctx Pm 79) _) (run (ctx Pm 79) _) _ _).seq _)
  refine whl_inv (NX (TI ns k S x)) (fun ⟨_, _, h, _⟩ => by cases h) (fun n σ H => ∃ e : Ex, n = dE e ∧ okE (vE k) e ∧ dE e ≤ 7 ∧ σ = [some (.scr (ns.map .int)), some (.ref 1), some (.lst ((csL k).map encC)), some (.ref 2), z4, z5, z6, some (.str x), some (encE e), z9, z10] ∧ H = g2.hp tl) (dE e) ⟨e, rfl, k1, by omega, rfl, rfl⟩ ?_
  rintro n σ H ⟨e, rfl, ok, l7, rfl, rfl⟩
  have pe := fun h => parts_ (e := e) (m := 78) (h := h) (by omega)
  refine ⟨decide (((pN e : Nat) : Int) > 40), g2.hp tl, by simp [pe], ?_⟩
  by_cases c : ((pN e : Nat) : Int) > 40
  · rw [if_pos (decide_eq_true c)]
    have p1 : 1 < pN e := by omega
    have le := fun h => last_ (e := e) (h := h) p1
    refine nx_turn ⟨_, g2.hp tl, ?_, dE (lastE e), last_lt p1, lastE e, rfl, last_ok ok, by have := last_lt p1; omega, rfl, rfl⟩
    simp [le]
  · rw [if_neg (by simpa using c)]
    have va := value_ (R g2) (invE O) (m := 78) ok (by omega)
    have ea := evaluate_ (R g2) (invE O) (m := 78) ok (by omega)
    rw [asg_of (v := .int (val nmE S e)) (h1 := g2.hp tl) (by simp [va])]
    simp only [List.set_cons_succ, List.set_cons_zero]
    rw [asg_of (v := .int (val nmE S e)) (h1 := g2.hp tl) (by simp [ea])]
    simp only [List.set_cons_succ, List.set_cons_zero]
    rw [run_seq, ite_false_of (h1 := g2.hp tl) (by simp [isI, isB]), run_skip, seq_next, run_skip]
    exact ⟨_, _, rfl, g2, _, _, _, _, _, _, rfl, by rw [etl]⟩
end Lw
namespace Lw
open PySem PySem.Spec PyProof.Rows L2 Mn
theorem law_true (ns : List Int) (hl : ns.length ≤ 63) : ∃ h', callm Pm 80 "law" [.scr (ns.map .int)] [] = .ok (.bl true) h' := by
  rw [cl_law]
  refine law_fin ?_
  obtain ⟨g, hg⟩ := state_eq (n := 78) fn__law_state hl fun C => abs_2
  have d1 := draw (n := 78) (g := g) (m := 64) (tl := []) (by omega) (by omega)
  obtain ⟨k, ek⟩ := Int.eq_ofNat_of_zero_le (Rg.v_lo (g := g) (m := 64) (by omega))
  have k1 := Rg.v_hi (g := g) (m := 64) (by omega)
  rw [ek] at d1 k1
  unfold b_law
  rw [asg_of (v := .ref 1) (h1 := g.hp []) (by simp; exact hg)]
  simp only [List.set_cons_succ, List.set_cons_zero]
  rw [asg_of (v := .lst ((csL k).map encC)) (h1 := (g.n 64).hp []) (by simp [d1, csL])]
  simp only [List.set_cons_succ, List.set_cons_zero]
  rw [asg_of (v := .ref 2) (h1 := (g.n 64).hp [.dct []]) (by simp; rfl)]
  simp only [List.set_cons_succ, List.set_cons_zero]
  rw [run_seq]
  refine names_ (by omega) Yes fun σ H h => ?_
  obtain ⟨g, S, z4, z5, rfl, lS, hl4, w, rfl⟩ := h
  have O : SOk k S := ⟨lS, hl4, w⟩
  have rp := fun g => rprE O g
  generalize (PyData.dict (nmE.map (dtE S))).shown = x at rp
  rw [asg_of (v := .str x) (h1 := g.hp (.dct (kvE.take 4) :: rowsM S)) (by simp [x1_rpr (rp g)])]
  simp only [List.set_cons_succ, List.set_cons_zero]
  rw [run_seq]
  refine for_inv (List.range 3) (fun i : Nat => .int (i : Int)) Yes (fun _ σ H => TI ns k S x σ H) (s := ⟨rngL 0 1 3, []⟩) (h1 := g.hp (.dct (kvE.take 4) :: rowsM S)) (evI_r1 (m := 3) (by simp) (by omega)) rng0 ⟨g, _, _, _, _, _, _, rfl, rfl⟩ (fun _ _ _ _ => ok_nil) ?_ ?_
  · rintro i j σ H ⟨g, z4, z5, z6, z8, z9, z10, rfl, rfl⟩ hj
    exact ⟨_, rfl, nx_turn (turn_ O ⟨g, _, _, _, _, _, _, rfl, rfl⟩)⟩
  · rintro σ H ⟨g, z4, z5, z6, z8, z9, z10, rfl, rfl⟩
    simp [x1_rpr (rp g)]
end Lw
set_option maxHeartbeats 0
/-! ### the head: what the top leaves -/
namespace Lw
open PySem PySem.Spec PyProof.Rows L2 Mn
def top (i : Nat) : Stmt := PySem.Challenge.pw_keepbeat_k11_values_of_expressions.main.body.getD i (.Pass ⟨0, 0, 0, 0⟩)
abbrev s_law : Stmt := top 27
abbrev h_law : He.DefD := ⟨("law", none), "law", "law", defArgs s_law, defBody s_law, defScope s_law, [], []⟩
theorem sc_law : FnScope N_law ["script"] (defScope s_law) := ⟨rfl, rfl, rfl, by decide +kernel, rfl, by decide +kernel, by decide +kernel⟩
theorem ck_law : chkSs N_law (rpG Gl) (defScope s_law) (fun _ => true) b_law (defBody s_law) = true := by kernel_rfl
theorem is_law {K : PySem.W.Frag} {a : Addr} {fd : FuncData} (F : FunD K "law" "law" (defArgs s_law) (defBody s_law) (defScope s_law) [] [] a fd) : IsG K Pm Gl "law" a fd ["script"] ∧ Binds K fd ["script"] [] :=
  ⟨⟨d_law, _, _, _, _, _, N_law, fn_law, F, sc_law, rfl, rfl, ck_law, rfl⟩, FunD.bindsN F fun _ _ _ _ _ _ us hl => match us, hl with | [_], _ => rfl⟩
abbrev s_wrap : Stmt := top 4
abbrev h_wrap : He.DefD := ⟨("wrap", none), "wrap", "wrap", defArgs s_wrap, defBody s_wrap, defScope s_wrap, [], []⟩
theorem sc_wrap : FnScope N_wrap ["n"] (defScope s_wrap) := ⟨rfl, rfl, rfl, by decide +kernel, rfl, by decide +kernel, by decide +kernel⟩
theorem ck_wrap : chkSs N_wrap Gl (defScope s_wrap) (fun _ => true) b_wrap (defBody s_wrap) = true := by kernel_rfl
theorem is_wrap {K : PySem.W.Frag} {a : Addr} {fd : FuncData} (F : FunD K "wrap" "wrap" (defArgs s_wrap) (defBody s_wrap) (defScope s_wrap) [] [] a fd) : IsD K Pm Gl "wrap" a fd ["n"] ∧ Binds K fd ["n"] [] :=
  ⟨⟨d_wrap, _, _, _, _, _, N_wrap, _, fn_wrap, F, sc_wrap, rfl, rfl, ck_wrap, rfl, rfl⟩, FunD.bindsN F fun _ _ _ _ _ _ us hl => match us, hl with | [_], _ => rfl⟩
abbrev s_signed : Stmt := top 5
abbrev h_signed : He.DefD := ⟨("signed", none), "signed", "signed", defArgs s_signed, defBody s_signed, defScope s_signed, [], []⟩
theorem sc_signed : FnScope N_signed ["w"] (defScope s_signed) := ⟨rfl, rfl, rfl, by decide +kernel, rfl, by decide +kernel, by decide +kernel⟩
theorem ck_signed : chkSs N_signed Gl (defScope s_signed) (fun _ => true) b_signed (defBody s_signed) = true := by kernel_rfl
theorem is_signed {K : PySem.W.Frag} {a : Addr} {fd : FuncData} (F : FunD K "signed" "signed" (defArgs s_signed) (defBody s_signed) (defScope s_signed) [] [] a fd) : IsD K Pm Gl "signed" a fd ["w"] ∧ Binds K fd ["w"] [] :=
  ⟨⟨d_signed, _, _, _, _, _, N_signed, _, fn_signed, F, sc_signed, rfl, rfl, ck_signed, rfl, rfl⟩, FunD.bindsN F fun _ _ _ _ _ _ us hl => match us, hl with | [_], _ => rfl⟩
abbrev s__arithmetic : Stmt := top 6
abbrev h__arithmetic : He.DefD := ⟨("_arithmetic", none), "_arithmetic", "_arithmetic", defArgs s__arithmetic, defBody s__arithmetic, defScope s__arithmetic, [], []⟩
theorem sc__arithmetic : FnScope N__arithmetic ["operator", "a", "b"] (defScope s__arithmetic) := ⟨rfl, rfl, rfl, by decide +kernel, rfl, by decide +kernel, by decide +kernel⟩
theorem ck__arithmetic : chkSs N__arithmetic Gl (defScope s__arithmetic) (fun _ => true) b__arithmetic (defBody s__arithmetic) = true := by kernel_rfl
theorem is__arithmetic {K : PySem.W.Frag} {a : Addr} {fd : FuncData} (F : FunD K "_arithmetic" "_arithmetic" (defArgs s__arithmetic) (defBody s__arithmetic) (defScope s__arithmetic) [] [] a fd) : IsD K Pm Gl "_arithmetic" a fd ["operator", "a", "b"] ∧ Binds K fd ["operator", "a", "b"] [] :=
  ⟨⟨d__arithmetic, _, _, _, _, _, N__arithmetic, _, fn__arithmetic, F, sc__arithmetic, rfl, rfl, ck__arithmetic, rfl, rfl⟩, FunD.bindsN F fun _ _ _ _ _ _ us hl => match us, hl with | [_, _, _], _ => rfl⟩
abbrev s__bits : Stmt := top 7
abbrev h__bits : He.DefD := ⟨("_bits", none), "_bits", "_bits", defArgs s__bits, defBody s__bits, defScope s__bits, [], []⟩
theorem sc__bits : FnScope N__bits ["operator", "a", "b"] (defScope s__bits) := ⟨rfl, rfl, rfl, by decide +kernel, rfl, by decide +kernel, by decide +kernel⟩
theorem ck__bits : chkSs N__bits Gl (defScope s__bits) (fun _ => true) b__bits (defBody s__bits) = true := by kernel_rfl
theorem is__bits {K : PySem.W.Frag} {a : Addr} {fd : FuncData} (F : FunD K "_bits" "_bits" (defArgs s__bits) (defBody s__bits) (defScope s__bits) [] [] a fd) : IsD K Pm Gl "_bits" a fd ["operator", "a", "b"] ∧ Binds K fd ["operator", "a", "b"] [] :=
  ⟨⟨d__bits, _, _, _, _, _, N__bits, _, fn__bits, F, sc__bits, rfl, rfl, ck__bits, rfl, rfl⟩, FunD.bindsN F fun _ _ _ _ _ _ us hl => match us, hl with | [_, _, _], _ => rfl⟩
abbrev s__truth : Stmt := top 8
abbrev h__truth : He.DefD := ⟨("_truth", none), "_truth", "_truth", defArgs s__truth, defBody s__truth, defScope s__truth, [], []⟩
theorem sc__truth : FnScope N__truth ["operator", "a", "b"] (defScope s__truth) := ⟨rfl, rfl, rfl, by decide +kernel, rfl, by decide +kernel, by decide +kernel⟩
theorem ck__truth : chkSs N__truth Gl (defScope s__truth) (fun _ => true) b__truth (defBody s__truth) = true := by kernel_rfl
theorem is__truth {K : PySem.W.Frag} {a : Addr} {fd : FuncData} (F : FunD K "_truth" "_truth" (defArgs s__truth) (defBody s__truth) (defScope s__truth) [] [] a fd) : IsD K Pm Gl "_truth" a fd ["operator", "a", "b"] ∧ Binds K fd ["operator", "a", "b"] [] :=
  ⟨⟨d__truth, _, _, _, _, _, N__truth, _, fn__truth, F, sc__truth, rfl, rfl, ck__truth, rfl, rfl⟩, FunD.bindsN F fun _ _ _ _ _ _ us hl => match us, hl with | [_, _, _], _ => rfl⟩
abbrev s_combine : Stmt := top 9
abbrev h_combine : He.DefD := ⟨("combine", none), "combine", "combine", defArgs s_combine, defBody s_combine, defScope s_combine, [], []⟩
theorem sc_combine : FnScope N_combine ["operator", "a", "b"] (defScope s_combine) := ⟨rfl, rfl, rfl, by decide +kernel, rfl, by decide +kernel, by decide +kernel⟩
theorem ck_combine : chkSs N_combine Gl (defScope s_combine) (fun _ => true) b_combine (defBody s_combine) = true := by kernel_rfl
theorem is_combine {K : PySem.W.Frag} {a : Addr} {fd : FuncData} (F : FunD K "combine" "combine" (defArgs s_combine) (defBody s_combine) (defScope s_combine) [] [] a fd) : IsD K Pm Gl "combine" a fd ["operator", "a", "b"] ∧ Binds K fd ["operator", "a", "b"] [] :=
  ⟨⟨d_combine, _, _, _, _, _, N_combine, _, fn_combine, F, sc_combine, rfl, rfl, ck_combine, rfl, rfl⟩, FunD.bindsN F fun _ _ _ _ _ _ us hl => match us, hl with | [_, _, _], _ => rfl⟩
abbrev s_alter : Stmt := top 10
abbrev h_alter : He.DefD := ⟨("alter", none), "alter", "alter", defArgs s_alter, defBody s_alter, defScope s_alter, [], []⟩
theorem sc_alter : FnScope N_alter ["operator", "a"] (defScope s_alter) := ⟨rfl, rfl, rfl, by decide +kernel, rfl, by decide +kernel, by decide +kernel⟩
theorem ck_alter : chkSs N_alter Gl (defScope s_alter) (fun _ => true) b_alter (defBody s_alter) = true := by kernel_rfl
theorem is_alter {K : PySem.W.Frag} {a : Addr} {fd : FuncData} (F : FunD K "alter" "alter" (defArgs s_alter) (defBody s_alter) (defScope s_alter) [] [] a fd) : IsD K Pm Gl "alter" a fd ["operator", "a"] ∧ Binds K fd ["operator", "a"] [] :=
  ⟨⟨d_alter, _, _, _, _, _, N_alter, _, fn_alter, F, sc_alter, rfl, rfl, ck_alter, rfl, rfl⟩, FunD.bindsN F fun _ _ _ _ _ _ us hl => match us, hl with | [_, _], _ => rfl⟩
abbrev s_evaluate : Stmt := top 12
abbrev h_evaluate : He.DefD := ⟨("evaluate", none), "evaluate", "evaluate", defArgs s_evaluate, defBody s_evaluate, defScope s_evaluate, [], []⟩
theorem sc_evaluate : FnScope N_evaluate ["e", "names"] (defScope s_evaluate) := ⟨rfl, rfl, rfl, by decide +kernel, rfl, by decide +kernel, by decide +kernel⟩
theorem ck_evaluate : chkSs N_evaluate Gl (defScope s_evaluate) (fun _ => true) b_evaluate (defBody s_evaluate) = true := by kernel_rfl
theorem is_evaluate {K : PySem.W.Frag} {a : Addr} {fd : FuncData} (F : FunD K "evaluate" "evaluate" (defArgs s_evaluate) (defBody s_evaluate) (defScope s_evaluate) [] [] a fd) : IsD K Pm Gl "evaluate" a fd ["e", "names"] ∧ Binds K fd ["e", "names"] [] :=
  ⟨⟨d_evaluate, _, _, _, _, _, N_evaluate, _, fn_evaluate, F, sc_evaluate, rfl, rfl, ck_evaluate, rfl, rfl⟩, FunD.bindsN F fun _ _ _ _ _ _ us hl => match us, hl with | [_, _], _ => rfl⟩
abbrev s__law_state : Stmt := top 14
abbrev h__law_state : He.DefD := ⟨("_law_state", none), "_law_state", "_law_state", defArgs s__law_state, defBody s__law_state, defScope s__law_state, [], []⟩
theorem sc__law_state : FnScope N__law_state ["script"] (defScope s__law_state) := ⟨rfl, rfl, rfl, by decide +kernel, rfl, by decide +kernel, by decide +kernel⟩
theorem ck__law_state : chkSs N__law_state Gl (defScope s__law_state) (fun _ => true) b__law_state (defBody s__law_state) = true := by kernel_rfl
theorem is__law_state {K : PySem.W.Frag} {a : Addr} {fd : FuncData} (F : FunD K "_law_state" "_law_state" (defArgs s__law_state) (defBody s__law_state) (defScope s__law_state) [] [] a fd) : IsD K Pm Gl "_law_state" a fd ["script"] ∧ Binds K fd ["script"] [] :=
  ⟨⟨d__law_state, _, _, _, _, _, N__law_state, _, fn__law_state, F, sc__law_state, rfl, rfl, ck__law_state, rfl, rfl⟩, FunD.bindsN F fun _ _ _ _ _ _ us hl => match us, hl with | [_], _ => rfl⟩
abbrev s__law_draw : Stmt := top 15
abbrev h__law_draw : He.DefD := ⟨("_law_draw", none), "_law_draw", "_law_draw", defArgs s__law_draw, defBody s__law_draw, defScope s__law_draw, [], []⟩
theorem sc__law_draw : FnScope N__law_draw ["state", "many"] (defScope s__law_draw) := ⟨rfl, rfl, rfl, by decide +kernel, rfl, by decide +kernel, by decide +kernel⟩
theorem ck__law_draw : chkSs N__law_draw Gl (defScope s__law_draw) (fun _ => true) b__law_draw (defBody s__law_draw) = true := by kernel_rfl
theorem is__law_draw {K : PySem.W.Frag} {a : Addr} {fd : FuncData} (F : FunD K "_law_draw" "_law_draw" (defArgs s__law_draw) (defBody s__law_draw) (defScope s__law_draw) [] [] a fd) : IsD K Pm Gl "_law_draw" a fd ["state", "many"] ∧ Binds K fd ["state", "many"] [] :=
  ⟨⟨d__law_draw, _, _, _, _, _, N__law_draw, _, fn__law_draw, F, sc__law_draw, rfl, rfl, ck__law_draw, rfl, rfl⟩, FunD.bindsN F fun _ _ _ _ _ _ us hl => match us, hl with | [_, _], _ => rfl⟩
abbrev s__law_pick : Stmt := top 16
abbrev h__law_pick : He.DefD := ⟨("_law_pick", none), "_law_pick", "_law_pick", defArgs s__law_pick, defBody s__law_pick, defScope s__law_pick, [], []⟩
theorem sc__law_pick : FnScope N__law_pick ["state", "row"] (defScope s__law_pick) := ⟨rfl, rfl, rfl, by decide +kernel, rfl, by decide +kernel, by decide +kernel⟩
theorem ck__law_pick : chkSs N__law_pick Gl (defScope s__law_pick) (fun _ => true) b__law_pick (defBody s__law_pick) = true := by kernel_rfl
theorem is__law_pick {K : PySem.W.Frag} {a : Addr} {fd : FuncData} (F : FunD K "_law_pick" "_law_pick" (defArgs s__law_pick) (defBody s__law_pick) (defScope s__law_pick) [] [] a fd) : IsD K Pm Gl "_law_pick" a fd ["state", "row"] ∧ Binds K fd ["state", "row"] [] :=
  ⟨⟨d__law_pick, _, _, _, _, _, N__law_pick, _, fn__law_pick, F, sc__law_pick, rfl, rfl, ck__law_pick, rfl, rfl⟩, FunD.bindsN F fun _ _ _ _ _ _ us hl => match us, hl with | [_, _], _ => rfl⟩
abbrev s__law_word : Stmt := top 17
abbrev h__law_word : He.DefD := ⟨("_law_word", none), "_law_word", "_law_word", defArgs s__law_word, defBody s__law_word, defScope s__law_word, [], []⟩
theorem sc__law_word : FnScope N__law_word ["state"] (defScope s__law_word) := ⟨rfl, rfl, rfl, by decide +kernel, rfl, by decide +kernel, by decide +kernel⟩
theorem ck__law_word : chkSs N__law_word Gl (defScope s__law_word) (fun _ => true) b__law_word (defBody s__law_word) = true := by kernel_rfl
theorem is__law_word {K : PySem.W.Frag} {a : Addr} {fd : FuncData} (F : FunD K "_law_word" "_law_word" (defArgs s__law_word) (defBody s__law_word) (defScope s__law_word) [] [] a fd) : IsD K Pm Gl "_law_word" a fd ["state"] ∧ Binds K fd ["state"] [] :=
  ⟨⟨d__law_word, _, _, _, _, _, N__law_word, _, fn__law_word, F, sc__law_word, rfl, rfl, ck__law_word, rfl, rfl⟩, FunD.bindsN F fun _ _ _ _ _ _ us hl => match us, hl with | [_], _ => rfl⟩
abbrev s__law_expr : Stmt := top 18
abbrev h__law_expr : He.DefD := ⟨("_law_expr", none), "_law_expr", "_law_expr", defArgs s__law_expr, defBody s__law_expr, defScope s__law_expr, [], []⟩
theorem sc__law_expr : FnScope N__law_expr ["state", "env", "deep"] (defScope s__law_expr) := ⟨rfl, rfl, rfl, by decide +kernel, rfl, by decide +kernel, by decide +kernel⟩
theorem ck__law_expr : chkSs N__law_expr Gl (defScope s__law_expr) (fun _ => true) b__law_expr (defBody s__law_expr) = true := by kernel_rfl
theorem is__law_expr {K : PySem.W.Frag} {a : Addr} {fd : FuncData} (F : FunD K "_law_expr" "_law_expr" (defArgs s__law_expr) (defBody s__law_expr) (defScope s__law_expr) [] [] a fd) : IsD K Pm Gl "_law_expr" a fd ["state", "env", "deep"] ∧ Binds K fd ["state", "env", "deep"] [] :=
  ⟨⟨d__law_expr, _, _, _, _, _, N__law_expr, _, fn__law_expr, F, sc__law_expr, rfl, rfl, ck__law_expr, rfl, rfl⟩, FunD.bindsN F fun _ _ _ _ _ _ us hl => match us, hl with | [_, _, _], _ => rfl⟩
abbrev s__law_two : Stmt := top 24
abbrev h__law_two : He.DefD := ⟨("_law_two", none), "_law_two", "_law_two", defArgs s__law_two, defBody s__law_two, defScope s__law_two, [], []⟩
theorem sc__law_two : FnScope N__law_two ["sign", "a", "b"] (defScope s__law_two) := ⟨rfl, rfl, rfl, by decide +kernel, rfl, by decide +kernel, by decide +kernel⟩
theorem ck__law_two : chkSs N__law_two Gl (defScope s__law_two) (fun _ => true) b__law_two (defBody s__law_two) = true := by kernel_rfl
theorem is__law_two {K : PySem.W.Frag} {a : Addr} {fd : FuncData} (F : FunD K "_law_two" "_law_two" (defArgs s__law_two) (defBody s__law_two) (defScope s__law_two) [] [] a fd) : IsD K Pm Gl "_law_two" a fd ["sign", "a", "b"] ∧ Binds K fd ["sign", "a", "b"] [] :=
  ⟨⟨d__law_two, _, _, _, _, _, N__law_two, _, fn__law_two, F, sc__law_two, rfl, rfl, ck__law_two, rfl, rfl⟩, FunD.bindsN F fun _ _ _ _ _ _ us hl => match us, hl with | [_, _, _], _ => rfl⟩
abbrev s__law_value : Stmt := top 25
abbrev h__law_value : He.DefD := ⟨("_law_value", none), "_law_value", "_law_value", defArgs s__law_value, defBody s__law_value, defScope s__law_value, [], []⟩
theorem sc__law_value : FnScope N__law_value ["e", "names"] (defScope s__law_value) := ⟨rfl, rfl, rfl, by decide +kernel, rfl, by decide +kernel, by decide +kernel⟩
theorem ck__law_value : chkSs N__law_value Gl (defScope s__law_value) (fun _ => true) b__law_value (defBody s__law_value) = true := by kernel_rfl
theorem is__law_value {K : PySem.W.Frag} {a : Addr} {fd : FuncData} (F : FunD K "_law_value" "_law_value" (defArgs s__law_value) (defBody s__law_value) (defScope s__law_value) [] [] a fd) : IsD K Pm Gl "_law_value" a fd ["e", "names"] ∧ Binds K fd ["e", "names"] [] :=
  ⟨⟨d__law_value, _, _, _, _, _, N__law_value, _, fn__law_value, F, sc__law_value, rfl, rfl, ck__law_value, rfl, rfl⟩, FunD.bindsN F fun _ _ _ _ _ _ us hl => match us, hl with | [_, _], _ => rfl⟩
abbrev s__law_parts : Stmt := top 26
abbrev h__law_parts : He.DefD := ⟨("_law_parts", none), "_law_parts", "_law_parts", defArgs s__law_parts, defBody s__law_parts, defScope s__law_parts, [], []⟩
theorem sc__law_parts : FnScope N__law_parts ["e"] (defScope s__law_parts) := ⟨rfl, rfl, rfl, by decide +kernel, rfl, by decide +kernel, by decide +kernel⟩
theorem ck__law_parts : chkSs N__law_parts Gl (defScope s__law_parts) (fun _ => true) b__law_parts (defBody s__law_parts) = true := by kernel_rfl
theorem is__law_parts {K : PySem.W.Frag} {a : Addr} {fd : FuncData} (F : FunD K "_law_parts" "_law_parts" (defArgs s__law_parts) (defBody s__law_parts) (defScope s__law_parts) [] [] a fd) : IsD K Pm Gl "_law_parts" a fd ["e"] ∧ Binds K fd ["e"] [] :=
  ⟨⟨d__law_parts, _, _, _, _, _, N__law_parts, _, fn__law_parts, F, sc__law_parts, rfl, rfl, ck__law_parts, rfl, rfl⟩, FunD.bindsN F fun _ _ _ _ _ _ us hl => match us, hl with | [_], _ => rfl⟩
def fa0 : List He.Fa := [.glo "law", .glo "wrap", .glo "signed", .glo "_arithmetic", .glo "_bits", .glo "_truth", .glo "combine", .glo "alter", .glo "evaluate", .glo "_law_state", .glo "_law_draw", .glo "_law_pick", .glo "_law_word", .glo "_law_expr", .glo "_law_two", .glo "_law_value", .glo "_law_parts", .free "abs", .free "bool", .free "int", .free "isinstance", .free "len", .free "max", .free "range", .free "repr", .free "sum", .free "tuple", .int "MASK" 4294967295, .int "MODULUS" 4294967296, .int "SIGN" 2147483648]
def fa : List He.Fa := fa0
def hds : List He.DefD := [h_law, h_wrap, h_signed, h__arithmetic, h__bits, h__truth, h_combine, h_alter, h_evaluate, h__law_state, h__law_draw, h__law_pick, h__law_word, h__law_expr, h__law_two, h__law_value, h__law_parts]
theorem hd {K : PySem.W.Frag} {mg : Str → Option Value} {h : Heap} (X : K.In h) (G : h.Ns mainGlobals mg) (c : He.SaysD fa hds K) : Hd K mg (He.ga K) Pm Gl := by
  refine ⟨fun f hf => ?_, fun c0 m0 f0 hf => ?_, fun c0 hc => ?_, fun x v hv => ?_, fun x hx => ?_, fun c0 f0 hn => ?_, fun c0 hc => ?_, fun c0 hc => ?_, fun c0 hc => ?_, fun c0 b0 hb => ?_, fun c0 q0 b0 hb hq => ?_, fun c0 hc => ?_, fun s hs hc => ?_, fun s hs hc => ?_⟩
  · replace hf : f ∈ ((("_arithmetic" : Str) :: ("_bits" : Str) :: ("_law_draw" : Str) :: ("_law_expr" : Str) :: ("_law_parts" : Str) :: ("_law_pick" : Str) :: ("_law_state" : Str) :: ("_law_two" : Str) :: ("_law_value" : Str) :: ("_law_word" : Str) :: ("_truth" : Str) :: ("alter" : Str) :: ("combine" : Str) :: ("evaluate" : Str) :: ("signed" : Str) :: ("wrap" : Str) :: []) : List Str) := hf
    simp only [List.mem_cons, List.not_mem_nil, or_false] at hf
    rcases hf with rfl | rfl | rfl | rfl | rfl | rfl | rfl | rfl | rfl | rfl | rfl | rfl | rfl | rfl | rfl | rfl
    · obtain ⟨fd, F⟩ := c.def_ 3 (d := h__arithmetic) rfl
      exact ⟨_, fd, _, (is__arithmetic F).1, He.glo_ok X G (c.fact 3 (f := .glo "_arithmetic") rfl), F.kp, (is__arithmetic F).2⟩
    · obtain ⟨fd, F⟩ := c.def_ 4 (d := h__bits) rfl
      exact ⟨_, fd, _, (is__bits F).1, He.glo_ok X G (c.fact 4 (f := .glo "_bits") rfl), F.kp, (is__bits F).2⟩
    · obtain ⟨fd, F⟩ := c.def_ 10 (d := h__law_draw) rfl
      exact ⟨_, fd, _, (is__law_draw F).1, He.glo_ok X G (c.fact 10 (f := .glo "_law_draw") rfl), F.kp, (is__law_draw F).2⟩
    · obtain ⟨fd, F⟩ := c.def_ 13 (d := h__law_expr) rfl
      exact ⟨_, fd, _, (is__law_expr F).1, He.glo_ok X G (c.fact 13 (f := .glo "_law_expr") rfl), F.kp, (is__law_expr F).2⟩
    · obtain ⟨fd, F⟩ := c.def_ 16 (d := h__law_parts) rfl
      exact ⟨_, fd, _, (is__law_parts F).1, He.glo_ok X G (c.fact 16 (f := .glo "_law_parts") rfl), F.kp, (is__law_parts F).2⟩
    · obtain ⟨fd, F⟩ := c.def_ 11 (d := h__law_pick) rfl
      exact ⟨_, fd, _, (is__law_pick F).1, He.glo_ok X G (c.fact 11 (f := .glo "_law_pick") rfl), F.kp, (is__law_pick F).2⟩
    · obtain ⟨fd, F⟩ := c.def_ 9 (d := h__law_state) rfl
      exact ⟨_, fd, _, (is__law_state F).1, He.glo_ok X G (c.fact 9 (f := .glo "_law_state") rfl), F.kp, (is__law_state F).2⟩
    · obtain ⟨fd, F⟩ := c.def_ 14 (d := h__law_two) rfl
      exact ⟨_, fd, _, (is__law_two F).1, He.glo_ok X G (c.fact 14 (f := .glo "_law_two") rfl), F.kp, (is__law_two F).2⟩
    · obtain ⟨fd, F⟩ := c.def_ 15 (d := h__law_value) rfl
      exact ⟨_, fd, _, (is__law_value F).1, He.glo_ok X G (c.fact 15 (f := .glo "_law_value") rfl), F.kp, (is__law_value F).2⟩
    · obtain ⟨fd, F⟩ := c.def_ 12 (d := h__law_word) rfl
      exact ⟨_, fd, _, (is__law_word F).1, He.glo_ok X G (c.fact 12 (f := .glo "_law_word") rfl), F.kp, (is__law_word F).2⟩
    · obtain ⟨fd, F⟩ := c.def_ 5 (d := h__truth) rfl
      exact ⟨_, fd, _, (is__truth F).1, He.glo_ok X G (c.fact 5 (f := .glo "_truth") rfl), F.kp, (is__truth F).2⟩
    · obtain ⟨fd, F⟩ := c.def_ 7 (d := h_alter) rfl
      exact ⟨_, fd, _, (is_alter F).1, He.glo_ok X G (c.fact 7 (f := .glo "alter") rfl), F.kp, (is_alter F).2⟩
    · obtain ⟨fd, F⟩ := c.def_ 6 (d := h_combine) rfl
      exact ⟨_, fd, _, (is_combine F).1, He.glo_ok X G (c.fact 6 (f := .glo "combine") rfl), F.kp, (is_combine F).2⟩
    · obtain ⟨fd, F⟩ := c.def_ 8 (d := h_evaluate) rfl
      exact ⟨_, fd, _, (is_evaluate F).1, He.glo_ok X G (c.fact 8 (f := .glo "evaluate") rfl), F.kp, (is_evaluate F).2⟩
    · obtain ⟨fd, F⟩ := c.def_ 2 (d := h_signed) rfl
      exact ⟨_, fd, _, (is_signed F).1, He.glo_ok X G (c.fact 2 (f := .glo "signed") rfl), F.kp, (is_signed F).2⟩
    · obtain ⟨fd, F⟩ := c.def_ 1 (d := h_wrap) rfl
      exact ⟨_, fd, _, (is_wrap F).1, He.glo_ok X G (c.fact 1 (f := .glo "wrap") rfl), F.kp, (is_wrap F).2⟩
  · replace hf : (c0, m0, f0) ∈ ([] : List (Str × Str × Str)) := hf
    cases hf
  · replace hc : c0 ∈ ([] : List Str) := hc
    cases hc
  · replace hv : tabC x = some v := hv
    unfold tabC at hv
    split at hv
    · rename_i e; subst e; cases hv
      obtain ⟨t, e⟩ := He.int_ok X G (c.fact 27 (f := .int "MASK" 4294967295) rfl)
      exact ⟨_, .int _, e, ⟨t, rfl⟩, fun _ _ _ => v_int.mpr rfl, ktup_i⟩
    split at hv
    · rename_i e; subst e; cases hv
      obtain ⟨t, e⟩ := He.int_ok X G (c.fact 28 (f := .int "MODULUS" 4294967296) rfl)
      exact ⟨_, .int _, e, ⟨t, rfl⟩, fun _ _ _ => v_int.mpr rfl, ktup_i⟩
    split at hv
    · rename_i e; subst e; cases hv
      obtain ⟨t, e⟩ := He.int_ok X G (c.fact 29 (f := .int "SIGN" 2147483648) rfl)
      exact ⟨_, .int _, e, ⟨t, rfl⟩, fun _ _ _ => v_int.mpr rfl, ktup_i⟩
    cases hv
  · replace hx : x ∈ (["abs", "bool", "int", "isinstance", "len", "max", "range", "repr", "sum", "tuple"] : List Str) := hx
    simp only [List.mem_cons, List.not_mem_nil, or_false] at hx
    rcases hx with rfl | rfl | rfl | rfl | rfl | rfl | rfl | rfl | rfl | rfl
    · exact He.free_ok X G (c.fact 17 (f := .free "abs") rfl)
    · exact He.free_ok X G (c.fact 18 (f := .free "bool") rfl)
    · exact He.free_ok X G (c.fact 19 (f := .free "int") rfl)
    · exact He.free_ok X G (c.fact 20 (f := .free "isinstance") rfl)
    · exact He.free_ok X G (c.fact 21 (f := .free "len") rfl)
    · exact He.free_ok X G (c.fact 22 (f := .free "max") rfl)
    · exact He.free_ok X G (c.fact 23 (f := .free "range") rfl)
    · exact He.free_ok X G (c.fact 24 (f := .free "repr") rfl)
    · exact He.free_ok X G (c.fact 25 (f := .free "sum") rfl)
    · exact He.free_ok X G (c.fact 26 (f := .free "tuple") rfl)
  · cases hn
  · replace hc : c0 ∈ ([] : List Str) := hc
    cases hc
  · replace hc : c0 ∈ ([] : List Str) := hc
    cases hc
  · replace hc : tabZ c0 = true := hc
    unfold tabZ at hc
    cases hc
  · replace hb : tabS c0 "ValueError" = some b0 := hb
    unfold tabS at hb
    cases hb
  · replace hb : tabS c0 q0 = some b0 := hb
    unfold tabS at hb
    cases hb
  · replace hc : c0 ∈ ([] : List Str) := hc
    cases hc
  · replace hs : s ∈ ([] : List Ksh) := hs
    cases hs
  · replace hs : s ∈ ([] : List Ksh) := hs
    cases hs
def loose0 : List Str := (("MODULUS" : Str) :: ("SIGN" : Str) :: ("MASK" : Str) :: ("wrap" : Str) :: ("signed" : Str) :: ("_arithmetic" : Str) :: ("_bits" : Str) :: ("_truth" : Str) :: ("combine" : Str) :: ("alter" : Str) :: ("evaluate" : Str) :: ("_law_state" : Str) :: ("_law_draw" : Str) :: ("_law_pick" : Str) :: ("_law_word" : Str) :: ("_law_expr" : Str) :: ("_law_place" : Str) :: ("_law_statement" : Str) :: ("_law_body" : Str) :: ("_law_objects" : Str) :: ("_law_program" : Str) :: ("_law_two" : Str) :: ("_law_value" : Str) :: ("_law_parts" : Str) :: [])
abbrev loose : List Str := (("MODULUS" : Str) :: ("SIGN" : Str) :: ("MASK" : Str) :: ("wrap" : Str) :: ("signed" : Str) :: ("_arithmetic" : Str) :: ("_bits" : Str) :: ("_truth" : Str) :: ("combine" : Str) :: ("alter" : Str) :: ("evaluate" : Str) :: ("_law_state" : Str) :: ("_law_draw" : Str) :: ("_law_pick" : Str) :: ("_law_word" : Str) :: ("_law_expr" : Str) :: ("_law_place" : Str) :: ("_law_statement" : Str) :: ("_law_body" : Str) :: ("_law_objects" : Str) :: ("_law_program" : Str) :: ("_law_two" : Str) :: ("_law_value" : Str) :: ("_law_parts" : Str) :: [])
abbrev Rw : PySem.W.OpenRow := PySem.W.OpenLaw.row PySem.Challenge.rw_keepbeat_k11_values_of_expressions
abbrev hk : PySem.W.Hook := He.hookD 4 fa hds
def ob (s : PySem.W.SharedT) : He.AlD := He.obsDG 4 fa hds (HandSHeadRun.getT s)
theorem ob_eq (s : PySem.W.SharedT) : ob s = hk.obs s.abs := He.obsDG_eq (HandSHeadRun.getT_eq s)
theorem runs (w : World) : HandSHeadRun.RunEq Rw (PySem.W.view Rw.prog [27]) hk ob 4000 loose w := by
  intro os
  kernel_rfl
end Lw
open PySem PySem.W PySem.Calls PyProof.Rows
theorem PySem.Challenge.cw_keepbeat_k11_values_of_expressions_holds : PySem.Challenge.rw_keepbeat_k11_values_of_expressions.Holds := by
  w_on; o_law
  refine HandSHeadRun.head_any (r := OpenLaw.row PySem.Challenge.rw_keepbeat_k11_values_of_expressions) (q := view (OpenLaw.row PySem.Challenge.rw_keepbeat_k11_values_of_expressions).prog [27]) (H := Lw.hk) (ob := Lw.ob) (M := 4000) (loose := Lw.loose) (d := HandSHeadRun.topDef (OpenLaw.row PySem.Challenge.rw_keepbeat_k11_values_of_expressions).prog 27) (kwd := []) Lw.ob_eq
    (by kernel_rfl) (fun s => by kernel_rfl) Lw.runs (by kernel_rfl) (by kernel_rfl) (by kernel_rfl) (by rfl) (by first | assumption | decide +kernel) (by decide +kernel) ⟨rfl, rfl, rfl, rfl, rfl, by decide +kernel⟩ ?hw ?hc
  case hw => w_witness2
  case hc =>
    refine Mn.walkG (l := PySem.Challenge.rw_keepbeat_k11_values_of_expressions) (n := 63) rfl (by decide) (by kernel_rfl) ?F
    intro w mg f h Y G hmg0
    obtain ⟨K, KX, c⟩ := Y
    have hmg : mg ("law" : PySem.Str) = some (.ref f) := by
      have e : (HandSHeadRun.topDef (OpenLaw.row PySem.Challenge.rw_keepbeat_k11_values_of_expressions).prog 27).name = ("law" : PySem.Str) := by kernel_rfl
      rw [← e]
      exact hmg0
    have e := hmg.symm.trans (He.glo_ok KX G (c.fact 0 (f := .glo "law") rfl))
    cases e
    obtain ⟨fd, F⟩ := c.def_ 0 (d := Lw.h_law) rfl
    have hd := Lw.hd KX G c
    have ht : ∀ t ∈ Lw.Gl.tbs, Mn.TabF K w mg t.1 t.2 := fun t ht => by cases ht
    have b := L2.FunD.bindsA (ps := ["script"]) F fun _ _ _ _ _ _ us hl => match us, hl with | [_], _ => rfl
    refine ⟨K, KX, fun base s H a ns hl kb nb hO hS e0 => ?_⟩
    obtain ⟨h', e⟩ := Lw.law_true ns hl
    have lv := Mn.lv_all (xn := Lw.Pm.xn) (P := (PySem.Challenge.rw_keepbeat_k11_values_of_expressions).prog) (w := w) (base := base) hd rfl ht 79
    exact Mn.law_at (n := 79) (vs := [.ref a]) (us := [.ref a]) rfl (Lw.is_law F).1 (Mn.gf_of hd rfl ht lv.1 lv.2) ⟨rfl, by decide, by decide⟩ e0 (b s [.ref a] rfl) (.cons rfl .nil) (Mn.law_spec hO hS e)

