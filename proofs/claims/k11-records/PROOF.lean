import PyProof.Rows.All
import Wide.All
import OpenK.AllK
import Wide.FinOn
import HandS.ForMost
import KE.GoesEnum
import KE.GoesMore
import HandS.Deep
import KE.SortData
import HandS.Exc
import HandS.Wide
import HandS.TupAny
import HandS.TupLe
import HandS.IsInst
import HandS.TupMul
import HandS.ForExc
import HandS.CallSlots
import HandS.Conv
import HandS.Text
import HandS.Strs
import HandS.Replace
import HandS.HotCalls
import HandS.More
import HandS.ExcInit
import KE.KIsAll
import KE.KTryMore
import HandS.ExcIs
import HandS.ExcField
import HandS.ExcInitHot
import PySem.Challenge.RW_whatstayed_k11_records_and_their_words
import KE.RegKIsAll
set_option Elab.async false
set_option linter.all false
set_option maxRecDepth 100000
set_option maxHeartbeats 1000000
/-! Ip: for i, x in enumerate(a tuple). -/
namespace Ip
open PySem PyProof.Rows L2
open Sem (wp)
theorem meets_enuT (t : Addr) (items : Array Value) :
    Meets (Builtin.«enumerate.__new__» ⟨[.type "enumerate", .ref t], []⟩) (fun _ R s => s.heap.IsTuple t items ∧
      R (.ok (.ret (.ref (s.heap.push { cls := .type "tuple_iterator", data := .fields #[.ref t, .int 0 0] }).objs.size)))
        { s with heap := (s.heap.push { cls := .type "tuple_iterator", data := .fields #[.ref t, .int 0 0] }).push { cls := .type "enumerate", data := .fields #[.none, .bool false, .ref s.heap.objs.size, rawInt 0, .none, .none] } }) :=
  .of_wp fun prog w A R s h => by
    obtain ⟨hp, g, d, tk, os⟩ := s; obtain ⟨h1, h⟩ := h
    have hsub := sub_enumerate
    have q1 : ∀ {A' : Around} {E : Value → Shared → Prop} {Q : Value → Shared → Prop}, Q (.ref hp.objs.size) ⟨hp.push { cls := .type "tuple_iterator", data := .fields #[.ref t, .int 0 0] }, g, d, tk, os⟩ → wpAny (model prog w) A' (pyIter (.ref t)) Q E ⟨hp, g, d, tk, os⟩ :=
      fun q => (begins_tuple t items).iter prog w _ _ ⟨hp, g, d, tk, os⟩ _ h1 q
    wp_walk using q1
    refine wpAny_stack_any fun st => wpAny_pure ?_
    split
    · rename_i c _ _ _ _ _
      cases (c == Value.type "enumerate")
      · wp_walk using q1
        exact ⟨_, rfl, h⟩
      · wp_walk using q1
        exact ⟨_, rfl, h⟩
    · wp_walk using q1
      exact ⟨_, rfl, h⟩
section
variable {prog : Program} {w : World} {A : Around} {E : Value → Shared → Prop} {s : Shared}
theorem call_enuT {t : Addr} {items : Array Value} {Q : Value → Shared → Prop} (hL : s.heap.IsTuple t items)
    (h : ∀ h', IsEnum h' (s.heap.objs.size + 1) s.heap.objs.size 0 .none → h'.IsTupleIter s.heap.objs.size t 0 → h'.objs.size = s.heap.objs.size + 2 →
      (∀ b o, s.heap.get? b = some o → h'.get? b = some o) → Q (.ref (s.heap.objs.size + 1)) { s with heap := h' }) :
    wpAny (model prog w) A (call (.type "enumerate") [.ref t]) Q E s := by
  refine callType_new F.called_enumerate (by decide) (F.typeCall_enumerate_1 _) (F.newCall_enumerate_1 _) (fun obj => F.args_object_init_2 obj _) F.entry_enumerate_new
    (meets_enuT t items) ⟨hL, ?_⟩
  have hz : (s.heap.push { cls := .type "tuple_iterator", data := .fields #[.ref t, .int 0 0] }).objs.size = s.heap.objs.size + 1 := Heap.size_push ..
  show _ ∧ _
  rw [hz]
  have he : IsEnum ((s.heap.push { cls := .type "tuple_iterator", data := .fields #[.ref t, .int 0 0] }).push
      { cls := .type "enumerate", data := .fields #[.none, .bool false, .ref s.heap.objs.size, rawInt 0, .none, .none] }) (s.heap.objs.size + 1) s.heap.objs.size 0 .none := by
    have := Heap.get?_push_size (s.heap.push { cls := .type "tuple_iterator", data := .fields #[.ref t, .int 0 0] })
      (o := { cls := .type "enumerate", data := .fields #[.none, .bool false, .ref s.heap.objs.size, rawInt 0, .none, .none] }) rfl
    rw [hz] at this; exact this
  refine ⟨⟨_, he, rfl⟩, h _ he ⟨_, Heap.get?_push_of_some _ (Heap.get?_push_size _ rfl), rfl, rfl⟩ (by rw [Heap.size_push, hz]) fun b o x => Heap.get?_push_of_some _ (Heap.get?_push_of_some _ x)⟩
end
/-- the tuple at a, each item in a new pair -/
def IteT (K : PySem.W.Frag) (a : Addr) : It :=
  ⟨fun i H => ∃ (xs : List V) (x : V), SqT K H a xs ∧ xs[i]? = some x, fun i H v H' => ∃ T x, v = .ref T ∧ H T = none ∧ H' = upd H T (.tup [.int (i : Nat), x]) ∧ ∀ xs, SqT K H a xs → xs[i]? = some x, fun i H => ∃ xs : List V, SqT K H a xs ∧ xs.length ≤ i⟩
theorem turn_enuT {P : Program} {w : World} {K : PySem.W.Frag} {elts : List Expr} {kk : Nat} {tpos : Pos} (a e it : Addr) :
    Turn P w K (.Tuple elts kk tpos) (IteT K a) [e, it] e (fun i h => (∃ old, IsEnum h e it ((i : Nat) : Int) old) ∧ h.IsTupleIter it a i ∧ e ≠ it) where
  mem := by simp
  obj := fun i h st b hb => by
    obtain ⟨⟨old, he⟩, ⟨o, ho, hc, hd⟩, _⟩ := st
    have e' : b = e ∨ b = it := by simpa using hb
    rcases e' with z | z
    · rw [z]; exact ⟨_, he, fun v q => nomatch q⟩
    · rw [z]; exact ⟨o, ho, fun v q => by rw [hd] at q; cases q⟩
  keep := fun i h h' st k => let ⟨⟨old, he⟩, hi, hne⟩ := st; ⟨⟨old, k e (by simp) _ he⟩, hi.at fun o q => k it (by simp) o q, hne⟩
  item := by
    intro X hP hw hK hc i pins s σ H E I hf st hg
    subst hP hw hK
    obtain ⟨⟨old, he⟩, hit, hne⟩ := st
    obtain ⟨xs, x, hq, hx⟩ := hg
    obtain ⟨its, rv, p, hz⟩ := I.tuple hq
    obtain ⟨u, hu, ru⟩ := rv.get hx
    have hel : e < s.heap.objs.size := Heap.lt_size he
    have hil : it < s.heap.objs.size := by obtain ⟨_, q, _⟩ := hit; exact Heap.lt_size q
    have pT : s.heap.IsTuple a its.toArray := p
    have hea : e ≠ a := fun z => by
      subst z
      obtain ⟨o, h1, h2, _⟩ := pT
      rw [he] at h1
      cases h1
      simp at h2
    have hai : a ≠ it := fun z => by
      subst z
      obtain ⟨o, h1, h2, _⟩ := pT
      obtain ⟨o', h3, h4, _⟩ := hit
      rw [h3] at h1
      cases h1
      rw [h4] at h2
      simp at h2
    have hlt : i < its.toArray.size := by
      have := (List.getElem?_eq_some_iff.mp hu).1
      simpa using this
    have hd : X.A.in1.handled = none := I.ok.hd hc
    refine wpAny_pyNext_enum_itemD (Draws.tuple hd it a hai its.toArray) he ⟨hit, pT⟩ hlt hne (by simp [hne, hea]) fun x1 h' tk hx1 ho hst' hT hsz hk => ?_
    have ex : x1 = u := by
      have e1 : its.toArray[i]? = some u := by simpa using hu
      rw [e1] at hx1
      cases hx1
      rfl
    subst ex
    refine ⟨_, rfl, wpAny_letOwnedTupleGo_enum (s := { s with heap := h', toks := tk + 1 }) ho fun h'' he' sb => ?_⟩
    have hT2 : h''.get? s.heap.objs.size = some { cls := .type "tuple", data := .seq #[.int i tk, x1] } := (sb.2 _ (Nat.ne_of_gt hel)).trans hT
    have new : ObjOk X.prog X.w (upd H s.heap.objs.size (.tup [.int (i : Nat), x])) h'' s.heap.objs.size (.tup [.int (i : Nat), x]) :=
      ⟨by show 2 ≤ sizeLine; decide, [.int i tk, x1], .cons ⟨_, rfl⟩ (.cons ru .nil), ⟨_, hT2, rfl, _, rfl⟩⟩
    have I1 : Inv X pins σ (upd H s.heap.objs.size (.tup [.int (i : Nat), x])) { s with heap := h'', toks := tk + 1 } :=
      I.turnedNew (ch := [e, it]) (fun b ob hb q => (sb.2 b (fun z => hb (by simp [z]))).trans (hk b ob (fun z => hb (by simp [z])) (fun z => hb (by simp [z])) q)) hf (Nat.le_refl _) new
    refine ⟨.ref s.heap.objs.size, _, I1, rfl, ⟨_, x, rfl, I.hok.fresh (Nat.le_refl _), rfl, fun ys hy => by rw [I.tuple_inj hy hq]; exact hx⟩, ⟨⟨x1, ?_⟩, hst'.1.at fun o q => (sb.2 it (Ne.symm hne)).trans q, hne⟩, fun b hb => ?_⟩
    · have e1 : ((i + 1 : Nat) : Int) = (i : Int) + 1 := by omega
      rw [e1]; exact he'
    · have hb' : b < s.heap.objs.size := by
        have e' : b = e ∨ b = it := by simpa using hb
        rcases e' with z | z
        · rw [z]; exact hel
        · rw [z]; exact hil
      rw [upd_ne (Nat.ne_of_lt hb')]
      exact (hf b hb).1
  done := by
    intro X hP hw hK hc i pins s σ H E I hf st hg
    subst hP hw hK
    obtain ⟨⟨old, he⟩, hit, hne⟩ := st
    obtain ⟨xs, hq, hx⟩ := hg
    obtain ⟨its, rv, p, hz⟩ := I.tuple hq
    obtain ⟨f0, f1, f2, f3, f4, f5⟩ := hf it (by simp)
    have hl := rv.length
    have pT : s.heap.IsTuple a its.toArray := p
    have hd : X.A.in1.handled = none := I.ok.hd hc
    have hT : s.TypeIs (.ref e) "enumerate" := ⟨_, he, rfl⟩
    unfold pyNext
    refine wpAny_bind (wpAny_attempt (wpAny_callSpecial?_slot (name := Str.ofString "__next__") hT F.slot_enumerate_next
      (wpAny_call_entry F.slot_enumerate_next hT F.entry_enumerate_next ?_ (F.args_enumerate_next_1 _))))
    show wpAny _ _ (field (.ref e) 2 >>= _) _ _ _
    refine wpAny_bind (wpAny_field he rfl (x := .ref it) rfl ?_)
    refine wpAny_bind (wpAny_nextOf_tuple_end hd hit pT (by simp; omega) fun h' x eb hx' => ?_)
    obtain ⟨o, ho, hc'⟩ := hx'
    refine wpAny_bind (wpAny_isInstance (T := "StopIteration") (b := true) ⟨o, ho, hc'⟩ isSubtype_stop ?_)
    exact wpAny_pure ⟨rfl, I.turned (t' := s.toks) (fun b o hb q => eb b o hb q) f0 f1 f3 f4 f5⟩
  self := fun A i s Q E st h => let ⟨⟨_, he⟩, _⟩ := st; wpAny_pyIter_enum he h
/-- enumerate of a list or of a tuple -/
def iEnuA (K : PySem.W.Frag) (te : TE) : TI := fun σ H R => te σ H fun v H1 => ∃ a xs, v = .ref a ∧ ((SqL K H1 a xs ∧ R (Ite K a) H1) ∨ (SqT K H1 a xs ∧ R (IteT K a) H1))
theorem pi_enuA {X : Cx} {e : Expr} {te : TE} {p pos tpos : Pos} {elts : List Expr} {kk : Nat} (hg : Gl X "enumerate") (hm : X.mg "enumerate" = none) (he0 : PE X e te) (hs : starEach [e] X.env = (false, eval e X.env) :: starEach [] X.env) :
    PI X (.Tuple elts kk tpos) (.Call (.Name "enumerate" p) [e] [] pos) (iEnuA X.K te) := by
  refine ⟨fun pins s σ H R I h => ?_⟩
  refine Call_ (ld_blt I hg hm boot_enumerate (PyProof.Rows.callWith_type1 (args_cons (thn (he0.run pins s σ H _ I h) fun u s1 ⟨v, H1, I1, r1, a, xs, ev, q⟩ => args_nil ?_) hs) hs rfl))
  subst ev
  cases r1
  rcases q with ⟨hq, q⟩ | ⟨hq, q⟩
  · obtain ⟨its, rv, p', hz⟩ := I1.list hq
    refine call_enumerate_list p'.isList fun h' he hit hsz hk => wpAny_pyIter_enum he ?_
    have I2 : Inv X pins σ H1 { s1 with heap := h' } := I1.kept (t' := s1.toks) hk
    refine ⟨s1.heap.objs.size + 1, [s1.heap.objs.size + 1, s1.heap.objs.size], _, _, H1, rfl, I2, turn_enum a (s1.heap.objs.size + 1) s1.heap.objs.size, ⟨⟨.none, he⟩, hit, Nat.succ_ne_self _⟩, fun b hb => ?_, q⟩
    have e' : b = s1.heap.objs.size + 1 ∨ b = s1.heap.objs.size := by simpa using hb
    have hle : s1.heap.objs.size ≤ b := by
      rcases e' with z | z
      · rw [z]; exact Nat.le_add_right _ _
      · rw [z]; exact Nat.le_refl _
    exact I1.fpOk hle (I1.hok.fresh hle)
  · obtain ⟨its, rv, p', hz⟩ := I1.tuple hq
    refine call_enuT p' fun h' he hit hsz hk => wpAny_pyIter_enum he ?_
    have I2 : Inv X pins σ H1 { s1 with heap := h' } := I1.kept (t' := s1.toks) hk
    refine ⟨s1.heap.objs.size + 1, [s1.heap.objs.size + 1, s1.heap.objs.size], _, _, H1, rfl, I2, turn_enuT a (s1.heap.objs.size + 1) s1.heap.objs.size, ⟨⟨.none, he⟩, hit, Nat.succ_ne_self _⟩, fun b hb => ?_, q⟩
    have e' : b = s1.heap.objs.size + 1 ∨ b = s1.heap.objs.size := by simpa using hb
    have hle : s1.heap.objs.size ≤ b := by
      rcases e' with z | z
      · rw [z]; exact Nat.le_add_right _ _
      · rw [z]; exact Nat.le_refl _
    exact I1.fpOk hle (I1.hok.fresh hle)
end Ip
set_option Elab.async false
set_option linter.all false
set_option maxRecDepth 100000
/-! Ip: a small core language for plain Python code, its values and its evaluator, in plain Lean. -/
namespace Ip
open PySem

/-- a value: plain data, a handle of a list or dict that is still changed, the law's script, a caught exception (its place, its dict, the names and the values there) -/
inductive Val where
  | d (x : PyData)
  | h (n : Nat)
  | s (ns : List Int)
  | x (a : Nat) (dd : Option Nat) (fl : List Str) (fs : List PyData)
  /-- a list of two: plain data, and a list by its handle -/
  | t (y : PyData) (n : Nat)
  /-- a constant of the module -/
  | kc (x : PyData)

/-- what a handle stands for -/
inductive MO where
  | lst (xs : List PyData)
  | dct (kvs : List (PyData × PyData))
  | fz (x : PyData)

abbrev Sto := List MO
abbrev Env := List (Option Val)

/-- an own exception: its class (by number) and its attributes -/
structure Exn where
  cls : Nat
  fs : List PyData

inductive Res (α : Type) where
  | ok (a : α) (μ : Sto)
  | exc (x : Exn) (μ : Sto)
  | bad

def Res.bind {α β : Type} (r : Res α) (k : α → Sto → Res β) : Res β :=
  match r with
  | .ok a μ => k a μ
  | .exc x μ => .exc x μ
  | .bad => .bad
@[simp] theorem Res.bind_ok {α β : Type} (a : α) (μ : Sto) (k : α → Sto → Res β) : (Res.ok a μ).bind k = k a μ := rfl
@[simp] theorem Res.bind_exc {α β : Type} (x : Exn) (μ : Sto) (k : α → Sto → Res β) : (Res.exc (α := α) x μ).bind k = .exc x μ := rfl
@[simp] theorem Res.bind_bad {α β : Type} (k : α → Sto → Res β) : (Res.bad (α := α)).bind k = .bad := rfl
def Res.opt {α : Type} (o : Option α) (μ : Sto) : Res α := match o with
  | some a => .ok a μ
  | none => .bad
@[simp] theorem Res.opt_some {α : Type} (a : α) (μ : Sto) : Res.opt (some a) μ = .ok a μ := rfl
@[simp] theorem Res.opt_none {α : Type} (μ : Sto) : Res.opt (none : Option α) μ = .bad := rfl

/-! ### syntax -/
inductive BO where | add | sub | mul | fdiv | mod | pow | shr
inductive CO where | eq | ne | lt | le | gt | ge | in_ | nin | is_ | isn
/-- what isinstance asks -/
inductive Ty where | int | bool | str | list | tuple | dict
inductive BF where | len | abs | int | str | tup | max1 | min1 | max2 | min2 | sorted | all | any | sum
inductive PM where | lcount | lindex | split1 | tindex | scount | sindex
inductive MM where | append | extend | pop0 | pop1
inductive CT where
  | nm (i : Nat)
  | nil
  | cons (a r : CT)
mutual
inductive CE where
  | bad
  | var (i : Nat)
  | kst (x : PyData)
  | glo (j : Nat)
  | bin (o : BO) (a b : CE)
  | neg (a : CE)
  | cmp (o : CO) (a b : CE)
  | chn (o1 o2 : CO) (a b c : CE)
  | bop (isAnd : Bool) (as : CEs)
  | not (a : CE)
  | ite (c a b : CE)
  | call (j : Nat) (as : CEs)
  | bi (f : BF) (as : CEs)
  | lis (m : Bool) (a : CE)
  | pm (f : PM) (o : CE) (as : CEs)
  | mm (f : MM) (i : Nat) (as : CEs)
  | isi (a : CE) (t : Ty)
  | idx (a i : CE)
  | slc (a : CE) (lo hi : CEo)
  | tup (as : CEs)
  | lst (m : Bool) (as : CEs)
  | lcm (m : Bool) (own : List Nat) (elt : CE) (t : CT) (src : CSr) (c : CEo)
  | fz (a : CE)
  /-- two lists joined: a new list by its handle -/
  | addh (a b : CE)
  /-- an item of a dict of the module -/
  | kd (j : Nat) (a : CE)
  | dct0
  /-- [a, b] -/
  | told (a b : CE)
  /-- a call that tells a truth value; lists by their handles are lent to it -/
  | bcall (j : Nat) (as : CEs)
  | tix (a : CE)
  | mmx (f : MM) (o : CE) (as : CEs)
  | lisr (src : CSr)
  | gloc (j : Nat)
  | idxc (a i : CE)
  | pmc (f : PM) (o : CE) (as : CEs)
inductive CEs where
  | nil
  | cons (a : CE) (as : CEs)
inductive CEo where
  | no
  | so (a : CE)
inductive CSr where
  | sq (a : CE)
  | rg1 (a : CE)
  | rg2 (a b : CE)
  | enu (a : CE)
  | chs (a : CE)
  | key0 (a : CE)
end
mutual
inductive CS where
  | bad
  | pass
  | brk
  | cnt
  | ex (a : CE)
  | ret (a : CE)
  | retN
  | set (i : Nat) (a : CE)
  | setT (t : CT) (a : CE)
  | sto (o : CE) (i : CE) (a : CE)
  | aug (i : Nat) (o : BO) (a : CE)
  | iff (c : CE) (a b : CSs)
  | for_ (t : CT) (src : CSr) (b : CSs)
  | whl (n : Nat) (c : CE) (b : CSs)
  | rse (c : Nat) (as : CEs)
  | try_ (b : CSs)
inductive CSs where
  | nil
  | cons (a : CS) (as : CSs)
end

/-! ### operations on plain data -/
def lim : Nat := 16777216
def dInt : PyData → Option Int
  | .int i => some i
  | _ => none
/-- order of two tuples of ints -/
def dInts : List PyData → Option (List Int)
  | [] => some []
  | .int i :: r => (dInts r).map (i :: ·)
  | _ :: _ => none
def lexLe : List Int → List Int → Bool
  | [], _ => true
  | _ :: _, [] => false
  | x :: xs, y :: ys => if x = y then lexLe xs ys else decide (x ≤ y)
def sml (i : Int) : Bool := decide (i.natAbs < 2 ^ 4000)
def binD : BO → PyData → PyData → Option PyData
  | .add, .int i, .int j => some (.int (i + j))
  | .add, .list xs, .list ys => if xs.length + ys.length ≤ lim then some (.list (xs ++ ys)) else none
  | .add, .tuple xs, .tuple ys => if xs.length + ys.length ≤ lim then some (.tuple (xs ++ ys)) else none
  | .sub, .int i, .int j => some (.int (i - j))
  | .mul, .int i, .int j => if sml i && sml j then some (.int (i * j)) else none
  | .mul, .list xs, .int k => if xs.length * k.toNat ≤ lim && decide (-(2 ^ 63) ≤ k) && decide (k < 2 ^ 63) then some (.list (List.replicate k.toNat xs).flatten) else none
  | .fdiv, .int i, .int j => if 0 < j && sml j then some (.int (i / j)) else none
  | .mod, .int i, .int j => if 0 < j then some (.int (i % j)) else none
  | .mul, .tuple xs, .int k => if !xs.isEmpty && decide (xs.length ≤ 1000) && decide (2 ≤ k) && decide (k ≤ 1000) then some (.tuple (List.replicate k.toNat xs).flatten) else none
  | .shr, .int i, .int j => if 0 ≤ j then some (.int (i / 2 ^ j.toNat)) else none
  | .pow, .int i, .int j => if 0 ≤ j && decide (j ≤ 1000) && decide (i.natAbs < 2 ^ 64) then some (.int (i ^ j.toNat)) else none
  | _, _, _ => none
/-- may be compared by == -/
def okEq (x : PyData) : Bool := SeqAt.shaped x
def isNon : PyData → Bool
  | .none => true
  | _ => false
def itemsOf : PyData → Option (List PyData)
  | .list xs => some xs
  | .tuple xs => some xs
  | _ => none
def flatD : PyData → Bool
  | .none => true
  | .bool _ => true
  | .int _ => true
  | .str _ => true
  | _ => false
/-- x in y: a list of anything, a list or tuple of flat things -/
def inD (x y : PyData) : Option Bool := match y with
  | .list ys => if okEq x && okEq y then some (ys.any fun z => PyData.eqv z x) else none
  | .tuple ys => if flatD x && ys.all flatD then some (ys.any fun z => PyData.eqv z x) else none
  | .str b => (match x with
    | .str a => some (!(Builtin.Str.occurrences b a 0 b.length 1).isEmpty)
    | _ => none)
  | _ => none
def eqD : PyData → PyData → Option Bool
  | .int i, .int j => some (decide (i = j))
  | .str a, .str b => some (decide (a = b))
  | x, y => if okEq x && okEq y then some (PyData.eqv x y) else none
def cmpD : CO → PyData → PyData → Option Bool
  | .eq, x, y => eqD x y
  | .ne, x, y => (eqD x y).map not
  | .lt, .int i, .int j => some (decide (i < j))
  | .le, .int i, .int j => some (decide (i ≤ j))
  | .gt, .int i, .int j => some (decide (j < i))
  | .ge, .int i, .int j => some (decide (j ≤ i))
  | .lt, .tuple xs, .tuple ys => (dInts xs).bind fun ns => (dInts ys).map fun ms => HT.lexLt ns ms
  | .le, .tuple xs, .tuple ys => (dInts xs).bind fun ns => (dInts ys).map fun ms => lexLe ns ms
  | .in_, x, y => inD x y
  | .nin, x, y => (inD x y).map not
  | .is_, x, .none => some (isNon x)
  | .isn, x, .none => some (!isNon x)
  | _, _, _ => none
def isiD : Ty → PyData → Bool
  | .int, .int _ => true
  | .int, .bool _ => true
  | .bool, .bool _ => true
  | .str, .str _ => true
  | .list, .list _ => true
  | .tuple, .tuple _ => true
  | .dict, .dict _ => true
  | _, _ => false
/-- the place of an index -/
def ixP (n : Nat) (i : Int) : Option Nat := L2.ixN n i
def idxD : PyData → PyData → Option PyData
  | .list xs, .int i => (ixP xs.length i).bind fun j => xs[j]?
  | .tuple xs, .int i => (ixP xs.length i).bind fun j => xs[j]?
  | .str x, .int i => if x.length ≤ lim then (L2.atI x.cps.toList i).map fun c => .str ⟨#[c]⟩ else none
  | _, _ => none
def cutD (xs : List PyData) (lo hi : Option Int) : List PyData :=
  (xs.drop (HT.sIx xs.length 0 lo)).take (HT.sIx xs.length xs.length hi - HT.sIx xs.length 0 lo)
def slcD : PyData → Option Int → Option Int → Option PyData
  | .list xs, lo, hi => some (.list (cutD xs lo hi))
  | .tuple xs, lo, hi => some (.tuple (cutD xs lo hi))
  | _, _, _ => none
def maxI : List Int → Option Int
  | [] => none
  | x :: xs => some (xs.foldl max x)
def minI : List Int → Option Int
  | [] => none
  | x :: xs => some (xs.foldl min x)
def tup1 : PyData → Bool
  | .tuple (_ :: _) => true
  | _ => false
def noTup : PyData → Bool
  | .none => false
  | .tuple _ => false
  | _ => true
/-- may be sorted -/
def sortOk (xs : List PyData) : Bool := (xs.all fun x => xs.all fun y => PySem.W.alike x y) && (xs.all tup1 || xs.all noTup) && xs.all fun x => decide (x.depth ≤ 8)
def sortD (xs : List PyData) : List PyData := xs.mergeSort (PySem.W.dataLe false id)
def dBools : List PyData → Option (List Bool)
  | [] => some []
  | .bool b :: r => (dBools r).map (b :: ·)
  | _ :: _ => none
def dStrs : List PyData → Option (List Str)
  | [] => some []
  | .str x :: r => (dStrs r).map (x :: ·)
  | _ :: _ => none
def biD : BF → List PyData → Option PyData
  | .len, [.list xs] => some (.int xs.length)
  | .len, [.tuple xs] => some (.int xs.length)
  | .len, [.str x] => if x.length ≤ lim then some (.int (x.length : Nat)) else none
  | .len, [.dict []] => some (.int 0)
  | .abs, [.int i] => some (.int (if i < 0 then -i else i))
  | .int, [.int i] => some (.int i)
  | .int, [.bool b] => some (.int (if b then 1 else 0))
  | .str, [.int i] => if i.natAbs.log2 < 1920 then some (.str (toString i)) else none
  | .tup, [.list xs] => some (.tuple xs)
  | .tup, [.tuple xs] => some (.tuple xs)
  | .max2, [.int i, .int j] => some (.int (if j > i then j else i))
  | .min2, [.int i, .int j] => some (.int (if j < i then j else i))
  | .sorted, [.list xs] => if sortOk xs then some (.list (sortD xs)) else none
  | .max1, [.list xs] => (dInts xs).bind fun ns => (maxI ns).map .int
  | .min1, [.list xs] => (dInts xs).bind fun ns => (minI ns).map .int
  | .all, [.list xs] => (dBools xs).map fun bs => .bool (bs.all id)
  | .any, [.list xs] => (dBools xs).map fun bs => .bool (bs.any id)
  | _, _ => none

/-- a method that changes nothing -/
def pmD : PM → PyData → List PyData → Option PyData
  | .lcount, .list xs, [d] => if okEq d && okEq (.list xs) then some (.int ((xs.countP fun y => PyData.eqv y d : Nat) : Int)) else none
  | .lindex, .list xs, [d] => if okEq d && okEq (.list xs) then (xs.findIdx? fun y => PyData.eqv y d).map fun j => .int ((j : Nat) : Int) else none
  | .tindex, .tuple xs, [.str z] => (dStrs xs).bind fun ys => (ys.findIdx? fun y => decide (y = z)).map fun j => .int ((j : Nat) : Int)
  | .scount, .str a, [.str b] => some (.int (Txt.count a b))
  | .sindex, .str a, [.str b] => (match Builtin.Str.occurrences a b 0 a.length 1 with
    | i :: _ => some (.int ((i : Nat) : Int))
    | [] => none)
  | .split1, .str x, [.str y] => if y.length ≠ 0 ∧ x.length + 2 ≤ lim then some (.list ((PySem.Txt.split x y).map .str)) else none
  | _, _, _ => none

/-- its receiver's type -/
def pmT : PM → PyData → Bool
  | .lcount, .list _ => true
  | .lindex, .list _ => true
  | .split1, .str _ => true
  | .scount, .str _ => true
  | .sindex, .str _ => true
  | _, _ => false

/-! ### values and the store -/
def rd (μ : Sto) : Val → Option PyData
  | .d x => some x
  | .h n => match μ[n]? with
    | some (.lst xs) => some (.list xs)
    | some (.dct kvs) => some (.dict kvs)
    | some (.fz x) => some x
    | none => none
  | .s _ => none
  | .x .. => none
  | .t .. => none
  | .kc x => some x
def dOf : Val → Option PyData
  | .d x => some x
  | .kc x => some x
  | _ => none
def dsOf : List Val → Option (List PyData)
  | [] => some []
  | w :: ws => (dOf w).bind fun x => (dsOf ws).map (x :: ·)
def rds (μ : Sto) : List Val → Option (List PyData)
  | [] => some []
  | w :: ws => (rd μ w).bind fun x => (rds μ ws).map (x :: ·)
def bOf : Val → Option Bool
  | .d (.bool b) => some b
  | _ => none
/-- a new list: plain (never changed again) or a handle -/
def newL (m : Bool) (xs : List PyData) (μ : Sto) : Res Val :=
  if m then .ok (.h μ.length) (μ ++ [.lst xs]) else .ok (.d (.list xs)) μ
def asg : CT → Val → Env → Option Env
  | .nm i, w, ρ => some (ρ.set i (some w))
  | .nil, .d (.tuple []), ρ => some ρ
  | .cons a r, .d (.tuple (x :: xs)), ρ => (asg a (.d x) ρ).bind fun ρ' => asg r (.d (.tuple xs)) ρ'
  | _, _, _ => none
def wipeE (ρ : Env) : List Nat → Env
  | [] => ρ
  | v :: vs => (wipeE ρ vs).set v none
def mmD : MM → List PyData → List PyData → Option (List PyData × PyData)
  | .append, xs, [y] => if xs.length < lim then some (xs ++ [y], .none) else none
  | .extend, xs, [.list ys] => if xs.length + ys.length ≤ lim then some (xs ++ ys, .none) else none
  | .extend, xs, [.tuple ys] => if xs.length + ys.length ≤ lim then some (xs ++ ys, .none) else none
  | .pop0, xs, [] => match xs[xs.length - 1]? with
    | some y => some (xs.dropLast, y)
    | none => none
  | .pop1, xs, [.int i] => (seqIndex? i xs.length).bind fun k => if decide (-(2 ^ 63) ≤ i) && decide (i < 2 ^ 63) then xs[k]?.map fun y => (xs.eraseIdx k, y) else none
  | _, _, _ => none
/-- a comprehension's turns -/
def lcmL (own : List Nat) (t : CT) (elt : Env → Sto → Res Val) (c : Env → Sto → Res Val) (ρ : Env) : List PyData → List PyData → Sto → Res (List PyData)
  | [], acc, μ => .ok acc μ
  | x :: xs, acc, μ => (Res.opt (asg t (.d x) (wipeE ρ own)) μ).bind fun ρ' μ =>
    (c ρ' μ).bind fun wb μ => (Res.opt (bOf wb) μ).bind fun b μ =>
    if b then (elt ρ' μ).bind fun w μ => (Res.opt (dOf w) μ).bind fun y μ => if acc.length < lim then lcmL own t elt c ρ xs (acc ++ [y]) μ else .bad
    else lcmL own t elt c ρ xs acc μ

/-- a constant tuple -/
def kcT : Val → Option PyData
  | .kc (.tuple xs) => some (.tuple xs)
  | _ => none
def pmcD : PM → PyData → List PyData → Option PyData
  | .tindex, x, ys => pmD .tindex x ys
  | _, _, _ => none
/-- a value lent to a call: what it reads as -/
def lend (μ : Sto) : Val → Option PyData
  | .d x => some x
  | .kc x => some x
  | .h n => match μ[n]? with
    | some (.lst xs) => some (.list xs)
    | some (.fz x) => some x
    | _ => none
  | .t y n => match μ[n]? with
    | some (.lst xs) => some (.list [y, .list xs])
    | some (.fz x) => some (.list [y, x])
    | _ => none
  | _ => none
def lends (μ : Sto) : List Val → Option (List PyData)
  | [] => some []
  | w :: ws => (lend μ w).bind fun x => (lends μ ws).map (x :: ·)
/-- an answer that is a truth value -/
def truB (μ : Sto) : Res Val → Res Val
  | .ok (.d (.bool b)) _ => .ok (.d (.bool b)) μ
  | _ => .bad
def kdL : List (PyData × PyData) → Str → Option PyData
  | [], _ => none
  | (.str k, y) :: r, z => if k = z then some y else kdL r z
  | _ :: _, _ => none
def kdO : Option PyData → PyData → Option PyData
  | some (.dict kvs), .str z => kdL kvs z
  | _, _ => none
def enuD : Nat → List PyData → List PyData
  | _, [] => []
  | k, x :: xs => .tuple [.int (k : Int), x] :: enuD (k + 1) xs
def chsD : PyData → Option (List PyData)
  | .str x => some (x.cps.toList.map fun c => .str ⟨#[c]⟩)
  | _ => none
def key0D : PyData → Option (List PyData)
  | .dict [] => some []
  | _ => none
def noExc {α : Type} : Res α → Res α
  | .ok a μ => .ok a μ
  | _ => .bad

def rngD (lo : Int) (n : Nat) : List PyData := (List.range n).map fun k => .int (lo + (k : Nat))
def rgOk (i : Int) : Bool := decide (-(2 ^ 62) ≤ i) && decide (i < 2 ^ 62)

section
variable (Φ : Nat → List Val → Sto → Res Val) (G : Nat → Option PyData)
mutual
def evalE : CE → Env → Sto → Res Val
  | .bad => fun _ _ => .bad
  | .var i => fun ρ μ => match ρ[i]? with
    | some (some w) => .ok w μ
    | _ => .bad
  | .kst x => fun _ μ => .ok (.d x) μ
  | .glo j => fun _ μ => Res.opt ((G j).map .d) μ
  | .bin o a b => fun ρ μ => (evalE a ρ μ).bind fun wa μ => (evalE b ρ μ).bind fun wb μ =>
    Res.opt ((rd μ wa).bind fun x => (rd μ wb).bind fun y => (binD o x y).map .d) μ
  | .neg a => fun ρ μ => (evalE a ρ μ).bind fun w μ => Res.opt ((dOf w).bind fun x => (dInt x).map fun i => .d (.int (-i))) μ
  | .cmp o a b => fun ρ μ => (evalE a ρ μ).bind fun wa μ => (evalE b ρ μ).bind fun wb μ =>
    Res.opt ((rd μ wa).bind fun x => (rd μ wb).bind fun y => (cmpD o x y).map fun r => .d (.bool r)) μ
  | .chn o1 o2 a b c => fun ρ μ => (evalE a ρ μ).bind fun wa μ => (evalE b ρ μ).bind fun wb μ =>
    (Res.opt ((dOf wa).bind fun x => (dOf wb).bind fun y => cmpD o1 x y) μ).bind fun r μ =>
    if r then (evalE c ρ μ).bind fun wc μ => Res.opt ((dOf wb).bind fun y => (dOf wc).bind fun z => (cmpD o2 y z).map fun r => .d (.bool r)) μ
    else .ok (.d (.bool false)) μ
  | .bop k as => fun ρ μ => evalB k as ρ μ
  | .not a => fun ρ μ => (evalE a ρ μ).bind fun w μ => Res.opt ((bOf w).map fun b => .d (.bool !b)) μ
  | .ite c a b => fun ρ μ => (evalE c ρ μ).bind fun w μ => (Res.opt (bOf w) μ).bind fun r μ => if r then evalE a ρ μ else evalE b ρ μ
  | .call j as => fun ρ μ => (evalEs as ρ μ).bind fun ws μ => Φ j ws μ
  | .bi f as => fun ρ μ => (evalEs as ρ μ).bind fun ws μ => Res.opt ((rds μ ws).bind fun xs => (biD f xs).map .d) μ
  | .lis m a => fun ρ μ => (evalE a ρ μ).bind fun w μ => match w with
    | .s ns => newL m (ns.map .int) μ
    | w => (Res.opt ((rd μ w).bind itemsOf) μ).bind fun xs μ => newL m xs μ
  | .pm f o as => fun ρ μ => (evalE o ρ μ).bind fun w μ => (Res.opt ((dOf w).bind fun x => if pmT f x then some x else none) μ).bind fun x μ => (evalEs as ρ μ).bind fun ws μ => Res.opt ((dsOf ws).bind fun xs => (pmD f x xs).map .d) μ
  | .mm f i as => fun ρ μ => match ρ[i]? with
    | some (some (.h n)) => match μ[n]? with
      | some (.lst _) => (evalEs as ρ μ).bind fun ws μ => (Res.opt (dsOf ws) μ).bind fun ys μ => match μ[n]? with
        | some (.lst xs) => (Res.opt (mmD f xs ys) μ).bind fun r μ => .ok (.d r.2) (μ.set n (.lst r.1))
        | _ => .bad
      | _ => .bad
    | _ => .bad
  | .isi a t => fun ρ μ => (evalE a ρ μ).bind fun w μ => Res.opt ((dOf w).map fun x => .d (.bool (isiD t x))) μ
  | .idx a i => fun ρ μ => (evalE a ρ μ).bind fun wa μ => (evalE i ρ μ).bind fun wi μ =>
    Res.opt ((rd μ wa).bind fun x => (dOf wi).bind fun y => (idxD x y).map .d) μ
  | .slc a lo hi => fun ρ μ => (evalE a ρ μ).bind fun wa μ => (evalO lo ρ μ).bind fun wl μ => (evalO hi ρ μ).bind fun wh μ =>
    Res.opt ((rd μ wa).bind fun x => (slcD x wl wh).map .d) μ
  | .tup as => fun ρ μ => (evalEs as ρ μ).bind fun ws μ => Res.opt ((dsOf ws).bind fun xs => if xs.length ≤ lim then some (.d (.tuple xs)) else none) μ
  | .lst m as => fun ρ μ => (evalEs as ρ μ).bind fun ws μ => (Res.opt (dsOf ws) μ).bind fun xs μ => if xs.length ≤ lim then newL m xs μ else .bad
  | .lcm m own elt t src c => fun ρ μ => (evalR src ρ μ).bind fun xs μ =>
    (noExc (lcmL own t (evalE elt) (evalC c) ρ xs [] μ)).bind fun ys μ => newL m ys μ
  | .fz a => fun ρ μ => (evalE a ρ μ).bind fun w μ => match w with
    | .h n => match μ[n]? with
      | some (.lst xs) => .ok (.d (.list xs)) (μ.set n (.fz (.list xs)))
      | some (.fz x) => .ok (.d x) μ
      | _ => .bad
    | w => .ok w μ
  | .addh a b => fun ρ μ => (evalE a ρ μ).bind fun wa μ => (evalE b ρ μ).bind fun wb μ =>
    (Res.opt ((rd μ wa).bind fun x => (rd μ wb).bind fun y => match x, y with
      | .list xs, .list ys => if xs.length + ys.length ≤ lim then some (xs ++ ys) else none
      | _, _ => none) μ).bind fun zs μ => newL true zs μ
  | .kd j a => fun ρ μ => (evalE a ρ μ).bind fun w μ => Res.opt ((dOf w).bind fun x => (kdO (G (1000 + j)) x).map .d) μ
  | .dct0 => fun _ μ => .ok (.d (.dict [])) μ
  | .told a b => fun ρ μ => (evalE a ρ μ).bind fun wa μ => (evalE b ρ μ).bind fun wb μ => (Res.opt (dOf wa) μ).bind fun x μ => match wb with
    | .d y => .ok (.d (.list [x, y])) μ
    | .h n => .ok (.t x n) μ
    | _ => .bad
  | .bcall j as => fun ρ μ => (evalEs as ρ μ).bind fun ws μ => (Res.opt (lends μ ws) μ).bind fun xs μ => truB μ (Φ j (xs.map .d) [])
  | .tix a => fun ρ μ => (evalE a ρ μ).bind fun w μ => match w with
    | .t _ n => .ok (.h n) μ
    | _ => .bad
  | .mmx f o as => fun ρ μ => (evalE o ρ μ).bind fun wo μ => match wo with
    | .h n => match μ[n]? with
      | some (.lst _) => (evalEs as ρ μ).bind fun ws μ => (Res.opt (dsOf ws) μ).bind fun ys μ => match μ[n]? with
        | some (.lst xs) => (Res.opt (mmD f xs ys) μ).bind fun r μ => .ok (.d r.2) (μ.set n (.lst r.1))
        | _ => .bad
      | _ => .bad
    | _ => .bad
  | .gloc j => fun _ μ => Res.opt ((G j).map .kc) μ
  | .idxc a i => fun ρ μ => (evalE a ρ μ).bind fun wa μ => (evalE i ρ μ).bind fun wi μ => Res.opt ((kcT wa).bind fun x => (dOf wi).bind fun y => (idxD x y).map .kc) μ
  | .pmc f o as => fun ρ μ => (evalE o ρ μ).bind fun w μ => (Res.opt (kcT w) μ).bind fun x μ => (evalEs as ρ μ).bind fun ws μ => Res.opt ((dsOf ws).bind fun xs => (pmcD f x xs).map .d) μ
  | .lisr src => fun ρ μ => (evalR src ρ μ).bind fun xs μ => if xs.length ≤ lim then .ok (.d (.list xs)) μ else .bad
def evalC : CEo → Env → Sto → Res Val
  | .no => fun _ μ => .ok (.d (.bool true)) μ
  | .so a => evalE a
def evalB (k : Bool) : CEs → Env → Sto → Res Val
  | .nil => fun _ μ => .ok (.d (.bool k)) μ
  | .cons a as => fun ρ μ => (evalE a ρ μ).bind fun w μ => (Res.opt (bOf w) μ).bind fun b μ => if b = k then evalB k as ρ μ else .ok (.d (.bool b)) μ
def evalEs : CEs → Env → Sto → Res (List Val)
  | .nil => fun _ μ => .ok [] μ
  | .cons a as => fun ρ μ => (evalE a ρ μ).bind fun w μ => (evalEs as ρ μ).bind fun ws μ => .ok (w :: ws) μ
def evalO : CEo → Env → Sto → Res (Option Int)
  | .no => fun _ μ => .ok none μ
  | .so a => fun ρ μ => (evalE a ρ μ).bind fun w μ => Res.opt ((dOf w).bind fun x => (dInt x).map some) μ
def evalR : CSr → Env → Sto → Res (List PyData)
  | .sq a => fun ρ μ => (evalE a ρ μ).bind fun w μ => Res.opt ((dOf w).bind itemsOf) μ
  | .rg1 a => fun ρ μ => (evalE a ρ μ).bind fun w μ => Res.opt ((dOf w).bind fun x => (dInt x).bind fun n => if rgOk n then some (rngD 0 n.toNat) else none) μ
  | .rg2 a b => fun ρ μ => (evalE a ρ μ).bind fun wa μ => (evalE b ρ μ).bind fun wb μ =>
    Res.opt ((dOf wa).bind fun x => (dInt x).bind fun i => (dOf wb).bind fun y => (dInt y).bind fun j => if rgOk i && rgOk j then some (rngD i (j - i).toNat) else none) μ
  | .enu a => fun ρ μ => (evalE a ρ μ).bind fun w μ => Res.opt (((dOf w).bind itemsOf).map (enuD 0)) μ
  | .chs a => fun ρ μ => (evalE a ρ μ).bind fun w μ => Res.opt ((dOf w).bind chsD) μ
  | .key0 a => fun ρ μ => (evalE a ρ μ).bind fun w μ => Res.opt ((dOf w).bind key0D) μ
end
end

/-! ### statements -/
inductive Flo where
  | nx (ρ : Env)
  | ret (w : Val)
  | bk (ρ : Env)
  | ct (ρ : Env)
def forL (t : CT) (body : Env → Sto → Res Flo) : List PyData → Env → Sto → Res Flo
  | [], ρ, μ => .ok (.nx ρ) μ
  | x :: xs, ρ, μ => (Res.opt (asg t (.d x) ρ) μ).bind fun ρ μ => (body ρ μ).bind fun f μ => match f with
    | .nx ρ => forL t body xs ρ μ
    | .ct ρ => forL t body xs ρ μ
    | .bk ρ => .ok (.nx ρ) μ
    | .ret w => .ok (.ret w) μ
def whlL (c : Env → Sto → Res Val) (body : Env → Sto → Res Flo) : Nat → Env → Sto → Res Flo
  | 0, _, _ => .bad
  | n + 1, ρ, μ => (c ρ μ).bind fun w μ => (Res.opt (bOf w) μ).bind fun b μ => if b then (body ρ μ).bind fun f μ => match f with
    | .nx ρ => whlL c body n ρ μ
    | .ct ρ => whlL c body n ρ μ
    | .bk ρ => .ok (.nx ρ) μ
    | .ret w => .ok (.ret w) μ
    else .ok (.nx ρ) μ
/-- the row that _law_error makes of an exception -/
def errD (C : Nat → Option Str) (x : Exn) : Option PyData := (C x.cls).map fun n => .list [.str "raised", .str n, .tuple x.fs.reverse]
section
variable (Φ : Nat → List Val → Sto → Res Val) (G : Nat → Option PyData) (C : Nat → Option Str)
mutual
def evalS : CS → Env → Sto → Res Flo
  | .bad => fun _ _ => .bad
  | .pass => fun ρ μ => .ok (.nx ρ) μ
  | .brk => fun ρ μ => .ok (.bk ρ) μ
  | .cnt => fun ρ μ => .ok (.ct ρ) μ
  | .ex a => fun ρ μ => (evalE Φ G a ρ μ).bind fun _ μ => .ok (.nx ρ) μ
  | .ret a => fun ρ μ => (evalE Φ G a ρ μ).bind fun w μ => .ok (.ret w) μ
  | .retN => fun _ μ => .ok (.ret (.d .none)) μ
  | .set i a => fun ρ μ => (evalE Φ G a ρ μ).bind fun w μ => .ok (.nx (ρ.set i (some w))) μ
  | .setT t a => fun ρ μ => (evalE Φ G a ρ μ).bind fun w μ => (Res.opt (asg t w ρ) μ).bind fun ρ μ => .ok (.nx ρ) μ
  | .sto o i a => fun ρ μ => (evalE Φ G a ρ μ).bind fun w μ => (evalE Φ G o ρ μ).bind fun wo μ => (evalE Φ G i ρ μ).bind fun wi μ => match wo with
    | .h n => match μ[n]? with
      | some (.lst xs) => (Res.opt ((dOf wi).bind fun x => (dInt x).bind fun k => (ixP xs.length k).bind fun j => (dOf w).map fun y => xs.set j y) μ).bind fun ys μ => .ok (.nx ρ) (μ.set n (.lst ys))
      | _ => .bad
    | _ => .bad
  | .aug i o a => fun ρ μ => match ρ[i]? with
    | some (some (.d (.int x))) => (evalE Φ G a ρ μ).bind fun w μ => (Res.opt ((dOf w).bind fun y => (dInt y).bind fun j => binD o (.int x) (.int j)) μ).bind fun z μ => .ok (.nx (ρ.set i (some (.d z)))) μ
    | _ => .bad
  | .iff c a b => fun ρ μ => (evalE Φ G c ρ μ).bind fun w μ => (Res.opt (bOf w) μ).bind fun r μ => if r then evalSs a ρ μ else evalSs b ρ μ
  | .for_ t src b => fun ρ μ => (evalR Φ G src ρ μ).bind fun xs μ => forL t (evalSs b) xs ρ μ
  | .whl n c b => fun ρ μ => whlL (evalE Φ G c) (evalSs b) n ρ μ
  | .rse c as => fun ρ μ => (evalEs Φ G as ρ μ).bind fun ws μ => (Res.opt (dsOf ws) μ).bind fun xs μ => .exc ⟨c, xs.reverse⟩ μ
  | .try_ b => fun ρ μ => match evalSs b ρ μ with
    | .ok f μ => .ok f μ
    | .exc x μ => (Res.opt (errD C x) μ).bind fun y μ => .ok (.ret (.d y)) μ
    | .bad => .bad
def evalSs : CSs → Env → Sto → Res Flo
  | .nil => fun ρ μ => .ok (.nx ρ) μ
  | .cons a as => fun ρ μ => (evalS a ρ μ).bind fun f μ => match f with
    | .nx ρ => evalSs as ρ μ
    | f => .ok f μ
end
end

/-! ### functions -/
structure CF where
  np : Nat
  nn : Nat
  body : CSs
def outV (base : Nat) (w : Val) (μ : Sto) : Res Val := match w with
  | .h n => if n < base then .ok (.h n) (μ.take base) else match μ[n]? with
    | some o => .ok (.h base) (μ.take base ++ [o])
    | none => .bad
  | .t y n => if n < base then .ok (.t y n) (μ.take base) else match μ[n]? with
    | some o => .ok (.t y base) (μ.take base ++ [o])
    | none => .bad
  | w => .ok w (μ.take base)
def finV (base : Nat) : Res Flo → Res Val
  | .ok (.ret w) μ => outV base w μ
  | .ok (.nx _) μ => .ok (.d .none) (μ.take base)
  | .ok _ _ => .bad
  | .exc x μ => .exc x (μ.take base)
  | .bad => .bad
def startE (f : CF) (ws : List Val) : Env := ws.map some ++ List.replicate (f.nn - ws.length) none
def callF (P : Nat → Option CF) (G : Nat → Option PyData) (C : Nat → Option Str) : Nat → Nat → List Val → Sto → Res Val
  | 0, _, _, _ => .bad
  | k + 1, j, ws, μ => match P j with
    | some f => if ws.length = f.np then finV μ.length (evalSs (callF P G C k) G C f.body (startE f ws) μ) else .bad
    | none => .bad
end Ip
set_option Elab.async false
set_option linter.all false
set_option maxRecDepth 100000
/-! Ip: how plain data, handles and environments lie in the layer's heap. -/
namespace Ip
open PySem PySem.Spec PyProof.Rows L2

def Sub (F H : Hp) : Prop := ∀ a o, F a = some o → H a = some o
theorem Sub.refl (F : Hp) : Sub F F := fun _ _ h => h
theorem Sub.trans {F G H : Hp} (a : Sub F G) (b : Sub G H) : Sub F H := fun c o h => b c o (a c o h)
theorem Sub.upd {F : Hp} {p : Addr} {o : HO} (h : F p = none) : Sub F (upd F p o) := fun a u e => by
  rw [upd_ne (ne_of_none e h)]; exact e

mutual
inductive D (K : PySem.W.Frag) (F : Hp) : V → PyData → Prop
  | non : D K F .non .none
  | bl (b : Bool) : D K F (.bl b) (.bool b)
  | int (i : Int) : D K F (.int i) (.int i)
  | str (x : Str) : D K F (.str x) (.str x)
  | lst {a : Addr} {vs : List V} {xs : List PyData} : F a = some (.lst vs) → DA K F vs xs → D K F (.ref a) (.list xs)
  | tup {a : Addr} {vs : List V} {xs : List PyData} : SqT K F a vs → DA K F vs xs → D K F (.ref a) (.tuple xs)
  | dct0 {a : Addr} {o : Obj} : F a = some (.frz o (.dK [])) → D K F (.ref a) (.dict [])
inductive DA (K : PySem.W.Frag) (F : Hp) : List V → List PyData → Prop
  | nil : DA K F [] []
  | cons {v : V} {vs : List V} {x : PyData} {xs : List PyData} : D K F v x → DA K F vs xs → DA K F (v :: vs) (x :: xs)
end

/-- a tuple of the module -/
def KTup (K : PySem.W.Frag) (a : Addr) (vs : List V) : Prop := ∃ (o : Obj) (its : Array Value) (n : Nat), K.lookup a = some o ∧ o.cls = .type "tuple" ∧ o.dict = none ∧ o.data = .seq its n ∧ its.size ≤ sizeLine ∧ Vals vs its.toList
mutual
/-- without dicts -/
def noDict : PyData → Bool
  | .none | .bool _ | .int _ | .str _ => true
  | .list xs | .tuple xs => noDicts xs
  | .dict _ => false
def noDicts : List PyData → Bool
  | [] => true
  | x :: xs => noDict x && noDicts xs
end
mutual
theorem noDict_lay : ∀ (x : PyData), x.canLay0 = true → noDict x = true
  | .none, _ => rfl
  | .bool _, _ => rfl
  | .int _, _ => rfl
  | .str _, _ => rfl
  | .list xs, h => by
    simp only [noDict]
    exact noDicts_lay xs (by simpa [PyData.canLay0] using h)
  | .tuple xs, h => by
    simp only [noDict]
    exact noDicts_lay xs (by simpa [PyData.canLay0] using h)
  | .dict _, h => by simp [PyData.canLay0] at h
theorem noDicts_lay : ∀ (xs : List PyData), PyData.canLayAll0 xs = true → noDicts xs = true
  | [], _ => rfl
  | x :: xs, h => by
    simp only [PyData.canLayAll0, Bool.and_eq_true] at h
    simp only [noDicts, noDict_lay x h.1, noDicts_lay xs h.2, Bool.and_self]
end
mutual
theorem noDict_alike : ∀ (x y : PyData), PySem.W.alike x y = true → PySem.W.alike x x = true → noDict x = true
  | .none, _, _, _ => rfl
  | .bool _, _, _, _ => rfl
  | .int _, _, _, _ => rfl
  | .str _, _, _, _ => rfl
  | .list xs, _, _, h => by
    simp only [noDict]
    exact noDicts_alike xs (by simpa [PySem.W.alike] using h)
  | .tuple xs, _, _, h => by
    simp only [noDict]
    exact noDicts_alike xs (by simpa [PySem.W.alike] using h)
  | .dict _, _, _, h => by simp [PySem.W.alike] at h
theorem noDicts_alike : ∀ (xs : List PyData), PySem.W.alikeAll xs xs = true → noDicts xs = true
  | [], _ => rfl
  | x :: xs, h => by
    simp only [PySem.W.alikeAll, Bool.and_eq_true] at h
    simp only [noDicts, noDict_alike x x h.1 h.1, noDicts_alike xs h.2, Bool.and_self]
end
theorem noDict_ok {x : PyData} (h : okEq x = true) : noDict x = true := noDict_lay x (SeqAt.canLay_of_shaped h)
mutual
/-- constant data of the module -/
inductive DC (K : PySem.W.Frag) : V → PyData → Prop
  | non : DC K .non .none
  | bl (b : Bool) : DC K (.bl b) (.bool b)
  | int (i : Int) : DC K (.int i) (.int i)
  | str (x : Str) : DC K (.str x) (.str x)
  | tup {a : Addr} {vs : List V} {xs : List PyData} (h : KTup K a vs) (t : DCA K vs xs) : DC K (.ref a) (.tuple xs)
inductive DCA (K : PySem.W.Frag) : List V → List PyData → Prop
  | nil : DCA K [] []
  | cons {v : V} {vs : List V} {x : PyData} {xs : List PyData} : DC K v x → DCA K vs xs → DCA K (v :: vs) (x :: xs)
end
theorem KTup.sq {K : PySem.W.Frag} {a : Addr} {vs : List V} (h : KTup K a vs) (F : Hp) : SqT K F a vs := by
  obtain ⟨o, its, n, h1, h2, h3, h4, h5, h6⟩ := h
  exact .inr ⟨o, its, n, h1, h2, h4, h5, h6⟩
mutual
theorem DC.d {K : PySem.W.Frag} (F : Hp) : ∀ {v : V} {x : PyData}, DC K v x → D K F v x
  | _, _, .non => .non
  | _, _, .bl b => .bl b
  | _, _, .int i => .int i
  | _, _, .str x => .str x
  | _, _, .tup h t => .tup (h.sq F) (DCA.d F t)
theorem DCA.d {K : PySem.W.Frag} (F : Hp) : ∀ {vs : List V} {xs : List PyData}, DCA K vs xs → DA K F vs xs
  | _, _, .nil => .nil
  | _, _, .cons h t => .cons (DC.d F h) (DCA.d F t)
end
theorem DCA.get {K : PySem.W.Frag} : ∀ {vs : List V} {xs : List PyData} {i : Nat} {x : PyData}, DCA K vs xs → xs[i]? = some x → ∃ v, vs[i]? = some v ∧ DC K v x
  | _, _, _, _, .nil, e => by simp at e
  | _, _, 0, _, .cons h _, e => by
    simp only [List.getElem?_cons_zero, Option.some.injEq] at e
    subst e
    exact ⟨_, rfl, h⟩
  | _, _, i + 1, x, .cons _ t, e => by
    obtain ⟨v, h1, h2⟩ := DCA.get (i := i) (x := x) t (by simpa using e)
    exact ⟨v, by simpa using h1, h2⟩
theorem DCA.length {K : PySem.W.Frag} : ∀ {vs : List V} {xs : List PyData}, DCA K vs xs → vs.length = xs.length
  | _, _, .nil => rfl
  | _, _, .cons _ t => by rw [List.length_cons, List.length_cons, DCA.length t]
theorem SqT.sub {K : PySem.W.Frag} {F H : Hp} {a : Addr} {vs : List V} (s : Sub F H) (h : SqT K F a vs) : SqT K H a vs := by
  rcases h with (h | ⟨o, h⟩) | h
  · exact .inl (.inl (s _ _ h))
  · exact .inl (.inr ⟨o, s _ _ h⟩)
  · exact .inr h
theorem SqL.sub {K : PySem.W.Frag} {F H : Hp} {a : Addr} {vs : List V} (s : Sub F H) (h : SqL K F a vs) : SqL K H a vs := by
  rcases h with (h | ⟨o, h⟩) | h
  · exact .inl (.inl (s _ _ h))
  · exact .inl (.inr ⟨o, s _ _ h⟩)
  · exact .inr h

section
variable {K : PySem.W.Frag} {F F' G H H' : Hp}
mutual
theorem D.sub (s : Sub F H) : ∀ {v : V} {x : PyData}, D K F v x → D K H v x
  | _, _, .non => .non
  | _, _, .bl b => .bl b
  | _, _, .int i => .int i
  | _, _, .str x => .str x
  | _, _, .lst e h => .lst (s _ _ e) (DA.sub s h)
  | _, _, .tup e h => .tup (SqT.sub s e) (DA.sub s h)
  | _, _, .dct0 e => .dct0 (s _ _ e)
theorem DA.sub (s : Sub F H) : ∀ {vs : List V} {xs : List PyData}, DA K F vs xs → DA K H vs xs
  | _, _, .nil => .nil
  | _, _, .cons h t => .cons (D.sub s h) (DA.sub s t)
end
mutual
theorem D.dp : ∀ {v : V} {x : PyData}, noDict x = true → D K F v x → Dp K F v x
  | _, _, _, .non => .non
  | _, _, _, .bl b => .bl b
  | _, _, _, .int i => .int i
  | _, _, _, .str x => .str x
  | _, _, n, .lst e h => .lst (.inl (.inl e)) (DA.dp (by simpa [noDict] using n) h)
  | _, _, n, .tup e h => .tup e (DA.dp (by simpa [noDict] using n) h)
  | _, _, n, .dct0 e => by simp [noDict] at n
theorem DA.dp : ∀ {vs : List V} {xs : List PyData}, noDicts xs = true → DA K F vs xs → DpAll K F vs xs
  | _, _, _, .nil => .nil
  | _, _, n, .cons h t => by
    simp only [noDicts, Bool.and_eq_true] at n
    exact .cons (D.dp n.1 h) (DA.dp n.2 t)
end
theorem DA.length : ∀ {vs : List V} {xs : List PyData}, DA K F vs xs → vs.length = xs.length
  | _, _, .nil => rfl
  | _, _, .cons _ t => by rw [List.length_cons, List.length_cons, DA.length t]
theorem DA.get : ∀ {vs : List V} {xs : List PyData} {i : Nat} {x : PyData}, DA K F vs xs → xs[i]? = some x → ∃ v, vs[i]? = some v ∧ D K F v x
  | _, _, _, _, .nil, e => by simp at e
  | _, _, 0, _, .cons h _, e => by
    simp only [List.getElem?_cons_zero, Option.some.injEq] at e
    subst e
    exact ⟨_, rfl, h⟩
  | _, _, i + 1, x, .cons _ t, e => by
    obtain ⟨v, h1, h2⟩ := DA.get (i := i) (x := x) t (by simpa using e)
    exact ⟨v, by simpa using h1, h2⟩
theorem DA.getV : ∀ {vs : List V} {xs : List PyData} {i : Nat} {v : V}, DA K F vs xs → vs[i]? = some v → ∃ x, xs[i]? = some x ∧ D K F v x
  | _, _, _, _, .nil, e => by simp at e
  | _, _, 0, _, .cons h _, e => by
    simp only [List.getElem?_cons_zero, Option.some.injEq] at e
    subst e
    exact ⟨_, rfl, h⟩
  | _, _, i + 1, x, .cons _ t, e => by
    obtain ⟨v, h1, h2⟩ := DA.getV (i := i) (v := x) t (by simpa using e)
    exact ⟨v, by simpa using h1, h2⟩
theorem DA.append : ∀ {vs ws : List V} {xs ys : List PyData}, DA K F vs xs → DA K F ws ys → DA K F (vs ++ ws) (xs ++ ys)
  | _, _, _, _, .nil, s => s
  | _, _, _, _, .cons h t, s => .cons h (DA.append t s)
theorem DA.one {v : V} {x : PyData} (h : D K F v x) : DA K F [v] [x] := .cons h .nil
theorem DA.take : ∀ {vs : List V} {xs : List PyData} (n : Nat), DA K F vs xs → DA K F (vs.take n) (xs.take n)
  | _, _, 0, _ => .nil
  | _, _, _ + 1, .nil => .nil
  | _, _, n + 1, .cons h t => .cons h (DA.take n t)
theorem DA.drop : ∀ {vs : List V} {xs : List PyData} (n : Nat), DA K F vs xs → DA K F (vs.drop n) (xs.drop n)
  | _, _, 0, r => r
  | _, _, _ + 1, .nil => .nil
  | _, _, n + 1, .cons _ t => DA.drop n t
theorem DA.set {v : V} {x : PyData} (h : D K F v x) : ∀ {vs : List V} {xs : List PyData} (i : Nat), DA K F vs xs → DA K F (vs.set i v) (xs.set i x)
  | _, _, _, .nil => .nil
  | _, _, 0, .cons _ t => .cons h t
  | _, _, i + 1, .cons q t => .cons q (DA.set h i t)
theorem DA.dropLast {vs : List V} {xs : List PyData} (h : DA K F vs xs) : DA K F vs.dropLast xs.dropLast := by
  rw [List.dropLast_eq_take, List.dropLast_eq_take, h.length]
  exact h.take _
theorem DA.eraseIdx : ∀ {vs : List V} {xs : List PyData} (i : Nat), DA K F vs xs → DA K F (vs.eraseIdx i) (xs.eraseIdx i)
  | _, _, _, .nil => .nil
  | _, _, 0, .cons _ t => t
  | _, _, i + 1, .cons q t => .cons q (DA.eraseIdx i t)
theorem DA.rep {vs : List V} {xs : List PyData} (h : DA K F vs xs) : ∀ k : Nat, DA K F (List.replicate k vs).flatten (List.replicate k xs).flatten
  | 0 => .nil
  | k + 1 => by
    rw [List.replicate_succ, List.replicate_succ, List.flatten_cons, List.flatten_cons]
    exact h.append (DA.rep h k)
theorem DA.nums : ∀ ns : List Int, DA K F (ns.map V.int) (ns.map PyData.int)
  | [] => .nil
  | n :: ns => .cons (.int n) (DA.nums ns)
theorem DA.ints : ∀ {vs : List V} {xs : List PyData} {ns : List Int}, DA K F vs xs → dInts xs = some ns → vs = ns.map V.int
  | _, _, ns, .nil, e => by
    simp only [dInts, Option.some.injEq] at e
    subst e
    rfl
  | _, _, ns, .cons (x := x) h t, e => by
    cases h with
    | int i =>
      simp only [dInts, Option.map_eq_some_iff] at e
      obtain ⟨ms, e1, rfl⟩ := e
      rw [DA.ints t e1]
      rfl
    | non => simp [dInts] at e
    | bl _ => simp [dInts] at e
    | str _ => simp [dInts] at e
    | lst _ _ => simp [dInts] at e
    | tup _ _ => simp [dInts] at e
    | dct0 _ => simp [dInts] at e

/-! ### handles -/
def MOk (K : PySem.W.Frag) (F H : Hp) (a : Addr) : MO → Prop
  | .lst xs => F a = none ∧ ∃ vs, H a = some (.lst vs) ∧ DA K F vs xs
  | .dct _ => False
  | .fz x => (∃ xs, x = .list xs) ∧ D K F (.ref a) x

structure Rep (K : PySem.W.Frag) (F H : Hp) (A : List Addr) (μ : Sto) : Prop where
  sub : Sub F H
  nd : A.Nodup
  len : A.length = μ.length
  at_ : ∀ (i : Nat) (a : Addr) (m : MO), A[i]? = some a → μ[i]? = some m → MOk K F H a m

theorem MOk.there {a : Addr} {m : MO} (s : Sub F H) (h : MOk K F H a m) : ∃ o, H a = some o := by
  cases m with
  | lst xs => obtain ⟨_, vs, e, _⟩ := h; exact ⟨_, e⟩
  | dct _ => exact h.elim
  | fz x =>
    obtain ⟨⟨xs, rfl⟩, h⟩ := h
    cases h with
    | lst e _ => exact ⟨_, s _ _ e⟩
theorem Rep.there {A : List Addr} {μ : Sto} (R : Rep K F H A μ) {a : Addr} (h : a ∈ A) : ∃ o, H a = some o := by
  obtain ⟨i, hi, rfl⟩ := List.mem_iff_getElem.mp h
  have e : A[i]? = some A[i] := List.getElem?_eq_getElem hi
  have hi2 : i < μ.length := R.len ▸ hi
  exact (R.at_ i _ _ e (List.getElem?_eq_getElem hi2)).there R.sub

def RV (K : PySem.W.Frag) (F : Hp) (A : List Addr) (v : V) : Val → Prop
  | .d x => D K F v x
  | .h n => ∃ a, A[n]? = some a ∧ v = .ref a
  | .s ns => ∃ a, v = .ref a ∧ SqL K F a (ns.map V.int)
  | .kc x => DC K v x
  | .t y n => ∃ p vy a, v = .ref p ∧ F p = some (.lst [vy, .ref a]) ∧ D K F vy y ∧ A[n]? = some a
  | .x a dd fl fs => v = .ref a ∧ ((fl = [] ∧ fs = [] ∧ dd = none) ∨ ∃ d vs, dd = some d ∧ F d = some (.xd (fl.zip vs)) ∧ DA K F vs fs ∧ fl.length = vs.length)
inductive RVs (K : PySem.W.Frag) (F : Hp) (A : List Addr) : List V → List Val → Prop
  | nil : RVs K F A [] []
  | cons {v : V} {w : Val} {vs : List V} {ws : List Val} : RV K F A v w → RVs K F A vs ws → RVs K F A (v :: vs) (w :: ws)
structure RE (K : PySem.W.Frag) (F : Hp) (A : List Addr) (σ : L2.St) (ρ : Env) : Prop where
  len : σ.length = ρ.length
  at_ : ∀ (i : Nat) (w : Val), ρ[i]? = some (some w) → ∃ v, σ[i]? = some (some v) ∧ RV K F A v w

structure Ext (F H : Hp) (A : List Addr) (F' H' : Hp) (A' : List Addr) : Prop where
  ff : Sub F F'
  pre : ∃ B, A' = A ++ B
  kp : ∀ b o, H b = some o → b ∉ A → H' b = some o
  ol : ∀ b o, H b = some o → b ∉ A → F' b = F b
  nw : ∀ b ∈ A', b ∈ A ∨ H b = none
theorem Ext.refl (F H : Hp) (A : List Addr) : Ext F H A F H A := ⟨Sub.refl _, ⟨[], by simp⟩, fun _ _ e _ => e, fun _ _ _ _ => rfl, fun _ h => .inl h⟩
theorem Ext.trans {F1 H1 F2 H2 : Hp} {A A1 A2 : List Addr} (x : Ext F H A F1 H1 A1) (y : Ext F1 H1 A1 F2 H2 A2) : Ext F H A F2 H2 A2 := by
  obtain ⟨B, rfl⟩ := x.pre
  obtain ⟨C, rfl⟩ := y.pre
  have out : ∀ b o, H b = some o → b ∉ A → b ∉ A ++ B := fun b o e n m => by
    rcases x.nw b m with h | h
    · exact n h
    · rw [e] at h; cases h
  refine ⟨x.ff.trans y.ff, ⟨B ++ C, by simp⟩, fun b o e n => y.kp b o (x.kp b o e n) (out b o e n), fun b o e n => (y.ol b o (x.kp b o e n) (out b o e n)).trans (x.ol b o e n), fun b hb => ?_⟩
  rcases y.nw b hb with h | h
  · exact x.nw b h
  · by_cases hA : b ∈ A
    · exact .inl hA
    · cases e : H b with
      | none => exact .inr rfl
      | some o =>
        have := x.kp b o e hA
        rw [h] at this; cases this
theorem RV.ext {A A' : List Addr} (x : Ext F H A F' H' A') {v : V} {w : Val} (h : RV K F A v w) : RV K F' A' v w := by
  cases w with
  | d y => exact D.sub x.ff h
  | h n =>
    obtain ⟨a, e, rfl⟩ := h
    obtain ⟨B, rfl⟩ := x.pre
    have hn : n < A.length := (List.getElem?_eq_some_iff.mp e).1
    exact ⟨a, by rw [List.getElem?_append_left hn]; exact e, rfl⟩
  | s ns =>
    obtain ⟨a, rfl, e⟩ := h
    exact ⟨a, rfl, SqL.sub x.ff e⟩
  | kc y => exact h
  | t y n =>
    obtain ⟨p, vy, a, e1, e2, e3, e4⟩ := h
    obtain ⟨B, rfl⟩ := x.pre
    have hn : n < A.length := (List.getElem?_eq_some_iff.mp e4).1
    exact ⟨p, vy, a, e1, x.ff _ _ e2, D.sub x.ff e3, by rw [List.getElem?_append_left hn]; exact e4⟩
  | x a dd fl fs =>
    obtain ⟨rfl, e⟩ := h
    refine ⟨rfl, e.imp id fun ⟨d, vs, e1, e2, e3, e4⟩ => ⟨d, vs, e1, x.ff _ _ e2, DA.sub x.ff e3, e4⟩⟩
theorem RVs.ext {A A' : List Addr} (x : Ext F H A F' H' A') : ∀ {vs : List V} {ws : List Val}, RVs K F A vs ws → RVs K F' A' vs ws
  | _, _, .nil => .nil
  | _, _, .cons h t => .cons (h.ext x) (RVs.ext x t)
theorem RE.ext {A A' : List Addr} {σ : L2.St} {ρ : Env} (x : Ext F H A F' H' A') (h : RE K F A σ ρ) : RE K F' A' σ ρ :=
  ⟨h.len, fun i w e => let ⟨v, e1, r⟩ := h.at_ i w e; ⟨v, e1, r.ext x⟩⟩
theorem RVs.length {A : List Addr} : ∀ {vs : List V} {ws : List Val}, RVs K F A vs ws → vs.length = ws.length
  | _, _, .nil => rfl
  | _, _, .cons _ t => by rw [List.length_cons, List.length_cons, RVs.length t]
theorem RE.set {A : List Addr} {σ : L2.St} {ρ : Env} (h : RE K F A σ ρ) {i : Nat} {v : V} {w : Val} (r : RV K F A v w) : RE K F A (σ.set i (some v)) (ρ.set i (some w)) := by
  refine ⟨by rw [List.length_set, List.length_set]; exact h.len, fun j u e => ?_⟩
  by_cases hj : i = j
  · subst hj
    by_cases hl : i < ρ.length
    · rw [List.getElem?_set_self hl] at e
      cases e
      exact ⟨v, by rw [List.getElem?_set_self (by rw [h.len]; exact hl)], r⟩
    · rw [List.getElem?_eq_none (by simpa using hl)] at e
      cases e
  · rw [List.getElem?_set_ne hj] at e
    rw [List.getElem?_set_ne hj]
    exact h.at_ j u e
theorem RE.unset {A : List Addr} {σ : L2.St} {ρ : Env} (h : RE K F A σ ρ) {i : Nat} : RE K F A (σ.set i none) (ρ.set i none) := by
  refine ⟨by rw [List.length_set, List.length_set]; exact h.len, fun j u e => ?_⟩
  by_cases hj : i = j
  · subst hj
    by_cases hl : i < ρ.length
    · rw [List.getElem?_set_self hl] at e
      cases e
    · rw [List.getElem?_eq_none (by simpa using hl)] at e
      cases e
  · rw [List.getElem?_set_ne hj] at e
    rw [List.getElem?_set_ne hj]
    exact h.at_ j u e
theorem RE.wipe {A : List Addr} {σ : L2.St} {ρ : Env} (h : RE K F A σ ρ) : ∀ own : List Nat, RE K F A (wipe σ own) (wipeE ρ own)
  | [] => h
  | v :: vs => (RE.wipe h vs).unset

/-! ### what steps do to the representation -/
theorem Rep.newF {A : List Addr} {μ : Sto} (R : Rep K F H A μ) {p : Addr} {o : HO} (hp : H p = none) : Rep K (upd F p o) (upd H p o) A μ ∧ Ext F H A (upd F p o) (upd H p o) A := by
  have hF : F p = none := by
    cases e : F p with
    | none => rfl
    | some u => have := R.sub _ _ e; rw [hp] at this; cases this
  have sF : Sub F (upd F p o) := Sub.upd hF
  have nA : ∀ a ∈ A, a ≠ p := fun a ha z => by
    obtain ⟨u, e⟩ := R.there ha
    rw [z, hp] at e; cases e
  refine ⟨⟨fun a u e => ?_, R.nd, R.len, fun i a m e1 e2 => ?_⟩, ⟨sF, ⟨[], by simp⟩, fun b u e _ => Sub.upd hp b u e, fun b u e _ => ?_, fun b h => .inl h⟩⟩
  · by_cases h : a = p
    · subst h
      rw [upd_same] at e ⊢
      exact e
    · rw [upd_ne h] at e ⊢
      exact R.sub _ _ e
  · have h := R.at_ i a m e1 e2
    have ne := nA a (List.mem_of_getElem? e1)
    cases m with
    | lst xs =>
      obtain ⟨h1, vs, h2, h3⟩ := h
      exact ⟨by rw [upd_ne ne]; exact h1, vs, by rw [upd_ne ne]; exact h2, h3.sub sF⟩
    | dct _ => exact h.elim
    | fz x => exact ⟨h.1, h.2.sub sF⟩
  · exact upd_ne (ne_of_none e hp)
theorem Rep.newH {A : List Addr} {μ : Sto} (R : Rep K F H A μ) {p : Addr} {vs : List V} {xs : List PyData} (hp : H p = none) (hd : DA K F vs xs) :
    Rep K F (upd H p (.lst vs)) (A ++ [p]) (μ ++ [.lst xs]) ∧ Ext F H A F (upd H p (.lst vs)) (A ++ [p]) := by
  have hF : F p = none := by
    cases e : F p with
    | none => rfl
    | some u => have := R.sub _ _ e; rw [hp] at this; cases this
  have nA : ∀ a ∈ A, a ≠ p := fun a ha z => by
    obtain ⟨u, e⟩ := R.there ha
    rw [z, hp] at e; cases e
  refine ⟨⟨fun a u e => ?_, ?_, by rw [List.length_append, List.length_append, R.len]; rfl, fun i a m e1 e2 => ?_⟩, ⟨Sub.refl _, ⟨[p], rfl⟩, fun b u e _ => Sub.upd hp b u e, fun b u e _ => rfl, fun b h => ?_⟩⟩
  · rw [upd_ne (ne_of_none e hF)]
    exact R.sub _ _ e
  · refine List.nodup_append.mpr ⟨R.nd, by simp, fun a ha b hb => ?_⟩
    simp only [List.mem_singleton] at hb
    subst hb
    exact nA a ha
  · by_cases hi : i < A.length
    · rw [List.getElem?_append_left hi] at e1
      rw [List.getElem?_append_left (by rw [← R.len]; exact hi)] at e2
      have h := R.at_ i a m e1 e2
      have ne := nA a (List.mem_of_getElem? e1)
      cases m with
      | lst ys =>
        obtain ⟨h1, us, h2, h3⟩ := h
        exact ⟨h1, us, by rw [upd_ne ne]; exact h2, h3⟩
      | dct _ => exact h.elim
      | fz x => exact h
    · have hi' : A.length ≤ i := Nat.le_of_not_lt hi
      rw [List.getElem?_append_right hi'] at e1
      rw [List.getElem?_append_right (by rw [← R.len]; exact hi')] at e2
      have e0 : i - A.length = 0 := by
        have := (List.getElem?_eq_some_iff.mp e1).1
        simp only [List.length_singleton] at this
        omega
      rw [e0] at e1
      rw [← R.len, e0] at e2
      simp only [List.getElem?_cons_zero, Option.some.injEq] at e1 e2
      subst e1 e2
      exact ⟨hF, vs, upd_same, hd⟩
  · rcases List.mem_append.mp h with h | h
    · exact .inl h
    · simp only [List.mem_singleton] at h
      subst h
      exact .inr hp
theorem nodup_at {α : Type} : ∀ {A : List α} (nd : A.Nodup) {i j : Nat} {a : α} (h1 : A[i]? = some a) (h2 : A[j]? = some a), i = j
  | [], _, _, _, _, h1, _ => by simp at h1
  | _ :: _, _, 0, 0, _, _, _ => rfl
  | b :: A, nd, 0, j + 1, a, h1, h2 => by
    simp only [List.getElem?_cons_zero, Option.some.injEq, List.getElem?_cons_succ] at h1 h2
    subst h1
    exact absurd (List.mem_of_getElem? h2) (List.nodup_cons.mp nd).1
  | b :: A, nd, i + 1, 0, a, h1, h2 => by
    simp only [List.getElem?_cons_zero, Option.some.injEq, List.getElem?_cons_succ] at h1 h2
    subst h2
    exact absurd (List.mem_of_getElem? h1) (List.nodup_cons.mp nd).1
  | b :: A, nd, i + 1, j + 1, a, h1, h2 => by
    rw [List.getElem?_cons_succ] at h1 h2
    rw [nodup_at (List.nodup_cons.mp nd).2 h1 h2]
theorem Rep.put {A : List Addr} {μ : Sto} (R : Rep K F H A μ) {n : Nat} {a : Addr} {xs ys : List PyData} {vs : List V} (ha : A[n]? = some a) (hm : μ[n]? = some (.lst xs)) (hd : DA K F vs ys) :
    Rep K F (upd H a (.lst vs)) A (μ.set n (.lst ys)) ∧ Ext F H A F (upd H a (.lst vs)) A := by
  have h0 := R.at_ n a _ ha hm
  have hin := List.mem_of_getElem? ha
  refine ⟨⟨fun b u e => ?_, R.nd, by rw [List.length_set]; exact R.len, fun i b m e1 e2 => ?_⟩, ⟨Sub.refl _, ⟨[], by simp⟩, fun b u e hb => ?_, fun b u e _ => rfl, fun b h => .inl h⟩⟩
  · rw [upd_ne (ne_of_none e h0.1)]
    exact R.sub _ _ e
  · by_cases hi : n = i
    · subst hi
      rw [ha] at e1
      cases e1
      have hl : n < μ.length := (List.getElem?_eq_some_iff.mp hm).1
      rw [List.getElem?_set_self hl] at e2
      cases e2
      exact ⟨h0.1, vs, upd_same, hd⟩
    · rw [List.getElem?_set_ne hi] at e2
      have h := R.at_ i b m e1 e2
      have ne : b ≠ a := fun z => hi (nodup_at R.nd ha (z ▸ e1))
      cases m with
      | lst zs =>
        obtain ⟨h1, us, h2, h3⟩ := h
        exact ⟨h1, us, by rw [upd_ne ne]; exact h2, h3⟩
      | dct _ => exact h.elim
      | fz x => exact h
  · rw [upd_ne (fun z => hb (by rw [z]; exact hin))]
    exact e
theorem Rep.freeze {A : List Addr} {μ : Sto} (R : Rep K F H A μ) {n : Nat} {a : Addr} {xs : List PyData} (ha : A[n]? = some a) (hm : μ[n]? = some (.lst xs)) :
    ∃ F', Rep K F' H A (μ.set n (.fz (.list xs))) ∧ Ext F H A F' H A ∧ D K F' (.ref a) (.list xs) := by
  obtain ⟨h1, vs, h2, h3⟩ := R.at_ n a _ ha hm
  have hin := List.mem_of_getElem? ha
  have sF : Sub F (upd F a (.lst vs)) := Sub.upd h1
  have hD : D K (upd F a (.lst vs)) (.ref a) (.list xs) := .lst upd_same (h3.sub sF)
  refine ⟨upd F a (.lst vs), ⟨fun b u e => ?_, R.nd, by rw [List.length_set]; exact R.len, fun i b m e1 e2 => ?_⟩, ⟨sF, ⟨[], by simp⟩, fun b u e _ => e, fun b u e hb => ?_, fun b h => .inl h⟩, hD⟩
  · by_cases h : b = a
    · subst h
      rw [upd_same] at e
      rw [h2]
      exact e
    · rw [upd_ne h] at e
      exact R.sub _ _ e
  · by_cases hi : n = i
    · subst hi
      rw [ha] at e1
      cases e1
      have hl : n < μ.length := (List.getElem?_eq_some_iff.mp hm).1
      rw [List.getElem?_set_self hl] at e2
      cases e2
      exact ⟨⟨xs, rfl⟩, hD⟩
    · rw [List.getElem?_set_ne hi] at e2
      have h := R.at_ i b m e1 e2
      have ne : b ≠ a := fun z => hi (nodup_at R.nd ha (z ▸ e1))
      cases m with
      | lst zs =>
        obtain ⟨g1, us, g2, g3⟩ := h
        exact ⟨by rw [upd_ne ne]; exact g1, us, g2, g3.sub sF⟩
      | dct _ => exact h.elim
      | fz x => exact ⟨h.1, h.2.sub sF⟩
  · exact upd_ne (fun z => hb (by rw [z]; exact hin))
/-- the last handles are forgotten -/
theorem Rep.cut {A : List Addr} {μ : Sto} (R : Rep K F H A μ) (n : Nat) : Rep K F H (A.take n) (μ.take n) := by
  refine ⟨R.sub, R.nd.sublist (List.take_sublist _ _), by rw [List.length_take, List.length_take, R.len], fun i a m e1 e2 => ?_⟩
  rw [List.getElem?_take] at e1 e2
  split at e1
  · rw [if_pos (by assumption)] at e2
    exact R.at_ i a m e1 e2
  · cases e1

/-! ### reading -/
def Tp (K : PySem.W.Frag) (F H : Hp) (v : V) (x : PyData) : Prop := match x with
  | .list xs => ∃ a vs, v = .ref a ∧ H a = some (.lst vs) ∧ DA K F vs xs
  | x => D K F v x
theorem D.tp {v : V} {x : PyData} (s : Sub F H) (h : D K F v x) : Tp K F H v x := by
  cases h with
  | non => exact .non
  | bl b => exact .bl b
  | int i => exact .int i
  | str z => exact .str z
  | lst e h => exact ⟨_, _, rfl, s _ _ e, h⟩
  | tup e h => exact .tup e h
  | dct0 e => exact .dct0 e
theorem Tp.dp {v : V} {x : PyData} (n : noDict x = true) (s : Sub F H) (h : Tp K F H v x) : Dp K H v x := by
  cases x with
  | list xs =>
    obtain ⟨a, vs, rfl, e, h⟩ := h
    exact .lst (.inl (.inl e)) (DA.dp (by simpa [noDict] using n) (h.sub s))
  | tuple _ => exact D.dp n (D.sub s h)
  | none => exact D.dp n (D.sub s h)
  | bool _ => exact D.dp n (D.sub s h)
  | int _ => exact D.dp n (D.sub s h)
  | str _ => exact D.dp n (D.sub s h)
  | dict _ => exact D.dp n (D.sub s h)
theorem Rep.rd {A : List Addr} {μ : Sto} (R : Rep K F H A μ) {v : V} {w : Val} {x : PyData} (r : RV K F A v w) (e : rd μ w = some x) : Tp K F H v x := by
  cases w with
  | d y =>
    simp only [Ip.rd, Option.some.injEq] at e
    subst e
    exact D.tp R.sub r
  | h n =>
    obtain ⟨a, ha, rfl⟩ := r
    simp only [Ip.rd] at e
    cases hm : μ[n]? with
    | none => rw [hm] at e; cases e
    | some m =>
      rw [hm] at e
      have h := R.at_ n a m ha hm
      cases m with
      | lst xs =>
        simp only [Option.some.injEq] at e
        subst e
        obtain ⟨_, vs, h2, h3⟩ := h
        exact ⟨a, vs, rfl, h2, h3⟩
      | dct _ => exact h.elim
      | fz y =>
        simp only [Option.some.injEq] at e
        subst e
        exact D.tp R.sub h.2
  | s ns => simp [Ip.rd] at e
  | x => simp [Ip.rd] at e
  | t y n => simp [Ip.rd] at e
  | kc y =>
    simp only [Ip.rd, Option.some.injEq] at e
    subst e
    exact D.tp R.sub (DC.d F r)
theorem dOf_rv {A : List Addr} {v : V} {w : Val} {x : PyData} (r : RV K F A v w) (e : dOf w = some x) : D K F v x := by
  cases w with
  | d y =>
    simp only [dOf, Option.some.injEq] at e
    subst e
    exact r
  | h n => simp [dOf] at e
  | s ns => simp [dOf] at e
  | x => simp [dOf] at e
  | t y n => simp [dOf] at e
  | kc y =>
    simp only [dOf, Option.some.injEq] at e
    subst e
    exact DC.d F r
theorem dsOf_rv {A : List Addr} : ∀ {vs : List V} {ws : List Val} {xs : List PyData}, RVs K F A vs ws → dsOf ws = some xs → DA K F vs xs
  | _, _, xs, .nil, e => by
    simp only [dsOf, Option.some.injEq] at e
    subst e
    exact .nil
  | _, _, xs, .cons r t, e => by
    simp only [dsOf, Option.bind_eq_some_iff, Option.map_eq_some_iff] at e
    obtain ⟨x, e1, ys, e2, rfl⟩ := e
    exact .cons (dOf_rv r e1) (dsOf_rv t e2)
end
end Ip
set_option Elab.async false
set_option linter.all false
set_option maxRecDepth 100000
set_option maxHeartbeats 1000000
/-! Ip: the operations on data keep to the layer's rules. -/
namespace Ip
open PySem L2

inductive TpA (K : PySem.W.Frag) (F H : Hp) : List V → List PyData → Prop
  | nil : TpA K F H [] []
  | cons {v : V} {vs : List V} {x : PyData} {xs : List PyData} : Tp K F H v x → TpA K F H vs xs → TpA K F H (v :: vs) (x :: xs)
/-- a value z is given back, new objects stay as they are -/
def Out (K : PySem.W.Frag) (F H : Hp) (A : List Addr) (μ : Sto) (z : PyData) (Q : VK) : Prop :=
  ∀ v F' H', Ext F H A F' H' A → Rep K F' H' A μ → D K F' v z → Q v H'
def rD1 (K : PySem.W.Frag) (g : PyData → Option PyData) : V → Hp → VK → Prop := fun vx H Q => ∃ F A μ x z, Rep K F H A μ ∧ Tp K F H vx x ∧ g x = some z ∧ Out K F H A μ z Q
def rD2 (K : PySem.W.Frag) (g : PyData → PyData → Option PyData) : R2 := fun vx vy H Q => ∃ F A μ x y z, Rep K F H A μ ∧ Tp K F H vx x ∧ Tp K F H vy y ∧ g x y = some z ∧ Out K F H A μ z Q
def rDs (K : PySem.W.Frag) (g : List PyData → Option PyData) : List V → Hp → VK → Prop := fun vs H Q => ∃ F A μ xs z, Rep K F H A μ ∧ TpA K F H vs xs ∧ g xs = some z ∧ Out K F H A μ z Q

section
variable {K : PySem.W.Frag} {F H : Hp} {A : List Addr} {μ : Sto} {Q : VK} {z : PyData} {v : V}
theorem Out.same (o : Out K F H A μ z Q) (R : Rep K F H A μ) (h : D K F v z) : Q v H := o v F H (Ext.refl _ _ _) R h
theorem Out.int {i : Int} (o : Out K F H A μ (.int i) Q) (R : Rep K F H A μ) : Q (.int i) H := o.same R (.int i)
theorem Out.bl {b : Bool} (o : Out K F H A μ (.bool b) Q) (R : Rep K F H A μ) : Q (.bl b) H := o.same R (.bl b)
theorem Out.lst {vs : List V} {xs : List PyData} (o : Out K F H A μ (.list xs) Q) (R : Rep K F H A μ) (h : DA K F vs xs) {p : Addr} (hp : H p = none) : Q (.ref p) (upd H p (.lst vs)) := by
  obtain ⟨R', x⟩ := R.newF (o := .lst vs) hp
  exact o _ _ _ x R' (.lst upd_same (h.sub x.ff))
theorem Out.tup {vs : List V} {xs : List PyData} (o : Out K F H A μ (.tuple xs) Q) (R : Rep K F H A μ) (h : DA K F vs xs) {p : Addr} (hp : H p = none) : Q (.ref p) (upd H p (.tup vs)) := by
  obtain ⟨R', x⟩ := R.newF (o := .tup vs) hp
  exact o _ _ _ x R' (.tup (.inl (.inl upd_same)) (h.sub x.ff))
theorem tp_int {i : Int} (t : Tp K F H v (.int i)) : v = .int i := by
  cases (show D K F v (.int i) from t)
  rfl
theorem tp_bl {b : Bool} (t : Tp K F H v (.bool b)) : v = .bl b := by
  cases (show D K F v (.bool b) from t)
  rfl
theorem tp_str {x : Str} (t : Tp K F H v (.str x)) : v = .str x := by
  cases (show D K F v (.str x) from t)
  rfl
theorem tp_non (t : Tp K F H v .none) : v = .non := by
  cases (show D K F v .none from t)
  rfl
theorem tp_tup {xs : List PyData} (t : Tp K F H v (.tuple xs)) : ∃ a vs, v = .ref a ∧ SqT K F a vs ∧ DA K F vs xs := by
  cases (show D K F v (.tuple xs) from t) with
  | tup e h => exact ⟨_, _, rfl, e, h⟩
theorem DA.nil_iff {vs : List V} {xs : List PyData} (h : DA K F vs xs) : vs = [] ↔ xs = [] := by
  cases h <;> simp
theorem DA.cut {vs : List V} {xs : List PyData} (h : DA K F vs xs) (lo hi : Option Int) : DA K F (cutV vs lo hi) (cutD xs lo hi) := by
  unfold cutV cutD
  rw [h.length]
  exact (h.drop _).take _
theorem cut_whole {xs : List PyData} {lo hi : Option Int} (h1 : HT.sIx xs.length 0 lo = 0) (h2 : HT.sIx xs.length xs.length hi = xs.length) : cutD xs lo hi = xs := by
  unfold cutD
  rw [h1, h2]
  simp
theorem flat_of {x : PyData} (f : flatD x = true) (t : D K F v x) : flatV v = true := by
  cases t <;> first | rfl | (simp [flatD] at f)
theorem eqv_flat {w : V} {x y : PyData} (fx : flatD x = true) (fy : flatD y = true) (tx : D K F v x) (ty : D K F w y) : eqV v w = PyData.eqv x y := by
  cases tx <;> cases ty <;> first | rfl | (simp [flatD] at fx) | (simp [flatD] at fy) | skip
  all_goals first
    | (simp [eqV, PyData.eqv]; done)
    | (rename_i a b; cases a <;> cases b <;> simp [eqV, PyData.eqv])
    | (rename_i a b; cases a <;> simp [eqV, PyData.eqv])
    | (rename_i a b; cases b <;> simp [eqV, PyData.eqv])
    | skip
end

section
variable {X : Cx}
theorem lim_eq : lim = sizeLine := by rw [sizeLine_eq]; rfl
theorem sml_log {i : Int} (h : sml i = true) : i.natAbs.log2 < 4000 := by
  unfold sml at h
  exact PySem.Flt.log2_lt_of (by decide) (of_decide_eq_true h)
theorem bin_add : OpR X (binaryOp .Add) (rD2 X.K (binD .add)) := by
  intro pins s σ H vx vy v u Q I rx ry ⟨F, A, μ, x, y, z, R, tx, ty, e, o⟩
  cases x with
  | int i =>
    cases y with
    | int j =>
      cases tp_int tx
      cases tp_int ty
      cases e
      exact op_add pins s σ H _ _ v u Q I rx ry ⟨i, j, rfl, rfl, o.int R⟩
    | _ => cases e
  | list xs =>
    cases y with
    | list ys =>
      simp only [binD] at e
      split at e
      · rename_i hz
        cases e
        obtain ⟨a, vs, rfl, ha, da⟩ := tx
        obtain ⟨b, ws, rfl, hb, db⟩ := ty
        exact op_cat pins s σ H _ _ v u Q I rx ry ⟨a, b, vs, ws, rfl, rfl, ha, hb, by rw [da.length, db.length, ← lim_eq]; exact hz, fun p hp => o.lst R (da.append db) hp⟩
      · cases e
    | _ => cases e
  | tuple xs =>
    cases y with
    | tuple ys =>
      simp only [binD] at e
      split at e
      · rename_i hz
        cases e
        obtain ⟨a, vs, rfl, ha, da⟩ := tp_tup tx
        obtain ⟨b, ws, rfl, hb, db⟩ := tp_tup ty
        refine op_catA pins s σ H _ _ v u Q I rx ry ⟨a, b, vs, ws, rfl, rfl, SqT.sub R.sub ha, SqT.sub R.sub hb, by rw [da.length, db.length, ← lim_eq]; exact hz, fun e1 => ?_, fun _ e2 => ?_, fun _ _ p hp => o.tup R (da.append db) hp⟩
        · have e1' := da.nil_iff.mp e1
          subst e1'
          exact o.same R (.tup hb db)
        · have e2' := db.nil_iff.mp e2
          subst e2'
          rw [List.append_nil] at o
          exact o.same R (.tup ha da)
      · cases e
    | _ => cases e
  | _ => cases e
theorem bin_sub : OpR X (binaryOp .Sub) (rD2 X.K (binD .sub)) := by
  intro pins s σ H vx vy v u Q I rx ry ⟨F, A, μ, x, y, z, R, tx, ty, e, o⟩
  cases x with
  | int i =>
    cases y with
    | int j =>
      cases tp_int tx
      cases tp_int ty
      cases e
      exact op_sub pins s σ H _ _ v u Q I rx ry ⟨i, j, rfl, rfl, o.int R⟩
    | _ => cases e
  | _ => cases e
theorem bin_mul : OpR X (binaryOp .Mult) (rD2 X.K (binD .mul)) := by
  intro pins s σ H vx vy v u Q I rx ry ⟨F, A, μ, x, y, z, R, tx, ty, e, o⟩
  cases x with
  | int i =>
    cases y with
    | int j =>
      simp only [binD] at e
      split at e
      · rename_i hz
        cases e
        cases tp_int tx
        cases tp_int ty
        rw [Bool.and_eq_true] at hz
        have h1 := sml_log hz.1
        have h2 := sml_log hz.2
        exact op_mulW pins s σ H _ _ v u Q I rx ry ⟨i, j, rfl, rfl, (show i.natAbs.log2 + j.natAbs.log2 < 1000000 by omega), o.int R⟩
      · cases e
    | _ => cases e
  | list xs =>
    cases y with
    | int k =>
      simp only [binD] at e
      split at e
      · rename_i hz
        cases e
        cases tp_int ty
        obtain ⟨a, vs, rfl, ha, da⟩ := tx
        simp only [Bool.and_eq_true, decide_eq_true_eq] at hz
        exact op_rep pins s σ H _ _ v u Q I rx ry ⟨a, k, vs, rfl, rfl, ha, hz.1.2, hz.2, by rw [da.length, ← lim_eq]; exact hz.1.1, fun p hp => o.lst R (da.rep _) hp⟩
      · cases e
    | _ => cases e
  | tuple xs =>
    cases y with
    | int k =>
      simp only [binD] at e
      split at e
      · rename_i hz
        cases e
        cases tp_int ty
        obtain ⟨a, vs, rfl, ha, da⟩ := tp_tup tx
        simp only [Bool.and_eq_true, decide_eq_true_eq, Bool.not_eq_true'] at hz
        have hne : vs ≠ [] := fun z => by
          have := da.nil_iff.mp z
          rw [this] at hz
          simp at hz
        exact op_repT pins s σ H _ _ v u Q I rx ry ⟨a, k, vs, rfl, rfl, SqT.sub R.sub ha, hne, hz.1.2, hz.2, by rw [da.length]; exact hz.1.1.2, fun p hp => o.tup R (da.rep _) hp⟩
      · cases e
    | _ => cases e
  | _ => cases e
theorem bin_fdiv : OpR X (binaryOp .FloorDiv) (rD2 X.K (binD .fdiv)) := by
  intro pins s σ H vx vy v u Q I rx ry ⟨F, A, μ, x, y, z, R, tx, ty, e, o⟩
  cases x with
  | int i =>
    cases y with
    | int j =>
      simp only [binD] at e
      split at e
      · rename_i hz
        cases e
        cases tp_int tx
        cases tp_int ty
        rw [Bool.and_eq_true, decide_eq_true_eq] at hz
        have h2 := sml_log hz.2
        exact op_fdivW pins s σ H _ _ v u Q I rx ry ⟨i, j, rfl, rfl, ⟨hz.1, by omega⟩, o.int R⟩
      · cases e
    | _ => cases e
  | _ => cases e
theorem bin_mod : OpR X (binaryOp .Mod) (rD2 X.K (binD .mod)) := by
  intro pins s σ H vx vy v u Q I rx ry ⟨F, A, μ, x, y, z, R, tx, ty, e, o⟩
  cases x with
  | int i =>
    cases y with
    | int j =>
      simp only [binD] at e
      split at e
      · rename_i hz
        cases e
        cases tp_int tx
        cases tp_int ty
        exact op_mod pins s σ H _ _ v u Q I rx ry ⟨i, j, rfl, rfl, hz, o.int R⟩
      · cases e
    | _ => cases e
  | _ => cases e
theorem bin_shr : OpR X (binaryOp .RShift) (rD2 X.K (binD .shr)) := by
  intro pins s σ H vx vy v u Q I rx ry ⟨F, A, μ, x, y, z, R, tx, ty, e, o⟩
  cases x with
  | int i =>
    cases y with
    | int j =>
      simp only [binD] at e
      split at e
      · rename_i hz
        cases e
        cases tp_int tx
        cases tp_int ty
        exact op_shr pins s σ H _ _ v u Q I rx ry ⟨i, j, rfl, rfl, hz, o.int R⟩
      · cases e
    | _ => cases e
  | _ => cases e
theorem bin_pow : OpR X (binaryOp .Pow) (rD2 X.K (binD .pow)) := by
  intro pins s σ H vx vy v u Q I rx ry ⟨F, A, μ, x, y, z, R, tx, ty, e, o⟩
  cases x with
  | int i =>
    cases y with
    | int j =>
      simp only [binD] at e
      split at e
      · rename_i hz
        cases e
        cases tp_int tx
        cases tp_int ty
        simp only [Bool.and_eq_true, decide_eq_true_eq] at hz
        exact op_pow pins s σ H _ _ v u Q I rx ry ⟨i, j, rfl, rfl, ⟨hz.1.1, by omega, hz.2⟩, o.int R⟩
      · cases e
    | _ => cases e
  | _ => cases e

/-! ### comparisons -/
def gB (f : PyData → PyData → Option Bool) : PyData → PyData → Option PyData := fun x y => (f x y).map .bool
theorem shaped_of {x : PyData} (h : okEq x = true) : SeqAt.shaped x = true := h
theorem eqD_scal {x y : PyData} {b : Bool} (e : eqD x y = some b) : (∃ i j, x = .int i ∧ y = .int j ∧ b = decide (i = j)) ∨ (∃ i j, x = .str i ∧ y = .str j ∧ b = decide (i = j)) ∨ (okEq x = true ∧ okEq y = true ∧ b = PyData.eqv x y) := by
  unfold eqD at e
  split at e
  · cases e
    exact .inl ⟨_, _, rfl, rfl, rfl⟩
  · cases e
    exact .inr (.inl ⟨_, _, rfl, rfl, rfl⟩)
  · split at e
    · rename_i h
      cases e
      rw [Bool.and_eq_true] at h
      exact .inr (.inr ⟨h.1, h.2, rfl⟩)
    · cases e
theorem dec_inj {α β : Type} [DecidableEq α] [DecidableEq β] {f : α → β} (hf : ∀ a b, f a = f b → a = b) (a b : α) : decide (f a = f b) = decide (a = b) := by
  by_cases h : a = b
  · subst h
    simp
  · rw [decide_eq_false h, decide_eq_false (fun z => h (hf _ _ z))]
theorem cmp_eq (hu : X.A.units + 64 < cLine) : OpR X (compareOp .Eq) (rD2 X.K (gB (cmpD .eq))) := by
  intro pins s σ H vx vy v u Q I rx ry ⟨F, A, μ, x, y, z, R, tx, ty, e, o⟩
  obtain ⟨b, e2, rfl⟩ := Option.map_eq_some_iff.mp e
  clear e
  have e := e2
  rcases eqD_scal e with ⟨i, j, rfl, rfl, rfl⟩ | ⟨i, j, rfl, rfl, rfl⟩ | ⟨h1, h2, rfl⟩
  · cases tp_int tx
    cases tp_int ty
    have q := o.bl R
    rw [← dec_inj (f := V.int) (fun _ _ => V.int.inj)] at q
    exact op_eq pins s σ H _ _ v u Q I rx ry ⟨rfl, q⟩
  · cases tp_str tx
    cases tp_str ty
    have q := o.bl R
    rw [← dec_inj (f := V.str) (fun _ _ => V.str.inj)] at q
    exact op_eq pins s σ H _ _ v u Q I rx ry ⟨rfl, q⟩
  · exact op_eqD hu pins s σ H _ _ v u Q I rx ry ⟨x, y, tx.dp (noDict_ok h1) R.sub, ty.dp (noDict_ok h2) R.sub, h1, h2, o.bl R⟩
theorem cmp_ne (hu : X.A.units + 64 < cLine) : OpR X (compareOp .NotEq) (rD2 X.K (gB (cmpD .ne))) := by
  intro pins s σ H vx vy v u Q I rx ry ⟨F, A, μ, x, y, z, R, tx, ty, e, o⟩
  obtain ⟨b', e1, rfl⟩ := Option.map_eq_some_iff.mp e
  obtain ⟨b, e2, rfl⟩ := Option.map_eq_some_iff.mp e1
  clear e e1
  have e := e2
  rcases eqD_scal e with ⟨i, j, rfl, rfl, rfl⟩ | ⟨i, j, rfl, rfl, rfl⟩ | ⟨h1, h2, rfl⟩
  · cases tp_int tx
    cases tp_int ty
    have q := o.bl R
    rw [← dec_inj (f := V.int) (fun _ _ => V.int.inj)] at q
    exact op_ne pins s σ H _ _ v u Q I rx ry ⟨rfl, q⟩
  · cases tp_str tx
    cases tp_str ty
    have q := o.bl R
    rw [← dec_inj (f := V.str) (fun _ _ => V.str.inj)] at q
    exact op_ne pins s σ H _ _ v u Q I rx ry ⟨rfl, q⟩
  · exact op_neD hu pins s σ H _ _ v u Q I rx ry ⟨x, y, tx.dp (noDict_ok h1) R.sub, ty.dp (noDict_ok h2) R.sub, h1, h2, o.bl R⟩
theorem lexAt_le : ∀ (ns ms : List Int) (i : Nat) (as bs : List Int), ns.drop i = as → ms.drop i = bs →
    Ob.lexAt (fun j => decide (ns.getD j 0 = ms.getD j 0)) (fun j => decide (ns.getD j 0 ≤ ms.getD j 0)) (decide (as.length ≤ bs.length)) i (min as.length bs.length) = lexLe as bs
  | ns, ms, i, [], bs, h1, h2 => by simp [Ob.lexAt, lexLe]
  | ns, ms, i, a :: as, [], h1, h2 => by simp [Ob.lexAt, lexLe]
  | ns, ms, i, a :: as, b :: bs, h1, h2 => by
    have e1 : ns.getD i 0 = a := by
      have := congrArg (fun l => l[0]?) h1
      simp only [List.getElem?_drop, Nat.add_zero, List.getElem?_cons_zero] at this
      rw [List.getD_eq_getElem?_getD, this]
      rfl
    have e2 : ms.getD i 0 = b := by
      have := congrArg (fun l => l[0]?) h2
      simp only [List.getElem?_drop, Nat.add_zero, List.getElem?_cons_zero] at this
      rw [List.getD_eq_getElem?_getD, this]
      rfl
    have d1 : ns.drop (i + 1) = as := by
      rw [← List.drop_drop, h1]
      rfl
    have d2 : ms.drop (i + 1) = bs := by
      rw [← List.drop_drop, h2]
      rfl
    have ih := lexAt_le ns ms (i + 1) as bs d1 d2
    have em : min (a :: as).length (b :: bs).length = min as.length bs.length + 1 := by
      simp only [List.length_cons]
      omega
    have ed : decide ((a :: as).length ≤ (b :: bs).length) = decide (as.length ≤ bs.length) := by
      simp only [List.length_cons, Nat.add_le_add_iff_right]
    rw [em, ed, Ob.lexAt_succ]
    simp only [e1, e2, lexLe, decide_eq_true_eq]
    by_cases h : a = b
    · rw [if_pos h, if_pos h]
      exact ih
    · rw [if_neg h, if_neg h]
theorem cmp_lt (hu : X.A.units < cLine) : OpR X (compareOp .Lt) (rD2 X.K (gB (cmpD .lt))) := by
  intro pins s σ H vx vy v u Q I rx ry ⟨F, A, μ, x, y, z, R, tx, ty, e, o⟩
  obtain ⟨b, e2, rfl⟩ := Option.map_eq_some_iff.mp e
  clear e
  have e := e2
  cases x with
  | int i =>
    cases y with
    | int j =>
      cases tp_int tx
      cases tp_int ty
      cases e
      exact op_lt pins s σ H _ _ v u Q I rx ry ⟨i, j, rfl, rfl, o.bl R⟩
    | _ => cases e
  | tuple xs =>
    cases y with
    | tuple ys =>
      simp only [cmpD, Option.bind_eq_some_iff, Option.map_eq_some_iff] at e
      obtain ⟨ns, n1, ms, n2, rfl⟩ := e
      obtain ⟨a, vs, rfl, ha, da⟩ := tp_tup tx
      obtain ⟨b, ws, rfl, hb, db⟩ := tp_tup ty
      have f1 := da.ints n1
      have f2 := db.ints n2
      subst f1 f2
      exact op_ltT hu pins s σ H _ _ v u Q I rx ry ⟨a, b, ns, ms, rfl, rfl, SqT.sub R.sub ha, SqT.sub R.sub hb, o.bl R⟩
    | _ => cases e
  | _ => cases e
theorem cmp_le (hu : X.A.units < cLine) : OpR X (compareOp .LtE) (rD2 X.K (gB (cmpD .le))) := by
  intro pins s σ H vx vy v u Q I rx ry ⟨F, A, μ, x, y, z, R, tx, ty, e, o⟩
  obtain ⟨b, e2, rfl⟩ := Option.map_eq_some_iff.mp e
  clear e
  have e := e2
  cases x with
  | int i =>
    cases y with
    | int j =>
      cases tp_int tx
      cases tp_int ty
      cases e
      exact op_le pins s σ H _ _ v u Q I rx ry ⟨i, j, rfl, rfl, o.bl R⟩
    | _ => cases e
  | tuple xs =>
    cases y with
    | tuple ys =>
      simp only [cmpD, Option.bind_eq_some_iff, Option.map_eq_some_iff] at e
      obtain ⟨ns, n1, ms, n2, rfl⟩ := e
      obtain ⟨a, vs, rfl, ha, da⟩ := tp_tup tx
      obtain ⟨b, ws, rfl, hb, db⟩ := tp_tup ty
      have f1 := da.ints n1
      have f2 := db.ints n2
      subst f1 f2
      have q := o.bl R
      rw [← lexAt_le ns ms 0 ns ms rfl rfl] at q
      exact op_leT hu pins s σ H _ _ v u Q I rx ry ⟨a, b, ns, ms, rfl, rfl, SqT.sub R.sub ha, SqT.sub R.sub hb, q⟩
    | _ => cases e
  | _ => cases e
theorem cmp_gt : OpR X (compareOp .Gt) (rD2 X.K (gB (cmpD .gt))) := by
  intro pins s σ H vx vy v u Q I rx ry ⟨F, A, μ, x, y, z, R, tx, ty, e, o⟩
  obtain ⟨b, e2, rfl⟩ := Option.map_eq_some_iff.mp e
  clear e
  have e := e2
  cases x with
  | int i =>
    cases y with
    | int j =>
      cases tp_int tx
      cases tp_int ty
      cases e
      exact op_gt pins s σ H _ _ v u Q I rx ry ⟨i, j, rfl, rfl, o.bl R⟩
    | _ => cases e
  | _ => cases e
theorem cmp_ge : OpR X (compareOp .GtE) (rD2 X.K (gB (cmpD .ge))) := by
  intro pins s σ H vx vy v u Q I rx ry ⟨F, A, μ, x, y, z, R, tx, ty, e, o⟩
  obtain ⟨b, e2, rfl⟩ := Option.map_eq_some_iff.mp e
  clear e
  have e := e2
  cases x with
  | int i =>
    cases y with
    | int j =>
      cases tp_int tx
      cases tp_int ty
      cases e
      exact op_ge pins s σ H _ _ v u Q I rx ry ⟨i, j, rfl, rfl, o.bl R⟩
    | _ => cases e
  | _ => cases e
theorem non_iff {K : PySem.W.Frag} {F H : Hp} {v : V} {x : PyData} (t : Tp K F H v x) : decide (v = .non) = isNon x := by
  cases x with
  | list xs =>
    obtain ⟨a, vs, rfl, _⟩ := t
    rfl
  | none => cases tp_non t; rfl
  | bool b => cases tp_bl t; rfl
  | int i => cases tp_int t; rfl
  | str i => cases tp_str t; rfl
  | tuple xs =>
    obtain ⟨a, vs, rfl, _⟩ := tp_tup t
    rfl
  | dict _ =>
    cases (show D K F v (.dict _) from t)
    rfl
theorem cmp_is : OpR X (compareOp .Is) (rD2 X.K (gB (cmpD .is_))) := by
  intro pins s σ H vx vy v u Q I rx ry ⟨F, A, μ, x, y, z, R, tx, ty, e, o⟩
  obtain ⟨b, e2, rfl⟩ := Option.map_eq_some_iff.mp e
  clear e
  have e := e2
  cases y with
  | none =>
    cases e
    cases tp_non ty
    have q := o.bl R
    rw [← non_iff tx] at q
    exact op_isN pins s σ H _ _ v u Q I rx ry ⟨rfl, q⟩
  | _ => cases e
theorem cmp_isn : OpR X (compareOp .IsNot) (rD2 X.K (gB (cmpD .isn))) := by
  intro pins s σ H vx vy v u Q I rx ry ⟨F, A, μ, x, y, z, R, tx, ty, e, o⟩
  obtain ⟨b, e2, rfl⟩ := Option.map_eq_some_iff.mp e
  clear e
  have e := e2
  cases y with
  | none =>
    cases e
    cases tp_non ty
    have q := o.bl R
    rw [← non_iff tx] at q
    exact op_notN pins s σ H _ _ v u Q I rx ry ⟨rfl, q⟩
  | _ => cases e
theorem inV_eqv {K : PySem.W.Frag} {F : Hp} {v : V} {x : PyData} (fx : flatD x = true) (tx : D K F v x) : ∀ {vs : List V} {ys : List PyData}, DA K F vs ys → ys.all flatD = true → inV v vs = ys.any fun z => PyData.eqv z x
  | _, _, .nil, _ => rfl
  | _, _, .cons (v := w) (vs := ws) (x := y) (xs := ys) h t, f => by
    rw [List.all_cons, Bool.and_eq_true] at f
    show (eqV w v || inV v ws) = (PyData.eqv y x || ys.any fun z => PyData.eqv z x)
    rw [eqv_flat f.1 fx h tx, inV_eqv fx tx t f.2]
theorem all_flat {K : PySem.W.Frag} {F : Hp} : ∀ {vs : List V} {ys : List PyData}, DA K F vs ys → ys.all flatD = true → vs.all flatV = true
  | _, _, .nil, _ => rfl
  | _, _, .cons h t, f => by
    rw [List.all_cons, Bool.and_eq_true] at f ⊢
    exact ⟨flat_of f.1 h, all_flat t f.2⟩
theorem flat_tp {K : PySem.W.Frag} {F H : Hp} {v : V} {x : PyData} (f : flatD x = true) (t : Tp K F H v x) : D K F v x := by
  cases x <;> first | exact t | (simp [flatD] at f)
theorem cmp_in (hu : X.A.units + 65 < cLine) : OpR X (compareOp .In) (rD2 X.K (gB (cmpD .in_))) := by
  intro pins s σ H vx vy v u Q I rx ry ⟨F, A, μ, x, y, z, R, tx, ty, e, o⟩
  obtain ⟨b, e2, rfl⟩ := Option.map_eq_some_iff.mp e
  clear e
  have e := e2
  simp only [cmpD, inD] at e
  split at e
  · split at e
    · rename_i h
      cases e
      rw [Bool.and_eq_true] at h
      exact op_inD hu pins s σ H _ _ v u Q I rx ry ⟨x, _, tx.dp (noDict_ok h.1) R.sub, ty.dp (noDict_ok h.2) R.sub, h.1, h.2, o.bl R⟩
    · cases e
  · split at e
    · rename_i h
      cases e
      rw [Bool.and_eq_true] at h
      have dx := flat_tp h.1 tx
      obtain ⟨a, vs, rfl, ha, da⟩ := tp_tup ty
      have q := o.bl R
      rw [← inV_eqv h.1 dx da h.2] at q
      exact op_in_seq pins s σ H _ _ v u Q I rx ry ⟨a, vs, rfl, .inr (SqT.sub R.sub ha), flat_of h.1 dx, all_flat da h.2, q⟩
    · cases e
  · split at e
    · cases e
      cases tp_str tx
      cases tp_str ty
      exact op_in_str pins s σ H _ _ v u Q I rx ry ⟨_, _, rfl, rfl, o.bl R⟩
    · cases e
  · cases e
theorem cmp_nin (hu : X.A.units + 65 < cLine) : OpR X (compareOp .NotIn) (rD2 X.K (gB (cmpD .nin))) := by
  intro pins s σ H vx vy v u Q I rx ry ⟨F, A, μ, x, y, z, R, tx, ty, e, o⟩
  obtain ⟨b', e1, rfl⟩ := Option.map_eq_some_iff.mp e
  obtain ⟨b, e2, rfl⟩ := Option.map_eq_some_iff.mp e1
  clear e e1
  have e := e2
  simp only [inD] at e
  split at e
  · split at e
    · rename_i h
      cases e
      rw [Bool.and_eq_true] at h
      exact op_notInD hu pins s σ H _ _ v u Q I rx ry ⟨x, _, tx.dp (noDict_ok h.1) R.sub, ty.dp (noDict_ok h.2) R.sub, h.1, h.2, o.bl R⟩
    · cases e
  · split at e
    · rename_i h
      cases e
      rw [Bool.and_eq_true] at h
      have dx := flat_tp h.1 tx
      obtain ⟨a, vs, rfl, ha, da⟩ := tp_tup ty
      have q := o.bl R
      rw [← inV_eqv h.1 dx da h.2] at q
      exact op_notIn_seq pins s σ H _ _ v u Q I rx ry ⟨a, vs, rfl, .inr (SqT.sub R.sub ha), flat_of h.1 dx, all_flat da h.2, q⟩
    · cases e
  · split at e
    · cases e
      cases tp_str tx
      cases tp_str ty
      exact op_notIn_str pins s σ H _ _ v u Q I rx ry ⟨_, _, rfl, rfl, o.bl R⟩
    · cases e
  · cases e
end
end Ip
set_option Elab.async false
set_option linter.all false
set_option maxRecDepth 100000
set_option maxHeartbeats 1000000
/-! Ip: built-in functions, subscripts, methods, stores. -/
namespace Ip
open PySem L2
section
variable {K : PySem.W.Frag} {F H : Hp}
theorem TpA.one {vs : List V} {x : PyData} (t : TpA K F H vs [x]) : ∃ v, vs = [v] ∧ Tp K F H v x := by
  cases t with
  | cons h t =>
    cases t
    exact ⟨_, rfl, h⟩
theorem TpA.two {vs : List V} {x y : PyData} (t : TpA K F H vs [x, y]) : ∃ v w, vs = [v, w] ∧ Tp K F H v x ∧ Tp K F H w y := by
  cases t with
  | cons h t =>
    obtain ⟨w, rfl, h2⟩ := t.one
    exact ⟨_, _, rfl, h, h2⟩
end
section
variable {X : Cx}
theorem bi_len : CallR X (.builtin "len") (rDs X.K (biD .len)) := by
  intro pins s σ H vs us Q I r ⟨F, A, μ, xs, z, R, t, e, o⟩
  unfold biD at e
  split at e <;> first | (cases e; done) | skip
  · cases e
    obtain ⟨v, rfl, a, ws, rfl, ha, da⟩ := t.one
    rw [← da.length] at o
    exact call_len_seq pins s σ H _ us Q I r ⟨a, ws, rfl, .inl (.inl (.inl ha)), o.int R⟩
  · cases e
    obtain ⟨v, rfl, u1⟩ := t.one
    obtain ⟨a, ws, rfl, ha, da⟩ := tp_tup u1
    rw [← da.length] at o
    exact call_len_seq pins s σ H _ us Q I r ⟨a, ws, rfl, .inr (SqT.sub R.sub ha), o.int R⟩
  · split at e
    · rename_i hz
      cases e
      obtain ⟨v, rfl, u1⟩ := t.one
      cases tp_str u1
      exact call_len_str pins s σ H _ us Q I r ⟨_, rfl, by rw [← lim_eq]; exact hz, o.int R⟩
    · cases e
  · cases e
    obtain ⟨v, rfl, u1⟩ := t.one
    cases (show D X.K F v (.dict []) from u1) with
    | @dct0 a ob ha =>
      obtain ⟨u, rfl, ru⟩ := L2.vals1 r
      cases (show u = .ref a from ru)
      exact d_len I (.inr ⟨ob, R.sub _ _ ha⟩) fun t s' I' => ⟨.int 0, H, I', ⟨t, rfl⟩, o.int R⟩
  all_goals simp_all
theorem bi_abs : CallR X (.builtin "abs") (rDs X.K (biD .abs)) := by
  intro pins s σ H vs us Q I r ⟨F, A, μ, xs, z, R, t, e, o⟩
  unfold biD at e
  split at e <;> first | (cases e; done) | skip
  all_goals first | (simp_all; done) | skip
  cases e
  obtain ⟨v, rfl, u1⟩ := t.one
  cases tp_int u1
  exact call_abs pins s σ H _ us Q I r ⟨_, rfl, o.int R⟩
theorem bi_int : CallR X (.type "int") (rDs X.K (biD .int)) := by
  intro pins s σ H vs us Q I r ⟨F, A, μ, xs, z, R, t, e, o⟩
  unfold biD at e
  split at e <;> first | (cases e; done) | skip
  all_goals first | (simp_all; done) | skip
  · cases e
    obtain ⟨v, rfl, u1⟩ := t.one
    cases tp_int u1
    exact call_int1 pins s σ H _ us Q I r (.inl ⟨_, rfl, o.int R⟩)
  · cases e
    obtain ⟨v, rfl, u1⟩ := t.one
    cases tp_bl u1
    exact call_int1 pins s σ H _ us Q I r (.inr ⟨_, rfl, o.int R⟩)
theorem bi_str : CallR X (.type "str") (rDs X.K (biD .str)) := by
  intro pins s σ H vs us Q I r ⟨F, A, μ, xs, z, R, t, e, o⟩
  unfold biD at e
  split at e <;> first | (cases e; done) | skip
  all_goals first | (simp_all; done) | skip
  split at e
  · rename_i h
    cases e
    obtain ⟨v, rfl, u1⟩ := t.one
    cases tp_int u1
    exact call_str_int pins s σ H _ us Q I r ⟨_, rfl, h, o.same R (.str _)⟩
  · cases e
theorem bi_tup : CallR X (.type "tuple") (rDs X.K (biD .tup)) := by
  intro pins s σ H vs us Q I r ⟨F, A, μ, xs, z, R, t, e, o⟩
  unfold biD at e
  split at e <;> first | (cases e; done) | skip
  all_goals first | (simp_all; done) | skip
  · cases e
    obtain ⟨v, rfl, a, ws, rfl, ha, da⟩ := t.one
    exact call_tuple_of pins s σ H _ us Q I r ⟨a, ws, rfl, .inl ⟨.inl (.inl ha), fun l hl => o.tup R da hl⟩⟩
  · cases e
    obtain ⟨v, rfl, u1⟩ := t.one
    obtain ⟨a, ws, rfl, ha, da⟩ := tp_tup u1
    exact call_tuple_of pins s σ H _ us Q I r ⟨a, ws, rfl, .inr ⟨SqT.sub R.sub ha, o.same R (.tup ha da)⟩⟩
theorem sortOk_of {xs : List PyData} (h : sortOk xs = true) : PySem.W.AllAlike xs ∧ PySem.W.Sortable xs ∧ ∀ x ∈ xs, x.depth ≤ 8 := by
  unfold sortOk at h
  simp only [Bool.and_eq_true, Bool.or_eq_true, List.all_eq_true, decide_eq_true_eq] at h
  obtain ⟨⟨h1, h2⟩, h3⟩ := h
  refine ⟨fun d hd d' hd' => h1 d hd d' hd', ?_, h3⟩
  rcases h2 with h2 | h2
  · refine .inl fun d hd => ?_
    have := h2 d hd
    cases d with
    | tuple ys =>
      cases ys with
      | nil => cases this
      | cons y r => exact ⟨y, r, rfl⟩
    | _ => cases this
  · refine .inr fun d hd => ?_
    have := h2 d hd
    cases d with
    | none => cases this
    | tuple ys => cases this
    | _ => exact ⟨by simp, by simp⟩
theorem DA.zipD {K : PySem.W.Frag} {F : Hp} : ∀ {vs : List V} {xs : List PyData}, DA K F vs xs → ∀ p ∈ vs.zip xs, D K F p.1 p.2
  | _, _, .nil, p, h => by simp at h
  | _, _, .cons d t, p, h => by
    rcases List.mem_cons.mp (by simpa only [List.zip_cons_cons] using h) with e | h
    · rw [e]
      exact d
    · exact t.zipD p h
theorem DA.zipS {K : PySem.W.Frag} {F : Hp} : ∀ {vs : List V} {xs : List PyData}, DA K F vs xs → (vs.zip xs).map (·.2) = xs
  | _, _, .nil => rfl
  | _, _, .cons d t => by
    rw [List.zip_cons_cons, List.map_cons, t.zipS]
theorem DA.ofAll {K : PySem.W.Frag} {F : Hp} : ∀ {l : List (V × PyData)}, (∀ p ∈ l, D K F p.1 p.2) → DA K F (l.map (·.1)) (l.map (·.2))
  | [], _ => .nil
  | p :: l, h => .cons (h p List.mem_cons_self) (DA.ofAll fun q hq => h q (List.mem_cons_of_mem _ hq))
theorem each_zip {K : PySem.W.Frag} {F : Hp} : ∀ {vs : List V} {us : List Value} {xs : List PyData}, Vals vs us → DA K F vs xs → PySem.W.EachIs (fun (u : Value) (p : V × PyData) => RelV p.1 u) us (vs.zip xs)
  | _, _, _, .nil, .nil => .nil
  | _, _, _, .cons r t, .cons d e => .cons r (each_zip t e)
theorem each_vals : ∀ {us : List Value} {l : List (V × PyData)}, PySem.W.EachIs (fun (u : Value) (p : V × PyData) => RelV p.1 u) us l → Vals (l.map (·.1)) us
  | _, _, .nil => .nil
  | _, _, .cons r t => .cons r (each_vals t)
theorem each_and {α β : Type} {R S : α → β → Prop} : ∀ {as : List α} {bs : List β}, PySem.W.EachIs R as bs → (∀ a b, b ∈ bs → R a b → S a b) → PySem.W.EachIs S as bs
  | _, _, .nil, _ => .nil
  | _, _, .cons r t, h => .cons (h _ _ List.mem_cons_self r) (each_and t fun a b hb => h a b (List.mem_cons_of_mem _ hb))
theorem bi_sorted (hu : X.A.units + 65 < cLine) : CallR X (.builtin "sorted") (rDs X.K (biD .sorted)) := by
  intro pins s σ H vs us Q I r ⟨F, A, μ, xs, z, R, t, e, o⟩
  unfold biD at e
  split at e <;> first | (cases e; done) | skip
  all_goals first | (simp_all; done) | skip
  rename_i ys _
  split at e
  · rename_i hs
    cases e
    obtain ⟨h1, h2, h3⟩ := sortOk_of hs
    obtain ⟨v, rfl, a, ws, rfl, ha, da⟩ := t.one
    obtain ⟨its, rv, hl, hz⟩ := I.list (.inl (.inl ha) : SqL X.K H a ws)
    rw [Vals.ref1 r]
    have ez := each_zip rv da
    have ed := da.zipD
    have er : PySem.W.EachIs (fun (u : Value) (p : V × PyData) => ∃ as, Reads s.heap u p.2 as) its (ws.zip ys) := each_and ez fun u p hp ru => Dp.reads I p.2 p.1 u (D.dp (by
      have hm : p.2 ∈ ys := by rw [← da.zipS]; exact List.mem_map.mpr ⟨p, hp, rfl⟩
      exact noDict_alike _ _ (h1 _ hm _ hm) (h1 _ hm _ hm)) ((ed p hp).sub R.sub)) ru
    refine PySem.W.sorted_data (enc := fun p : V × PyData => p.2) hl.isList ez er (by rw [da.zipS]; exact h1) (by rw [da.zipS]; exact h2) (by rw [← ez.length, ← rv.length]; exact hz) (fun p hp => ?_) fun out ho eo => ?_
    · have := h3 p.2 (by rw [← da.zipS]; exact List.mem_map.mpr ⟨p, hp, rfl⟩)
      omega
    · obtain ⟨ep, he'⟩ := PyProof.Rows.sortedAll_at s.heap its out.toArray
      have rv' := each_vals eo
      have da' : DA X.K F (((ws.zip ys).mergeSort (PySem.W.dataLe false fun p : V × PyData => p.2)).map (·.1)) (sortD ys) := by
        have e1 : sortD ys = ((ws.zip ys).mergeSort (PySem.W.dataLe false fun p : V × PyData => p.2)).map (·.2) := by
          unfold sortD
          have em := List.map_mergeSort (r := PySem.W.dataLe false fun p : V × PyData => p.2) (s := PySem.W.dataLe false id) (f := fun p : V × PyData => p.2) (l := ws.zip ys) (fun a _ b _ => rfl)
          rw [em, da.zipS]
        rw [e1]
        exact DA.ofAll fun p hp => ed p (List.mem_mergeSort.mp hp)
      have hlen : (((ws.zip ys).mergeSort (PySem.W.dataLe false fun p : V × PyData => p.2)).map (·.1)).length ≤ sizeLine := by
        rw [List.length_map, List.length_mergeSort, ← ez.length, ← rv.length]
        exact hz
      exact ⟨.ref _, upd H (s.heap.objs.size + 1) (.lst _), I.laid (t' := s.toks) (fun _ _ => PyProof.Rows.sortedAll_old) (Nat.le_succ _) ⟨hlen, out, ep, rv', he'⟩, rfl, o.lst R da' (I.hok.fresh (Nat.le_succ _))⟩
  · cases e
theorem bi_max2 (hc : X.calm = true) : CallR X (.builtin "max") (rDs X.K (biD .max2)) := by
  intro pins s σ H vs us Q I r ⟨F, A, μ, xs, z, R, t, e, o⟩
  unfold biD at e
  split at e <;> first | (cases e; done) | skip
  all_goals first | (simp_all; done) | skip
  cases e
  obtain ⟨v, w, rfl, t1, t2⟩ := t.two
  cases tp_int t1
  cases tp_int t2
  exact call_max2 hc pins s σ H _ us Q I r ⟨_, _, rfl, o.int R⟩
theorem bi_min2 (hc : X.calm = true) : CallR X (.builtin "min") (rDs X.K (biD .min2)) := by
  intro pins s σ H vs us Q I r ⟨F, A, μ, xs, z, R, t, e, o⟩
  unfold biD at e
  split at e <;> first | (cases e; done) | skip
  all_goals first | (simp_all; done) | skip
  cases e
  obtain ⟨v, w, rfl, t1, t2⟩ := t.two
  cases tp_int t1
  cases tp_int t2
  exact call_min2 hc pins s σ H _ us Q I r ⟨_, _, rfl, o.int R⟩
theorem fold_max : ∀ (xs : List Int) (x : Int), (∀ y ∈ x :: xs, y ≤ xs.foldl max x) ∧ xs.foldl max x ∈ x :: xs
  | [], x => by simp
  | y :: ys, x => by
    obtain ⟨h1, h2⟩ := fold_max ys (max x y)
    simp only [List.foldl_cons]
    refine ⟨fun z hz => ?_, ?_⟩
    · have hm := h1 (max x y) List.mem_cons_self
      rcases List.mem_cons.mp hz with rfl | hz
      · omega
      · rcases List.mem_cons.mp hz with rfl | hz
        · omega
        · exact h1 z (List.mem_cons_of_mem _ hz)
    · rcases List.mem_cons.mp h2 with h | h
      · rw [h]
        rcases Int.le_total x y with q | q
        · rw [Int.max_eq_right q]
          simp
        · rw [Int.max_eq_left q]
          simp
      · exact List.mem_cons_of_mem _ (List.mem_cons_of_mem _ h)
theorem fold_min : ∀ (xs : List Int) (x : Int), (∀ y ∈ x :: xs, xs.foldl min x ≤ y) ∧ xs.foldl min x ∈ x :: xs
  | [], x => by simp
  | y :: ys, x => by
    obtain ⟨h1, h2⟩ := fold_min ys (min x y)
    simp only [List.foldl_cons]
    refine ⟨fun z hz => ?_, ?_⟩
    · have hm := h1 (min x y) List.mem_cons_self
      rcases List.mem_cons.mp hz with rfl | hz
      · omega
      · rcases List.mem_cons.mp hz with rfl | hz
        · omega
        · exact h1 z (List.mem_cons_of_mem _ hz)
    · rcases List.mem_cons.mp h2 with h | h
      · rw [h]
        rcases Int.le_total x y with q | q
        · rw [Int.min_eq_left q]
          simp
        · rw [Int.min_eq_right q]
          simp
      · exact List.mem_cons_of_mem _ (List.mem_cons_of_mem _ h)
theorem bi_max1 (hc : X.calm = true) : CallR X (.builtin "max") (rDs X.K (biD .max1)) := by
  intro pins s σ H vs us Q I r ⟨F, A, μ, xs, z, R, t, e, o⟩
  unfold biD at e
  split at e <;> first | (cases e; done) | skip
  all_goals first | (simp_all; done) | skip
  simp only [Option.bind_eq_some_iff, Option.map_eq_some_iff] at e
  obtain ⟨ns, e1, m, e2, rfl⟩ := e
  obtain ⟨v, rfl, a, ws, rfl, ha, da⟩ := t.one
  have f := da.ints e1
  subst f
  cases ns with
  | nil => cases e2
  | cons n ns =>
    cases e2
    obtain ⟨h1, h2⟩ := fold_max ns n
    refine cr_max hc pins s σ H _ us Q I r ⟨a, n :: ns, rfl, .inl (.inl ha), by simp, fun m hm hall => ?_⟩
    have e3 : m = ns.foldl max n := Int.le_antisymm (h1 m hm) (hall _ h2)
    rw [e3]
    exact o.int R
theorem bi_min1 (hc : X.calm = true) : CallR X (.builtin "min") (rDs X.K (biD .min1)) := by
  intro pins s σ H vs us Q I r ⟨F, A, μ, xs, z, R, t, e, o⟩
  unfold biD at e
  split at e <;> first | (cases e; done) | skip
  all_goals first | (simp_all; done) | skip
  simp only [Option.bind_eq_some_iff, Option.map_eq_some_iff] at e
  obtain ⟨ns, e1, m, e2, rfl⟩ := e
  obtain ⟨v, rfl, a, ws, rfl, ha, da⟩ := t.one
  have f := da.ints e1
  subst f
  cases ns with
  | nil => cases e2
  | cons n ns =>
    cases e2
    obtain ⟨h1, h2⟩ := fold_min ns n
    refine cr_min hc pins s σ H _ us Q I r ⟨a, n :: ns, rfl, .inl (.inl ha), by simp, fun m hm hall => ?_⟩
    have e3 : m = ns.foldl min n := Int.le_antisymm (hall _ h2) (h1 m hm)
    rw [e3]
    exact o.int R

theorem DA.bools {K : PySem.W.Frag} {F : Hp} : ∀ {vs : List V} {xs : List PyData} {bs : List Bool}, DA K F vs xs → dBools xs = some bs → vs = bs.map V.bl
  | _, _, bs, .nil, e => by
    simp only [dBools, Option.some.injEq] at e
    subst e
    rfl
  | _, _, bs, .cons (x := x) h t, e => by
    cases h with
    | bl b =>
      simp only [dBools, Option.map_eq_some_iff] at e
      obtain ⟨cs, e1, rfl⟩ := e
      rw [DA.bools t e1]
      rfl
    | _ => simp [dBools] at e
theorem DA.strD {K : PySem.W.Frag} {F : Hp} : ∀ {vs : List V} {xs : List PyData} {bs : List Str}, DA K F vs xs → dStrs xs = some bs → vs = bs.map V.str
  | _, _, bs, .nil, e => by
    simp only [dStrs, Option.some.injEq] at e
    subst e
    rfl
  | _, _, bs, .cons (x := x) h t, e => by
    cases h with
    | str b =>
      simp only [dStrs, Option.map_eq_some_iff] at e
      obtain ⟨cs, e1, rfl⟩ := e
      rw [DA.strD t e1]
      rfl
    | _ => simp [dStrs] at e
theorem bi_all (hc : X.calm = true) : CallR X (.builtin "all") (rDs X.K (biD .all)) := by
  intro pins s σ H vs us Q I r ⟨F, A, μ, xs, z, R, t, e, o⟩
  unfold biD at e
  split at e <;> first | (cases e; done) | skip
  all_goals first | (simp_all; done) | skip
  obtain ⟨bs, e1, rfl⟩ := Option.map_eq_some_iff.mp e
  obtain ⟨v, rfl, a, ws, rfl, ha, da⟩ := t.one
  have f := da.bools e1
  subst f
  exact cr_all hc pins s σ H _ us Q I r ⟨a, bs, rfl, .inl (.inl ha), o.bl R⟩
theorem bi_any (hc : X.calm = true) : CallR X (.builtin "any") (rDs X.K (biD .any)) := by
  intro pins s σ H vs us Q I r ⟨F, A, μ, xs, z, R, t, e, o⟩
  unfold biD at e
  split at e <;> first | (cases e; done) | skip
  all_goals first | (simp_all; done) | skip
  obtain ⟨bs, e1, rfl⟩ := Option.map_eq_some_iff.mp e
  obtain ⟨v, rfl, a, ws, rfl, ha, da⟩ := t.one
  have f := da.bools e1
  subst f
  exact cr_any hc pins s σ H _ us Q I r ⟨a, bs, rfl, .inl (.inl ha), o.bl R⟩

/-! ### isinstance -/
def tyN : Ty → String
  | .int => "int"
  | .bool => "bool"
  | .str => "str"
  | .list => "list"
  | .tuple => "tuple"
  | .dict => "dict"
def dTy : PyData → String
  | .none => "NoneType"
  | .bool _ => "bool"
  | .int _ => "int"
  | .str _ => "str"
  | .list _ => "list"
  | .tuple _ => "tuple"
  | .dict _ => "dict"
theorem kit_is (t : Ty) (x : PyData) : kitB (dTy x) (tyN t) = some (isiD t x) := by
  cases t <;> cases x <;> (dsimp only [dTy, tyN, isiD]; decide +kernel)
theorem tyx_of {K : PySem.W.Frag} {F H : Hp} {v : V} {x : PyData} (sub : Sub F H) (t : D K F v x) : TyX K H v (.type (dTy x)) := by
  cases t with
  | non => exact .base .non
  | bl b => exact .base (.bl b)
  | int i => exact .base (.int i)
  | str z => exact .base (.str z)
  | lst e h => exact .base (.lst (sub _ _ e))
  | tup e h =>
    rcases e with (e | ⟨o, e⟩) | ⟨o, its, n, e, c, _⟩
    · exact .base (.tup (sub _ _ e))
    · exact .fTuple (sub _ _ e)
    · exact .kTuple e c
  | dct0 e => exact .fDict (sub _ _ e)
/-- isinstance(x, t): the class is the second value -/
def rIs (K : PySem.W.Frag) (t : Ty) : List V → Hp → VK → Prop := fun vs H Q => ∃ F v x, vs = [v, .ty (tyN t)] ∧ Sub F H ∧ D K F v x ∧ Q (.bl (isiD t x)) H
theorem is_ok (t : Ty) : CallR X (.builtin "isinstance") (rIs X.K t) := by
  intro pins s σ H vs us Q I r ⟨F, v, x, e, sub, d, q⟩
  subst e
  exact call_isi pins s σ H _ us Q I r ⟨v, _, _, _, _, rfl, .ty _, tyx_of sub d, kit_ty (kit_is t x), q⟩

/-! ### subscripts -/
theorem at_get {vs : List V} {xs : List PyData} {K : PySem.W.Frag} {F : Hp} (da : DA K F vs xs) {i : Int} {x : PyData} (e : ((ixP xs.length i).bind fun j => xs[j]?) = some x) : ∃ v, atI vs i = some v ∧ D K F v x := by
  obtain ⟨j, e1, e2⟩ := Option.bind_eq_some_iff.mp e
  obtain ⟨v, h1, h2⟩ := da.get e2
  refine ⟨v, ?_, h2⟩
  unfold atI
  rw [da.length]
  unfold ixP at e1
  rw [e1]
  exact h1
theorem ix_ok : IxR X (rD2 X.K idxD) := by
  intro va sl pins s σ H vx vy v u Q I rx ry ⟨F, A, μ, x, y, z, R, tx, ty, e, o⟩ hs
  unfold idxD at e
  split at e
  · cases tp_int ty
    obtain ⟨a, vs, rfl, ha, da⟩ := tx
    obtain ⟨w, e1, dw⟩ := at_get da e
    exact ix_list va sl pins s σ H _ _ v u Q I rx ry ⟨a, vs, _, w, rfl, rfl, .inl (.inl ha), e1, o.same R dw⟩ hs
  · cases tp_int ty
    obtain ⟨a, vs, rfl, ha, da⟩ := tp_tup tx
    obtain ⟨w, e1, dw⟩ := at_get da e
    exact ix_tup va sl pins s σ H _ _ v u Q I rx ry ⟨a, vs, _, w, rfl, rfl, SqT.sub R.sub ha, e1, o.same R dw⟩ hs
  · cases tp_int ty
    cases tp_str tx
    split at e
    · rename_i hz
      obtain ⟨c, e1, rfl⟩ := Option.map_eq_some_iff.mp e
      exact ix_str va sl pins s σ H _ _ v u Q I rx ry ⟨_, _, c, rfl, rfl, by rw [← lim_eq]; exact hz, e1, o.same R (.str _)⟩ hs
    · cases e
  · cases e
def rSlD (K : PySem.W.Frag) : V → Option Int → Option Int → Hp → VK → Prop := fun vx lo hi H Q => ∃ F A μ x z, Rep K F H A μ ∧ Tp K F H vx x ∧ slcD x lo hi = some z ∧ Out K F H A μ z Q
theorem sl_ok : SlR X (rSlD X.K) := by
  intro pins s σ H x v vl vu lo hi sl Q I rx hs pl pu ⟨F, A, μ, y, z, R, tx, e, o⟩
  unfold slcD at e
  split at e
  · cases e
    obtain ⟨a, vs, rfl, ha, da⟩ := tx
    exact sl_list pins s σ H _ v vl vu _ _ sl Q I rx hs pl pu ⟨a, vs, rfl, .inl (.inl ha), fun p hp => o.lst R (da.cut _ _) hp⟩
  · cases e
    obtain ⟨a, vs, rfl, ha, da⟩ := tp_tup tx
    refine sl_tupA pins s σ H _ v vl vu _ _ sl Q I rx hs pl pu ⟨a, vs, rfl, SqT.sub R.sub ha, fun hw => ?_, fun _ p hp => o.tup R (da.cut _ _) hp⟩
    rw [da.length] at hw
    rw [cut_whole hw.1 hw.2] at o
    exact o.same R (.tup ha da)
  · cases e

/-! ### methods that change a list; stores -/
/-- x.m(..) of the list that handle n is -/
def rMm (K : PySem.W.Frag) (f : MM) : V → List V → Hp → VK → Prop := fun v vs H Q => ∃ F A μ n xs ys r, Rep K F H A μ ∧ RV K F A v (.h n) ∧ μ[n]? = some (.lst xs) ∧ DA K F vs ys ∧ mmD f xs ys = some r ∧
  ∀ w F' H', Ext F H A F' H' A → Rep K F' H' A (μ.set n (.lst r.1)) → D K F' w r.2 → Q w H'
theorem mm_append : MtM X "list.append" (rMm X.K .append) := by
  intro pins s σ H x vs v us Q I rx rv ⟨F, A, μ, n, xs, ys, r, R, ⟨a, ha, e⟩, hm, da, er, q⟩
  subst e
  obtain ⟨h1, ws, h2, h3⟩ := R.at_ n a _ ha hm
  cases da with
  | nil => simp [mmD] at er
  | cons d t =>
    cases t with
    | cons _ _ => simp [mmD] at er
    | nil =>
      simp only [mmD] at er
      split at er
      · rename_i hz
        cases er
        obtain ⟨R', x'⟩ := R.put ha hm (h3.append (.one d))
        exact mt_append pins s σ H _ _ v us Q I rx rv ⟨a, ws, _, rfl, rfl, h2, by rw [h3.length, ← lim_eq]; exact hz, q _ _ _ x' R' .non⟩
      · cases er
theorem mm_pop0 : MtM X "list.pop" (rMm X.K .pop0) := by
  intro pins s σ H x vs v us Q I rx rv ⟨F, A, μ, n, xs, ys, r, R, ⟨a, ha, e⟩, hm, da, er, q⟩
  subst e
  obtain ⟨h1, ws, h2, h3⟩ := R.at_ n a _ ha hm
  cases da with
  | cons _ _ => simp [mmD] at er
  | nil =>
    simp only [mmD] at er
    split at er
    · rename_i y hy
      cases er
      obtain ⟨w, hw, dw⟩ := h3.get hy
      obtain ⟨R', x'⟩ := R.put ha hm h3.dropLast
      exact mt_pop pins s σ H _ _ v us Q I rx rv ⟨a, ws, w, rfl, rfl, h2, by rw [h3.length]; exact hw, q _ _ _ x' R' dw⟩
    · cases er
theorem mm_pop1 : MtM X "list.pop" (rMm X.K .pop1) := by
  intro pins s σ H x vs v us Q I rx rv ⟨F, A, μ, n, xs, ys, r, R, ⟨a, ha, e⟩, hm, da, er, q⟩
  subst e
  obtain ⟨h1, ws, h2, h3⟩ := R.at_ n a _ ha hm
  unfold mmD at er
  split at er <;> first | (cases er; done) | skip
  all_goals first | (simp_all; done) | skip
  obtain ⟨k, e1, er⟩ := Option.bind_eq_some_iff.mp er
  split at er
  · rename_i hb
    obtain ⟨y, e2, rfl⟩ := Option.map_eq_some_iff.mp er
    simp only [Bool.and_eq_true, decide_eq_true_eq] at hb
    obtain ⟨w, hw, dw⟩ := h3.get e2
    obtain ⟨R', x'⟩ := R.put ha hm (h3.eraseIdx k)
    cases da with
    | cons d t =>
      cases t
      cases d
      exact mt_popAt pins s σ H _ _ v us Q I rx rv ⟨a, ws, _, k, w, rfl, rfl, h2, hb.1, hb.2, by rw [h3.length]; exact e1, hw, q _ _ _ x' R' dw⟩
  · cases er
theorem list_extend_tuple (l : Addr) (items : Array Value) (n : Nat) (b : Addr) (items2 : Array Value) (n2 : Nat) (dd : Option Addr) (sl : Array (Option Value)) (hs0 : ¬(!items.isEmpty && Builtin.List.listTooLong (items.size + items2.size)) = true) (hs1 : items.size ≤ sizeLine) (hs2 : items.size + items2.size ≤ sizeLine + 1) :
    Meets (Builtin.«list.extend» ⟨[.ref l, .ref b], []⟩) (fun _ R s => s.heap.get? l = some { cls := .type "list", data := .seq items n } ∧
      s.heap.get? b = some { cls := .type "tuple", dict := dd, data := .seq items2 n2, slots := sl } ∧ R (.ok (.ret Value.none)) { s with heap := s.heap.update l (Obj.mapSeq fun x => x ++ items2) }) :=
  .of_wp fun prog w A R s h => by
    obtain ⟨hp, g, d, tk, os⟩ := s
    obtain ⟨hl, hb, h⟩ := h
    have f2 := AutoSeq1.sub_tuple_tuple
    have f3 := AutoSeq1.sub_list_list
    have f4 := AutoSeq1.sub_tuple_list
    have f5 := AutoSeq1.sub_list_tuple
    have hz' : (items ++ items2).size ≤ sizeLine + 1 := by
      rw [Array.size_append]
      exact hs2
    wp_walk using (wpAny_updateSeq hl rfl (hz := hs1) (_hz' := hz')), AutoSeq1.wpAny_loadPart' hl, AutoSeq1.wpAny_loadPart' hb
    exact ⟨_, rfl, h⟩
theorem ext_tup {pins : List (Addr × Obj)} {s : Shared} {σ : L2.St} {H : Hp} {l b : Addr} {ws zs : List V} {Q : VK} (I : L2.Inv X pins σ H s) (hH : H l = some (.lst ws)) (hB : SqT X.K H b zs) (hz : ws.length + zs.length ≤ sizeLine) (q : Q .non (upd H l (.lst (ws ++ zs)))) :
    wpAny (model X.prog X.w) X.A (call (.builtin "list.extend") [.ref l, .ref b]) (EP X pins σ Q) X.xe s := by
  obtain ⟨z, its, n, r, hl, e⟩ := I.lstM hH
  obtain ⟨its2, r2, ⟨⟨cls, dd, data, sl⟩, ho, hc, n2, hd⟩, hz2⟩ := I.tuple hB
  simp only at hc hd
  subst hc hd
  have hl2 := r2.length
  have hsz : its.toArray.size + its2.toArray.size ≤ sizeLine := by
    rw [List.size_toArray, List.size_toArray]
    omega
  have hlong : ¬ (!its.toArray.isEmpty && Builtin.List.listTooLong (its.toArray.size + its2.toArray.size)) = true := by
    rw [notLongL hsz, Bool.and_false]
    exact Bool.false_ne_true
  refine call_meets F.slot_list_extend ⟨_, e, rfl⟩ F.entry_list_extend (F.args_list_extend_2 _ _) (list_extend_tuple l its.toArray n b its2.toArray n2 dd sl hlong (by rw [List.size_toArray]; omega) (by omega)) ⟨e, ho, ?_⟩
  refine ⟨.non, _, I.lset (its' := its ++ its2) hH e (by simp) (r.append r2) ?_, rfl, q⟩
  rw [List.length_append]
  omega
theorem mm_extend : MtM X "list.extend" (rMm X.K .extend) := by
  intro pins s σ H x vs v us Q I rx rv ⟨F, A, μ, n, xs, ys, r, R, ⟨a, ha, e⟩, hm, da, er, q⟩
  subst e
  obtain ⟨h1, ws, h2, h3⟩ := R.at_ n a _ ha hm
  unfold mmD at er
  split at er <;> first | (cases er; done) | skip
  all_goals first | (simp_all; done) | skip
  · split at er
    · rename_i hz
      cases er
      cases da with
      | cons d t =>
        cases t
        cases d with
        | lst eb db =>
          obtain ⟨R', x'⟩ := R.put ha hm (h3.append db)
          exact mt_extend pins s σ H _ _ v us Q I rx rv ⟨a, _, ws, _, rfl, rfl, h2, R.sub _ _ eb, by rw [h3.length, db.length, ← lim_eq]; exact hz, q _ _ _ x' R' .non⟩
    · cases er
  · split at er
    · rename_i hz
      cases er
      cases da with
      | cons d t =>
        cases t
        cases d with
        | tup eb db =>
          obtain ⟨R', x'⟩ := R.put ha hm (h3.append db)
          cases rx
          obtain ⟨u, rfl, ru⟩ := rv.one
          cases ru
          exact ext_tup I h2 (SqT.sub R.sub eb) (by rw [h3.length, db.length, ← lim_eq]; exact hz) (q _ _ _ x' R' .non)
    · cases er
/-- o[i] = v of the list that handle n is -/
def rSt (K : PySem.W.Frag) : TSet := fun o i v H Q => ∃ F A μ n xs k j x, Rep K F H A μ ∧ RV K F A o (.h n) ∧ μ[n]? = some (.lst xs) ∧ i = .int k ∧ ixP xs.length k = some j ∧ D K F v x ∧
  ∀ F' H', Ext F H A F' H' A → Rep K F' H' A (μ.set n (.lst (xs.set j x))) → Q H'
theorem st_ok : PSet X (rSt X.K) := by
  intro pins s σ H o i v ov iv u Q I ro ri rv ⟨F, A, μ, n, xs, k, j, x, R, ⟨a, ha, e⟩, hm, ei, hj, d, q⟩
  subst e ei
  obtain ⟨h1, ws, h2, h3⟩ := R.at_ n a _ ha hm
  obtain ⟨R', x'⟩ := R.put ha hm (DA.set d j h3)
  exact set_list pins s σ H _ _ v ov iv u Q I ro ri rv ⟨a, ws, k, j, rfl, rfl, h2, by rw [h3.length]; exact hj, q _ _ x' R'⟩
/-- list(x): a new list -/
def rLi (K : PySem.W.Frag) : List V → Hp → VK → Prop := fun vs H Q => ∃ v a ws, vs = [v] ∧ v = .ref a ∧ (SqL K H a ws ∨ SqT K H a ws) ∧ ∀ p, H p = none → Q (.ref p) (upd H p (.lst ws))
theorem li_ok : CallR X (.type "list") (rLi X.K) := by
  intro pins s σ H vs us Q I r ⟨v, a, ws, e1, e2, hs, q⟩
  subst e1 e2
  exact call_list_of pins s σ H _ us Q I r ⟨a, ws, rfl, hs, q⟩
end
end Ip
set_option Elab.async false
set_option linter.all false
set_option maxRecDepth 100000
set_option maxHeartbeats 1000000
/-! Ip: what the evaluator says of an expression is what the layer asks of it. -/
namespace Ip
open PySem L2

/-- what may be asked of a caught exception: whether it is of a class, an attribute -/
inductive Px where
  | isx (nm : Str)
  | xat (f : Str)
  deriving DecidableEq
structure Tb where
  fn : List (Str × Nat)
  co : List (Str × PyData)
  /-- dicts of the module that are never changed -/
  kd : List (Str × List (Str × PyData)) := []
  cl : List (Str × List Str)
  /-- within an except suite -/
  hot : Bool := false
  px : List Px := []

/-- an exception of a class of the table, its attributes on the heap -/
def XR (T : Tb) (K : PySem.W.Frag) (mg : Str → Option Value) (F : Hp) (cls : Value) (d : Option Addr) (x : Exn) : Prop :=
  ∃ nm fl C, T.cl[x.cls]? = some (nm, fl) ∧ mg nm = some (.ref C) ∧ cls = .ref C ∧
    ((fl = [] ∧ x.fs = [] ∧ d = none) ∨ ∃ dd vs, d = some dd ∧ F dd = some (.xd (fl.zip vs)) ∧ DA K F vs x.fs ∧ fl.length = vs.length)

section
variable (T : Tb) (K : PySem.W.Frag) (mg : Str → Option Value)
/-- what holds behind a run: E of an exception, k of a result -/
def After {β : Type} (F H : Hp) (A : List Addr) (r : Res β) (E : XK) (k : β → Sto → Hp → Hp → List Addr → Prop) : Prop := match r with
  | .ok b μ => ∀ F' H' A', Ext F H A F' H' A' → Rep K F' H' A' μ → k b μ F' H' A'
  | .exc x μ => ∀ cls d F' H' A', Ext F H A F' H' A' → Rep K F' H' A' μ → XR T K mg F' cls d x → E cls d H'
  | .bad => False
def tE (W : WX) (f : Env → Sto → Res Val) : TE := fun σ H Q => ∃ ρ F A μ, Rep K F H A μ ∧ RE K F A σ ρ ∧
  After T K mg F H A (f ρ μ) (fun cls d H' => W cls d σ H') fun w _ F' H' A' => ∀ v, RV K F' A' v w → Q v H'
def tT (W : WX) (f : Env → Sto → Res Val) : TT := fun σ H Q => ∃ ρ F A μ, Rep K F H A μ ∧ RE K F A σ ρ ∧
  After T K mg F H A (f ρ μ) (fun cls d H' => W cls d σ H') fun w _ F' H' A' => ∃ b, bOf w = some b ∧ Q b H'
def tA (W : WX) (f : Env → Sto → Res (List Val)) : TA := fun σ H Q => ∃ ρ F A μ, Rep K F H A μ ∧ RE K F A σ ρ ∧
  After T K mg F H A (f ρ μ) (fun cls d H' => W cls d σ H') fun ws _ F' H' A' => ∀ vs, RVs K F' A' vs ws → Q vs H'
end

section
variable {T : Tb} {K : PySem.W.Frag} {mg : Str → Option Value} {α β : Type} {F H F1 H1 : Hp} {A A1 : List Addr} {E : XK} {k k' : β → Sto → Hp → Hp → List Addr → Prop} {μ : Sto}
theorem After.ext {r : Res β} (x : Ext F H A F1 H1 A1) (h : After T K mg F H A r E k) : After T K mg F1 H1 A1 r E k := by
  cases r with
  | ok b μ => exact fun F' H' A' y R => h F' H' A' (x.trans y) R
  | exc e μ => exact fun cls d F' H' A' y R q => h cls d F' H' A' (x.trans y) R q
  | bad => exact h
theorem After.imp {r : Res β} (h : After T K mg F H A r E k) (g : ∀ a μ1 F1 H1 A1, Ext F H A F1 H1 A1 → Rep K F1 H1 A1 μ1 → k a μ1 F1 H1 A1 → k' a μ1 F1 H1 A1) : After T K mg F H A r E k' := by
  cases r with
  | ok b μ => exact fun F' H' A' y R => g _ _ _ _ _ y R (h F' H' A' y R)
  | exc e μ => exact h
  | bad => exact h
theorem After.bind {r : Res α} {g : α → Sto → Res β} (h : After T K mg F H A (r.bind g) E k) : After T K mg F H A r E fun a μ1 F1 H1 A1 => After T K mg F1 H1 A1 (g a μ1) E k := by
  cases r with
  | ok b μ => exact fun F' H' A' y R => After.ext y h
  | exc e μ => exact h
  | bad => exact h
theorem After.here {b : β} (R : Rep K F H A μ) (h : After T K mg F H A (.ok b μ) E k) : k b μ F H A := h F H A (Ext.refl _ _ _) R
theorem After.opt {o : Option α} {g : α → Sto → Res β} (h : After T K mg F H A ((Res.opt o μ).bind g) E k) : ∃ a, o = some a ∧ After T K mg F H A (g a μ) E k := by
  cases o with
  | none => exact h.elim
  | some a => exact ⟨a, rfl, h⟩
theorem After.opt' {o : Option β} (h : After T K mg F H A (Res.opt o μ) E k) : ∃ a, o = some a ∧ After T K mg F H A (.ok a μ) E k := by
  cases o with
  | none => exact h.elim
  | some a => exact ⟨a, rfl, h⟩
/-- plain data is the result -/
theorem After.out {z : PyData} {Q : VK} (h : After T K mg F H A (.ok (.d z) μ) E fun w _ F' H' A' => ∀ v, RV K F' A' v w → Q v H') : Out K F H A μ z Q :=
  fun v F' H' x R d => h F' H' A x R v d
theorem PE.imp {X : Cx} {e : Expr} {t t' : TE} (h : PE X e t) (g : ∀ σ H Q, t' σ H Q → t σ H Q) : PE X e t' := ⟨fun pins s σ H Q I q => h.run pins s σ H Q I (g σ H Q q)⟩
theorem PT.imp {X : Cx} {e : Expr} {t t' : TT} (h : PT X e t) (g : ∀ σ H Q, t' σ H Q → t σ H Q) : PT X e t' := ⟨fun pins s σ H Q I q => h.run pins s σ H Q I (g σ H Q q)⟩
theorem PW.imp {X : Cx} {e : Expr} {t t' : TT} (h : PW X e t) (g : ∀ σ H Q, t' σ H Q → t σ H Q) : PW X e t' := ⟨fun wh pins s σ H Q I q => h.run wh pins s σ H Q I (g σ H Q q)⟩
theorem PA.imp {X : Cx} {es : List Expr} {t t' : TA} (h : PA X es t) (g : ∀ σ H Q, t' σ H Q → t σ H Q) : PA X es t' := ⟨fun pos pins s σ H Q I q => h.run pos pins s σ H Q I (g σ H Q q)⟩
end

abbrev tEX (T : Tb) (X : Cx) (W : WX) (f : Env → Sto → Res Val) : TE := tE T X.K X.mg W f
abbrev tTX (T : Tb) (X : Cx) (W : WX) (f : Env → Sto → Res Val) : TT := tT T X.K X.mg W f
abbrev tAX (T : Tb) (X : Cx) (W : WX) (f : Env → Sto → Res (List Val)) : TA := tA T X.K X.mg W f
section
variable {T : Tb} {X : Cx} {W : WX} {a b c : Expr} {pos : Pos} {fa fb fc : Env → Sto → Res Val}

/-- a run, then the next: the shape of all rules below -/
theorem se_var {i : Nat} {x : Str} (hN : X.N[i]? = some x) (hv : Vis X.env.scope x) (hd : (x == ("__debug__" : Str)) = false) (hcd : (x == ("__classdict__" : Str)) = false) :
    PE X (.Name x pos) (tEX T X W fun ρ μ => match ρ[i]? with
      | some (some w) => .ok w μ
      | _ => .bad) := by
  refine PE.imp (pe_var hN hv hd hcd) fun σ H Q ⟨ρ, F, A, μ, R, re, h⟩ => ?_
  dsimp only at h
  split at h
  · rename_i w e
    obtain ⟨v, e1, r⟩ := re.at_ i w e
    exact ⟨v, e1, h.here R v r⟩
  · exact h.elim
theorem se_kst {x : PyData} {v : V} (h : PE X a (tC v)) (d : ∀ F, D X.K F v x) : PE X a (tEX T X W fun _ μ => .ok (.d x) μ) := by
  refine PE.imp h fun σ H Q ⟨ρ, F, A, μ, R, re, h⟩ => ?_
  exact h.here R v (d F)
theorem se_bin {op : Operator} {g : PyData → PyData → Option PyData} (ho : OpR X (binaryOp op) (rD2 X.K g)) (ha : PE X a (tEX T X W fa)) (hb : PE X b (tEX T X W fb)) :
    PE X (.BinOp a op b pos) (tEX T X W fun ρ μ => (fa ρ μ).bind fun wa μ => (fb ρ μ).bind fun wb μ => Res.opt ((rd μ wa).bind fun x => (rd μ wb).bind fun y => (g x y).map .d) μ) := by
  refine PE.imp (pe_op ho ha hb) fun σ H Q ⟨ρ, F, A, μ, R, re, h⟩ => ?_
  refine ⟨ρ, F, A, μ, R, re, h.bind.imp fun wa μ1 F1 H1 A1 x1 R1 h1 va ra => ?_⟩
  refine ⟨ρ, F1, A1, μ1, R1, re.ext x1, h1.bind.imp fun wb μ2 F2 H2 A2 x2 R2 h2 vb rb => ?_⟩
  obtain ⟨w, e, h3⟩ := h2.opt'
  simp only [Option.bind_eq_some_iff, Option.map_eq_some_iff] at e
  obtain ⟨x, e1, y, e2, z, e3, rfl⟩ := e
  exact ⟨F2, A2, μ2, x, y, z, R2, R2.rd (ra.ext x2) e1, R2.rd rb e2, e3, h3.out⟩
theorem se_cmp {op : CmpOp} {g : PyData → PyData → Option Bool} (ho : OpR X (compareOp op) (rD2 X.K (gB g))) (ha : PE X a (tEX T X W fa)) (hb : PE X b (tEX T X W fb)) (hm : behindInMarks op b = false) :
    PE X (.Compare a [op] [b] pos) (tEX T X W fun ρ μ => (fa ρ μ).bind fun wa μ => (fb ρ μ).bind fun wb μ => Res.opt ((rd μ wa).bind fun x => (rd μ wb).bind fun y => (g x y).map fun r => .d (.bool r)) μ) := by
  refine PE.imp (pe_cmpR ho ha hb hm) fun σ H Q ⟨ρ, F, A, μ, R, re, h⟩ => ?_
  refine ⟨ρ, F, A, μ, R, re, h.bind.imp fun wa μ1 F1 H1 A1 x1 R1 h1 va ra => ?_⟩
  refine ⟨ρ, F1, A1, μ1, R1, re.ext x1, h1.bind.imp fun wb μ2 F2 H2 A2 x2 R2 h2 vb rb => ?_⟩
  obtain ⟨w, e, h3⟩ := h2.opt'
  simp only [Option.bind_eq_some_iff, Option.map_eq_some_iff] at e
  obtain ⟨x, e1, y, e2, z, e3, rfl⟩ := e
  exact ⟨F2, A2, μ2, x, y, .bool z, R2, R2.rd (ra.ext x2) e1, R2.rd rb e2, by unfold gB; rw [e3]; rfl, h3.out⟩
theorem tT_of {f : Env → Sto → Res Val} {σ : L2.St} {H : Hp} {Q : Bool → Hp → Prop} (h : tTX T X W f σ H Q) : tEX T X W f σ H fun x H' => ∃ k, x = .bl k ∧ Q k H' := by
  obtain ⟨ρ, F, A, μ, R, re, h⟩ := h
  refine ⟨ρ, F, A, μ, R, re, h.imp fun w μ1 F1 H1 A1 x1 R1 h1 v r => ?_⟩
  obtain ⟨b, e, q⟩ := h1
  cases w with
  | d y =>
    cases y with
    | bool c =>
      cases e
      cases (show D X.K F1 v (.bool b) from r)
      exact ⟨b, rfl, q⟩
    | _ => cases e
  | h n => cases e
  | s ns => cases e
  | x => cases e
  | t => cases e
  | kc => cases e
theorem st_cmp {op : CmpOp} {g : PyData → PyData → Option Bool} (ho : OpR X (compareOp op) (rD2 X.K (gB g))) (ha : PE X a (tEX T X W fa)) (hb : PE X b (tEX T X W fb)) (hm : behindInMarks op b = false) :
    PT X (.Compare a [op] [b] pos) (tTX T X W fun ρ μ => (fa ρ μ).bind fun wa μ => (fb ρ μ).bind fun wb μ => Res.opt ((rd μ wa).bind fun x => (rd μ wb).bind fun y => (g x y).map fun r => .d (.bool r)) μ) := by
  refine PT.imp (pt_cmpR ho ha hb hm) fun σ H Q h => ?_
  obtain ⟨ρ, F, A, μ, R, re, h⟩ := tT_of h
  refine ⟨ρ, F, A, μ, R, re, h.bind.imp fun wa μ1 F1 H1 A1 x1 R1 h1 va ra => ?_⟩
  refine ⟨ρ, F1, A1, μ1, R1, re.ext x1, h1.bind.imp fun wb μ2 F2 H2 A2 x2 R2 h2 vb rb => ?_⟩
  obtain ⟨w, e, h3⟩ := h2.opt'
  simp only [Option.bind_eq_some_iff, Option.map_eq_some_iff] at e
  obtain ⟨x, e1, y, e2, z, e3, rfl⟩ := e
  exact ⟨F2, A2, μ2, x, y, .bool z, R2, R2.rd (ra.ext x2) e1, R2.rd rb e2, by unfold gB; rw [e3]; rfl, h3.out⟩
theorem st_val {f : Env → Sto → Res Val} (h : PE X a (tEX T X W f)) (he : ∀ whole, isTrue a X.env whole = (do let v ← whole; standAt a.pos; holding [v] (truthy v))) : PT X a (tTX T X W f) :=
  PT.imp (pt_val h he) fun σ H Q h => tT_of h
theorem dOf_ext {F H F' H' : Hp} {A A' : List Addr} {v : V} {w : Val} {x : PyData} (x1 : Ext F H A F' H' A') (r : RV X.K F A v w) (e : dOf w = some x) : D X.K F' v x := dOf_rv (r.ext x1) e
theorem d_tp {F H : Hp} {v : V} {x : PyData} {A : List Addr} {μ : Sto} (R : Rep X.K F H A μ) (d : D X.K F v x) : Tp X.K F H v x := D.tp R.sub d
def chF (g1 g2 : PyData → PyData → Option Bool) (fa fb fc : Env → Sto → Res Val) : Env → Sto → Res Val := fun ρ μ => (fa ρ μ).bind fun wa μ => (fb ρ μ).bind fun wb μ =>
    (Res.opt ((dOf wa).bind fun x => (dOf wb).bind fun y => g1 x y) μ).bind fun r μ =>
    if r then (fc ρ μ).bind fun wc μ => Res.opt ((dOf wb).bind fun y => (dOf wc).bind fun z => (g2 y z).map fun r => .d (.bool r)) μ
    else .ok (.d (.bool false)) μ
theorem ch_step {op1 op2 : CmpOp} {g1 g2 : PyData → PyData → Option Bool} {σ : L2.St} {H : Hp} {Q : VK} (h : tEX T X W (chF g1 g2 fa fb fc) σ H Q) :
    tChain (rD2 X.K (gB g1)) (rD2 X.K (gB g2)) (tEX T X W fa) (tEX T X W fb) (tEX T X W fc) σ H Q := by
  obtain ⟨ρ, F, A, μ, R, re, h⟩ := h
  refine ⟨ρ, F, A, μ, R, re, h.bind.imp fun wa μ1 F1 H1 A1 x1 R1 h1 va ra => ?_⟩
  refine ⟨ρ, F1, A1, μ1, R1, re.ext x1, h1.bind.imp fun wb μ2 F2 H2 A2 x2 R2 h2 vb rb => ?_⟩
  obtain ⟨r, e, h3⟩ := h2.opt
  simp only [Option.bind_eq_some_iff] at e
  obtain ⟨x, e1, y, e2, e3⟩ := e
  refine ⟨F2, A2, μ2, x, y, .bool r, R2, d_tp R2 (dOf_ext x2 ra e1), d_tp R2 (dOf_rv rb e2), by unfold gB; rw [e3]; rfl, fun v F3 H3 x3 R3 d3 => ?_⟩
  cases (show D X.K F3 v (.bool r) from d3)
  refine ⟨r, rfl, ?_⟩
  have h3' := h3.ext x3
  cases r with
  | false =>
    rw [if_neg Bool.false_ne_true]
    exact h3'.here R3 _ (.bl false)
  | true =>
    rw [if_pos rfl]
    refine ⟨ρ, F3, A2, μ2, R3, (re.ext x1).ext (x2.trans x3), After.imp (After.bind h3') fun wc μ4 F4 H4 A4 x4 R4 h4 vc rc => ?_⟩
    obtain ⟨w, e, h5⟩ := h4.opt'
    simp only [Option.bind_eq_some_iff, Option.map_eq_some_iff] at e
    obtain ⟨y', e4, z', e5, r', e6, rfl⟩ := e
    exact ⟨F4, A4, μ4, y', z', .bool r', R4, d_tp R4 (dOf_ext (x3.trans x4) rb e4), d_tp R4 (dOf_rv rc e5), by unfold gB; rw [e6]; rfl, h5.out⟩
theorem se_chn {op1 op2 : CmpOp} {g1 g2 : PyData → PyData → Option Bool} (h1 : OpR X (compareOp op1) (rD2 X.K (gB g1))) (h2 : OpR X (compareOp op2) (rD2 X.K (gB g2))) (ha : PE X a (tEX T X W fa)) (hb : PE X b (tEX T X W fb)) (hc : PE X c (tEX T X W fc))
    (hm : lastMarks [op1, op2] [b, c] = false) : PE X (.Compare a [op1, op2] [b, c] pos) (tEX T X W (chF g1 g2 fa fb fc)) :=
  PE.imp (pe_chain h1 h2 ha hb hc hm) fun σ H Q h => ch_step (op1 := op1) (op2 := op2) h
theorem st_chn {op1 op2 : CmpOp} {g1 g2 : PyData → PyData → Option Bool} (h1 : OpR X (compareOp op1) (rD2 X.K (gB g1))) (h2 : OpR X (compareOp op2) (rD2 X.K (gB g2))) (ha : PE X a (tEX T X W fa)) (hb : PE X b (tEX T X W fb)) (hc : PE X c (tEX T X W fc))
    (hm : lastMarks [op1, op2] [b, c] = false) : PT X (.Compare a [op1, op2] [b, c] pos) (tTX T X W (chF g1 g2 fa fb fc)) :=
  PT.imp (pt_chain h1 h2 ha hb hc hm) fun σ H Q h => ch_step (op1 := op1) (op2 := op2) (tT_of h)
theorem se_neg (ha : PE X a (tEX T X W fa)) : PE X (.UnaryOp .USub a pos) (tEX T X W fun ρ μ => (fa ρ μ).bind fun w μ => Res.opt ((dOf w).bind fun x => (dInt x).map fun i => .d (.int (-i))) μ) := by
  refine PE.imp (pe_un un_neg ha) fun σ H Q ⟨ρ, F, A, μ, R, re, h⟩ => ?_
  refine ⟨ρ, F, A, μ, R, re, h.bind.imp fun wa μ1 F1 H1 A1 x1 R1 h1 va ra => ?_⟩
  obtain ⟨w, e, h3⟩ := h1.opt'
  simp only [Option.bind_eq_some_iff, Option.map_eq_some_iff] at e
  obtain ⟨x, e1, i, e2, rfl⟩ := e
  cases x with
  | int j =>
    cases e2
    cases (show D X.K F1 va (.int i) from dOf_rv ra e1)
    exact ⟨i, rfl, h3.here R1 _ (.int _)⟩
  | _ => cases e2
theorem se_not (ha : PE X a (tEX T X W fa)) : PE X (.UnaryOp .Not a pos) (tEX T X W fun ρ μ => (fa ρ μ).bind fun w μ => Res.opt ((bOf w).map fun b => .d (.bool !b)) μ) := by
  refine PE.imp (pe_not ha) fun σ H Q ⟨ρ, F, A, μ, R, re, h⟩ => ?_
  refine ⟨ρ, F, A, μ, R, re, h.bind.imp fun wa μ1 F1 H1 A1 x1 R1 h1 va ra => ?_⟩
  obtain ⟨w, e, h3⟩ := h1.opt'
  simp only [Option.map_eq_some_iff] at e
  obtain ⟨b, e1, rfl⟩ := e
  cases wa with
  | d y =>
    cases y with
    | bool c =>
      cases e1
      cases (show D X.K F1 va (.bool b) from ra)
      exact ⟨b, rfl, h3.here R1 _ (.bl _)⟩
    | _ => cases e1
  | h n => cases e1
  | s ns => cases e1
  | x => cases e1
  | t => cases e1
  | kc => cases e1
theorem st_not (ha : PT X a (tTX T X W fa)) : PT X (.UnaryOp .Not a pos) (tTX T X W fun ρ μ => (fa ρ μ).bind fun w μ => Res.opt ((bOf w).map fun b => .d (.bool !b)) μ) := by
  refine PT.imp (pt_not ha) fun σ H Q ⟨ρ, F, A, μ, R, re, h⟩ => ?_
  refine ⟨ρ, F, A, μ, R, re, h.bind.imp fun wa μ1 F1 H1 A1 x1 R1 h1 => ?_⟩
  obtain ⟨w, e, h3⟩ := h1.opt'
  simp only [Option.map_eq_some_iff] at e
  obtain ⟨b, e1, rfl⟩ := e
  obtain ⟨b', e2, q⟩ := h3.here R1
  cases e2
  exact ⟨b, e1, q⟩
theorem se_ite (hc : PT X c (tTX T X W fc)) (ha : PE X a (tEX T X W fa)) (hb : PE X b (tEX T X W fb)) :
    PE X (.IfExp c a b pos) (tEX T X W fun ρ μ => (fc ρ μ).bind fun w μ => (Res.opt (bOf w) μ).bind fun r μ => if r then fa ρ μ else fb ρ μ) := by
  refine PE.imp (pe_ifExp hc ha hb) fun σ H Q ⟨ρ, F, A, μ, R, re, h⟩ => ?_
  refine ⟨ρ, F, A, μ, R, re, h.bind.imp fun wa μ1 F1 H1 A1 x1 R1 h1 => ?_⟩
  obtain ⟨r, e, h3⟩ := h1.opt
  refine ⟨r, e, ?_⟩
  cases r with
  | true =>
    rw [if_pos rfl]
    exact ⟨ρ, F1, A1, μ1, R1, re.ext x1, h3⟩
  | false =>
    rw [if_neg Bool.false_ne_true]
    exact ⟨ρ, F1, A1, μ1, R1, re.ext x1, h3⟩
/-! and, or -/
theorem bop1 {op : BoolOp} {k : Bool} (ha : PE X a (tEX T X W fa)) (hk : fb = fun _ μ => .ok (.d (.bool k)) μ) :
    PE X (.BoolOp op [a] pos) (tEX T X W fun ρ μ => (fa ρ μ).bind fun w μ => (Res.opt (bOf w) μ).bind fun b μ => if b = k then fb ρ μ else .ok (.d (.bool b)) μ) := by
  subst hk
  refine PE.imp (pe_one ha) fun σ H Q ⟨ρ, F, A, μ, R, re, h⟩ => ?_
  refine ⟨ρ, F, A, μ, R, re, h.bind.imp fun wa μ1 F1 H1 A1 x1 R1 h1 va ra => ?_⟩
  obtain ⟨r, e, h3⟩ := h1.opt
  have q : ∀ v, RV X.K F1 A1 v (.d (.bool r)) → Q v H1 := by
    by_cases hr : r = k
    · subst hr
      rw [if_pos rfl] at h3
      exact h3.here R1
    · rw [if_neg hr] at h3
      exact h3.here R1
  cases wa with
  | d y =>
    cases y with
    | bool c =>
      cases e
      exact q va ra
    | _ => cases e
  | h n => cases e
  | s ns => cases e
  | x => cases e
  | t => cases e
  | kc => cases e
theorem bopw1 {op : BoolOp} {k : Bool} (ha : PT X a (tTX T X W fa)) (hk : fb = fun _ μ => .ok (.d (.bool k)) μ) :
    PW X (.BoolOp op [a] pos) (tTX T X W fun ρ μ => (fa ρ μ).bind fun w μ => (Res.opt (bOf w) μ).bind fun b μ => if b = k then fb ρ μ else .ok (.d (.bool b)) μ) := by
  subst hk
  have base : PW X (.BoolOp op [a] pos) (tTX T X W fa) := by
    cases op with
    | And => exact pw_and1 ha
    | Or => exact pw_or1 ha
  refine PW.imp base fun σ H Q ⟨ρ, F, A, μ, R, re, h⟩ => ?_
  refine ⟨ρ, F, A, μ, R, re, h.bind.imp fun wa μ1 F1 H1 A1 x1 R1 h1 => ?_⟩
  obtain ⟨r, e, h3⟩ := h1.opt
  refine ⟨r, e, ?_⟩
  by_cases hr : r = k
  · subst hr
    rw [if_pos rfl] at h3
    obtain ⟨b, e1, q⟩ := h3.here R1
    cases e1
    exact q
  · rw [if_neg hr] at h3
    obtain ⟨b, e1, q⟩ := h3.here R1
    cases e1
    exact q
theorem bop2 {op : BoolOp} {k : Bool} {d : Expr} {rest : List Expr} (hop : op = if k then .And else .Or) (ha : PE X a (tEX T X W fa)) (hb : PE X (.BoolOp op (d :: rest) pos) (tEX T X W fb)) :
    PE X (.BoolOp op (a :: d :: rest) pos) (tEX T X W fun ρ μ => (fa ρ μ).bind fun w μ => (Res.opt (bOf w) μ).bind fun b μ => if b = k then fb ρ μ else .ok (.d (.bool b)) μ) := by
  have go : ∀ σ H Q, tEX T X W (fun ρ μ => (fa ρ μ).bind fun w μ => (Res.opt (bOf w) μ).bind fun b μ => if b = k then fb ρ μ else .ok (.d (.bool b)) μ) σ H Q →
      tEX T X W fa σ H fun x H1 => ∃ c, x = .bl c ∧ if c = k then tEX T X W fb σ H1 Q else Q (.bl c) H1 := by
    intro σ H Q ⟨ρ, F, A, μ, R, re, h⟩
    refine ⟨ρ, F, A, μ, R, re, h.bind.imp fun wa μ1 F1 H1 A1 x1 R1 h1 va ra => ?_⟩
    obtain ⟨r, e, h3⟩ := h1.opt
    have ev : va = .bl r := by
      cases wa with
      | d y =>
        cases y with
        | bool c =>
          cases e
          cases (show D X.K F1 va (.bool r) from ra)
          rfl
        | _ => cases e
      | h n => cases e
      | s ns => cases e
      | x => cases e
      | t => cases e
      | kc => cases e
    refine ⟨r, ev, ?_⟩
    by_cases hr : r = k
    · rw [if_pos hr] at h3 ⊢
      exact ⟨ρ, F1, A1, μ1, R1, re.ext x1, h3⟩
    · rw [if_neg hr] at h3 ⊢
      exact h3.here R1 _ (.bl r)
  cases k with
  | true =>
    subst hop
    refine PE.imp (pe_and ha hb) fun σ H Q h => ?_
    obtain ⟨ρ, F, A, μ, R, re, h⟩ := go σ H Q h
    refine ⟨ρ, F, A, μ, R, re, h.imp fun wa μ1 F1 H1 A1 x1 R1 h1 va ra => ?_⟩
    obtain ⟨c, ec, h2⟩ := h1 va ra
    refine ⟨c, ec, ?_⟩
    cases c <;> simpa using h2
  | false =>
    subst hop
    refine PE.imp (pe_or ha hb) fun σ H Q h => ?_
    obtain ⟨ρ, F, A, μ, R, re, h⟩ := go σ H Q h
    refine ⟨ρ, F, A, μ, R, re, h.imp fun wa μ1 F1 H1 A1 x1 R1 h1 va ra => ?_⟩
    obtain ⟨c, ec, h2⟩ := h1 va ra
    refine ⟨c, ec, ?_⟩
    cases c <;> simpa using h2
theorem bopw2 {op : BoolOp} {k : Bool} {d : Expr} {rest : List Expr} (hop : op = if k then .And else .Or) (ha : PT X a (tTX T X W fa)) (hb : PW X (.BoolOp op (d :: rest) pos) (tTX T X W fb)) :
    PW X (.BoolOp op (a :: d :: rest) pos) (tTX T X W fun ρ μ => (fa ρ μ).bind fun w μ => (Res.opt (bOf w) μ).bind fun b μ => if b = k then fb ρ μ else .ok (.d (.bool b)) μ) := by
  have go : ∀ σ H Q, tTX T X W (fun ρ μ => (fa ρ μ).bind fun w μ => (Res.opt (bOf w) μ).bind fun b μ => if b = k then fb ρ μ else .ok (.d (.bool b)) μ) σ H Q →
      tTX T X W fa σ H fun c H1 => if c = k then tTX T X W fb σ H1 Q else Q c H1 := by
    intro σ H Q ⟨ρ, F, A, μ, R, re, h⟩
    refine ⟨ρ, F, A, μ, R, re, h.bind.imp fun wa μ1 F1 H1 A1 x1 R1 h1 => ?_⟩
    obtain ⟨r, e, h3⟩ := h1.opt
    refine ⟨r, e, ?_⟩
    by_cases hr : r = k
    · rw [if_pos hr] at h3 ⊢
      exact ⟨ρ, F1, A1, μ1, R1, re.ext x1, h3⟩
    · rw [if_neg hr] at h3 ⊢
      obtain ⟨b, e1, q⟩ := h3.here R1
      cases e1
      exact q
  cases k with
  | true =>
    subst hop
    refine PW.imp (pw_and ha hb) fun σ H Q h => ?_
    obtain ⟨ρ, F, A, μ, R, re, h⟩ := go σ H Q h
    refine ⟨ρ, F, A, μ, R, re, h.imp fun wa μ1 F1 H1 A1 x1 R1 ⟨c, ec, h2⟩ => ⟨c, ec, ?_⟩⟩
    cases c <;> simpa using h2
  | false =>
    subst hop
    refine PW.imp (pw_or ha hb) fun σ H Q h => ?_
    obtain ⟨ρ, F, A, μ, R, re, h⟩ := go σ H Q h
    refine ⟨ρ, F, A, μ, R, re, h.imp fun wa μ1 F1 H1 A1 x1 R1 ⟨c, ec, h2⟩ => ⟨c, ec, ?_⟩⟩
    cases c <;> simpa using h2
/-! argument lists -/
theorem sa_nil : PA X [] (tAX T X W fun _ μ => .ok [] μ) := by
  refine PA.imp pa_nil fun σ H Q ⟨ρ, F, A, μ, R, re, h⟩ => ?_
  exact h.here R [] .nil
theorem sa_cons {es : List Expr} {fs : Env → Sto → Res (List Val)} (ha : PE X a (tEX T X W fa)) (hs : PA X es (tAX T X W fs)) (hst : starEach (a :: es) X.env = (false, eval a X.env) :: starEach es X.env) :
    PA X (a :: es) (tAX T X W fun ρ μ => (fa ρ μ).bind fun w μ => (fs ρ μ).bind fun ws μ => .ok (w :: ws) μ) := by
  refine PA.imp (pa_cons ha hs hst) fun σ H Q ⟨ρ, F, A, μ, R, re, h⟩ => ?_
  refine ⟨ρ, F, A, μ, R, re, h.bind.imp fun wa μ1 F1 H1 A1 x1 R1 h1 va ra => ?_⟩
  refine ⟨ρ, F1, A1, μ1, R1, re.ext x1, h1.bind.imp fun ws μ2 F2 H2 A2 x2 R2 h2 vs rs => ?_⟩
  exact h2.here R2 _ (.cons (ra.ext x2) rs)
/-! more displays -/
theorem pe_dfrz : PE X (.Dict [] [] pos) (fun _ H Q => ∀ p o, H p = none → Q (.ref p) (upd H p (.frz o (.dK [])))) := ⟨fun pins s σ H Q I h => by
  have I1 := I.laid (a := s.heap.objs.size) (o := .dK []) (h' := s.heap.push { cls := .type "dict", data := .dict #[] }) (t' := s.toks) (fun _ _ q => Heap.get?_push_of_some _ q) (Nat.le_refl _) (dk_empty s.heap I.big)
  obtain ⟨od, I2⟩ := I1.lock upd_same trivial
  rw [upd_upd] at I2
  exact wpAny_Dict_empty ⟨.ref s.heap.objs.size, _, I2, rfl, h _ od (I.hok.fresh (Nat.le_refl _))⟩⟩
theorem se_dct0 : PE X (.Dict [] [] pos) (tEX T X W fun _ μ => .ok (.d (.dict [])) μ) := by
  refine PE.imp pe_dfrz fun σ H Q ⟨ρ, F, A, μ, R, re, h⟩ => ?_
  intro p o hp
  obtain ⟨R', x'⟩ := R.newF (o := .frz o (.dK [])) hp
  exact h _ _ _ x' R' _ (.dct0 upd_same)
def addhF (fa fb : Env → Sto → Res Val) : Env → Sto → Res Val := fun ρ μ => (fa ρ μ).bind fun wa μ => (fb ρ μ).bind fun wb μ =>
    (Res.opt ((rd μ wa).bind fun x => (rd μ wb).bind fun y => match x, y with
      | .list xs, .list ys => if xs.length + ys.length ≤ lim then some (xs ++ ys) else none
      | _, _ => none) μ).bind fun zs μ => newL true zs μ
theorem se_addh (ha : PE X a (tEX T X W fa)) (hb : PE X b (tEX T X W fb)) : PE X (.BinOp a .Add b pos) (tEX T X W (addhF fa fb)) := by
  refine PE.imp (pe_op op_cat ha hb) fun σ H Q ⟨ρ, F, A, μ, R, re, h⟩ => ?_
  refine ⟨ρ, F, A, μ, R, re, (After.bind h).imp fun wa μ1 F1 H1 A1 x1 R1 h1 va ra => ?_⟩
  refine ⟨ρ, F1, A1, μ1, R1, re.ext x1, (After.bind h1).imp fun wb μ2 F2 H2 A2 x2 R2 h2 vb rb => ?_⟩
  obtain ⟨zs, e, h3⟩ := After.opt h2
  simp only [Option.bind_eq_some_iff] at e
  obtain ⟨x, e1, y, e2, e3⟩ := e
  split at e3
  · rename_i xs ys
    split at e3
    · rename_i hz
      cases e3
      obtain ⟨p, vs, rfl, hp, da⟩ := R2.rd (ra.ext x2) e1
      obtain ⟨q, ws, rfl, hq, db⟩ := R2.rd rb e2
      refine ⟨p, q, vs, ws, rfl, rfl, hp, hq, by rw [da.length, db.length, ← lim_eq]; exact hz, fun r hr => ?_⟩
      obtain ⟨R', x'⟩ := R2.newH hr (da.append db)
      have h4 := h3 _ _ _ x' R' (.ref r)
      refine h4 ⟨r, ?_, rfl⟩
      rw [← R2.len, List.getElem?_append_right (Nat.le_refl _), Nat.sub_self]
      rfl
    · cases e3
  · cases e3
def toldF (fa fb : Env → Sto → Res Val) : Env → Sto → Res Val := fun ρ μ => (fa ρ μ).bind fun wa μ => (fb ρ μ).bind fun wb μ => (Res.opt (dOf wa) μ).bind fun x μ => match wb with
    | .d y => .ok (.d (.list [x, y])) μ
    | .h n => .ok (.t x n) μ
    | _ => .bad
theorem se_told (ha : PE X a (tEX T X W fa)) (hb : PE X b (tEX T X W fb)) (h1 : starEach [a, b] X.env = (false, eval a X.env) :: starEach [b] X.env) (h2 : starEach [b] X.env = (false, eval b X.env) :: starEach [] X.env) : PE X (.List [a, b] pos) (tEX T X W (toldF fa fb)) := by
  refine PE.imp (pe_lst (pa_cons ha (pa_cons hb pa_nil h2) h1)) fun σ H Q ⟨ρ, F, A, μ, R, re, h⟩ => ?_
  refine ⟨ρ, F, A, μ, R, re, (After.bind h).imp fun wa μ1 F1 H1 A1 x1 R1 h1 va ra => ?_⟩
  refine ⟨ρ, F1, A1, μ1, R1, re.ext x1, (After.bind h1).imp fun wb μ2 F2 H2 A2 x2 R2 h2 vb rb => ?_⟩
  obtain ⟨x, e, h3⟩ := After.opt h2
  refine ⟨by show 2 ≤ sizeLine; decide, fun q hq => ?_⟩
  have dx := dOf_rv (ra.ext x2) e
  obtain ⟨R', x'⟩ := R2.newF (o := .lst [va, vb]) hq
  cases wb with
  | d y => exact h3 _ _ _ x' R' _ (.lst upd_same (.cons (dx.sub x'.ff) (.cons (D.sub x'.ff rb) .nil)))
  | h n =>
    obtain ⟨p, hp, rfl⟩ := rb
    exact h3 _ _ _ x' R' _ ⟨q, va, p, rfl, upd_same, dx.sub x'.ff, hp⟩
  | s ns => exact h3.elim
  | x => exact h3.elim
  | t => exact h3.elim
  | kc => exact h3.elim
end
end Ip
set_option Elab.async false
set_option linter.all false
set_option maxRecDepth 100000
set_option maxHeartbeats 1000000
/-! Ip: calls, displays, subscripts, comprehensions. -/
namespace Ip
open PySem L2
section
variable {T : Tb} {X : Cx} {W : WX} {a b c : Expr} {es : List Expr} {pos p : Pos} {fa fb fc : Env → Sto → Res Val} {fs : Env → Sto → Res (List Val)}
/-- what a def promises, by the evaluator -/
def spF (T : Tb) (K : PySem.W.Frag) (mg : Str → Option Value) (g : List Val → Sto → Res Val) (np : Nat) : Sp := fun vs H Q E => vs.length = np ∧ ∃ F A μ ws, Rep K F H A μ ∧ RVs K F A vs ws ∧
  After T K mg F H A (g ws μ) E fun w _ F' H' A' => ∀ v, RV K F' A' v w → Q v H'
theorem RVs.rds {K : PySem.W.Frag} {F H : Hp} {A : List Addr} {μ : Sto} (R : Rep K F H A μ) : ∀ {vs : List V} {ws : List Val} {xs : List PyData}, RVs K F A vs ws → rds μ ws = some xs → TpA K F H vs xs
  | _, _, xs, .nil, e => by
    simp only [Ip.rds, Option.some.injEq] at e
    subst e
    exact .nil
  | _, _, xs, .cons r t, e => by
    simp only [Ip.rds, Option.bind_eq_some_iff, Option.map_eq_some_iff] at e
    obtain ⟨x, e1, ys, e2, rfl⟩ := e
    exact .cons (R.rd r e1) (RVs.rds R t e2)
theorem se_call {f : Addr} {fd : FuncData} {ps : List Str} {x : Str} {n : Nat} {g : List Val → Sto → Res Val} {np : Nat} (tk : Takes X W)
    (Fo : FnOk X.prog X.w X.K X.mg X.base (L2.CX X.prog X.w) n f fd ps (spF T X.K X.mg g np)) (hr : Room n X.A) (hg : Gl X x) (hm : X.mg x = some (.ref f)) (hk : PySem.W.keepIn X.K (.ref f) = true) (hb : Binds X.K fd ps [])
    (hlen : ∀ ρ μ ws μ', fs ρ μ = .ok ws μ' → ws.length = np)
    (ha : PA X (a :: es) (tAX T X W fs)) (hdb : (x == ("__debug__" : Str)) = false) (he : starEach (a :: es) X.env = (false, eval a X.env) :: starEach es X.env) (hpl : (backTo pos (starEach es X.env)).any (·.1) = false) :
    PE X (.Call (.Name x p) (a :: es) [] pos) (tEX T X W fun ρ μ => (fs ρ μ).bind fun ws μ => g ws μ) := by
  refine PE.imp (pe_callS Fo hr hg hm hk hb (passAt tk) ha hdb he hpl) fun σ H Q ⟨ρ, F, A, μ, R, re, h⟩ => ?_
  have hl := hlen ρ μ
  have h' : After T X.K X.mg F H A ((fs ρ μ).bind fun ws μ => g ws μ) (fun cls d H' => W cls d σ H') (fun w _ F' H' A' => ∀ v, RV X.K F' A' v w → Q v H') := h
  clear h
  refine ⟨ρ, F, A, μ, R, re, ?_⟩
  cases hfs : fs ρ μ with
  | ok ws μ1 =>
    rw [hfs] at h'
    intro F1 H1 A1 x1 R1 vs rv
    exact ⟨rv.length.trans (hl ws μ1 hfs), F1, A1, μ1, ws, R1, rv, After.ext x1 h'⟩
  | exc e μ1 =>
    rw [hfs] at h'
    exact h'
  | bad =>
    rw [hfs] at h'
    exact h'
theorem se_bi {id : String} {x : Str} {g : List PyData → Option PyData} (hc : CallR X (.builtin id) (rDs X.K g)) (hg : Gl X x) (hm : X.mg x = none) (hv : bootBuiltins x = some (.builtin id)) (ha : PA X (a :: es) (tAX T X W fs)) (hn : x ≠ "__name__") (hdb : (x == ("__debug__" : Str)) = false)
    (he : starEach (a :: es) X.env = (false, eval a X.env) :: starEach es X.env) (hpl : (backTo pos (starEach es X.env)).any (·.1) = false) :
    PE X (.Call (.Name x p) (a :: es) [] pos) (tEX T X W fun ρ μ => (fs ρ μ).bind fun ws μ => Res.opt ((rds μ ws).bind fun xs => (g xs).map .d) μ) := by
  refine PE.imp (pe_callB hc hg hm hv ha hn hdb he hpl) fun σ H Q ⟨ρ, F, A, μ, R, re, h⟩ => ?_
  refine ⟨ρ, F, A, μ, R, re, h.bind.imp fun ws μ1 F1 H1 A1 x1 R1 h1 vs rs => ?_⟩
  obtain ⟨w, e, h3⟩ := h1.opt'
  simp only [Option.bind_eq_some_iff, Option.map_eq_some_iff] at e
  obtain ⟨xs, e1, z, e2, rfl⟩ := e
  exact ⟨F1, A1, μ1, xs, z, R1, rs.rds R1 e1, e2, h3.out⟩
theorem se_ty {id : String} {x : Str} {g : List PyData → Option PyData} (hc : CallR X (.type id) (rDs X.K g)) (hg : Gl X x) (hm : X.mg x = none) (hv : bootBuiltins x = some (.type id)) (ha : PA X (a :: es) (tAX T X W fs)) (hn : x ≠ "__name__") (hdb : (x == ("__debug__" : Str)) = false)
    (he : starEach (a :: es) X.env = (false, eval a X.env) :: starEach es X.env) (hpl : (backTo pos (starEach es X.env)).any (·.1) = false) :
    PE X (.Call (.Name x p) (a :: es) [] pos) (tEX T X W fun ρ μ => (fs ρ μ).bind fun ws μ => Res.opt ((rds μ ws).bind fun xs => (g xs).map .d) μ) := by
  refine PE.imp (pe_callTy hc hg hm hv ha hn hdb he hpl) fun σ H Q ⟨ρ, F, A, μ, R, re, h⟩ => ?_
  refine ⟨ρ, F, A, μ, R, re, h.bind.imp fun ws μ1 F1 H1 A1 x1 R1 h1 vs rs => ?_⟩
  obtain ⟨w, e, h3⟩ := h1.opt'
  simp only [Option.bind_eq_some_iff, Option.map_eq_some_iff] at e
  obtain ⟨xs, e1, z, e2, rfl⟩ := e
  exact ⟨F1, A1, μ1, xs, z, R1, rs.rds R1 e1, e2, h3.out⟩
/-- a new list, plain or a handle -/
theorem newL_out {m : Bool} {xs : List PyData} {F H : Hp} {A : List Addr} {μ : Sto} {E : XK} {Q : VK} {vs : List V} (R : Rep X.K F H A μ) (da : DA X.K F vs xs)
    (h : After T X.K X.mg F H A (newL m xs μ) E fun w _ F' H' A' => ∀ v, RV X.K F' A' v w → Q v H') {q : Addr} (hq : H q = none) : Q (.ref q) (upd H q (.lst vs)) := by
  unfold newL at h
  cases m with
  | true =>
    rw [if_pos rfl] at h
    obtain ⟨R', x'⟩ := R.newH hq da
    refine h _ _ _ x' R' (.ref q) ⟨q, ?_, rfl⟩
    rw [List.getElem?_append_right (by rw [R.len]; exact Nat.le_refl _), R.len]
    simp
  | false =>
    rw [if_neg Bool.false_ne_true] at h
    exact h.out.lst R da hq
def lisF (m : Bool) (fa : Env → Sto → Res Val) : Env → Sto → Res Val := fun ρ μ => (fa ρ μ).bind fun w μ => match w with
    | .s ns => newL m (ns.map .int) μ
    | w => (Res.opt ((rd μ w).bind itemsOf) μ).bind fun xs μ => newL m xs μ
theorem se_lis {m : Bool} (hg : Gl X "list") (hm : X.mg "list" = none) (ha : PE X a (tEX T X W fa)) (hst : starEach [a] X.env = (false, eval a X.env) :: starEach [] X.env) :
    PE X (.Call (.Name "list" p) [a] [] pos) (tEX T X W (lisF m fa)) := by
  refine PE.imp (pe_callTy li_ok hg hm (by decide +kernel) (pa_cons ha pa_nil hst) (by decide) (by decide) hst (by rfl)) fun σ H Q ⟨ρ, F, A, μ, R, re, h⟩ => ?_
  refine ⟨ρ, F, A, μ, R, re, h.bind.imp fun w μ1 F1 H1 A1 x1 R1 h1 v r => ?_⟩
  have key : ∀ w, ((Res.opt ((rd μ1 w).bind itemsOf) μ1).bind fun xs μ => newL m xs μ) = ((Res.opt ((rd μ1 w).bind itemsOf) μ1).bind fun xs μ => newL m xs μ) → RV X.K F1 A1 v w →
      After T X.K X.mg F1 H1 A1 ((Res.opt ((rd μ1 w).bind itemsOf) μ1).bind fun xs μ => newL m xs μ) (fun cls d H' => W cls d σ H') (fun w x F' H' A' => ∀ v, RV X.K F' A' v w → Q v H') → rLi X.K [v] H1 Q := by
    intro w _ r h1
    obtain ⟨xs, e, h3⟩ := h1.opt
    obtain ⟨x, e1, e2⟩ := Option.bind_eq_some_iff.mp e
    have t := R1.rd r e1
    cases x with
    | list ys =>
      cases e2
      obtain ⟨q, vs, rfl, hq, da⟩ := t
      exact ⟨_, q, vs, rfl, rfl, .inl (.inl (.inl hq)), fun l hl => newL_out R1 da h3 hl⟩
    | tuple ys =>
      cases e2
      obtain ⟨q, vs, rfl, hq, da⟩ := tp_tup t
      exact ⟨_, q, vs, rfl, rfl, .inr (SqT.sub R1.sub hq), fun l hl => newL_out R1 da h3 hl⟩
    | _ => cases e2
  cases w with
  | s ns =>
    obtain ⟨q, rfl, hq⟩ := r
    exact ⟨_, q, _, rfl, rfl, .inl (SqL.sub R1.sub hq), fun l hl => newL_out R1 (DA.nums ns) h1 hl⟩
  | d y => exact key _ rfl r h1
  | h n => exact key _ rfl r h1
  | x => exact key _ rfl r h1
  | t y n => exact key _ rfl r h1
  | kc y => exact key _ rfl r h1
theorem se_tup {k : Nat} (ha : PA X es (tAX T X W fs)) : PE X (.Tuple es k pos) (tEX T X W fun ρ μ => (fs ρ μ).bind fun ws μ => Res.opt ((dsOf ws).bind fun xs => if xs.length ≤ lim then some (.d (.tuple xs)) else none) μ) := by
  refine PE.imp (pe_tup ha) fun σ H Q ⟨ρ, F, A, μ, R, re, h⟩ => ?_
  refine ⟨ρ, F, A, μ, R, re, h.bind.imp fun ws μ1 F1 H1 A1 x1 R1 h1 vs rs => ?_⟩
  obtain ⟨w, e, h3⟩ := h1.opt'
  obtain ⟨xs, e1, e2⟩ := Option.bind_eq_some_iff.mp e
  split at e2
  · rename_i hz
    cases e2
    have da := dsOf_rv rs e1
    exact ⟨by rw [da.length, ← lim_eq]; exact hz, fun q hq => h3.out.tup R1 da hq⟩
  · cases e2
theorem se_lst {m : Bool} (ha : PA X es (tAX T X W fs)) : PE X (.List es pos) (tEX T X W fun ρ μ => (fs ρ μ).bind fun ws μ => (Res.opt (dsOf ws) μ).bind fun xs μ => if xs.length ≤ lim then newL m xs μ else .bad) := by
  refine PE.imp (pe_lst ha) fun σ H Q ⟨ρ, F, A, μ, R, re, h⟩ => ?_
  refine ⟨ρ, F, A, μ, R, re, h.bind.imp fun ws μ1 F1 H1 A1 x1 R1 h1 vs rs => ?_⟩
  obtain ⟨xs, e1, h3⟩ := h1.opt
  split at h3
  · rename_i hz
    have da := dsOf_rv rs e1
    exact ⟨by rw [da.length, ← lim_eq]; exact hz, fun q hq => newL_out R1 da h3 hq⟩
  · exact h3.elim
theorem se_isi {ty : Str} {t : Ty} {p2 : Pos} (hg : Gl X "isinstance") (hm : X.mg "isinstance" = none) (hgt : Gl X ty) (hmt : X.mg ty = none) (hty : bootBuiltins ty = some (.type (tyN t))) (hnt : ty ≠ "__name__") (hdt : (ty == ("__debug__" : Str)) = false)
    (ha : PE X a (tEX T X W fa)) (hst : starEach [a, .Name ty p2] X.env = (false, eval a X.env) :: starEach [.Name ty p2] X.env) :
    PE X (.Call (.Name "isinstance" p) [a, .Name ty p2] [] pos) (tEX T X W fun ρ μ => (fa ρ μ).bind fun w μ => Res.opt ((dOf w).map fun x => .d (.bool (isiD t x))) μ) := by
  have h2 : PA X [.Name ty p2] (tCons (tC (.ty (tyN t))) tNil) := pa_cons (pe_bltn hgt hmt hty rfl hnt hdt) pa_nil
  refine PE.imp (pe_callB (is_ok t) hg hm (by decide +kernel) (pa_cons ha h2 hst) (by decide) (by decide) hst (by rfl)) fun σ H Q ⟨ρ, F, A, μ, R, re, h⟩ => ?_
  refine ⟨ρ, F, A, μ, R, re, h.bind.imp fun w μ1 F1 H1 A1 x1 R1 h1 v r => ?_⟩
  obtain ⟨w', e, h3⟩ := h1.opt'
  obtain ⟨y, e1, rfl⟩ := Option.map_eq_some_iff.mp e
  exact ⟨F1, v, y, rfl, R1.sub, dOf_rv r e1, h3.out.bl R1⟩
theorem se_idx (ha : PE X a (tEX T X W fa)) (hb : PE X b (tEX T X W fb)) (hs : PlainIx b) :
    PE X (.Subscript a b pos) (tEX T X W fun ρ μ => (fa ρ μ).bind fun wa μ => (fb ρ μ).bind fun wi μ => Res.opt ((rd μ wa).bind fun x => (dOf wi).bind fun y => (idxD x y).map .d) μ) := by
  refine PE.imp (pe_ix ix_ok ha hb hs) fun σ H Q ⟨ρ, F, A, μ, R, re, h⟩ => ?_
  refine ⟨ρ, F, A, μ, R, re, h.bind.imp fun wa μ1 F1 H1 A1 x1 R1 h1 va ra => ?_⟩
  refine ⟨ρ, F1, A1, μ1, R1, re.ext x1, h1.bind.imp fun wb μ2 F2 H2 A2 x2 R2 h2 vb rb => ?_⟩
  obtain ⟨w, e, h3⟩ := h2.opt'
  simp only [Option.bind_eq_some_iff, Option.map_eq_some_iff] at e
  obtain ⟨x, e1, y, e2, z, e3, rfl⟩ := e
  exact ⟨F2, A2, μ2, x, y, z, R2, R2.rd (ra.ext x2) e1, d_tp R2 (dOf_rv rb e2), e3, h3.out⟩
def tOX (T : Tb) (X : Cx) (W : WX) (f : Env → Sto → Res (Option Int)) : TO := fun σ H Q => ∃ ρ F A μ, Rep X.K F H A μ ∧ RE X.K F A σ ρ ∧
  After T X.K X.mg F H A (f ρ μ) (fun cls d H' => W cls d σ H') fun i μ' F' H' A' => Q i H'
theorem PO.imp {o : Option Expr} {t t' : TO} (h : PO X o t) (g : ∀ σ H Q, t' σ H Q → t σ H Q) : PO X o t' := ⟨fun pins s σ H Q I q => h.run pins s σ H Q I (g σ H Q q)⟩
theorem so_no : PO X none (tOX T X W fun _ μ => .ok none μ) := by
  refine PO.imp po_none fun σ H Q ⟨ρ, F, A, μ, R, re, h⟩ => ?_
  exact h.here R
theorem so_so (ha : PE X a (tEX T X W fa)) : PO X (some a) (tOX T X W fun ρ μ => (fa ρ μ).bind fun w μ => Res.opt ((dOf w).bind fun x => (dInt x).map some) μ) := by
  refine PO.imp (po_some ha) fun σ H Q ⟨ρ, F, A, μ, R, re, h⟩ => ?_
  refine ⟨ρ, F, A, μ, R, re, h.bind.imp fun w μ1 F1 H1 A1 x1 R1 h1 v r => ?_⟩
  obtain ⟨i, e, h2⟩ := h1.opt'
  simp only [Option.bind_eq_some_iff, Option.map_eq_some_iff] at e
  obtain ⟨x, e1, j, e2, rfl⟩ := e
  cases x with
  | int j' =>
    cases e2
    cases (show D X.K F1 v (.int j) from dOf_rv r e1)
    exact ⟨j, rfl, h2.here R1⟩
  | _ => cases e2
def slF (fa : Env → Sto → Res Val) (fl fh : Env → Sto → Res (Option Int)) : Env → Sto → Res Val := fun ρ μ => (fa ρ μ).bind fun wa μ => (fl ρ μ).bind fun wl μ => (fh ρ μ).bind fun wh μ =>
    Res.opt ((rd μ wa).bind fun x => (slcD x wl wh).map .d) μ
theorem se_slc {lo hi : Option Expr} {fl fh : Env → Sto → Res (Option Int)} {p2 : Pos} (ha : PE X a (tEX T X W fa)) (hl : PO X lo (tOX T X W fl)) (hh : PO X hi (tOX T X W fh)) :
    PE X (.Subscript a (.Slice lo hi none p2) pos) (tEX T X W (slF fa fl fh)) := by
  refine PE.imp (pe_slice sl_ok ha hl hh) fun σ H Q ⟨ρ, F, A, μ, R, re, h⟩ => ?_
  refine ⟨ρ, F, A, μ, R, re, h.bind.imp fun wa μ1 F1 H1 A1 x1 R1 h1 va ra => ?_⟩
  refine ⟨ρ, F1, A1, μ1, R1, re.ext x1, h1.bind.imp fun wl μ2 F2 H2 A2 x2 R2 h2 => ?_⟩
  refine ⟨ρ, F2, A2, μ2, R2, (re.ext x1).ext x2, h2.bind.imp fun wh μ3 F3 H3 A3 x3 R3 h3 => ?_⟩
  obtain ⟨w, e, h4⟩ := h3.opt'
  simp only [Option.bind_eq_some_iff, Option.map_eq_some_iff] at e
  obtain ⟨x, e1, z, e4, rfl⟩ := e
  exact ⟨F3, A3, μ3, x, z, R3, R3.rd (ra.ext (x2.trans x3)) e1, e4, h4.out⟩
/-! methods that change a list -/
def mmF (f : MM) (i : Nat) (fs : Env → Sto → Res (List Val)) : Env → Sto → Res Val := fun ρ μ => match ρ[i]? with
    | some (some (.h n)) => match μ[n]? with
      | some (.lst _) => (fs ρ μ).bind fun ws μ => (Res.opt (dsOf ws) μ).bind fun ys μ => match μ[n]? with
        | some (.lst xs) => (Res.opt (mmD f xs ys) μ).bind fun r μ => .ok (.d r.2) (μ.set n (.lst r.1))
        | _ => .bad
      | _ => .bad
    | _ => .bad
theorem mm_step {f : MM} {n : Nat} {ws : List Val} {vs : List V} {v : V} {F H : Hp} {A : List Addr} {μ : Sto} {E : XK} {Q : VK} (R : Rep X.K F H A μ) (rv : RV X.K F A v (.h n)) (rs : RVs X.K F A vs ws)
    (h : After T X.K X.mg F H A ((Res.opt (dsOf ws) μ).bind fun ys μ => match μ[n]? with
      | some (.lst xs) => (Res.opt (mmD f xs ys) μ).bind fun r μ => .ok (.d r.2) (μ.set n (.lst r.1))
      | _ => .bad) E fun w _ F' H' A' => ∀ v, RV X.K F' A' v w → Q v H') : rMm X.K f v vs H Q := by
  obtain ⟨ys, e, h1⟩ := h.opt
  split at h1
  · rename_i xs hm
    obtain ⟨r, e2, h2⟩ := After.opt h1
    exact ⟨F, A, μ, n, xs, ys, r, R, rv, hm, dsOf_rv rs e, e2, fun w F' H' x' R' d => h2 _ _ _ x' R' w d⟩
  · exact h1.elim
/-- the receiver, a handle, is a list -/
theorem h_tyV {F H : Hp} {A : List Addr} {μ : Sto} {n : Nat} {v : V} {xs : List PyData} (R : Rep X.K F H A μ) (rv : RV X.K F A v (.h n)) (hm : μ[n]? = some (.lst xs)) : tyV X.K "list" v H := by
  obtain ⟨q, hq, rfl⟩ := rv
  obtain ⟨_, vs, h2, _⟩ := R.at_ n q _ hq hm
  exact .inl ⟨rfl, vs, .inl (.inl h2)⟩
theorem se_mm {f : MM} {i : Nat} {x : Str} {nm : Str} {id : String} {p1 : Pos} {apos cpos : Pos} (slot : Slot "list" nm id) (hty : typeOf (.builtin id) = pure (.type "method_descriptor")) (hm : MtM X id (rMm X.K f))
    (hN : X.N[i]? = some x) (hv : Vis X.env.scope x) (hd : (x == ("__debug__" : Str)) = false) (hcd : (x == ("__classdict__" : Str)) = false) (ha : PA X (a :: es) (tAX T X W fs))
    (hbase : attributeBase (.Name x p1) nm X.env (eval (.Name x p1) X.env) = eval (.Name x p1) X.env)
    (hfew : ((backTo cpos (starEach (a :: es) X.env)).all (fun x => !x.1) && (backToKw cpos (keywordEach [] X.env)).all (fun x => x.1.isSome) && decide ((a :: es).length + ([] : List Keyword).length + (if ([] : List Keyword).isEmpty then 0 else 1) < 30)) = true)
    (hline : (apos.endLine == cpos.line) = true) (hs : starEach (a :: es) X.env = (false, eval a X.env) :: starEach es X.env) (hplain : (backTo cpos (starEach es X.env)).any (·.1) = false) :
    PE X (.Call (.Attribute (.Name x p1) nm apos) (a :: es) [] cpos) (tEX T X W (mmF f i fs)) := by
  refine PE.imp (pe_bm PySem.F.plainAttrs_list slot hty hm (pe_var hN hv hd hcd) ha hbase hfew hline hs hplain) fun σ H Q ⟨ρ, F, A, μ, R, re, h⟩ => ?_
  unfold mmF at h
  split at h
  · rename_i n e
    split at h
    · rename_i xs hx
      obtain ⟨v, e1, rv⟩ := re.at_ i _ e
      refine ⟨v, e1, h_tyV R rv hx, ρ, F, A, μ, R, re, h.bind.imp fun ws μ1 F1 H1 A1 x1 R1 h1 vs rs => ?_⟩
      exact mm_step R1 (rv.ext x1) rs h1
    · exact h.elim
  · exact h.elim
theorem se_mm0 {f : MM} {i : Nat} {x : Str} {nm : Str} {id : String} {p1 : Pos} {apos cpos : Pos} (slot : Slot "list" nm id) (hty : typeOf (.builtin id) = pure (.type "method_descriptor")) (hm : MtM X id (rMm X.K f))
    (hN : X.N[i]? = some x) (hv : Vis X.env.scope x) (hd : (x == ("__debug__" : Str)) = false) (hcd : (x == ("__classdict__" : Str)) = false)
    (hbase : attributeBase (.Name x p1) nm X.env (eval (.Name x p1) X.env) = eval (.Name x p1) X.env) (hline : (apos.endLine == cpos.line) = true) :
    PE X (.Call (.Attribute (.Name x p1) nm apos) [] [] cpos) (tEX T X W (mmF f i fun _ μ => .ok [] μ)) := by
  refine PE.imp (pe_bm0 PySem.F.plainAttrs_list slot hty hm (pe_var hN hv hd hcd) hbase hline) fun σ H Q ⟨ρ, F, A, μ, R, re, h⟩ => ?_
  unfold mmF at h
  split at h
  · rename_i n e
    split at h
    · rename_i xs hx
      obtain ⟨v, e1, rv⟩ := re.at_ i _ e
      exact ⟨v, e1, h_tyV R rv hx, mm_step R rv .nil h⟩
    · exact h.elim
  · exact h.elim
theorem se_fz (ha : PE X a (tEX T X W fa)) : PE X a (tEX T X W fun ρ μ => (fa ρ μ).bind fun w μ => match w with
    | .h n => match μ[n]? with
      | some (.lst xs) => .ok (.d (.list xs)) (μ.set n (.fz (.list xs)))
      | some (.fz x) => .ok (.d x) μ
      | _ => .bad
    | w => .ok w μ) := by
  refine PE.imp ha fun σ H Q ⟨ρ, F, A, μ, R, re, h⟩ => ?_
  refine ⟨ρ, F, A, μ, R, re, h.bind.imp fun w μ1 F1 H1 A1 x1 R1 h1 v r => ?_⟩
  cases w with
  | d y => exact h1.here R1 v r
  | s ns => exact h1.here R1 v r
  | x => exact h1.here R1 v r
  | t y n => exact h1.here R1 v r
  | kc y => exact h1.here R1 v r
  | h n =>
    obtain ⟨q, hq, rfl⟩ := r
    dsimp only at h1
    split at h1
    · rename_i xs hm
      obtain ⟨F', R', x', d'⟩ := R1.freeze hq hm
      exact h1 F' H1 A1 x' R' _ d'
    · rename_i x hm
      exact h1.here R1 _ (R1.at_ n q _ hq hm).2
    · exact h1.elim
/-! more calls -/
theorem se_call0 {f : Addr} {fd : FuncData} {ps : List Str} {x : Str} {n : Nat} {g : List Val → Sto → Res Val} (tk : Takes X W)
    (Fo : FnOk X.prog X.w X.K X.mg X.base (L2.CX X.prog X.w) n f fd ps (spF T X.K X.mg g 0)) (hr : Room n X.A) (hg : Gl X x) (hm : X.mg x = some (.ref f)) (hk : PySem.W.keepIn X.K (.ref f) = true) (hb : Binds X.K fd ps []) (hdb : (x == ("__debug__" : Str)) = false) :
    PE X (.Call (.Name x p) [] [] pos) (tEX T X W fun ρ μ => g [] μ) := by
  refine ⟨fun pins s σ H Q I ⟨ρ, F, A, μ, R, re, h⟩ => ?_⟩
  refine wpAny_Call_Name_kw (ld_glob I hg hm ?_ hdb)
  exact PySem.W.callWith_K0 I.kIn hk (run_fnS (us := []) (vs := []) Fo hr hb (passAt tk σ) I .nil ⟨rfl, F, A, μ, [], R, .nil, h⟩)
/-- handles lent: their lists stand as plain data -/
theorem lend_ok {K : PySem.W.Frag} {F H : Hp} {A : List Addr} {μ : Sto} (R : Rep K F H A μ) {v : V} {w : Val} {x : PyData} (r : RV K F A v w) (e : lend μ w = some x) : D K (fun b => if b ∈ A then H b else F b) v x := by
  have s1 : Sub F (fun b => if b ∈ A then H b else F b) := fun b o h => by
    by_cases hb : b ∈ A
    · simp only [hb, if_true]
      exact R.sub _ _ h
    · simp only [hb, if_false]
      exact h
  have hh : ∀ {n : Nat} {a : Addr} {xs : List PyData}, A[n]? = some a → μ[n]? = some (.lst xs) → D K (fun b => if b ∈ A then H b else F b) (.ref a) (.list xs) := fun {n a xs} ha hm => by
    obtain ⟨_, vs, h2, h3⟩ := R.at_ n a _ ha hm
    refine .lst (vs := vs) ?_ (h3.sub s1)
    have : a ∈ A := List.mem_of_getElem? ha
    simp only [this, if_true]
    exact h2
  cases w with
  | d y =>
    simp only [lend, Option.some.injEq] at e
    subst e
    exact D.sub s1 r
  | kc y =>
    simp only [lend, Option.some.injEq] at e
    subst e
    exact DC.d _ r
  | h n =>
    obtain ⟨a, ha, rfl⟩ := r
    simp only [lend] at e
    split at e
    · rename_i xs hm
      cases e
      exact hh ha hm
    · rename_i x hm
      cases e
      exact (R.at_ n a _ ha hm).2.sub s1
    · cases e
  | t y n =>
    obtain ⟨p, vy, a, rfl, e2, e3, e4⟩ := r
    simp only [lend] at e
    split at e
    · rename_i xs hm
      cases e
      exact .lst (s1 _ _ e2) (.cons (e3.sub s1) (.cons (hh e4 hm) .nil))
    · rename_i x hm
      cases e
      exact .lst (s1 _ _ e2) (.cons (e3.sub s1) (.cons ((R.at_ n a _ e4 hm).2.sub s1) .nil))
    · cases e
  | s ns => cases e
  | x => cases e
theorem lends_ok {K : PySem.W.Frag} {F H : Hp} {A : List Addr} {μ : Sto} (R : Rep K F H A μ) : ∀ {vs : List V} {ws : List Val} {xs : List PyData}, RVs K F A vs ws → lends μ ws = some xs → RVs K (fun b => if b ∈ A then H b else F b) [] vs (xs.map .d)
  | _, _, xs, .nil, e => by
    simp only [lends, Option.some.injEq] at e
    subst e
    exact .nil
  | _, _, xs, .cons r t, e => by
    simp only [lends, Option.bind_eq_some_iff, Option.map_eq_some_iff] at e
    obtain ⟨x, e1, ys, e2, rfl⟩ := e
    exact .cons (lend_ok R r e1) (lends_ok R t e2)
theorem lends_len : ∀ {μ : Sto} {ws : List Val} {xs : List PyData}, lends μ ws = some xs → xs.length = ws.length
  | _, [], xs, e => by
    simp only [lends, Option.some.injEq] at e
    subst e
    rfl
  | _, w :: ws, xs, e => by
    simp only [lends, Option.bind_eq_some_iff, Option.map_eq_some_iff] at e
    obtain ⟨x, e1, ys, e2, rfl⟩ := e
    rw [List.length_cons, List.length_cons, lends_len e2]
def bcallF (g : List Val → Sto → Res Val) (fs : Env → Sto → Res (List Val)) : Env → Sto → Res Val := fun ρ μ => (fs ρ μ).bind fun ws μ => (Res.opt (lends μ ws) μ).bind fun xs μ => truB μ (g (xs.map .d) [])
theorem se_bcall {f : Addr} {fd : FuncData} {ps : List Str} {x : Str} {n : Nat} {g : List Val → Sto → Res Val} {np : Nat} (tk : Takes X W)
    (Fo : FnOk X.prog X.w X.K X.mg X.base (L2.CX X.prog X.w) n f fd ps (spF T X.K X.mg g np)) (hr : Room n X.A) (hg : Gl X x) (hm : X.mg x = some (.ref f)) (hk : PySem.W.keepIn X.K (.ref f) = true) (hb : Binds X.K fd ps [])
    (hlen : ∀ ρ μ ws μ', fs ρ μ = .ok ws μ' → ws.length = np)
    (ha : PA X (a :: es) (tAX T X W fs)) (hdb : (x == ("__debug__" : Str)) = false) (he : starEach (a :: es) X.env = (false, eval a X.env) :: starEach es X.env) (hpl : (backTo pos (starEach es X.env)).any (·.1) = false) :
    PE X (.Call (.Name x p) (a :: es) [] pos) (tEX T X W (bcallF g fs)) := by
  refine PE.imp (pe_callS Fo hr hg hm hk hb (passAt tk) ha hdb he hpl) fun σ H Q ⟨ρ, F, A, μ, R, re, h⟩ => ?_
  have hl := hlen ρ μ
  have h' : After T X.K X.mg F H A ((fs ρ μ).bind fun ws μ => (Res.opt (lends μ ws) μ).bind fun xs μ => truB μ (g (xs.map .d) [])) (fun cls d H' => W cls d σ H') (fun w _ F' H' A' => ∀ v, RV X.K F' A' v w → Q v H') := h
  clear h
  refine ⟨ρ, F, A, μ, R, re, ?_⟩
  cases hfs : fs ρ μ with
  | ok ws μ1 =>
    rw [hfs] at h'
    intro F1 H1 A1 x1 R1 vs rv
    refine ⟨rv.length.trans (hl ws μ1 hfs), ?_⟩
    have h2 := After.ext x1 h'
    rw [Res.bind_ok] at h2
    obtain ⟨xs, e, h3⟩ := After.opt h2
    have s1 : Sub F1 (fun b => if b ∈ A1 then H1 b else F1 b) := fun b o h => by
      by_cases hb : b ∈ A1
      · simp only [hb, if_true]
        exact R1.sub _ _ h
      · simp only [hb, if_false]
        exact h
    have s2 : Sub (fun b => if b ∈ A1 then H1 b else F1 b) H1 := fun b o h => by
      by_cases hb : b ∈ A1
      · simpa only [hb, if_true] using h
      · simp only [hb, if_false] at h
        exact R1.sub _ _ h
    refine ⟨_, [], [], xs.map .d, ⟨s2, List.nodup_nil, rfl, fun i b m e1 => by simp at e1⟩, lends_ok R1 rv e, ?_⟩
    unfold truB at h3
    split at h3
    · rename_i b μ2 hg2
      rw [hg2]
      intro F2 H2 A2 x2 R2 v dv
      have kp : ∀ b o, H1 b = some o → H2 b = some o := fun b o h => x2.kp b o h (by simp)
      have R3 : Rep X.K F1 H2 A1 μ1 := ⟨fun b o h => kp _ _ (R1.sub _ _ h), R1.nd, R1.len, fun i b m e1 e2 => by
        have h4 := R1.at_ i b m e1 e2
        cases m with
        | lst ys =>
          obtain ⟨g1, us, g2, g3⟩ := h4
          exact ⟨g1, us, kp _ _ g2, g3⟩
        | dct _ => exact h4.elim
        | fz y => exact h4⟩
      have x3 : Ext F1 H1 A1 F1 H2 A1 := ⟨Sub.refl _, ⟨[], by simp⟩, fun b o h _ => kp b o h, fun _ _ _ _ => rfl, fun _ h => .inl h⟩
      cases (show D X.K F2 v (.bool b) from dv)
      exact h3 _ _ _ x3 R3 _ (.bl b)
    · exact h3.elim
  | exc e μ1 =>
    rw [hfs] at h'
    exact h'
  | bad =>
    rw [hfs] at h'
    exact h'
def tixF (fa : Env → Sto → Res Val) : Env → Sto → Res Val := fun ρ μ => (fa ρ μ).bind fun w μ => match w with
    | .t _ n => .ok (.h n) μ
    | _ => .bad
theorem se_tix {b : Expr} (ha : PE X a (tEX T X W fa)) (hb : PE X b (tC (.int 1))) (hs : PlainIx b) : PE X (.Subscript a b pos) (tEX T X W (tixF fa)) := by
  refine PE.imp (pe_ix ix_list ha hb hs) fun σ H Q ⟨ρ, F, A, μ, R, re, h⟩ => ?_
  refine ⟨ρ, F, A, μ, R, re, (After.bind h).imp fun wa μ1 F1 H1 A1 x1 R1 h1 va ra => ?_⟩
  cases wa with
  | t y n =>
    obtain ⟨q, vy, c, rfl, e2, e3, e4⟩ := ra
    exact ⟨q, [vy, .ref c], 1, .ref c, rfl, rfl, .inl (.inl (R1.sub _ _ e2)), rfl, h1.here R1 _ ⟨c, e4, rfl⟩⟩
  | d y => exact h1.elim
  | h n => exact h1.elim
  | s ns => exact h1.elim
  | x => exact h1.elim
  | kc => exact h1.elim
def mmxF (f : MM) (fo : Env → Sto → Res Val) (fs : Env → Sto → Res (List Val)) : Env → Sto → Res Val := fun ρ μ => (fo ρ μ).bind fun wo μ => match wo with
    | .h n => match μ[n]? with
      | some (.lst _) => (fs ρ μ).bind fun ws μ => (Res.opt (dsOf ws) μ).bind fun ys μ => match μ[n]? with
        | some (.lst xs) => (Res.opt (mmD f xs ys) μ).bind fun r μ => .ok (.d r.2) (μ.set n (.lst r.1))
        | _ => .bad
      | _ => .bad
    | _ => .bad
theorem se_mmx {f : MM} {o : Expr} {nm : Str} {id : String} {apos cpos : Pos} {fo : Env → Sto → Res Val} (slot : Slot "list" nm id) (hty : typeOf (.builtin id) = pure (.type "method_descriptor")) (hm : MtM X id (rMm X.K f))
    (ho : PE X o (tEX T X W fo)) (ha : PA X (a :: es) (tAX T X W fs))
    (hbase : attributeBase o nm X.env (eval o X.env) = eval o X.env)
    (hfew : ((backTo cpos (starEach (a :: es) X.env)).all (fun x => !x.1) && (backToKw cpos (keywordEach [] X.env)).all (fun x => x.1.isSome) && decide ((a :: es).length + ([] : List Keyword).length + (if ([] : List Keyword).isEmpty then 0 else 1) < 30)) = true)
    (hline : (apos.endLine == cpos.line) = true) (hs : starEach (a :: es) X.env = (false, eval a X.env) :: starEach es X.env) (hplain : (backTo cpos (starEach es X.env)).any (·.1) = false) :
    PE X (.Call (.Attribute o nm apos) (a :: es) [] cpos) (tEX T X W (mmxF f fo fs)) := by
  refine PE.imp (pe_bm PySem.F.plainAttrs_list slot hty hm ho ha hbase hfew hline hs hplain) fun σ H Q ⟨ρ, F, A, μ, R, re, h⟩ => ?_
  refine ⟨ρ, F, A, μ, R, re, (After.bind h).imp fun wo μ0 F0 H0 A0 x0 R0 h0 vo ro => ?_⟩
  cases wo with
  | h n =>
    dsimp only at h0
    split at h0
    · rename_i xs hx
      refine ⟨h_tyV R0 ro hx, ρ, F0, A0, μ0, R0, re.ext x0, (After.bind h0).imp fun ws μ1 F1 H1 A1 x1 R1 h1 vs rs => ?_⟩
      exact mm_step R1 (ro.ext x1) rs h1
    · exact h0.elim
  | d y => exact h0.elim
  | s ns => exact h0.elim
  | x => exact h0.elim
  | t => exact h0.elim
  | kc => exact h0.elim
theorem DA.rng {K : PySem.W.Frag} {F : Hp} (lo : Int) : ∀ (l : List Nat), DA K F (l.map fun k => V.int (lo + (k : Nat))) (l.map fun k => PyData.int (lo + (k : Nat)))
  | [] => .nil
  | k :: l => .cons (.int _) (DA.rng lo l)
def lisrF (fa : Env → Sto → Res Val) : Env → Sto → Res Val := fun ρ μ => ((fa ρ μ).bind fun w μ => Res.opt ((dOf w).bind fun x => (dInt x).bind fun n => if rgOk n then some (rngD 0 n.toNat) else none) μ).bind fun xs μ => if xs.length ≤ lim then .ok (.d (.list xs)) μ else .bad
theorem rgOk_le' {i : Int} (h : rgOk i = true) : -(2 ^ 62) ≤ i ∧ i < 2 ^ 62 := by
  unfold rgOk at h
  simpa only [Bool.and_eq_true, decide_eq_true_eq] using h
theorem se_lisr {p2 pos2 : Pos} (hc : X.calm = true) (hgl : Gl X "list") (hml : X.mg "list" = none) (hg : Gl X "range") (hm : X.mg "range" = none) (ha : PE X a (tEX T X W fa)) (hst : starEach [a] X.env = (false, eval a X.env) :: starEach [] X.env) :
    PE X (.Call (.Name "list" p) [.Call (.Name "range" p2) [a] [] pos2] [] pos) (tEX T X W (lisrF fa)) := by
  refine PE.imp (pe_listRg hc hgl hml (prg_1 hg hm ha hst) rfl) fun σ H Q ⟨ρ, F, A, μ, R, re, h⟩ => ?_
  refine ⟨ρ, F, A, μ, R, re, (After.bind (After.bind h)).imp fun w μ1 F1 H1 A1 x1 R1 h1 v r => ?_⟩
  obtain ⟨xs, e, h2⟩ : ∃ xs, ((dOf w).bind fun x => (dInt x).bind fun n => if rgOk n then some (rngD 0 n.toNat) else none) = some xs ∧ After T X.K X.mg F1 H1 A1 (if xs.length ≤ lim then .ok (.d (.list xs)) μ1 else .bad) (fun cls d H' => W cls d σ H') (fun w _ F' H' A' => ∀ v, RV X.K F' A' v w → Q v H') := by
    cases ho : ((dOf w).bind fun x => (dInt x).bind fun n => if rgOk n then some (rngD 0 n.toNat) else none) with
    | none =>
      rw [ho] at h1
      exact h1.elim
    | some xs =>
      rw [ho] at h1
      exact ⟨xs, rfl, After.here R1 h1⟩
  simp only [Option.bind_eq_some_iff] at e
  obtain ⟨x, e1, n, e2, e3⟩ := e
  split at e3
  · rename_i hb
    cases e3
    cases x with
    | int j =>
      cases e2
      cases (show D X.K F1 v (.int n) from dOf_rv r e1)
      split at h2
      · rename_i hz
        have hl : (rngD 0 n.toNat).length = n.toNat := by simp [rngD]
        rw [hl] at hz
        have hb' := rgOk_le' hb
        refine ⟨n, rfl, ⟨by omega, by omega, hb'.1, hb'.2, ?_⟩, fun q hq => ?_⟩
        · have : n - 0 = n := by omega
          rw [this]
          exact hz
        · have ev : rgV 0 n = (List.range n.toNat).map fun k => V.int (0 + (k : Nat)) := by
            unfold rgV
            simp
          rw [ev]
          exact (After.out h2).lst R1 (DA.rng 0 _) hq
      · exact h2.elim
    | _ => cases e2
  · cases e3
theorem se_gloc {x : PyData} {v : V} (h : PE X a (tC v)) (d : DC X.K v x) : PE X a (tEX T X W fun _ μ => .ok (.kc x) μ) := by
  refine PE.imp h fun σ H Q ⟨ρ, F, A, μ, R, re, h⟩ => ?_
  exact h.here R v d
theorem kcT_of {w : Val} {x : PyData} {K : PySem.W.Frag} {F : Hp} {A : List Addr} {v : V} (e : kcT w = some x) (r : RV K F A v w) : ∃ a vs xs, v = .ref a ∧ x = .tuple xs ∧ KTup K a vs ∧ DCA K vs xs := by
  cases w with
  | kc y =>
    cases y with
    | tuple xs =>
      cases e
      cases (show DC K v (.tuple xs) from r) with
      | tup h t => exact ⟨_, _, _, rfl, rfl, h, t⟩
    | _ => cases e
  | _ => cases e
theorem se_idxc {b : Expr} {fb : Env → Sto → Res Val} (ha : PE X a (tEX T X W fa)) (hb : PE X b (tEX T X W fb)) (hs : PlainIx b) :
    PE X (.Subscript a b pos) (tEX T X W fun ρ μ => (fa ρ μ).bind fun wa μ => (fb ρ μ).bind fun wi μ => Res.opt ((kcT wa).bind fun x => (dOf wi).bind fun y => (idxD x y).map .kc) μ) := by
  refine PE.imp (pe_ix ix_tup ha hb hs) fun σ H Q ⟨ρ, F, A, μ, R, re, h⟩ => ?_
  refine ⟨ρ, F, A, μ, R, re, (After.bind h).imp fun wa μ1 F1 H1 A1 x1 R1 h1 va ra => ?_⟩
  refine ⟨ρ, F1, A1, μ1, R1, re.ext x1, (After.bind h1).imp fun wb μ2 F2 H2 A2 x2 R2 h2 vb rb => ?_⟩
  obtain ⟨w, e, h3⟩ := After.opt' h2
  simp only [Option.bind_eq_some_iff, Option.map_eq_some_iff] at e
  obtain ⟨x, e1, y, e2, z, e3, rfl⟩ := e
  obtain ⟨q, vs, xs, rfl, rfl, hk, hd⟩ := kcT_of e1 ra
  cases y with
  | int i =>
    cases (show D X.K F2 vb (.int i) from dOf_rv rb e2)
    simp only [idxD] at e3
    obtain ⟨j, e4, e5⟩ := Option.bind_eq_some_iff.mp e3
    obtain ⟨v, h4, h5⟩ := hd.get e5
    refine ⟨q, vs, i, v, rfl, rfl, hk.sq _, ?_, After.here R2 h3 v h5⟩
    unfold atI
    rw [hd.length]
    unfold ixP at e4
    rw [e4]
    exact h4
  | _ => simp [idxD] at e3
end
end Ip
set_option Elab.async false
set_option linter.all false
set_option maxRecDepth 100000
set_option maxHeartbeats 1000000
/-! Ip: methods that change nothing. -/
namespace Ip
open PySem PySem.Spec PyProof.Rows L2
section
variable {X : Cx}
def rPm (K : PySem.W.Frag) (f : PM) : V → List V → Hp → VK → Prop := fun x xs H Q => ∃ F A μ d ds z, Rep K F H A μ ∧ D K F x d ∧ DA K F xs ds ∧ pmD f d ds = some z ∧ Out K F H A μ z Q
theorem DA.one1 {K : PySem.W.Frag} {F : Hp} {vs : List V} {d : PyData} (h : DA K F vs [d]) : ∃ v, vs = [v] ∧ D K F v d := by
  cases h with
  | cons a b =>
    cases b
    exact ⟨_, rfl, a⟩
theorem pm_lindex (hu : X.A.units + 65 < cLine) : MtR X "list.index" (rPm X.K .lindex) := by
  intro pins s σ H x xs v us Q I rx rxs ⟨F, A, μ, d, ds, z, R, dx, dxs, e, o⟩
  unfold pmD at e
  split at e <;> first | (cases e; done) | skip
  all_goals first | (simp_all; done) | skip
  rename_i ys y _
  split at e
  · rename_i h
    simp only [Bool.and_eq_true] at h
    obtain ⟨j, e1, e2⟩ := Option.map_eq_some_iff.mp e
    subst e2
    obtain ⟨vy, rfl, dy⟩ := dxs.one1
    cases dx with
    | lst ha hda =>
      rename_i a vs
      obtain ⟨hj, h1, h2⟩ := List.findIdx?_eq_some_iff_getElem.mp e1
      refine mt_indexD hu pins s σ H _ _ v us Q I rx rxs ⟨_, vy, y, ys, j, ys[j], rfl, rfl, ?_, D.dp (noDict_ok h.1) (dy.sub R.sub), h.2, h.1, List.getElem?_eq_getElem hj, h1, fun m z' hm hz => ?_, o.int R⟩
      · exact D.dp (noDict_ok h.2) ((D.lst ha hda : D X.K F _ _).sub R.sub)
      · obtain ⟨hmm, rfl⟩ := List.getElem?_eq_some_iff.mp hz
        simpa using h2 m hm
  · cases e
theorem pm_lcount (hu : X.A.units + 65 < cLine) : MtR X "list.count" (rPm X.K .lcount) := by
  intro pins s σ H x xs v us Q I rx rxs ⟨F, A, μ, d, ds, z, R, dx, dxs, e, o⟩
  unfold pmD at e
  split at e <;> first | (cases e; done) | skip
  all_goals first | (simp_all; done) | skip
  rename_i ys y _
  split at e
  · rename_i hs
    simp only [Bool.and_eq_true] at hs
    cases e
    obtain ⟨vy, rfl, dy⟩ := dxs.one1
    obtain ⟨u, rfl, ru⟩ := rxs.one
    cases dx with
    | lst ha hda =>
      rename_i a vs
      cases rx
      obtain ⟨bs, r1⟩ := Dp.reads I y vy u (D.dp (noDict_ok hs.1) (dy.sub R.sub)) ru
      have hd : Dp X.K H (.ref a) (.list ys) := D.dp (noDict_ok hs.2) ((D.lst ha hda : D X.K F _ _).sub R.sub)
      have lay : PyData.canLayAll0 ys = true := SeqAt.canLay_of_shaped hs.2
      have room : X.A.units + 1 + min (PyData.depthAll ys) y.depth < cLine := room_in_shaped hs.1 hu
      cases hd with
      | lst hq hall =>
        obtain ⟨its, rv, ⟨⟨c0, d0, data, sl⟩, cap, hget, hc0, hd0, hdat⟩, _⟩ := I.list hq
        dsimp only at hc0 hdat
        subst hc0 hdat
        obtain ⟨as, rall⟩ := Dp.readsAll I ys _ its hall rv
        have hmap : its.map (SeqAt.readOf s.heap) = ys := SeqAt.readsAll_map ys its as lay rall
        refine call_meets PySem.F.slot_list_count ⟨_, hget, rfl⟩ PySem.F.entry_list_count (PySem.F.args_list_count_2 _ _)
          (SeqAt.list_countAt a its.toArray cap d0 sl u (fun t => PyData.eqv (SeqAt.readOf s.heap t) y)) ⟨hget, SeqAt.items_eqAt (vs := its.toArray) (show ReadsAll s.heap its.toArray.toList ys as from rall) r1 lay (SeqAt.canLay_of_shaped hs.1) room, ?_⟩
        have ec : its.toArray.toList.countP (fun t => PyData.eqv (SeqAt.readOf s.heap t) y) = ys.countP fun t => PyData.eqv t y := by
          rw [← hmap, List.countP_map]
          rfl
        refine ⟨.int ((ys.countP fun t => PyData.eqv t y : Nat) : Int), H, I.tok _, ⟨s.toks, ?_⟩, o.int R⟩
        rw [ec]
  · cases e
theorem DA.strs {K : PySem.W.Frag} {F : Hp} : ∀ (ys : List Str), DA K F (ys.map V.str) (ys.map PyData.str)
  | [] => .nil
  | y :: ys => .cons (.str y) (DA.strs ys)
theorem pm_split1 : MtR X "str.split" (rPm X.K .split1) := by
  intro pins s σ H x xs v us Q I rx rxs ⟨F, A, μ, d, ds, z, R, dx, dxs, e, o⟩
  unfold pmD at e
  split at e <;> first | (cases e; done) | skip
  all_goals first | (simp_all; done) | skip
  rename_i a b _
  split at e
  · rename_i hs
    cases e
    obtain ⟨vy, rfl, dy⟩ := dxs.one1
    cases dx
    cases dy
    refine mt_split pins s σ H _ _ v us Q I rx rxs ⟨a, b, rfl, rfl, ?_, by rw [← lim_eq]; exact hs.2, fun p hp => o.lst R (DA.strs _) hp⟩
    simpa using hs.1
  · cases e
theorem pm_tindex : MtR X "tuple.index" (rPm X.K .tindex) := by
  intro pins s σ H x xs v us Q I rx rxs ⟨F, A, μ, d, ds, z, R, dx, dxs, e, o⟩
  unfold pmD at e
  split at e <;> first | (cases e; done) | skip
  all_goals first | (simp_all; done) | skip
  rename_i ys y _
  simp only [Option.bind_eq_some_iff, Option.map_eq_some_iff] at e
  obtain ⟨zs, e1, j, e2, rfl⟩ := e
  obtain ⟨vy, rfl, dy⟩ := dxs.one1
  cases dy
  cases dx with
  | tup ha hda =>
    rename_i a vs
    have ev := DA.strD hda e1
    subst ev
    obtain ⟨hj, h1, h2⟩ := List.findIdx?_eq_some_iff_getElem.mp e2
    refine mt_tup_index pins s σ H _ _ v us Q I rx rxs ⟨_, zs, y, j, rfl, rfl, SqT.sub R.sub ha, ?_, fun m hm hz => ?_, o.int R⟩
    · rw [List.getElem?_eq_getElem hj]
      exact congrArg some (of_decide_eq_true h1)
    · obtain ⟨hmm, he⟩ := List.getElem?_eq_some_iff.mp hz
      have := h2 m hm
      rw [he] at this
      simp at this
theorem pm_scount : MtR X "str.count" (rPm X.K .scount) := by
  intro pins s σ H x xs v us Q I rx rxs ⟨F, A, μ, d, ds, z, R, dx, dxs, e, o⟩
  unfold pmD at e
  split at e <;> first | (cases e; done) | skip
  all_goals first | (simp_all; done) | skip
  cases e
  obtain ⟨vy, rfl, dy⟩ := dxs.one1
  cases dx
  cases dy
  exact mt_count pins s σ H _ _ v us Q I rx rxs ⟨_, _, rfl, rfl, o.int R⟩
theorem pm_sindex : MtR X "str.index" (rPm X.K .sindex) := by
  intro pins s σ H x xs v us Q I rx rxs ⟨F, A, μ, d, ds, z, R, dx, dxs, e, o⟩
  unfold pmD at e
  split at e <;> first | (cases e; done) | skip
  all_goals first | (simp_all; done) | skip
  obtain ⟨vy, rfl, dy⟩ := dxs.one1
  cases dx
  cases dy
  split at e
  · rename_i i rest hi
    cases e
    exact mt_sindex pins s σ H _ _ v us Q I rx rxs ⟨_, _, i, rest, rfl, rfl, hi, o.int R⟩
  · cases e
/-- the name, the type and the function of a method -/
def pmName : PM → Str
  | .lcount => "count"
  | .lindex => "index"
  | .split1 => "split"
  | .tindex => "index"
  | .scount => "count"
  | .sindex => "index"
end
section
variable {T : Tb} {X : Cx} {W : WX} {a b c : Expr} {es : List Expr} {pos p : Pos} {fa fb fc : Env → Sto → Res Val} {fs : Env → Sto → Res (List Val)}
def pmTy : PM → String
  | .lcount => "list"
  | .lindex => "list"
  | .split1 => "str"
  | .tindex => "tuple"
  | .scount => "str"
  | .sindex => "str"
theorem tyV_of {f : PM} {K : PySem.W.Frag} {F H : Hp} {v : V} {d : PyData} (s : Sub F H) (dv : D K F v d) (h : pmT f d = true) : tyV K (pmTy f) v H := by
  cases f <;> cases dv <;> first | (simp [pmT] at h; done) | skip
  · rename_i e _
    exact .inl ⟨rfl, _, .inl (.inl (s _ _ e))⟩
  · rename_i e _
    exact .inl ⟨rfl, _, .inl (.inl (s _ _ e))⟩
  all_goals rfl
def pmF (f : PM) (fa : Env → Sto → Res Val) (fs : Env → Sto → Res (List Val)) : Env → Sto → Res Val := fun ρ μ => (fa ρ μ).bind fun w μ => (Res.opt ((dOf w).bind fun x => if pmT f x then some x else none) μ).bind fun x μ => (fs ρ μ).bind fun ws μ => Res.opt ((dsOf ws).bind fun xs => (pmD f x xs).map .d) μ
theorem se_pm {f : PM} {o : Expr} {nm : Str} {id : String} {apos cpos : Pos} (pa : PlainAttrs (pmTy f)) (slot : Slot (pmTy f) nm id) (hty : typeOf (.builtin id) = pure (.type "method_descriptor")) (hm : MtR X id (rPm X.K f))
    (ho : PE X o (tEX T X W fa)) (ha : PA X (a :: es) (tAX T X W fs))
    (hbase : attributeBase o nm X.env (eval o X.env) = eval o X.env)
    (hfew : ((backTo cpos (starEach (a :: es) X.env)).all (fun x => !x.1) && (backToKw cpos (keywordEach [] X.env)).all (fun x => x.1.isSome) && decide ((a :: es).length + ([] : List Keyword).length + (if ([] : List Keyword).isEmpty then 0 else 1) < 30)) = true)
    (hline : (apos.endLine == cpos.line) = true) (hs : starEach (a :: es) X.env = (false, eval a X.env) :: starEach es X.env) (hplain : (backTo cpos (starEach es X.env)).any (·.1) = false) :
    PE X (.Call (.Attribute o nm apos) (a :: es) [] cpos) (tEX T X W (pmF f fa fs)) := by
  refine PE.imp (pe_bm pa slot hty hm ho ha hbase hfew hline hs hplain) fun σ H Q ⟨ρ, F, A, μ, R, re, h⟩ => ?_
  refine ⟨ρ, F, A, μ, R, re, h.bind.imp fun w μ1 F1 H1 A1 x1 R1 h1 v r => ?_⟩
  obtain ⟨d, e, h2⟩ := h1.opt
  obtain ⟨d', e1, e2⟩ := Option.bind_eq_some_iff.mp e
  split at e2
  · rename_i ht
    cases e2
    have dv := dOf_rv r e1
    refine ⟨tyV_of R1.sub dv ht, ρ, F1, A1, μ1, R1, re.ext x1, h2.bind.imp fun ws μ2 F2 H2 A2 x2 R2 h3 vs rs => ?_⟩
    obtain ⟨w2, e3, h4⟩ := h3.opt'
    simp only [Option.bind_eq_some_iff, Option.map_eq_some_iff] at e3
    obtain ⟨xs, e4, z, e5, rfl⟩ := e3
    exact ⟨F2, A2, μ2, d, xs, z, R2, dv.sub x2.ff, dsOf_rv rs e4, e5, h4.out⟩
  · cases e2
def pmcF (f : PM) (fa : Env → Sto → Res Val) (fs : Env → Sto → Res (List Val)) : Env → Sto → Res Val := fun ρ μ => (fa ρ μ).bind fun w μ => (Res.opt (kcT w) μ).bind fun x μ => (fs ρ μ).bind fun ws μ => Res.opt ((dsOf ws).bind fun xs => (pmcD f x xs).map .d) μ
theorem se_pmc {f : PM} (hf : f = .tindex) {o : Expr} {apos cpos : Pos} 
    (ho : PE X o (tEX T X W fa)) (ha : PA X (a :: es) (tAX T X W fs))
    (hbase : attributeBase o "index" X.env (eval o X.env) = eval o X.env)
    (hfew : ((backTo cpos (starEach (a :: es) X.env)).all (fun x => !x.1) && (backToKw cpos (keywordEach [] X.env)).all (fun x => x.1.isSome) && decide ((a :: es).length + ([] : List Keyword).length + (if ([] : List Keyword).isEmpty then 0 else 1) < 30)) = true)
    (hline : (apos.endLine == cpos.line) = true) (hs : starEach (a :: es) X.env = (false, eval a X.env) :: starEach es X.env) (hplain : (backTo cpos (starEach es X.env)).any (·.1) = false) :
    PE X (.Call (.Attribute o "index" apos) (a :: es) [] cpos) (tEX T X W (pmcF f fa fs)) := by
  subst hf
  refine PE.imp (pe_bm PySem.F.plainAttrs_tuple PySem.F.slot_tuple_index PySem.F.type_tuple_index pm_tindex ho ha hbase hfew hline hs hplain) fun σ H Q ⟨ρ, F, A, μ, R, re, h⟩ => ?_
  refine ⟨ρ, F, A, μ, R, re, (After.bind h).imp fun w μ1 F1 H1 A1 x1 R1 h1 v r => ?_⟩
  obtain ⟨d, e, h2⟩ := After.opt h1
  obtain ⟨q, vs, xs, rfl, rfl, hk, hd⟩ := kcT_of e r
  have hk' := hk
  obtain ⟨o', its, n, g1, g2, g3, _⟩ := hk'
  refine ⟨.inr (.inl ⟨rfl, o', g1, g2, g3⟩), ρ, F1, A1, μ1, R1, re.ext x1, (After.bind h2).imp fun ws μ2 F2 H2 A2 x2 R2 h3 us rs => ?_⟩
  obtain ⟨w2, e3, h4⟩ := After.opt' h3
  simp only [Option.bind_eq_some_iff, Option.map_eq_some_iff] at e3
  obtain ⟨ys, e4, z, e5, rfl⟩ := e3
  exact ⟨F2, A2, μ2, .tuple xs, ys, z, R2, .tup (hk.sq _) (DCA.d _ hd), dsOf_rv rs e4, e5, h4.out⟩
end
end Ip
set_option Elab.async false
set_option linter.all false
set_option maxRecDepth 100000
set_option maxHeartbeats 1000000
/-! Ip: targets, iterators, comprehensions. -/
namespace Ip
open PySem L2
/-! ### targets -/
def ctLen : CT → Nat
  | .cons _ r => ctLen r + 1
  | _ => 0
def ctSlots : CT → List Nat
  | .nm i => [i]
  | .nil => []
  | .cons a r => ctSlots a ++ ctSlots r
def visB (sc : Scope) (x : Str) : Bool := match sc.names.lookup x with
  | some .local => true
  | some .cell => true
  | some .free => true
  | _ => false
/-- may be stored: a local, or (in a def's own block) a cell -/
def locB (top : Bool) (sc : Scope) (x : Str) : Bool := match sc.names.lookup x with
  | some .local => true
  | some .cell => top
  | _ => false
def okName (x : Str) : Bool := !(x == ("__debug__" : Str)) && !(x == ("__classdict__" : Str))
mutual
def chkT (N : List Str) (sc : Scope) (top : Bool) : CT → Expr → Bool
  | .nm i, .Name x _ => decide (N[i]? = some x) && locB top sc x
  | .nil, .Tuple [] _ _ => true
  | .cons a r, .Tuple (e :: es) _ _ => chkT N sc top a e && chkTs N sc top r es
  | _, _ => false
def chkTs (N : List Str) (sc : Scope) (top : Bool) : CT → List Expr → Bool
  | .nil, [] => true
  | .cons a r, e :: es => chkT N sc top a e && chkTs N sc top r es
  | _, _ => false
end
theorem lookup_vis {sc : Scope} {x : Str} (h : visB sc x = true) : Vis sc x := by
  unfold visB at h
  split at h
  · exact .inl (by assumption)
  · exact .inr (.inl (by assumption))
  · exact .inr (.inr (by assumption))
  · cases h
/-- σ' differs from σ at the slots of own alone -/
structure Only (own : List Nat) (σ σ' : L2.St) : Prop where
  len : σ'.length = σ.length
  at_ : ∀ j, j ∉ own → σ'[j]? = σ[j]?
theorem Only.refl (own : List Nat) (σ : L2.St) : Only own σ σ := ⟨rfl, fun _ _ => rfl⟩
theorem Only.trans {o1 o2 : List Nat} {σ σ1 σ2 : L2.St} (a : Only o1 σ σ1) (b : Only o2 σ1 σ2) : Only (o1 ++ o2) σ σ2 :=
  ⟨b.len.trans a.len, fun j hj => by
    simp only [List.mem_append, not_or] at hj
    exact (b.at_ j hj.2).trans (a.at_ j hj.1)⟩
theorem Only.mono {o1 o2 : List Nat} {σ σ1 : L2.St} (a : Only o1 σ σ1) (h : ∀ j ∈ o1, j ∈ o2) : Only o2 σ σ1 := ⟨a.len, fun j hj => a.at_ j fun z => hj (h j z)⟩
theorem wipe_get (σ : L2.St) (j : Nat) : ∀ own : List Nat, (wipe σ own)[j]? = if j ∈ own then (if j < σ.length then some none else none) else σ[j]?
  | [] => by simp [wipe]
  | v :: vs => by
    unfold wipe
    by_cases h : v = j
    · subst h
      by_cases hl : v < σ.length
      · rw [List.getElem?_set_self (by rw [wipe_length]; exact hl)]
        simp [hl]
      · rw [List.getElem?_eq_none (by rw [List.length_set, wipe_length]; omega)]
        simp [hl]
    · rw [List.getElem?_set_ne h, wipe_get σ j vs]
      have : (j ∈ v :: vs) ↔ j ∈ vs := by
        simp only [List.mem_cons]
        exact ⟨fun z => z.resolve_left fun e => h e.symm, .inr⟩
      simp only [this]
theorem Only.wipe_eq {own : List Nat} {σ σ' : L2.St} (o : Only own σ σ') : wipe σ' own = wipe σ own := by
  apply List.ext_getElem?
  intro j
  rw [wipe_get, wipe_get, o.len]
  by_cases h : j ∈ own
  · rw [if_pos h, if_pos h]
  · rw [if_neg h, if_neg h, o.at_ j h]
theorem Only.wiped (own : List Nat) (σ : L2.St) : Only own σ (wipe σ own) := ⟨wipe_length _ _, fun j hj => by rw [wipe_get, if_neg hj]⟩

def gT (K : PySem.W.Frag) (t : CT) : TG := fun v σ H Q => ∃ ρ F A w ρ', Sub F H ∧ RE K F A σ ρ ∧ RV K F A v w ∧ asg t w ρ = some ρ' ∧ ∀ σ', Only (ctSlots t) σ σ' → RE K F A σ' ρ' → Q σ' H
def gTs (K : PySem.W.Frag) (t : CT) : TGs := fun vs σ H Q => ∃ ρ F A xs ρ', Sub F H ∧ RE K F A σ ρ ∧ DA K F vs xs ∧ asg t (.d (.tuple xs)) ρ = some ρ' ∧ ∀ σ', Only (ctSlots t) σ σ' → RE K F A σ' ρ' → Q σ' H
theorem PG.imp {X : Cx} {e : Expr} {t t' : TG} (h : PG X e t) (g : ∀ v σ H Q, t' v σ H Q → t v σ H Q) : PG X e t' := ⟨fun pins s σ H v u Q I r q => h.run pins s σ H v u Q I r (g v σ H Q q)⟩
theorem PGs.imp {X : Cx} {es : List Expr} {t t' : TGs} (h : PGs X es t) (g : ∀ v σ H Q, t' v σ H Q → t v σ H Q) : PGs X es t' := ⟨fun pins s σ H v u Q I r q => h.run pins s σ H v u Q I r (g v σ H Q q)⟩
theorem asg_len {xs : List PyData} : ∀ {t : CT} {es : List Expr} {N : List Str} {sc : Scope} {top : Bool} {xs : List PyData} {ρ ρ' : Env}, chkTs N sc top t es = true → asg t (.d (.tuple xs)) ρ = some ρ' → xs.length = es.length
  | .nil, [], _, _, _, [], _, _, _, _ => rfl
  | .nil, [], _, _, _, _ :: _, _, _, _, e => by simp [asg] at e
  | .nil, _ :: _, _, _, _, _, _, _, c, _ => by simp [chkTs] at c
  | .cons _ _, [], _, _, _, _, _, _, c, _ => by simp [chkTs] at c
  | .cons _ _, _ :: _, _, _, _, [], _, _, _, e => by simp [asg] at e
  | .cons a r, f :: es, N, sc, top, x :: xs, ρ, ρ', c, e => by
    simp only [chkTs, Bool.and_eq_true] at c
    simp only [asg, Option.bind_eq_some_iff] at e
    obtain ⟨ρ1, _, e2⟩ := e
    rw [List.length_cons, List.length_cons, asg_len (xs := xs) c.2 e2]
  | .nm _, _, _, _, _, _, _, _, c, _ => by simp [chkTs] at c
section
variable {X : Cx} {N : List Str} {sc : Scope} {top : Bool}
theorem nostarT : ∀ {t : CT} {es : List Expr}, chkTs N sc top t es = true → (assignEach es X.env).length = es.length ∧ (assignEach es X.env).findIdx? (·.1) = none
  | .nil, [], _ => ⟨rfl, rfl⟩
  | .nil, _ :: _, c => by simp [chkTs] at c
  | .nm _, _, c => by simp [chkTs] at c
  | .cons _ _, [], c => by simp [chkTs] at c
  | .cons a r, e :: es, c => by
    simp only [chkTs, Bool.and_eq_true] at c
    obtain ⟨h1, h2⟩ := nostarT c.2
    have key : assignEach (e :: es) X.env = (false, assign e X.env) :: assignEach es X.env := by
      cases e <;> first | rfl | (cases a <;> simp [chkT] at c)
    rw [key]
    exact ⟨by rw [List.length_cons, h1, List.length_cons], by rw [List.findIdx?_cons]; simp [h2]⟩
theorem pgs_cons_ct {a r : CT} {f : Expr} {es : List Expr} (h1 : PG X f (gT X.K a)) (h2 : PGs X es (gTs X.K r)) (c : chkTs N sc top (.cons a r) (f :: es) = true) : PGs X (f :: es) (gTs X.K (.cons a r)) := by
  have key : (assignEach (f :: es) X.env).map (·.2) = assign f X.env :: (assignEach es X.env).map (·.2) := by
    simp only [chkTs, Bool.and_eq_true] at c
    cases f <;> first | rfl | (cases a <;> simp [chkT] at c)
  refine PGs.imp (pgs_cons h1 h2 key) fun vs σ H Q ⟨ρ, F, A, xs, ρ', sub, re, da, e, q⟩ => ?_
  cases da with
  | nil => simp [asg] at e
  | cons d t =>
    simp only [asg, Option.bind_eq_some_iff] at e
    obtain ⟨ρ1, e1, e2⟩ := e
    refine ⟨_, _, rfl, ρ, F, A, .d _, ρ1, sub, re, d, e1, fun σ1 o1 re1 => ?_⟩
    exact ⟨ρ1, F, A, _, ρ', sub, re1, t, e2, fun σ2 o2 re2 => q σ2 (o1.trans o2) re2⟩
mutual
theorem pg_ct (hc : X.calm = true) (hX : X.N = N) (nd : N.Nodup) (hs : X.env.scope = sc) (hf : top = true → ∀ x, X.fn x = true) : ∀ (t : CT) (e : Expr), chkT N sc top t e = true → PG X e (gT X.K t)
  | .nm i, .Name x p, c => by
    simp only [chkT, Bool.and_eq_true, decide_eq_true_eq] at c
    have hl := c.2
    unfold locB at hl
    have base : PG X (.Name x p) (gName i) := by
      split at hl
      · rename_i e
        exact pg_name (hX ▸ nd) (by rw [hX]; exact c.1) (.inl (hs ▸ e)) (.inr (hs ▸ e))
      · rename_i e
        exact pg_name (hX ▸ nd) (by rw [hX]; exact c.1) (.inr (hs ▸ e)) (.inl (hf hl x))
      · cases hl
    refine PG.imp base fun v σ H Q ⟨ρ, F, A, w, ρ', sub, re, rv, e, q⟩ => ?_
    simp only [asg, Option.some.injEq] at e
    subst e
    refine q _ ⟨List.length_set, fun j hj => ?_⟩ (re.set rv)
    rw [List.getElem?_set_ne (fun z => hj (by simp [ctSlots, z]))]
  | .nil, .Tuple [] k p, c => by
    refine PG.imp (pg_tup hc (pgs_ct hc hX nd hs hf .nil [] (by simp [chkTs])) rfl rfl) fun v σ H Q ⟨ρ, F, A, w, ρ', sub, re, rv, e, q⟩ => ?_
    cases w with
    | d y =>
      cases y with
      | tuple xs =>
        obtain ⟨a, vs, rfl, ha, da⟩ := tp_tup (H := H) (show Tp X.K F H v (.tuple xs) from rv)
        exact ⟨a, vs, rfl, SqT.sub sub ha, by rw [da.length]; exact asg_len (es := []) (N := N) (sc := sc) (top := top) (xs := xs) (by simp [chkTs]) e, ρ, F, A, xs, ρ', sub, re, da, e, q⟩
      | _ => simp [asg] at e
    | h n => simp [asg] at e
    | s ns => simp [asg] at e
    | x => simp [asg] at e
    | t => simp [asg] at e
    | kc => simp [asg] at e
  | .cons a r, .Tuple (f :: es) k p, c => by
    have c' : chkTs N sc top (.cons a r) (f :: es) = true := by simpa [chkT, chkTs] using c
    have cc := c'
    simp only [chkTs, Bool.and_eq_true] at cc
    have hes : PGs X (f :: es) (gTs X.K (.cons a r)) := pgs_cons_ct (pg_ct hc hX nd hs hf a f cc.1) (pgs_ct hc hX nd hs hf r es cc.2) c'
    refine PG.imp (pg_tup hc hes (nostarT c').1 (nostarT c').2) fun v σ H Q ⟨ρ, F, A, w, ρ', sub, re, rv, e, q⟩ => ?_
    cases w with
    | d y =>
      cases y with
      | tuple xs =>
        obtain ⟨a', vs, rfl, ha, da⟩ := tp_tup (H := H) (show Tp X.K F H v (.tuple xs) from rv)
        exact ⟨a', vs, rfl, SqT.sub sub ha, by rw [da.length]; exact asg_len (xs := xs) c' e, ρ, F, A, xs, ρ', sub, re, da, e, q⟩
      | _ => simp [asg] at e
    | h n => simp [asg] at e
    | s ns => simp [asg] at e
    | x => simp [asg] at e
    | t => simp [asg] at e
    | kc => simp [asg] at e
  | .nm _, .BoolOp .., c => by simp [chkT] at c
  | .nm _, .NamedExpr .., c => by simp [chkT] at c
  | .nm _, .BinOp .., c => by simp [chkT] at c
  | .nm _, .UnaryOp .., c => by simp [chkT] at c
  | .nm _, .Lambda .., c => by simp [chkT] at c
  | .nm _, .IfExp .., c => by simp [chkT] at c
  | .nm _, .Dict .., c => by simp [chkT] at c
  | .nm _, .Set .., c => by simp [chkT] at c
  | .nm _, .ListComp .., c => by simp [chkT] at c
  | .nm _, .SetComp .., c => by simp [chkT] at c
  | .nm _, .DictComp .., c => by simp [chkT] at c
  | .nm _, .GeneratorExp .., c => by simp [chkT] at c
  | .nm _, .Await .., c => by simp [chkT] at c
  | .nm _, .Yield .., c => by simp [chkT] at c
  | .nm _, .YieldFrom .., c => by simp [chkT] at c
  | .nm _, .Compare .., c => by simp [chkT] at c
  | .nm _, .Call .., c => by simp [chkT] at c
  | .nm _, .FormattedValue .., c => by simp [chkT] at c
  | .nm _, .JoinedStr .., c => by simp [chkT] at c
  | .nm _, .Constant .., c => by simp [chkT] at c
  | .nm _, .Attribute .., c => by simp [chkT] at c
  | .nm _, .Subscript .., c => by simp [chkT] at c
  | .nm _, .Starred .., c => by simp [chkT] at c
  | .nm _, .List .., c => by simp [chkT] at c
  | .nm _, .Slice .., c => by simp [chkT] at c
  | .nm _, .Tuple .., c => by simp [chkT] at c
  | .nil, .BoolOp .., c => by simp [chkT] at c
  | .nil, .NamedExpr .., c => by simp [chkT] at c
  | .nil, .BinOp .., c => by simp [chkT] at c
  | .nil, .UnaryOp .., c => by simp [chkT] at c
  | .nil, .Lambda .., c => by simp [chkT] at c
  | .nil, .IfExp .., c => by simp [chkT] at c
  | .nil, .Dict .., c => by simp [chkT] at c
  | .nil, .Set .., c => by simp [chkT] at c
  | .nil, .ListComp .., c => by simp [chkT] at c
  | .nil, .SetComp .., c => by simp [chkT] at c
  | .nil, .DictComp .., c => by simp [chkT] at c
  | .nil, .GeneratorExp .., c => by simp [chkT] at c
  | .nil, .Await .., c => by simp [chkT] at c
  | .nil, .Yield .., c => by simp [chkT] at c
  | .nil, .YieldFrom .., c => by simp [chkT] at c
  | .nil, .Compare .., c => by simp [chkT] at c
  | .nil, .Call .., c => by simp [chkT] at c
  | .nil, .FormattedValue .., c => by simp [chkT] at c
  | .nil, .JoinedStr .., c => by simp [chkT] at c
  | .nil, .Constant .., c => by simp [chkT] at c
  | .nil, .Attribute .., c => by simp [chkT] at c
  | .nil, .Subscript .., c => by simp [chkT] at c
  | .nil, .Starred .., c => by simp [chkT] at c
  | .nil, .List .., c => by simp [chkT] at c
  | .nil, .Slice .., c => by simp [chkT] at c
  | .nil, .Name .., c => by simp [chkT] at c
  | .cons _ _, .BoolOp .., c => by simp [chkT] at c
  | .cons _ _, .NamedExpr .., c => by simp [chkT] at c
  | .cons _ _, .BinOp .., c => by simp [chkT] at c
  | .cons _ _, .UnaryOp .., c => by simp [chkT] at c
  | .cons _ _, .Lambda .., c => by simp [chkT] at c
  | .cons _ _, .IfExp .., c => by simp [chkT] at c
  | .cons _ _, .Dict .., c => by simp [chkT] at c
  | .cons _ _, .Set .., c => by simp [chkT] at c
  | .cons _ _, .ListComp .., c => by simp [chkT] at c
  | .cons _ _, .SetComp .., c => by simp [chkT] at c
  | .cons _ _, .DictComp .., c => by simp [chkT] at c
  | .cons _ _, .GeneratorExp .., c => by simp [chkT] at c
  | .cons _ _, .Await .., c => by simp [chkT] at c
  | .cons _ _, .Yield .., c => by simp [chkT] at c
  | .cons _ _, .YieldFrom .., c => by simp [chkT] at c
  | .cons _ _, .Compare .., c => by simp [chkT] at c
  | .cons _ _, .Call .., c => by simp [chkT] at c
  | .cons _ _, .FormattedValue .., c => by simp [chkT] at c
  | .cons _ _, .JoinedStr .., c => by simp [chkT] at c
  | .cons _ _, .Constant .., c => by simp [chkT] at c
  | .cons _ _, .Attribute .., c => by simp [chkT] at c
  | .cons _ _, .Subscript .., c => by simp [chkT] at c
  | .cons _ _, .Starred .., c => by simp [chkT] at c
  | .cons _ _, .List .., c => by simp [chkT] at c
  | .cons _ _, .Slice .., c => by simp [chkT] at c
  | .cons _ _, .Name .., c => by simp [chkT] at c
  | .nil, .Tuple (_ :: _) _ _, c => by simp [chkT] at c
  | .cons _ _, .Tuple [] _ _, c => by simp [chkT] at c
theorem pgs_ct (hc : X.calm = true) (hX : X.N = N) (nd : N.Nodup) (hs : X.env.scope = sc) (hf : top = true → ∀ x, X.fn x = true) : ∀ (t : CT) (es : List Expr), chkTs N sc top t es = true → PGs X es (gTs X.K t)
  | .nil, [], c => by
    refine PGs.imp pgs_nil fun vs σ H Q ⟨ρ, F, A, xs, ρ', sub, re, da, e, q⟩ => ?_
    cases da with
    | nil =>
      simp only [asg, Option.some.injEq] at e
      subst e
      exact ⟨rfl, q σ (Only.refl _ _) re⟩
    | cons _ _ => simp [asg] at e
  | .cons a r, f :: es, c => by
    have cc := c
    simp only [chkTs, Bool.and_eq_true] at cc
    exact pgs_cons_ct (pg_ct hc hX nd hs hf a f cc.1) (pgs_ct hc hX nd hs hf r es cc.2) c
  | .nil, _ :: _, c => by simp [chkTs] at c
  | .cons _ _, [], c => by simp [chkTs] at c
  | .nm _, _, c => by simp [chkTs] at c
end
end

/-! ### iterators -/
/-- J walks the items xs while the plain part of the heap stands -/
structure Wk (K : PySem.W.Frag) (F : Hp) (J : It) (xs : List PyData) : Prop where
  go : ∀ i H, Sub F H → i < xs.length → J.go i H
  stop : ∀ H, Sub F H → J.stop xs.length H
  yld : ∀ i F1 H A μ x H', Sub F F1 → Rep K F1 H A μ → J.yld i H x H' → ∃ F', Ext F1 H A F' H' A ∧ Rep K F' H' A μ ∧ (∀ a o, H a = some o → H' a = some o) ∧ ∀ d, xs[i]? = some d → D K F' x d
def tIX (T : Tb) (X : Cx) (W : WX) (f : Env → Sto → Res (List PyData)) : TI := fun σ H R => ∃ ρ F A μ, Rep X.K F H A μ ∧ RE X.K F A σ ρ ∧
  After T X.K X.mg F H A (f ρ μ) (fun cls d H' => W cls d σ H') fun xs _ F' H' _ => ∀ J, Wk X.K F' J xs → R J H'
theorem PI.imp {X : Cx} {tg it : Expr} {w w' : TI} (h : PI X tg it w) (g : ∀ σ H R, w' σ H R → w σ H R) : PI X tg it w' := ⟨fun pins s σ H R I q => h.run pins s σ H R I (g σ H R q)⟩
theorem PI.or {X : Cx} {tg it : Expr} {w w' : TI} (h : PI X tg it w) (h' : PI X tg it w') : PI X tg it (fun σ H R => w σ H R ∨ w' σ H R) := ⟨fun pins s σ H R I q => q.elim (h.run pins s σ H R I) (h'.run pins s σ H R I)⟩
section
variable {X : Cx} {T : Tb} {W : WX} {a b : Expr} {fa fb : Env → Sto → Res Val} {tg : Expr} {p pos : Pos}
theorem wk_list {K : PySem.W.Frag} {F : Hp} {q : Addr} {vs : List V} {xs : List PyData} (e : F q = some (.lst vs)) (da : DA K F vs xs) : Wk K F (Itl K q) xs := by
  have sq : ∀ {H : Hp}, Sub F H → SqL K H q vs := fun s => .inl (.inl (s _ _ e))
  refine ⟨fun i H s hi => ?_, fun H s => ⟨vs, sq s, by rw [da.length]; exact Nat.le_refl _⟩, fun i F1 H A μ x H' s R y => ?_⟩
  · obtain ⟨v, h1, _⟩ := da.get (List.getElem?_eq_getElem hi)
    exact ⟨vs, v, sq s, h1⟩
  · obtain ⟨e1, y⟩ := y
    subst e1
    refine ⟨F1, Ext.refl _ _ _, R, fun _ _ h => h, fun d hd => ?_⟩
    obtain ⟨v, h1, h2⟩ := da.get hd
    have := y vs (sq (s.trans R.sub))
    rw [h1] at this
    cases this
    exact h2.sub s
theorem wk_tup {K : PySem.W.Frag} {F : Hp} {q : Addr} {vs : List V} {xs : List PyData} (e : SqT K F q vs) (da : DA K F vs xs) : Wk K F (Itt K q) xs := by
  have sq : ∀ {H : Hp}, Sub F H → SqT K H q vs := fun s => SqT.sub s e
  refine ⟨fun i H s hi => ?_, fun H s => ⟨vs, sq s, by rw [da.length]; exact Nat.le_refl _⟩, fun i F1 H A μ x H' s R y => ?_⟩
  · obtain ⟨v, h1, _⟩ := da.get (List.getElem?_eq_getElem hi)
    exact ⟨vs, v, sq s, h1⟩
  · obtain ⟨e1, y⟩ := y
    subst e1
    refine ⟨F1, Ext.refl _ _ _, R, fun _ _ h => h, fun d hd => ?_⟩
    obtain ⟨v, h1, h2⟩ := da.get hd
    have := y vs (sq (s.trans R.sub))
    rw [h1] at this
    cases this
    exact h2.sub s
theorem wk_rng {K : PySem.W.Frag} {F : Hp} (lo : Int) (n : Nat) : Wk K F (Itr lo n) (rngD lo n) := by
  have hl : (rngD lo n).length = n := by simp [rngD]
  refine ⟨fun i H s hi => by rw [hl] at hi; exact hi, fun H s => by rw [hl]; exact Nat.le_refl _, fun i F1 H A μ x H' s R y => ?_⟩
  obtain ⟨e1, e2⟩ := y
  subst e1 e2
  refine ⟨F1, Ext.refl _ _ _, R, fun _ _ h => h, fun d hd => ?_⟩
  unfold rngD at hd
  rw [List.getElem?_map] at hd
  obtain ⟨k, e1, rfl⟩ := Option.map_eq_some_iff.mp hd
  have ek : k = i := by
    obtain ⟨h1, h2⟩ := List.getElem?_eq_some_iff.mp e1
    rw [List.getElem_range] at h2
    exact h2.symm
  subst ek
  exact .int _
theorem si_sq (ha : PE X a (tEX T X W fa)) : PI X tg a (tIX T X W fun ρ μ => (fa ρ μ).bind fun w μ => Res.opt ((dOf w).bind itemsOf) μ) := by
  refine PI.imp (PI.or (pi_list ha) (pi_tup ha)) fun σ H Q ⟨ρ, F, A, μ, R, re, h⟩ => ?_
  have h' : After T X.K X.mg F H A ((fa ρ μ).bind fun w μ => Res.opt ((dOf w).bind itemsOf) μ) (fun cls d H' => W cls d σ H') fun xs _ F' H' _ => ∀ J, Wk X.K F' J xs → Q J H' := h
  have h2 := h'.bind
  -- the data tells which of the two
  have tell : (∀ w μ1, fa ρ μ = .ok w μ1 → ∃ xs, dOf w = some (.list xs)) ∨ (∀ w μ1, fa ρ μ = .ok w μ1 → ∃ xs, dOf w = some (.tuple xs)) := by
    cases e : fa ρ μ with
    | ok w μ1 =>
      rw [e] at h'
      obtain ⟨xs, e1, _⟩ := After.opt' h'
      obtain ⟨x, e2, e3⟩ := Option.bind_eq_some_iff.mp e1
      cases x with
      | list ys => exact .inl fun w' μ' z => by cases z; exact ⟨ys, e2⟩
      | tuple ys => exact .inr fun w' μ' z => by cases z; exact ⟨ys, e2⟩
      | _ => cases e3
    | exc x μ1 => exact .inl fun w' μ' z => nomatch z
    | bad => exact .inl fun w' μ' z => nomatch z
  rcases tell with tell | tell
  · refine .inl ⟨ρ, F, A, μ, R, re, ?_⟩
    cases e : fa ρ μ with
    | ok w μ1 =>
      rw [e] at h2
      obtain ⟨xs, hx⟩ := tell w μ1 e
      intro F1 H1 A1 x1 R1 v r
      have h3 := h2 F1 H1 A1 x1 R1
      dsimp only at h3
      rw [hx] at h3
      have d := dOf_rv r hx
      cases d with
      | lst eb db => exact ⟨_, rfl, ⟨_, .inl (.inl (R1.sub _ _ eb))⟩, After.here R1 h3 _ (wk_list eb db)⟩
    | exc x μ1 =>
      rw [e] at h2
      exact h2
    | bad =>
      rw [e] at h2
      exact h2
  · refine .inr ⟨ρ, F, A, μ, R, re, ?_⟩
    cases e : fa ρ μ with
    | ok w μ1 =>
      rw [e] at h2
      obtain ⟨xs, hx⟩ := tell w μ1 e
      intro F1 H1 A1 x1 R1 v r
      have h3 := h2 F1 H1 A1 x1 R1
      dsimp only at h3
      rw [hx] at h3
      have d := dOf_rv r hx
      cases d with
      | tup eb db => exact ⟨_, rfl, ⟨_, SqT.sub R1.sub eb⟩, After.here R1 h3 _ (wk_tup eb db)⟩
    | exc x μ1 =>
      rw [e] at h2
      exact h2
    | bad =>
      rw [e] at h2
      exact h2
theorem enu_get : ∀ (k : Nat) (xs : List PyData) (i : Nat), (enuD k xs)[i]? = (xs[i]?).map fun x => .tuple [.int ((k + i : Nat) : Int), x]
  | _, [], i => by simp [enuD]
  | k, x :: xs, 0 => by simp [enuD]
  | k, x :: xs, i + 1 => by
    have e : k + 1 + i = k + (i + 1) := by omega
    simp only [enuD, List.getElem?_cons_succ, enu_get (k + 1) xs i, e]
theorem enu_len : ∀ (k : Nat) (xs : List PyData), (enuD k xs).length = xs.length
  | _, [] => rfl
  | k, x :: xs => by simp [enuD, enu_len (k + 1) xs]
theorem enu_yld {K : PySem.W.Frag} {F F1 H : Hp} {A : List Addr} {μ : Sto} {vs : List V} {xs : List PyData} {q p : Addr} {i : Nat} {v : V} (da : DA K F vs xs) (s : Sub F F1) (R : Rep K F1 H A μ) (hp : H p = none) (hv : vs[i]? = some v) :
    ∃ F', Ext F1 H A F' (upd H p (.tup [.int (i : Nat), v])) A ∧ Rep K F' (upd H p (.tup [.int (i : Nat), v])) A μ ∧ (∀ a o, H a = some o → (upd H p (.tup [.int (i : Nat), v])) a = some o) ∧ ∀ d, (enuD 0 xs)[i]? = some d → D K F' (.ref p) d := by
  obtain ⟨R', x'⟩ := R.newF (o := .tup [.int (i : Nat), v]) hp
  refine ⟨_, x', R', fun a o h => by rw [upd_ne (ne_of_none h hp)]; exact h, fun d hd => ?_⟩
  rw [enu_get, Nat.zero_add] at hd
  obtain ⟨x, e1, rfl⟩ := Option.map_eq_some_iff.mp hd
  obtain ⟨v', h1, h2⟩ := da.get e1
  rw [hv] at h1
  cases h1
  exact .tup (.inl (.inl upd_same)) (.cons (.int _) (.cons ((h2.sub s).sub x'.ff) .nil))
theorem wk_enuL {K : PySem.W.Frag} {F : Hp} {q : Addr} {vs : List V} {xs : List PyData} (e : F q = some (.lst vs)) (da : DA K F vs xs) : Wk K F (Ite K q) (enuD 0 xs) := by
  have sq : ∀ {H : Hp}, Sub F H → SqL K H q vs := fun s => .inl (.inl (s _ _ e))
  refine ⟨fun i H s hi => ?_, fun H s => ⟨vs, sq s, by rw [da.length, enu_len]; exact Nat.le_refl _⟩, fun i F1 H A μ x H' s R y => ?_⟩
  · rw [enu_len] at hi
    obtain ⟨v, h1, _⟩ := da.get (List.getElem?_eq_getElem hi)
    exact ⟨vs, v, sq s, h1⟩
  · obtain ⟨p, v, rfl, hp, rfl, y⟩ := y
    exact enu_yld (q := q) da s R hp (y vs (sq (s.trans R.sub)))
theorem wk_enuT {K : PySem.W.Frag} {F : Hp} {q : Addr} {vs : List V} {xs : List PyData} (e : SqT K F q vs) (da : DA K F vs xs) : Wk K F (IteT K q) (enuD 0 xs) := by
  have sq : ∀ {H : Hp}, Sub F H → SqT K H q vs := fun s => SqT.sub s e
  refine ⟨fun i H s hi => ?_, fun H s => ⟨vs, sq s, by rw [da.length, enu_len]; exact Nat.le_refl _⟩, fun i F1 H A μ x H' s R y => ?_⟩
  · rw [enu_len] at hi
    obtain ⟨v, h1, _⟩ := da.get (List.getElem?_eq_getElem hi)
    exact ⟨vs, v, sq s, h1⟩
  · obtain ⟨p, v, rfl, hp, rfl, y⟩ := y
    exact enu_yld (q := q) da s R hp (y vs (sq (s.trans R.sub)))
theorem si_enu {elts : List Expr} {kk : Nat} {tpos : Pos} (hg : Gl X "enumerate") (hm : X.mg "enumerate" = none) (ha : PE X a (tEX T X W fa)) (hst : starEach [a] X.env = (false, eval a X.env) :: starEach [] X.env) :
    PI X (.Tuple elts kk tpos) (.Call (.Name "enumerate" p) [a] [] pos) (tIX T X W fun ρ μ => (fa ρ μ).bind fun w μ => Res.opt (((dOf w).bind itemsOf).map (enuD 0)) μ) := by
  refine PI.imp (pi_enuA hg hm ha hst) fun σ H Q ⟨ρ, F, A, μ, R, re, h⟩ => ?_
  refine ⟨ρ, F, A, μ, R, re, (After.bind h).imp fun w μ1 F1 H1 A1 x1 R1 h1 v r => ?_⟩
  obtain ⟨xs, e, h2⟩ := After.opt' h1
  simp only [Option.map_eq_some_iff, Option.bind_eq_some_iff] at e
  obtain ⟨ys, ⟨x, e2, e3⟩, rfl⟩ := e
  have d := dOf_rv r e2
  cases d with
  | lst eb db =>
    cases e3
    exact ⟨_, _, rfl, .inl ⟨.inl (.inl (R1.sub _ _ eb)), After.here R1 h2 _ (wk_enuL eb db)⟩⟩
  | tup eb db =>
    cases e3
    exact ⟨_, _, rfl, .inr ⟨SqT.sub R1.sub eb, After.here R1 h2 _ (wk_enuT eb db)⟩⟩
  | _ => cases e3
theorem wk_str {K : PySem.W.Frag} {F : Hp} (x : Str) : Wk K F (Its x) (x.cps.toList.map fun c => .str ⟨#[c]⟩) := by
  have hl : (x.cps.toList.map fun c => PyData.str ⟨#[c]⟩).length = x.cps.size := by simp
  refine ⟨fun i H s hi => by rw [hl] at hi; exact hi, fun H s => by rw [hl]; exact Nat.le_refl _, fun i F1 H A μ y H' s R z => ?_⟩
  obtain ⟨e1, c, e2, e3⟩ := z
  subst e1 e3
  refine ⟨F1, Ext.refl _ _ _, R, fun _ _ h => h, fun d hd => ?_⟩
  rw [List.getElem?_map] at hd
  obtain ⟨c', e4, rfl⟩ := Option.map_eq_some_iff.mp hd
  rw [Array.getElem?_toList, e2] at e4
  cases e4
  exact .str _
theorem si_chs (ha : PE X a (tEX T X W fa)) : PI X tg a (tIX T X W fun ρ μ => (fa ρ μ).bind fun w μ => Res.opt ((dOf w).bind chsD) μ) := by
  refine PI.imp (pi_str ha) fun σ H Q ⟨ρ, F, A, μ, R, re, h⟩ => ?_
  refine ⟨ρ, F, A, μ, R, re, (After.bind h).imp fun w μ1 F1 H1 A1 x1 R1 h1 v r => ?_⟩
  obtain ⟨xs, e, h2⟩ := After.opt' h1
  obtain ⟨x, e2, e3⟩ := Option.bind_eq_some_iff.mp e
  have d := dOf_rv r e2
  cases d with
  | str z =>
    cases e3
    exact ⟨z, rfl, After.here R1 h2 _ (wk_str z)⟩
  | _ => cases e3
theorem wk_key0 {K : PySem.W.Frag} {F : Hp} {q : Addr} {o : Obj} (e : F q = some (.frz o (.dK []))) : Wk K F (Itk q o []) [] :=
  ⟨fun i H s hi => absurd hi (by simp), fun H s => ⟨s _ _ e, Nat.le_refl _⟩, fun i F1 H A μ y H' s R z => by
    obtain ⟨e1, k, v, h1, h2⟩ := z
    simp at h1⟩
theorem si_key0 (ha : PE X a (tEX T X W fa)) : PI X tg a (tIX T X W fun ρ μ => (fa ρ μ).bind fun w μ => Res.opt ((dOf w).bind key0D) μ) := by
  refine PI.imp (pi_keys ha) fun σ H Q ⟨ρ, F, A, μ, R, re, h⟩ => ?_
  refine ⟨ρ, F, A, μ, R, re, (After.bind h).imp fun w μ1 F1 H1 A1 x1 R1 h1 v r => ?_⟩
  obtain ⟨xs, e, h2⟩ := After.opt' h1
  obtain ⟨x, e2, e3⟩ := Option.bind_eq_some_iff.mp e
  have d := dOf_rv r e2
  cases d with
  | dct0 eb =>
    cases e3
    exact ⟨_, _, rfl, .inl ⟨[], R1.sub _ _ eb, After.here R1 h2 _ (wk_key0 eb)⟩⟩
  | _ => cases e3
theorem rgOk_le {i : Int} (h : rgOk i = true) : -(2 ^ 62) ≤ i ∧ i < 2 ^ 62 := by
  unfold rgOk at h
  simpa only [Bool.and_eq_true, decide_eq_true_eq] using h
theorem si_rg1 (hg : Gl X "range") (hm : X.mg "range" = none) (ha : PE X a (tEX T X W fa)) (hst : starEach [a] X.env = (false, eval a X.env) :: starEach [] X.env) :
    PI X tg (.Call (.Name "range" p) [a] [] pos) (tIX T X W fun ρ μ => (fa ρ μ).bind fun w μ => Res.opt ((dOf w).bind fun x => (dInt x).bind fun n => if rgOk n then some (rngD 0 n.toNat) else none) μ) := by
  refine PI.imp (pi_range1 hg hm (pa_cons ha pa_nil hst) hst) fun σ H Q ⟨ρ, F, A, μ, R, re, h⟩ => ?_
  refine ⟨ρ, F, A, μ, R, re, h.bind.imp fun w μ1 F1 H1 A1 x1 R1 h1 v r => ?_⟩
  obtain ⟨xs, e, h2⟩ := h1.opt'
  simp only [Option.bind_eq_some_iff] at e
  obtain ⟨x, e1, n, e2, e3⟩ := e
  split at e3
  · rename_i hb
    cases e3
    cases x with
    | int j =>
      cases e2
      cases (show D X.K F1 v (.int n) from dOf_rv r e1)
      exact ⟨n, rfl, (rgOk_le hb).1, (rgOk_le hb).2, h2.here R1 _ (wk_rng _ _)⟩
    | _ => cases e2
  · cases e3
theorem si_rg2 (hg : Gl X "range") (hm : X.mg "range" = none) (ha : PE X a (tEX T X W fa)) (hb : PE X b (tEX T X W fb)) (hst : starEach [a, b] X.env = [(false, eval a X.env), (false, eval b X.env)]) (hst2 : starEach [b] X.env = [(false, eval b X.env)]) :
    PI X tg (.Call (.Name "range" p) [a, b] [] pos) (tIX T X W fun ρ μ => (fa ρ μ).bind fun wa μ => (fb ρ μ).bind fun wb μ =>
      Res.opt ((dOf wa).bind fun x => (dInt x).bind fun i => (dOf wb).bind fun y => (dInt y).bind fun j => if rgOk i && rgOk j then some (rngD i (j - i).toNat) else none) μ) := by
  refine PI.imp (pi_range2 hg hm (pa_cons ha (pa_cons hb pa_nil (by rw [hst2]; rfl)) (by rw [hst, hst2])) hst hst2) fun σ H Q ⟨ρ, F, A, μ, R, re, h⟩ => ?_
  refine ⟨ρ, F, A, μ, R, re, h.bind.imp fun wa μ1 F1 H1 A1 x1 R1 h1 va ra => ?_⟩
  refine ⟨ρ, F1, A1, μ1, R1, re.ext x1, h1.bind.imp fun wb μ2 F2 H2 A2 x2 R2 h2 vb rb => ?_⟩
  obtain ⟨xs, e, h3⟩ := h2.opt'
  simp only [Option.bind_eq_some_iff] at e
  obtain ⟨x, e1, i, e2, y, e3, j, e4, e5⟩ := e
  split at e5
  · rename_i hb
    cases e5
    rw [Bool.and_eq_true] at hb
    cases x with
    | int i' =>
      cases e2
      cases y with
      | int j' =>
        cases e4
        cases (show D X.K F2 va (.int i) from dOf_ext x2 ra e1)
        cases (show D X.K F2 vb (.int j) from dOf_rv rb e3)
        exact ⟨i, j, rfl, ⟨(rgOk_le hb.1).1, (rgOk_le hb.1).2, (rgOk_le hb.2).1, (rgOk_le hb.2).2⟩, h3.here R2 _ (wk_rng _ _)⟩
      | _ => cases e4
    | _ => cases e2
  · cases e5
end

/-! ### comprehensions -/
section
variable {K : PySem.W.Frag} {F H F0 H0 : Hp} {A A0 : List Addr} {μ : Sto}
/-- an object outside of the plain part and of the handles may change -/
theorem Rep.out (R : Rep K F H A μ) {q : Addr} {o : HO} (hF : F q = none) (hA : q ∉ A) : Rep K F (upd H q o) A μ := by
  refine ⟨fun a u e => ?_, R.nd, R.len, fun i a m e1 e2 => ?_⟩
  · rw [upd_ne (ne_of_none e hF)]
    exact R.sub _ _ e
  · have ne : a ≠ q := fun z => hA (z ▸ List.mem_of_getElem? e1)
    have h := R.at_ i a m e1 e2
    cases m with
    | lst xs =>
      obtain ⟨h1, vs, h2, h3⟩ := h
      exact ⟨h1, vs, by rw [upd_ne ne]; exact h2, h3⟩
    | dct _ => exact h.elim
    | fz x => exact h
theorem Ext.out (x : Ext F0 H0 A0 F H A) {q : Addr} {o : HO} (h0 : H0 q = none) : Ext F0 H0 A0 F (upd H q o) A :=
  ⟨x.ff, x.pre, fun b u e n => by rw [upd_ne (ne_of_none e h0)]; exact x.kp b u e n, x.ol, x.nw⟩
/-- it joins the plain part -/
theorem Rep.joinF (R : Rep K F H A μ) {q : Addr} {vs : List V} (hH : H q = some (.lst vs)) (hF : F q = none) (hA : q ∉ A) : Rep K (upd F q (.lst vs)) H A μ := by
  have sF : Sub F (upd F q (.lst vs)) := Sub.upd hF
  refine ⟨fun a u e => ?_, R.nd, R.len, fun i a m e1 e2 => ?_⟩
  · by_cases h : a = q
    · subst h
      rw [upd_same] at e
      rw [hH]
      exact e
    · rw [upd_ne h] at e
      exact R.sub _ _ e
  · have ne : a ≠ q := fun z => hA (z ▸ List.mem_of_getElem? e1)
    have h := R.at_ i a m e1 e2
    cases m with
    | lst xs =>
      obtain ⟨h1, vs, h2, h3⟩ := h
      exact ⟨by rw [upd_ne ne]; exact h1, vs, h2, h3.sub sF⟩
    | dct _ => exact h.elim
    | fz x => exact ⟨h.1, h.2.sub sF⟩
theorem Ext.joinF (x : Ext F0 H0 A0 F H A) {q : Addr} {o : HO} (h0 : H0 q = none) (hF : F q = none) : Ext F0 H0 A0 (upd F q o) H A :=
  ⟨x.ff.trans (Sub.upd hF), x.pre, x.kp, fun b u e n => by rw [upd_ne (ne_of_none e h0)]; exact x.ol b u e n, x.nw⟩
/-- it becomes a handle -/
theorem Rep.joinH (R : Rep K F H A μ) {q : Addr} {vs : List V} {xs : List PyData} (hH : H q = some (.lst vs)) (hF : F q = none) (hA : q ∉ A) (da : DA K F vs xs) : Rep K F H (A ++ [q]) (μ ++ [.lst xs]) := by
  refine ⟨R.sub, ?_, by rw [List.length_append, List.length_append, R.len]; rfl, fun i a m e1 e2 => ?_⟩
  · refine List.nodup_append.mpr ⟨R.nd, by simp, fun a ha b hb => ?_⟩
    simp only [List.mem_singleton] at hb
    subst hb
    exact fun z => hA (z ▸ ha)
  · by_cases hi : i < A.length
    · rw [List.getElem?_append_left hi] at e1
      rw [List.getElem?_append_left (by rw [← R.len]; exact hi)] at e2
      exact R.at_ i a m e1 e2
    · have hi' : A.length ≤ i := Nat.le_of_not_lt hi
      rw [List.getElem?_append_right hi'] at e1
      rw [List.getElem?_append_right (by rw [← R.len]; exact hi')] at e2
      have e0 : i - A.length = 0 := by
        have := (List.getElem?_eq_some_iff.mp e1).1
        simp only [List.length_singleton] at this
        omega
      rw [e0] at e1
      rw [← R.len, e0] at e2
      simp only [List.getElem?_cons_zero, Option.some.injEq] at e1 e2
      subst e1 e2
      exact ⟨hF, vs, hH, da⟩
theorem Ext.joinH (x : Ext F0 H0 A0 F H A) {q : Addr} (h0 : H0 q = none) : Ext F0 H0 A0 F H (A ++ [q]) := by
  obtain ⟨B, rfl⟩ := x.pre
  refine ⟨x.ff, ⟨B ++ [q], by simp⟩, x.kp, x.ol, fun b hb => ?_⟩
  rcases List.mem_append.mp hb with h | h
  · exact x.nw b h
  · simp only [List.mem_singleton] at h
    subst h
    exact .inr h0
end
end Ip
set_option Elab.async false
set_option linter.all false
set_option maxRecDepth 100000
set_option maxHeartbeats 1000000
/-! Ip: list comprehensions. -/
namespace Ip
open PySem L2
theorem Res.bind_eq_ok {α β : Type} {r : Res α} {k : α → Sto → Res β} {b : β} {μ : Sto} (h : r.bind k = .ok b μ) : ∃ a μ1, r = .ok a μ1 ∧ k a μ1 = .ok b μ := by
  cases r with
  | ok a μ1 => exact ⟨a, μ1, rfl, h⟩
  | exc _ _ => cases h
  | bad => cases h
theorem Res.opt_eq_ok {α : Type} {o : Option α} {a : α} {μ μ1 : Sto} (h : Res.opt o μ = .ok a μ1) : o = some a ∧ μ = μ1 := by
  cases o with
  | none => cases h
  | some b =>
    cases h
    exact ⟨rfl, rfl⟩
theorem noExc_ok {α : Type} {r : Res α} {a : α} {μ : Sto} (h : noExc r = .ok a μ) : r = .ok a μ := by
  cases r with
  | ok b μ1 => exact h
  | exc _ _ => cases h
  | bad => cases h
section
variable {X : Cx} {T : Tb} {W : WX} {tg it elt : Expr} {ifs : List Expr} {scope : Scope} {own : List (Str × Nat)} {pos : Pos} {t : CT} {m : Bool} {fr : Env → Sto → Res (List PyData)} {fe fc : Env → Sto → Res Val}
abbrev W0 : WX := fun _ _ _ _ => False
def lcF (m : Bool) (own : List Nat) (t : CT) (fr : Env → Sto → Res (List PyData)) (fe fc : Env → Sto → Res Val) : Env → Sto → Res Val := fun ρ μ => (fr ρ μ).bind fun xs μ =>
    (noExc (lcmL own t fe fc ρ xs [] μ)).bind fun ys μ => newL m ys μ
/-- the reading of a comprehension is that of its turns -/
theorem lc_step {K : PySem.W.Frag} {mg : Str → Option Value} {vs : List Nat} {tt : TT} {σ : L2.St} {H : Hp} {Q : VK}
    (hsl : ∀ j ∈ ctSlots t, j ∈ vs) (htt : ∀ σ H Q, tT T K mg W0 fc σ H Q → tt σ H Q) (h : tE T K mg W (lcF m vs t fr fe fc) σ H Q) :
    tLc (fun σ H R => ∃ ρ F A μ, Rep K F H A μ ∧ RE K F A σ ρ ∧ After T K mg F H A (fr ρ μ) (fun cls d H' => W cls d σ H') fun xs _ F' H' _ => ∀ J, Wk K F' J xs → R J H') (gT K t) tt (tE T K mg W0 fe) vs σ H Q := by
  obtain ⟨ρ, F, A, μ, R, re, h⟩ := h
  refine ⟨ρ, F, A, μ, R, re, h.bind.imp fun xs μ0 F0 H0 A0 x0 R0 h1 J wk D hD => ?_⟩
  have re0 := re.ext x0
  -- the turns end well
  have ok : ∃ ys μf, lcmL vs t fe fc ρ xs [] μ0 = .ok ys μf ∧ After T K mg F0 H0 A0 (newL m ys μf) (fun cls d H' => W cls d σ H') (fun w _ F' H' A' => ∀ v, RV K F' A' v w → Q v H') := by
    cases e : noExc (lcmL vs t fe fc ρ xs [] μ0) with
    | ok ys μf =>
      rw [e] at h1
      exact ⟨ys, μf, noExc_ok e, h1⟩
    | exc x μf =>
      rw [e] at h1
      cases e2 : lcmL vs t fe fc ρ xs [] μ0 <;> (rw [e2] at e; cases e)
    | bad =>
      rw [e] at h1
      exact h1.elim
  obtain ⟨ys, μf, hok, hend⟩ := ok
  have hF0 : F0 D = none := by
    cases e : F0 D with
    | none => rfl
    | some u => have := R0.sub _ _ e; rw [hD] at this; cases this
  have hA0 : D ∉ A0 := fun z => by
    obtain ⟨u, e⟩ := R0.there z
    rw [hD] at e; cases e
  refine ⟨fun i n H' => ∃ F1 A1 μ1 acc av, n = xs.length - i ∧ i ≤ xs.length ∧ Ext F0 H0 A0 F1 H' A1 ∧ Rep K F1 H' A1 μ1 ∧ H' D = some (.lst av) ∧ F1 D = none ∧ D ∉ A1 ∧ DA K F1 av acc ∧
      lcmL vs t fe fc ρ (xs.drop i) acc μ1 = .ok ys μf, ⟨xs.length, F0, A0, μ0, [], [], rfl, Nat.zero_le _, (Ext.refl _ _ _).out hD, R0.out hF0 hA0, upd_same, hF0, hA0, .nil, hok⟩, ?_⟩
  rintro i n H' ⟨F1, A1, μ1, acc, av, rfl, hi, x1, R1, hDl, hF1, hA1, da, e1⟩
  by_cases hlt : i < xs.length
  · refine .inr ⟨wk.go i H' (x1.ff.trans R1.sub) hlt, fun H'' => ∃ F1 A1 μ1 acc av, i + 1 ≤ xs.length ∧ Ext F0 H0 A0 F1 H'' A1 ∧ Rep K F1 H'' A1 μ1 ∧ H'' D = some (.lst av) ∧ F1 D = none ∧ D ∉ A1 ∧ DA K F1 av acc ∧
      lcmL vs t fe fc ρ (xs.drop (i + 1)) acc μ1 = .ok ys μf, fun H'' ⟨F2, A2, μ2, acc2, av2, q1, q2, q3, q4, q5, q6, q7, q8⟩ => ⟨xs.length - (i + 1), by omega, F2, A2, μ2, acc2, av2, rfl, q1, q2, q3, q4, q5, q6, q7, q8⟩, fun x H2 hy => ?_⟩
    obtain ⟨F2, x2, R2, kp2, dx⟩ := wk.yld i F1 H' A1 μ1 x H2 x1.ff R1 hy
    have d := dx xs[i] (List.getElem?_eq_getElem hlt)
    rw [List.drop_eq_getElem_cons hlt] at e1
    obtain ⟨ρ1, μa, ea, e2⟩ := Res.bind_eq_ok e1
    obtain ⟨ga, rfl⟩ := Res.opt_eq_ok ea
    obtain ⟨wb, μb, eb, e3⟩ := Res.bind_eq_ok e2
    obtain ⟨b, μb', ebo, e4⟩ := Res.bind_eq_ok e3
    obtain ⟨gb, rfl⟩ := Res.opt_eq_ok ebo
    have re2 : RE K F2 A1 (wipe σ vs) (wipeE ρ vs) := ((re0.ext x1).ext x2).wipe vs
    have out2 : H2 D = some (.lst av) := kp2 _ _ hDl
    have hF2 : F2 D = none := (x2.ol D _ hDl hA1).trans hF1
    refine ⟨wipeE ρ vs, F2, A1, .d xs[i], ρ1, R2.sub, re2, d, ga, fun σ2 o2 re3 => ⟨?_, ?_⟩⟩
    · exact ((Only.wiped vs σ).trans o2).mono (fun j hj => (List.mem_append.mp hj).elim id (hsl j)) |>.wipe_eq
    · refine htt _ _ _ ⟨ρ1, F2, A1, μ1, R2, re3, ?_⟩
      rw [eb]
      intro F3 H3 A3 x3 R3
      refine ⟨b, gb, ?_⟩
      have out3 : H3 D = some (.lst av) := x3.kp _ _ out2 hA1
      have hF3 : F3 D = none := (x3.ol D _ out2 hA1).trans hF2
      have hA3 : D ∉ A3 := fun z => (x3.nw D z).elim hA1 fun q => by rw [out2] at q; cases q
      cases b with
      | true =>
        rw [if_pos rfl] at e4
        dsimp only
        rw [if_pos rfl]
        obtain ⟨w, μ4, ew, e5⟩ := Res.bind_eq_ok e4
        obtain ⟨y, μ4', ey, e6⟩ := Res.bind_eq_ok e5
        obtain ⟨gy, rfl⟩ := Res.opt_eq_ok ey
        split at e6
        · rename_i hz
          refine ⟨ρ1, F3, A3, μb, R3, re3.ext x3, ?_⟩
          rw [ew]
          intro F4 H4 A4 x4 R4 v rv
          have out4 : H4 D = some (.lst av) := x4.kp _ _ out3 hA3
          have hF4 : F4 D = none := (x4.ol D _ out3 hA3).trans hF3
          have hA4 : D ∉ A4 := fun z => (x4.nw D z).elim hA3 fun q => by rw [out3] at q; cases q
          have dy := dOf_rv rv gy
          have da4 : DA K F4 av acc := da.sub (x2.ff.trans (x3.ff.trans x4.ff))
          refine ⟨av, out4, by rw [da.length, ← lim_eq]; exact hz, F4, A4, μ4, acc ++ [y], av ++ [v], hlt, (((x1.trans x2).trans x3).trans x4).out hD, R4.out hF4 hA4, upd_same, hF4, hA4, da4.append (.one dy), e6⟩
        · cases e6
      | false =>
        rw [if_neg Bool.false_ne_true] at e4
        dsimp only
        rw [if_neg Bool.false_ne_true]
        exact ⟨F3, A3, μb, acc, av, hlt, (x1.trans x2).trans x3, R3, out3, hF3, hA3, da.sub (x2.ff.trans x3.ff), e4⟩
  · have ei : i = xs.length := by omega
    subst ei
    refine .inl ⟨wk.stop H' (x1.ff.trans R1.sub), ?_⟩
    rw [List.drop_length] at e1
    cases e1
    unfold newL at hend
    cases m with
    | true =>
      rw [if_pos rfl] at hend
      refine hend _ _ _ (x1.joinH hD) (R1.joinH hDl hF1 hA1 da) _ ⟨D, ?_, rfl⟩
      rw [List.getElem?_append_right (by rw [R1.len]; exact Nat.le_refl _), R1.len]
      simp
    | false =>
      rw [if_neg Bool.false_ne_true] at hend
      refine hend _ _ _ (x1.joinF hD hF1) (R1.joinF hDl hF1 hA1) _ ?_
      exact .lst upd_same (da.sub (Sub.upd hF1))
end
end Ip
set_option Elab.async false
set_option linter.all false
set_option maxRecDepth 100000
set_option maxHeartbeats 1000000
/-! Ip: statements. -/
namespace Ip
open PySem L2
def EndF (K : PySem.W.Frag) (D : Ends) (fl : Flo) (F H : Hp) (A : List Addr) : Prop := match fl with
  | .nx ρ => ∀ σ, RE K F A σ ρ → D.nx σ H
  | .ret w => ∀ v, RV K F A v w → D.rt v H
  | .bk ρ => ∀ σ, RE K F A σ ρ → D.bk σ H
  | .ct ρ => ∀ σ, RE K F A σ ρ → D.ct σ H
def tS (T : Tb) (K : PySem.W.Frag) (mg : Str → Option Value) (W : WX) (f : Env → Sto → Res Flo) : TS := fun D σ H => ∃ ρ F A μ, Rep K F H A μ ∧ RE K F A σ ρ ∧
  After T K mg F H A (f ρ μ) (fun cls d H' => ∀ σ', W cls d σ' H') fun fl _ F' H' A' => EndF K D fl F' H' A'
theorem PS.imp {X : Cx} {st : Stmt} {t t' : TS} (h : PS X st t) (g : ∀ D σ H, t' D σ H → t D σ H) : PS X st t' := ⟨fun pins s σ H D I q => h.run pins s σ H D I (g D σ H q)⟩
theorem PSs.imp {X : Cx} {st : List Stmt} {t t' : TS} (h : PSs X st t) (g : ∀ D σ H, t' D σ H → t D σ H) : PSs X st t' := ⟨fun pins s σ H D I q => h.run pins s σ H D I (g D σ H q)⟩
section
variable {T : Tb} {K : PySem.W.Frag} {mg : Str → Option Value} {β : Type} {F H : Hp} {A : List Addr} {E E' : XK} {k k' : β → Sto → Hp → Hp → List Addr → Prop} {r : Res β}
theorem After.impE (h : After T K mg F H A r E k) (g : ∀ cls d H', E cls d H' → E' cls d H') : After T K mg F H A r E' k := by
  cases r with
  | ok b μ => exact h
  | exc e μ => exact fun cls d F' H' A' x R q => g cls d H' (h cls d F' H' A' x R q)
  | bad => exact h
end
def notComp : Expr → Bool
  | .ListComp .. => false
  | .SetComp .. => false
  | .DictComp .. => false
  | _ => true
theorem sw_not {e : Expr} {t : Option Expr} {l : Nat} {env : PySem.Env} (h : notComp e = true) : swapsWith e t l env = pure false := by
  cases e <;> first | rfl | (simp [notComp] at h)
section
variable {T : Tb} {X : Cx} {W : WX} {a b c : Expr} {sa sb : List Stmt} {pos p : Pos} {fa fb fc : Env → Sto → Res Val} {f1 f2 : Env → Sto → Res Flo}
abbrev tSX (T : Tb) (X : Cx) (W : WX) (f : Env → Sto → Res Flo) : TS := tS T X.K X.mg W f
theorem ss_pass : PS X (.Pass pos) (tSX T X W fun ρ μ => .ok (.nx ρ) μ) := by
  refine PS.imp ps_pass fun D σ H ⟨ρ, F, A, μ, R, re, h⟩ => ?_
  exact h.here R σ re
theorem ss_brk : PS X (.Break pos) (tSX T X W fun ρ μ => .ok (.bk ρ) μ) := by
  refine PS.imp ps_break fun D σ H ⟨ρ, F, A, μ, R, re, h⟩ => ?_
  exact h.here R σ re
theorem ss_cnt : PS X (.Continue pos) (tSX T X W fun ρ μ => .ok (.ct ρ) μ) := by
  refine PS.imp ps_continue fun D σ H ⟨ρ, F, A, μ, R, re, h⟩ => ?_
  exact h.here R σ re
theorem ss_retN : PS X (.Return none pos) (tSX T X W fun _ μ => .ok (.ret (.d .none)) μ) := by
  refine PS.imp ps_retN fun D σ H ⟨ρ, F, A, μ, R, re, h⟩ => ?_
  exact h.here R .non .non
theorem ss_ret (ha : PE X a (tEX T X W fa)) : PS X (.Return (some a) pos) (tSX T X W fun ρ μ => (fa ρ μ).bind fun w μ => .ok (.ret w) μ) := by
  refine PS.imp (ps_ret ha) fun D σ H ⟨ρ, F, A, μ, R, re, h⟩ => ?_
  exact ⟨ρ, F, A, μ, R, re, (After.imp (After.bind h) fun w μ1 F1 H1 A1 x1 R1 h1 v r => h1.here R1 v r).impE fun _ _ _ q => q σ⟩
theorem ss_ex (hn : notComp a = true) (ha : PE X a (tEX T X W fa)) : PS X (.Expr a pos) (tSX T X W fun ρ μ => (fa ρ μ).bind fun _ μ => .ok (.nx ρ) μ) := by
  refine PS.imp (ps_expr ha (sw_not hn)) fun D σ H ⟨ρ, F, A, μ, R, re, h⟩ => ?_
  exact ⟨ρ, F, A, μ, R, re, (After.imp (After.bind h) fun w μ1 F1 H1 A1 x1 R1 h1 v r => h1.here R1 σ (re.ext x1)).impE fun _ _ _ q => q σ⟩
theorem asg_step {i : Nat} {D : Ends} {σ : L2.St} {H : Hp} (h : tSX T X W (fun ρ μ => (fa ρ μ).bind fun w μ => .ok (.nx (ρ.set i (some w))) μ) D σ H) : tAsg (tEX T X W fa) (gName i) D σ H := by
  obtain ⟨ρ, F, A, μ, R, re, h⟩ := h
  exact ⟨ρ, F, A, μ, R, re, (After.imp (After.bind h) fun w μ1 F1 H1 A1 x1 R1 h1 v r => h1.here R1 _ ((re.ext x1).set r)).impE fun _ _ _ q => q σ⟩
theorem ss_set {i : Nat} {x : Str} {p' : Pos} (hN : X.N.Nodup) (hi : X.N[i]? = some x) (hx : Loc X.env.scope x) (hf : X.fn x = true ∨ X.env.scope.names.lookup x = some .local) (hs : swapsWith a (some (.Name x p')) pos.line X.env = pure false) (ha : PE X a (tEX T X W fa)) :
    PS X (.Assign [.Name x p'] a pos) (tSX T X W fun ρ μ => (fa ρ μ).bind fun w μ => .ok (.nx (ρ.set i (some w))) μ) :=
  PS.imp (ps_set hN hi hx ha hs hf) fun D σ H h => asg_step h
theorem ss_setT {t : CT} {g : Expr} (hg : PG X g (gT X.K t)) (ha : PE X a (tEX T X W fa)) (hs : swapsWithSole [g] a pos.line X.env = pure false) (hw : swappedStores [g] a X.env = pure none) (h1 : (assignEach [g] X.env).map (·.2) = [assign g X.env]) :
    PS X (.Assign [g] a pos) (tSX T X W fun ρ μ => (fa ρ μ).bind fun w μ => (Res.opt (asg t w ρ) μ).bind fun ρ μ => .ok (.nx ρ) μ) := by
  refine PS.imp (ps_asg ha hg hs hw h1) fun D σ H ⟨ρ, F, A, μ, R, re, h⟩ => ?_
  refine ⟨ρ, F, A, μ, R, re, (After.imp (After.bind h) fun w μ1 F1 H1 A1 x1 R1 h1 v r => ?_).impE fun _ _ _ q => q σ⟩
  obtain ⟨ρ', e, h2⟩ := After.opt h1
  exact ⟨ρ, F1, A1, w, ρ', R1.sub, re.ext x1, r, e, fun σ' _ re' => h2.here R1 σ' re'⟩
def stoF (fo fi fa : Env → Sto → Res Val) : Env → Sto → Res Flo := fun ρ μ => (fa ρ μ).bind fun w μ => (fo ρ μ).bind fun wo μ => (fi ρ μ).bind fun wi μ => match wo with
    | .h n => match μ[n]? with
      | some (.lst xs) => (Res.opt ((dOf wi).bind fun x => (dInt x).bind fun k => (ixP xs.length k).bind fun j => (dOf w).map fun y => xs.set j y) μ).bind fun ys μ => .ok (.nx ρ) (μ.set n (.lst ys))
      | _ => .bad
    | _ => .bad
theorem ss_sto {o i : Expr} {p2 : Pos} {fo fi : Env → Sto → Res Val} (ho : PE X o (tEX T X W fo)) (hi : PE X i (tEX T X W fi)) (ha : PE X a (tEX T X W fa)) (hs : swapsWithSole [.Subscript o i p2] a pos.line X.env = pure false)
    (has : ∀ v, assign (.Subscript o i p2) X.env v = (do
      let ov ← holding [v] (eval o X.env)
      let iv ← holding [v, ov] (eval i X.env)
      standAt p2
      holding [v, ov, iv] (setItem ov iv v)
      release [v, ov, iv] [])) :
    PS X (.Assign [.Subscript o i p2] a pos) (tSX T X W (stoF fo fi fa)) := by
  refine PS.imp (ps_asg ha (pg_sub ho hi st_ok has) hs rfl rfl) fun D σ H ⟨ρ, F, A, μ, R, re, h⟩ => ?_
  refine ⟨ρ, F, A, μ, R, re, (After.imp (After.bind h) fun w μ1 F1 H1 A1 x1 R1 h1 v r => ?_).impE fun _ _ _ q => q σ⟩
  refine ⟨ρ, F1, A1, μ1, R1, re.ext x1, (After.imp (After.bind h1) fun wo μ2 F2 H2 A2 x2 R2 h2 vo ro => ?_).impE fun _ _ _ q => q σ⟩
  refine ⟨ρ, F2, A2, μ2, R2, (re.ext x1).ext x2, (After.imp (After.bind h2) fun wi μ3 F3 H3 A3 x3 R3 h3 vi ri => ?_).impE fun _ _ _ q => q σ⟩
  cases wo with
  | h n =>
    dsimp only at h3
    split at h3
    · rename_i xs hm
      obtain ⟨ys, e, h4⟩ := After.opt h3
      simp only [Option.bind_eq_some_iff, Option.map_eq_some_iff] at e
      obtain ⟨x, e1, k, e2, j, e3, y, e4, rfl⟩ := e
      cases x with
      | int k' =>
        cases e2
        cases (show Ip.D X.K F3 vi (.int k) from dOf_rv ri e1)
        exact ⟨F3, A3, μ3, n, xs, k, j, y, R3, ro.ext x3, hm, rfl, e3, dOf_rv (r.ext (x2.trans x3)) e4, fun F' H' x' R' => h4 F' H' A3 x' R' σ ((((re.ext x1).ext x2).ext x3).ext x')⟩
      | _ => cases e2
    · exact h3.elim
  | d y => exact h3.elim
  | s ns => exact h3.elim
  | x => exact h3.elim
  | t => exact h3.elim
  | kc => exact h3.elim
/-- a name op= of ints -/
theorem ss_aug {i : Nat} {x : Str} {p' : Pos} {o : BO} {op : Operator} {g : Int → Int → Int} (hN : X.N.Nodup) (hi : X.N[i]? = some x) (hx : Loc X.env.scope x) (hf : X.fn x = true ∨ X.env.scope.names.lookup x = some .local)
    (hp : PIp X op (ipI g)) (hg : ∀ i j z, binD o (.int i) (.int j) = some z → z = .int (g i j)) (ha : PE X a (tEX T X W fa)) :
    PS X (.AugAssign (.Name x p') op a pos) (tSX T X W fun ρ μ => match ρ[i]? with
      | some (some (.d (.int x))) => (fa ρ μ).bind fun w μ => (Res.opt ((dOf w).bind fun y => (dInt y).bind fun j => binD o (.int x) (.int j)) μ).bind fun z μ => .ok (.nx (ρ.set i (some (.d z)))) μ
      | _ => .bad) := by
  refine PS.imp (ps_aug hN hi hx ha hp hf) fun D σ H ⟨ρ, F, A, μ, R, re, h⟩ => ?_
  dsimp only at h
  split at h
  · rename_i n e
    obtain ⟨v, e1, r⟩ := re.at_ i _ e
    cases (show Ip.D X.K F v (.int n) from r)
    refine ⟨_, e1, ρ, F, A, μ, R, re, (After.imp (After.bind h) fun w μ1 F1 H1 A1 x1 R1 h1 v r => ?_).impE fun _ _ _ q => q σ⟩
    obtain ⟨z, e2, h2⟩ := After.opt h1
    simp only [Option.bind_eq_some_iff] at e2
    obtain ⟨y, e3, j, e4, e5⟩ := e2
    cases y with
    | int j' =>
      cases e4
      cases (show Ip.D X.K F1 v (.int j) from dOf_rv r e3)
      have ez := hg _ _ _ e5
      subst ez
      exact ⟨n, j, rfl, rfl, h2.here R1 _ ((re.ext x1).set (show RV X.K F1 A1 (.int _) (.d (.int _)) from .int _))⟩
    | _ => cases e4
  · exact h.elim
theorem ss_if (hc : PT X c (tTX T X W fc)) (ha : PSs X sa (tSX T X W f1)) (hb : PSs X sb (tSX T X W f2)) :
    PS X (.If c sa sb pos) (tSX T X W fun ρ μ => (fc ρ μ).bind fun w μ => (Res.opt (bOf w) μ).bind fun r μ => if r then f1 ρ μ else f2 ρ μ) := by
  refine PS.imp (ps_if hc ha hb) fun D σ H ⟨ρ, F, A, μ, R, re, h⟩ => ?_
  refine ⟨ρ, F, A, μ, R, re, (After.imp (After.bind h) fun w μ1 F1 H1 A1 x1 R1 h1 => ?_).impE fun _ _ _ q => q σ⟩
  obtain ⟨r, e, h2⟩ := After.opt h1
  refine ⟨r, e, ?_⟩
  cases r with
  | true =>
    rw [if_pos rfl]
    exact ⟨ρ, F1, A1, μ1, R1, re.ext x1, h2⟩
  | false =>
    rw [if_neg Bool.false_ne_true]
    exact ⟨ρ, F1, A1, μ1, R1, re.ext x1, h2⟩
theorem ss_nil : PSs X [] (tSX T X W fun ρ μ => .ok (.nx ρ) μ) := by
  refine PSs.imp pss_nil fun D σ H ⟨ρ, F, A, μ, R, re, h⟩ => ?_
  exact h.here R σ re
theorem ss_cons {st : Stmt} {rest : List Stmt} (h1 : PS X st (tSX T X W f1)) (h2 : PSs X rest (tSX T X W f2)) :
    PSs X (st :: rest) (tSX T X W fun ρ μ => (f1 ρ μ).bind fun f μ => match f with
      | .nx ρ => f2 ρ μ
      | f => .ok f μ) := by
  refine PSs.imp (pss_cons h1 h2) fun D σ H ⟨ρ, F, A, μ, R, re, h⟩ => ?_
  refine ⟨ρ, F, A, μ, R, re, After.imp (After.bind h) fun f μ1 F1 H1 A1 x1 R1 h1 => ?_⟩
  cases f with
  | nx ρ1 => exact fun σ1 re1 => ⟨ρ1, F1, A1, μ1, R1, re1, h1⟩
  | ret w => exact After.here R1 h1
  | bk ρ1 => exact After.here R1 h1
  | ct ρ1 => exact After.here R1 h1
theorem ss_for {t : CT} {tg it : Expr} {fr : Env → Sto → Res (List PyData)} (hp : PassesOwn (model X.prog X.w) X.A X.env X.xe) (hc : X.calm = true) (hi : PI X tg it (tIX T X W fr)) (hg : PG X tg (gT X.K t)) (hb : PSs X sa (tSX T X W f1))
    (hs : ∀ x, foldedSetIterable it X.env x = pure x) : PS X (.For tg it sa [] pos) (tSX T X W fun ρ μ => (fr ρ μ).bind fun xs μ => forL t f1 xs ρ μ) := by
  refine PS.imp (ps_for hp hc hi hg hb hs) fun D σ H ⟨ρ, F, A, μ, R, re, h⟩ => ?_
  refine ⟨ρ, F, A, μ, R, re, (After.imp (After.bind h) fun xs μ0 F0 H0 A0 x0 R0 h0 J wk => ?_).impE fun _ _ _ q => q σ⟩
  refine ⟨fun i m σ' H' => ∃ ρ1 F1 A1 μ1, m = xs.length - i ∧ i ≤ xs.length ∧ Sub F0 F1 ∧ Rep X.K F1 H' A1 μ1 ∧ RE X.K F1 A1 σ' ρ1 ∧ After T X.K X.mg F1 H' A1 (forL t f1 (xs.drop i) ρ1 μ1) (fun cls d H' => ∀ σ', W cls d σ' H') (fun fl _ F' H' A' => EndF X.K D fl F' H' A'),
    ⟨xs.length, ρ, F0, A0, μ0, rfl, Nat.zero_le _, Sub.refl _, R0, re.ext x0, h0⟩, ?_⟩
  rintro i m σ' H' ⟨ρ1, F1, A1, μ1, rfl, hi, s1, R1, re1, h1⟩
  by_cases hlt : i < xs.length
  · refine .inr ⟨wk.go i H' (s1.trans R1.sub) hlt, fun σ'' H'' => ∃ ρ1 F1 A1 μ1, i + 1 ≤ xs.length ∧ Sub F0 F1 ∧ Rep X.K F1 H'' A1 μ1 ∧ RE X.K F1 A1 σ'' ρ1 ∧ After T X.K X.mg F1 H'' A1 (forL t f1 (xs.drop (i + 1)) ρ1 μ1) (fun cls d H' => ∀ σ', W cls d σ' H') (fun fl _ F' H' A' => EndF X.K D fl F' H' A'),
      fun σ'' H'' ⟨ρ2, F2, A2, μ2, q1, q2, q3, q4, q5⟩ => ⟨xs.length - (i + 1), by omega, ρ2, F2, A2, μ2, rfl, q1, q2, q3, q4, q5⟩, fun x H2 hy => ?_⟩
    obtain ⟨F2, x2, R2, kp2, dx⟩ := wk.yld i F1 H' A1 μ1 x H2 s1 R1 hy
    have d := dx xs[i] (List.getElem?_eq_getElem hlt)
    rw [List.drop_eq_getElem_cons hlt] at h1
    obtain ⟨ρ2, ea, h2⟩ := After.opt h1
    refine ⟨ρ1, F2, A1, .d xs[i], ρ2, R2.sub, re1.ext x2, d, ea, fun σ2 o2 re2 => ?_⟩
    refine ⟨ρ2, F2, A1, μ1, R2, re2, After.imp (After.bind (After.ext x2 h2)) fun f μ3 F3 H3 A3 x3 R3 h3 => ?_⟩
    cases f with
    | nx ρ3 => exact fun σ3 re3 => ⟨ρ3, F3, A3, μ3, hlt, (s1.trans x2.ff).trans x3.ff, R3, re3, h3⟩
    | ct ρ3 => exact fun σ3 re3 => ⟨ρ3, F3, A3, μ3, hlt, (s1.trans x2.ff).trans x3.ff, R3, re3, h3⟩
    | bk ρ3 => exact fun σ3 re3 => After.here R3 h3 σ3 re3
    | ret w => exact After.here R3 h3
  · have ei : i = xs.length := by omega
    subst ei
    rw [List.drop_length] at h1
    exact .inl ⟨wk.stop H' (s1.trans R1.sub), After.here R1 h1 σ' re1⟩
theorem ss_whl {n : Nat} (hp : PassesOwn (model X.prog X.w) X.A X.env X.xe) (hc : PT X c (tTX T X W fc)) (hb : PSs X sa (tSX T X W f1)) : PS X (.While c sa [] pos) (tSX T X W fun ρ μ => whlL fc f1 n ρ μ) := by
  refine PS.imp (ps_while hp hc hb) fun D σ H ⟨ρ, F, A, μ, R, re, h⟩ => ?_
  refine ⟨fun m σ' H' => ∃ ρ1 F1 A1 μ1, Rep X.K F1 H' A1 μ1 ∧ RE X.K F1 A1 σ' ρ1 ∧ After T X.K X.mg F1 H' A1 (whlL fc f1 m ρ1 μ1) (fun cls d H' => ∀ σ', W cls d σ' H') (fun fl _ F' H' A' => EndF X.K D fl F' H' A'), ⟨n, ρ, F, A, μ, R, re, h⟩, ?_⟩
  rintro m σ' H' ⟨ρ1, F1, A1, μ1, R1, re1, h1⟩
  cases m with
  | zero => exact h1.elim
  | succ m =>
    refine ⟨ρ1, F1, A1, μ1, R1, re1, (After.imp (After.bind h1) fun w μ2 F2 H2 A2 x2 R2 h2 => ?_).impE fun _ _ _ q => q σ'⟩
    obtain ⟨b, e, h3⟩ := After.opt h2
    refine ⟨b, e, ?_⟩
    cases b with
    | true =>
      rw [if_pos rfl] at h3
      dsimp only
      rw [if_pos rfl]
      refine ⟨fun σ'' H'' => ∃ ρ1 F1 A1 μ1, Rep X.K F1 H'' A1 μ1 ∧ RE X.K F1 A1 σ'' ρ1 ∧ After T X.K X.mg F1 H'' A1 (whlL fc f1 m ρ1 μ1) (fun cls d H' => ∀ σ', W cls d σ' H') (fun fl _ F' H' A' => EndF X.K D fl F' H' A'),
        fun σ'' H'' q => ⟨m, Nat.lt_succ_self _, q⟩, ρ1, F2, A2, μ2, R2, re1.ext x2, After.imp (After.bind h3) fun f μ3 F3 H3 A3 x3 R3 h4 => ?_⟩
      cases f with
      | nx ρ3 => exact fun σ3 re3 => ⟨ρ3, F3, A3, μ3, R3, re3, h4⟩
      | ct ρ3 => exact fun σ3 re3 => ⟨ρ3, F3, A3, μ3, R3, re3, h4⟩
      | bk ρ3 => exact fun σ3 re3 => After.here R3 h4 σ3 re3
      | ret w => exact After.here R3 h4
    | false =>
      rw [if_neg Bool.false_ne_true] at h3
      dsimp only
      rw [if_neg Bool.false_ne_true]
      exact After.here R2 h3 σ' (re1.ext x2)
theorem ss_bad {st : Stmt} : PS X st (tSX T X W fun _ _ => .bad) := PS.imp ps_never fun D σ H ⟨_, _, _, _, _, _, h⟩ => h
theorem se_bad : PE X a (tEX T X W fun _ _ => .bad) := ⟨fun _ _ _ _ _ _ ⟨_, _, _, _, _, _, h⟩ => h.elim⟩
theorem st_bad : PT X a (tTX T X W fun _ _ => .bad) := ⟨fun _ _ _ _ _ _ ⟨_, _, _, _, _, _, h⟩ => h.elim⟩
end
end Ip
set_option Elab.async false
set_option linter.all false
set_option maxRecDepth 100000
set_option maxHeartbeats 2000000
/-! Ip: whether a core term is the right form of a piece of syntax; if so, the evaluator tells what it does. -/
namespace Ip
open PySem L2
def gloB (sc : Scope) (x : Str) : Bool := match sc.names.lookup x with
  | some .globalImplicit => true
  | _ => false
def notStar : Expr → Bool
  | .Starred .. => false
  | _ => true
def notSet : Expr → Bool
  | .Set .. => false
  | _ => true
def notSlice : Expr → Bool
  | .Slice .. => false
  | _ => true
def plainB : Expr → Bool
  | .UnaryOp .Not _ _ => false
  | .BoolOp .. => false
  | .IfExp .. => false
  | .Compare .. => false
  | _ => true
def opB : BO → Operator → Bool
  | .add, .Add => true
  | .sub, .Sub => true
  | .mul, .Mult => true
  | .fdiv, .FloorDiv => true
  | .mod, .Mod => true
  | .pow, .Pow => true
  | .shr, .RShift => true
  | _, _ => false
def coB : CO → CmpOp → Bool
  | .eq, .Eq => true
  | .ne, .NotEq => true
  | .lt, .Lt => true
  | .le, .LtE => true
  | .gt, .Gt => true
  | .ge, .GtE => true
  | .in_, .In => true
  | .nin, .NotIn => true
  | .is_, .Is => true
  | .isn, .IsNot => true
  | _, _ => false
def bopB (k : Bool) : BoolOp → Bool
  | .And => k
  | .Or => !k
def kstB : PyData → Const → Bool
  | .none, .none => true
  | .bool b, .bool c => b == c
  | .int i, .int j => decide (i = j)
  | .str x, .str y => decide (x = y)
  | _, _ => false
def bfName : BF → Str
  | .len => "len"
  | .abs => "abs"
  | .int => "int"
  | .str => "str"
  | .tup => "tuple"
  | .max1 => "max"
  | .min1 => "min"
  | .max2 => "max"
  | .min2 => "min"
  | .sorted => "sorted"
  | .all => "all"
  | .any => "any"
  | .sum => "sum"
def bfOk (hot : Bool) : BF → Bool
  | .max1 => !hot
  | .min1 => !hot
  | .max2 => !hot
  | .min2 => !hot
  | .all => !hot
  | .any => !hot
  | .sum => false
  | _ => true
def mmName : MM → Str
  | .append => "append"
  | .extend => "extend"
  | .pop0 => "pop"
  | .pop1 => "pop"
def tyS : Ty → Str
  | .int => "int"
  | .bool => "bool"
  | .str => "str"
  | .list => "list"
  | .tuple => "tuple"
  | .dict => "dict"
def bNames : List Str := ["len", "abs", "int", "str", "tuple", "max", "min", "sorted", "all", "any", "sum", "list", "bool", "dict", "isinstance", "range", "enumerate"]
def ownP (N : List Str) (own : List Nat) : List (Str × Nat) := own.filterMap fun i => (N[i]?).map fun x => (x, i)
def cesLen : CEs → Nat
  | .nil => 0
  | .cons _ as => cesLen as + 1
/-- not a call: so its attribute is read in the plain way -/
def noCall : Expr → Bool
  | .Call .. => false
  | _ => true
def cesNil : CEs → Bool
  | .nil => true
  | .cons _ _ => false
def isTix : PM → Bool
  | .tindex => true
  | _ => false
/-- enumerate asks a target of several names -/
def enuT : CSr → Expr → Bool
  | .enu _, .Tuple .. => true
  | .enu _, _ => false
  | _, _ => true
/-- isinstance(e, an own class or ValueError), e a caught exception -/
def isxB (T : Tb) (j : Nat) (sc : Scope) (x : Str) : List Expr → Bool
  | [.Name nm _] => decide (x = "isinstance") && gloB sc x && gloB sc nm && okName nm && decide (1000 ≤ j) && decide (T.px[j - 1000]? = some (.isx nm))
  | _ => false
section
variable (T : Tb) (N : List Str)
mutual
def chkE : CE → Scope → Expr → Bool
  | .bad => fun _ _ => true
  | .var i => fun sc e => match e with
    | .Name x _ => decide (N[i]? = some x) && visB sc x && okName x
    | _ => false
  | .kst d => fun _ e => match e with
    | .Constant c _ _ => kstB d c
    | _ => false
  | .glo j => fun sc e => match e with
    | .Name x _ => decide ((T.co[j]?).map (·.1) = some x) && gloB sc x && okName x
    | _ => false
  | .bin o a b => fun sc e => match e with
    | .BinOp l op r _ => opB o op && chkE a sc l && chkE b sc r
    | _ => false
  | .neg a => fun sc e => match e with
    | .UnaryOp .USub x _ => chkE a sc x
    | _ => false
  | .cmp o a b => fun sc e => match e with
    | .Compare l [op] [r] _ => coB o op && notSet r && chkE a sc l && chkE b sc r
    | _ => false
  | .chn o1 o2 a b c => fun sc e => match e with
    | .Compare l [p1, p2] [m, r] _ => coB o1 p1 && coB o2 p2 && notSet r && chkE a sc l && chkE b sc m && chkE c sc r
    | _ => false
  | .bop k as => fun sc e => match e with
    | .BoolOp op (x :: es) _ => bopB k op && chkEs as sc (x :: es)
    | _ => false
  | .not a => fun sc e => match e with
    | .UnaryOp .Not x _ => chkE a sc x
    | _ => false
  | .ite c a b => fun sc e => match e with
    | .IfExp t x y _ => chkE c sc t && chkE a sc x && chkE b sc y
    | _ => false
  | .call j as => fun sc e => match e with
    | .Call (.Name x _) (y :: es) [] _ => (decide (T.fn[j]? = some (x, cesLen as)) && gloB sc x && okName x && chkEs as sc (y :: es)) || (T.hot && chkEs as sc [y] && isxB T j sc x es)
    | .Call (.Name x _) [] [] _ => !T.hot && decide (T.fn[j]? = some (x, 0)) && gloB sc x && okName x && cesNil as
    | .Attribute y f _ => T.hot && chkEs as sc [y] && decide (1000 ≤ j) && decide (T.px[j - 1000]? = some (.xat f)) && noCall y
    | _ => false
  | .bi f as => fun sc e => match e with
    | .Call (.Name x _) (y :: es) [] _ => bfOk T.hot f && decide (x = bfName f) && gloB sc x && chkEs as sc (y :: es)
    | _ => false
  | .lis _ a => fun sc e => match e with
    | .Call (.Name x _) [y] [] _ => decide (x = "list") && gloB sc x && notStar y && chkE a sc y
    | _ => false
  | .pm f o as => fun sc e => match e with
    | .Call (.Attribute x nm apos) (y :: es) [] cpos => !isTix f && decide (nm = pmName f) && noCall x && (apos.endLine == cpos.line) && decide (es.length < 27) && chkE o sc x && chkEs as sc (y :: es)
    | _ => false
  | .mm f i as => fun sc e => match e with
    | .Call (.Attribute (.Name x _) nm apos) es [] cpos => decide (N[i]? = some x) && visB sc x && okName x && decide (nm = mmName f) && (apos.endLine == cpos.line) && decide (es.length < 28) && chkEs as sc es
    | _ => false
  | .isi a t => fun sc e => match e with
    | .Call (.Name x _) [y, .Name ty _] [] _ => decide (x = "isinstance") && gloB sc x && decide (ty = tyS t) && gloB sc ty && notStar y && chkE a sc y
    | _ => false
  | .idx a i => fun sc e => match e with
    | .Subscript x ix _ => notSlice ix && chkE a sc x && chkE i sc ix
    | _ => false
  | .slc a lo hi => fun sc e => match e with
    | .Subscript x (.Slice l h none _) _ => chkE a sc x && chkO lo sc l && chkO hi sc h
    | _ => false
  | .tup as => fun sc e => match e with
    | .Tuple es _ _ => chkEs as sc es
    | _ => false
  | .lst _ as => fun sc e => match e with
    | .List es _ => chkEs as sc es
    | _ => false
  | .lcm _ own elt t src c => fun sc e => match e with
    | .ListComp x [⟨tg, it, ifs, 0⟩] scope _ => !T.hot && blkC N sc scope (ownP N own) && decide ((ownP N own).map (·.2) = own) && chkR src sc it && enuT src tg && notSet it && chkE elt (relS scope sc) x && chkT N (relS scope sc) false t tg && (ctSlots t).all (fun j => decide (j ∈ own)) &&
      (match ifs with
        | [] => chkO c (relS scope sc) none
        | [y] => chkO c (relS scope sc) (some y)
        | _ => false)
    | _ => false
  | .fz a => fun sc e => plainB e && chkE a sc e
  | .addh a b => fun sc e => match e with
    | .BinOp l .Add r _ => chkE a sc l && chkE b sc r
    | _ => false
  | .kd j a => fun sc e => match e with
    | .Subscript (.Name x _) ix _ => decide ((T.kd[j]?).map (·.1) = some x) && (T.co[1000 + j]?).isNone && gloB sc x && okName x && notSlice ix && chkE a sc ix
    | _ => false
  | .dct0 => fun _ e => match e with
    | .Dict [] [] _ => true
    | _ => false
  | .told a b => fun sc e => match e with
    | .List [x, y] _ => notStar x && notStar y && chkE a sc x && chkE b sc y
    | _ => false
  | .bcall j as => fun sc e => match e with
    | .Call (.Name x _) (y :: es) [] _ => !T.hot && decide (T.fn[j]? = some (x, cesLen as)) && gloB sc x && okName x && chkEs as sc (y :: es)
    | _ => false
  | .tix a => fun sc e => match e with
    | .Subscript x (.Constant c _ _) _ => kstB (.int 1) c && chkE a sc x
    | _ => false
  | .mmx f o as => fun sc e => match e with
    | .Call (.Attribute x nm apos) (y :: es) [] cpos => decide (nm = mmName f) && noCall x && (apos.endLine == cpos.line) && decide (es.length < 27) && chkE o sc x && chkEs as sc (y :: es)
    | _ => false
  | .lisr src => fun sc e => match e with
    | .Call (.Name x _) [.Call (.Name x2 _) [y] [] _] [] _ => !T.hot && decide (x = "list") && gloB sc x && decide (x2 = "range") && gloB sc x2 && notStar y && chkL src sc y
    | _ => false
  | .gloc j => fun sc e => match e with
    | .Name x _ => decide ((T.co[j]?).map (·.1) = some x) && gloB sc x && okName x
    | _ => false
  | .idxc a i => fun sc e => match e with
    | .Subscript x ix _ => notSlice ix && chkE a sc x && chkE i sc ix
    | _ => false
  | .pmc f o as => fun sc e => match e with
    | .Call (.Attribute x nm apos) (y :: es) [] cpos => isTix f && decide (nm = "index") && noCall x && (apos.endLine == cpos.line) && decide (es.length < 27) && chkE o sc x && chkEs as sc (y :: es)
    | _ => false
def chkEs : CEs → Scope → List Expr → Bool
  | .nil => fun _ es => match es with
    | [] => true
    | _ :: _ => false
  | .cons a as => fun sc es => match es with
    | [] => false
    | e :: es => notStar e && chkE a sc e && chkEs as sc es
def chkO : CEo → Scope → Option Expr → Bool
  | .no => fun _ o => match o with
    | none => true
    | some _ => false
  | .so a => fun sc o => match o with
    | none => false
    | some e => chkE a sc e
def chkR : CSr → Scope → Expr → Bool
  | .sq a => fun sc e => chkE a sc e
  | .rg1 a => fun sc e => match e with
    | .Call (.Name x _) [y] [] _ => decide (x = "range") && gloB sc x && notStar y && chkE a sc y
    | _ => false
  | .rg2 a b => fun sc e => match e with
    | .Call (.Name x _) [y, z] [] _ => decide (x = "range") && gloB sc x && notStar y && notStar z && chkE a sc y && chkE b sc z
    | _ => false
  | .enu a => fun sc e => match e with
    | .Call (.Name x _) [y] [] _ => decide (x = "enumerate") && gloB sc x && notStar y && chkE a sc y
    | _ => false
  | .chs a => fun sc e => chkE a sc e
  | .key0 a => fun sc e => chkE a sc e
/-- the argument of list(range(..)) -/
def chkL : CSr → Scope → Expr → Bool
  | .rg1 a => fun sc e => chkE a sc e
  | _ => fun _ _ => false
end
end

/-- the module's facts that the walk asks -/
structure ModOk (T : Tb) (K : PySem.W.Frag) (mg : Str → Option Value) (w : World) : Prop where
  co : ∀ (j : Nat) (x : Str) (d : PyData), T.co[j]? = some (x, d) → ∃ u v, mg x = some u ∧ RelV v u ∧ DC K v d
  kd : ∀ (j : Nat) (x : Str) (es : List (Str × PyData)), T.kd[j]? = some (x, es) → ∃ p, mg x = some (.ref p) ∧ ∀ z d, kdL (es.map fun q => (.str q.1, q.2)) z = some d → ∃ v, KDct K w p z v ∧ DC K v d
  bn : ∀ x ∈ bNames, mg x = none
/-- a call within an except suite -/
def CallOk (T : Tb) (X : Cx) (W : WX) (g : List Val → Sto → Res Val) (x : Str) (np : Nat) : Prop := ∀ (a : Expr) (es : List Expr) (p pos : Pos) (fs : Env → Sto → Res (List Val)), Gl X x → (∀ ρ μ ws μ', fs ρ μ = .ok ws μ' → ws.length = np) → PA X (a :: es) (tAX T X W fs) →
  (x == ("__debug__" : Str)) = false → starEach (a :: es) X.env = (false, eval a X.env) :: starEach es X.env → (backTo pos (starEach es X.env)).any (·.1) = false → PE X (.Call (.Name x p) (a :: es) [] pos) (tEX T X W fun ρ μ => (fs ρ μ).bind fun ws μ => g ws μ)
def IsxOk (T : Tb) (X : Cx) (W : WX) (g : List Val → Sto → Res Val) (nm : Str) : Prop := ∀ (a : Expr) (p p2 pos : Pos) (fa : Env → Sto → Res Val), Gl X "isinstance" → Gl X nm → (nm == ("__debug__" : Str)) = false → PE X a (tEX T X W fa) → notStar a = true →
  PE X (.Call (.Name "isinstance" p) [a, .Name nm p2] [] pos) (tEX T X W fun ρ μ => (fa ρ μ).bind fun w μ => g [w] μ)
def XatOk (T : Tb) (X : Cx) (W : WX) (g : List Val → Sto → Res Val) (f : Str) : Prop := ∀ (a : Expr) (pos : Pos) (fa : Env → Sto → Res Val), PE X a (tEX T X W fa) → noCall a = true →
  PE X (.Attribute a f pos) (tEX T X W fun ρ μ => (fa ρ μ).bind fun w μ => g [w] μ)
structure XOk (T : Tb) (N : List Str) (Φ : Nat → List Val → Sto → Res Val) (n : Nat) (sc : Scope) (top : Bool) (W : WX) (X : Cx) : Prop where
  hN : X.N = N
  nd : N.Nodup
  sc : X.env.scope = sc
  calm : T.hot = false → X.calm = true
  hd : T.hot = false → X.A.handled = none
  room : L2H.RoomH n X.A
  fn : top = true → ∀ x, X.fn x = true
  tk : Takes X W
  mo : ModOk T X.K X.mg X.w
  fsH : T.hot = true → ∀ (j : Nat) (x : Str) (np : Nat), T.fn[j]? = some (x, np) → CallOk T X W (Φ j) x np
  isx : T.hot = true → ∀ (j : Nat) (nm : Str), T.px[j]? = some (.isx nm) → IsxOk T X W (Φ (1000 + j)) nm
  xat : T.hot = true → ∀ (j : Nat) (f : Str), T.px[j]? = some (.xat f) → XatOk T X W (Φ (1000 + j)) f
  fs : T.hot = false → ∀ (j : Nat) (x : Str) (np : Nat), T.fn[j]? = some (x, np) → ∃ f fd ps, X.mg x = some (.ref f) ∧ PySem.W.keepIn X.K (.ref f) = true ∧ Binds X.K fd ps [] ∧ FnOk X.prog X.w X.K X.mg X.base (L2.CX X.prog X.w) n f fd ps (spF T X.K X.mg (Φ j) np)

def gOf (T : Tb) (j : Nat) : Option PyData := match T.co[j]? with
  | some e => some e.2
  | none => (T.kd[j - 1000]?).map fun e => .dict (e.2.map fun q => (.str q.1, q.2))
theorem gl_of {X : Cx} {sc : Scope} {x : Str} (hs : X.env.scope = sc) (h : gloB sc x = true) : Gl X x := by
  unfold gloB at h
  split at h
  · show X.env.scope.names.lookup x = _
    rw [hs]
    assumption
  · cases h
theorem okName_of {x : Str} (h : okName x = true) : (x == ("__debug__" : Str)) = false ∧ (x == ("__classdict__" : Str)) = false := by
  unfold okName at h
  simpa only [Bool.and_eq_true, Bool.not_eq_true'] using h
theorem star1 {e : Expr} {es : List Expr} {env : PySem.Env} (h : notStar e = true) : starEach (e :: es) env = (false, eval e env) :: starEach es env := by
  cases e <;> first | rfl | (simp [notStar] at h)
theorem bmark {op : CmpOp} {e : Expr} (h : notSet e = true) : behindInMarks op e = false := by
  cases e <;> first | rfl | (simp [notSet] at h)
theorem lmark {p1 p2 : CmpOp} {m r : Expr} (h : notSet r = true) : lastMarks [p1, p2] [m, r] = false := by
  show behindInMarks p2 r = false
  exact bmark h
theorem plainIx {e : Expr} (h : notSlice e = true) : PlainIx e := by
  intro o i
  cases e <;> first | rfl | (simp [notSlice] at h)
theorem fset {e : Expr} {env : PySem.Env} (h : notSet e = true) (x : Value) : foldedSetIterable e env x = pure x := by
  cases e <;> first | rfl | (simp [notSet] at h)
section
variable {T : Tb} {N : List Str}
theorem nostar : ∀ {as : CEs} {sc : Scope} {es : List Expr} {env : PySem.Env}, chkEs T N as sc es = true → ∀ p ∈ starEach es env, p.1 = false
  | .nil, _, [], _, _, p, hp => by simp [starEach] at hp
  | .nil, _, _ :: _, _, h, _, _ => by simp [chkEs] at h
  | .cons _ _, _, [], _, h, _, _ => by simp [chkEs] at h
  | .cons a as, sc, e :: es, env, h, p, hp => by
    simp only [chkEs, Bool.and_eq_true] at h
    rw [star1 h.1.1] at hp
    rcases List.mem_cons.mp hp with rfl | hp
    · rfl
    · exact nostar h.2 p hp
theorem nostar_any {as : CEs} {sc : Scope} {es : List Expr} {env : PySem.Env} {pos : Pos} (h : chkEs T N as sc es = true) : (backTo pos (starEach es env)).any (·.1) = false := by
  rw [List.any_eq_false]
  intro p hp
  unfold backTo at hp
  obtain ⟨q, hq, rfl⟩ := List.mem_map.mp hp
  simp [nostar h q hq]
theorem nostar_all {as : CEs} {sc : Scope} {es : List Expr} {env : PySem.Env} {pos : Pos} (h : chkEs T N as sc es = true) : (backTo pos (starEach es env)).all (fun x => !x.1) = true := by
  rw [List.all_eq_true]
  intro p hp
  unfold backTo at hp
  obtain ⟨q, hq, rfl⟩ := List.mem_map.mp hp
  simp [nostar h q hq]
theorem ces_len : ∀ {as : CEs} {sc : Scope} {es : List Expr}, chkEs T N as sc es = true → es.length = cesLen as
  | .nil, _, [], _ => rfl
  | .nil, _, _ :: _, h => by simp [chkEs] at h
  | .cons _ _, _, [], h => by simp [chkEs] at h
  | .cons a as, sc, e :: es, h => by
    simp only [chkEs, Bool.and_eq_true] at h
    rw [List.length_cons, ces_len h.2]
    rfl
theorem evalEs_len {Φ : Nat → List Val → Sto → Res Val} {G : Nat → Option PyData} : ∀ {as : CEs} {ρ : Env} {μ μ' : Sto} {ws : List Val}, evalEs Φ G as ρ μ = .ok ws μ' → ws.length = cesLen as
  | .nil, ρ, μ, μ', ws, h => by
    simp only [evalEs] at h
    cases h
    rfl
  | .cons a as, ρ, μ, μ', ws, h => by
    simp only [evalEs] at h
    obtain ⟨w, μ1, _, h1⟩ := Res.bind_eq_ok h
    obtain ⟨ws', μ2, e2, h2⟩ := Res.bind_eq_ok h1
    cases h2
    rw [List.length_cons, evalEs_len e2]
    rfl
theorem own_map {own : List Nat} (h : (ownP N own).map (·.2) = own) : (ownP N own).map (·.2) = own := h
theorem kst_ok {K : PySem.W.Frag} {X : Cx} {d : PyData} {c : Const} {k : Nat} {p : Pos} (h : kstB d c = true) : ∃ v, PE X (.Constant c k p) (tC v) ∧ ∀ F, D K F v d := by
  cases d <;> cases c <;> simp only [kstB, Bool.false_eq_true, beq_iff_eq, decide_eq_true_eq] at h
  · exact ⟨.non, pe_non, fun F => .non⟩
  · subst h
    exact ⟨_, pe_bl, fun F => .bl _⟩
  · subst h
    exact ⟨_, pe_int, fun F => .int _⟩
  · subst h
    exact ⟨_, pe_str, fun F => .str _⟩
theorem op_ok {X : Cx} {o : BO} {op : Operator} (h : opB o op = true) : OpR X (binaryOp op) (rD2 X.K (binD o)) := by
  cases o <;> cases op <;> first | (simp [opB] at h; done) | exact bin_add | exact bin_sub | exact bin_mul | exact bin_fdiv | exact bin_mod | exact bin_pow | exact bin_shr
theorem co_ok {X : Cx} {o : CO} {op : CmpOp} (h : coB o op = true) (hu : X.A.units + 65 < cLine) : OpR X (compareOp op) (rD2 X.K (gB (cmpD o))) := by
  cases o <;> cases op <;> first | (simp [coB] at h; done) | exact cmp_eq (by omega) | exact cmp_ne (by omega) | exact cmp_lt (by omega) | exact cmp_le (by omega) | exact cmp_gt | exact cmp_ge | exact cmp_in hu | exact cmp_nin hu | exact cmp_is | exact cmp_isn
theorem XOk.roomC {T : Tb} {N : List Str} {Φ : Nat → List Val → Sto → Res Val} {n : Nat} {sc : Scope} {top : Bool} {W : WX} {X : Cx} (O : XOk T N Φ n sc top W X) (h : T.hot = false) : Room n X.A := ⟨O.hd h, O.room.dp, O.room.un⟩
theorem units65 {n : Nat} {A : Around} (r : L2H.RoomH n A) : A.units + 65 < cLine := by
  have := r.un
  omega
end
end Ip
set_option Elab.async false
set_option linter.all false
set_option maxRecDepth 100000
set_option maxHeartbeats 4000000
/-! Ip: the evaluator is right for every checked expression. -/
namespace Ip
open PySem L2
theorem st_ite {T : Tb} {X : Cx} {W : WX} {a b c : Expr} {pos : Pos} {fa fb fc : Env → Sto → Res Val} (hc : PT X c (tTX T X W fc)) (ha : PT X a (tTX T X W fa)) (hb : PT X b (tTX T X W fb)) :
    PT X (.IfExp c a b pos) (tTX T X W fun ρ μ => (fc ρ μ).bind fun w μ => (Res.opt (bOf w) μ).bind fun r μ => if r then fa ρ μ else fb ρ μ) := by
  refine ⟨fun pins s σ H Q I ⟨ρ, F, A, μ, R, re, h⟩ => ?_⟩
  have h0 : tTX T X W fc σ H (fun r H1 => if r = true then tTX T X W fa σ H1 Q else tTX T X W fb σ H1 Q) := by
    refine ⟨ρ, F, A, μ, R, re, h.bind.imp fun wa μ1 F1 H1 A1 x1 R1 h1 => ?_⟩
    obtain ⟨r, e, h3⟩ := h1.opt
    refine ⟨r, e, ?_⟩
    cases r with
    | true =>
      rw [if_pos rfl]
      exact ⟨ρ, F1, A1, μ1, R1, re.ext x1, h3⟩
    | false =>
      rw [if_neg Bool.false_ne_true]
      exact ⟨ρ, F1, A1, μ1, R1, re.ext x1, h3⟩
  refine PyProof.Rows.isTrue_IfExp (thn (hc.run pins s σ H _ I h0) fun d s1 ⟨H1, I1, q1⟩ => ?_)
  cases d with
  | true => exact ha.run pins s1 σ H1 Q I1 q1
  | false => exact hb.run pins s1 σ H1 Q I1 q1
theorem tT_true {T : Tb} {K : PySem.W.Frag} {mg : Str → Option Value} (σ : L2.St) (H : Hp) (Q : Bool → Hp → Prop) (h : tT T K mg W0 (fun _ μ => .ok (.d (.bool true)) μ) σ H Q) : tYes σ H Q := by
  obtain ⟨ρ, F, A, μ, R, re, h⟩ := h
  obtain ⟨b, e, q⟩ := h.here R
  cases e
  exact q
section
variable {T : Tb} {N : List Str} {Φ : Nat → List Val → Sto → Res Val} {n : Nat}
theorem XOk.blk {sc : Scope} {top : Bool} {W : WX} {X : Cx} (O : XOk T N Φ n sc top W X) (cold : T.hot = false) (s : Shared) (H : Hp) (C : Addr) (cl : List (Str × Addr)) (fp : List Addr) (scope : Scope) :
    XOk T N Φ n (relS scope sc) false W0 (X.blk s H scope (compEnvC scope cl C X.env) fp) := by
  refine ⟨O.hN, O.nd, ?_, O.calm, O.hd, O.room, (fun h => nomatch h), takes0, O.mo, (fun h => by rw [cold] at h; cases h), (fun h => by rw [cold] at h; cases h), (fun h => by rw [cold] at h; cases h), O.fs⟩
  rw [← O.sc]
  rfl
theorem plain_test {X : Cx} {W : WX} {e : Expr} {f : Env → Sto → Res Val} (he : match e with
    | .UnaryOp .Not _ _ => False
    | .BoolOp .. => False
    | .IfExp .. => False
    | .Compare .. => False
    | _ => True) (h : PE X e (tEX T X W f)) : PT X e (tTX T X W f) := by
  refine st_val h fun whole => ?_
  cases e with
  | UnaryOp op _ _ => cases op <;> first | rfl | exact he.elim
  | BoolOp => exact he.elim
  | IfExp => exact he.elim
  | Compare => exact he.elim
  | _ => rfl
theorem bop_op {k : Bool} {op : BoolOp} (h : bopB k op = true) : op = if k then .And else .Or := by
  cases k <;> cases op <;> first | rfl | (simp [bopB] at h)
def kdF (kvs : List (PyData × PyData)) (fa : Env → Sto → Res Val) : Env → Sto → Res Val := fun ρ μ => (fa ρ μ).bind fun w μ => Res.opt ((dOf w).bind fun x => (kdO (some (.dict kvs)) x).map .d) μ
theorem se_kd {T : Tb} {X : Cx} {W : WX} {a b : Expr} {pos : Pos} {q : Addr} {kvs : List (PyData × PyData)} {fb : Env → Sto → Res Val} (ha : PE X a (tC (.ref q))) (hk : ∀ z d, kdL kvs z = some d → ∃ v, KDct X.K X.w q z v ∧ DC X.K v d) (hb : PE X b (tEX T X W fb)) (hs : PlainIx b) : PE X (.Subscript a b pos) (tEX T X W (kdF kvs fb)) := by
  refine PE.imp (pe_ix ix_kdict ha hb hs) fun σ H Q ⟨ρ, F, A, μ, R, re, h⟩ => ?_
  refine ⟨ρ, F, A, μ, R, re, (After.bind h).imp fun wb μ1 F1 H1 A1 x1 R1 h1 vb rb => ?_⟩
  obtain ⟨w, e, h2⟩ := After.opt' h1
  simp only [Option.bind_eq_some_iff, Option.map_eq_some_iff] at e
  obtain ⟨x, e1, y, e2, rfl⟩ := e
  cases x with
  | str z =>
    cases (show D X.K F1 vb (.str z) from dOf_rv rb e1)
    obtain ⟨v, h3, h4⟩ := hk z y e2
    exact ⟨q, z, v, rfl, rfl, h3, After.here R1 h2 v (DC.d _ h4)⟩
  | _ => cases e2
mutual
theorem sndE : ∀ (c : CE) {sc : Scope} {top : Bool} {W : WX} {X : Cx} {e : Expr}, XOk T N Φ n sc top W X → chkE T N c sc e = true → PE X e (tEX T X W (evalE Φ (gOf T) c)) ∧ PT X e (tTX T X W (evalE Φ (gOf T) c))
  | .bad, _, _, _, _, _, _, _ => ⟨se_bad, st_bad⟩
  | .pm f o as, sc, top, W, X, e, O, h => by
    simp only [chkE] at h
    split at h
    · rename_i x nm apos y es cpos
      simp only [Bool.and_eq_true, decide_eq_true_eq, Bool.not_eq_true'] at h
      obtain ⟨⟨⟨⟨⟨⟨htx, hnm⟩, hno⟩, hl⟩, h27⟩, ho⟩, hc⟩ := h
      subst hnm
      have base : ∀ nm, attributeBase x nm X.env (eval x X.env) = eval x X.env := fun nm => by cases x <;> first | rfl | (simp [noCall] at hno)
      have ha := sndA as O hc
      have cc := hc
      have hst : notStar y = true := by
        cases as with
        | nil => simp [chkEs] at cc
        | cons _ _ =>
          simp only [chkEs, Bool.and_eq_true] at cc
          exact cc.1.1
      have hrest : (backTo cpos (starEach es X.env)).any (·.1) = false := by
        cases as with
        | nil => simp [chkEs] at cc
        | cons _ _ =>
          simp only [chkEs, Bool.and_eq_true] at cc
          exact nostar_any cc.2
      have hfew : ((backTo cpos (starEach (y :: es) X.env)).all (fun x => !x.1) && (backToKw cpos (keywordEach [] X.env)).all (fun x => x.1.isSome) && decide ((y :: es).length + ([] : List Keyword).length + (if ([] : List Keyword).isEmpty then 0 else 1) < 30)) = true := by
        rw [nostar_all hc]
        have : (y :: es).length + ([] : List Keyword).length + (if ([] : List Keyword).isEmpty then 0 else 1) < 30 := by
          simp only [List.length_cons, List.length_nil, List.isEmpty_nil, if_true]
          omega
        rw [decide_eq_true this]
        rfl
      have z : PE X (.Call (.Attribute x (pmName f) apos) (y :: es) [] cpos) (tEX T X W (evalE Φ (gOf T) (.pm f o as))) := by
        have ez : evalE Φ (gOf T) (.pm f o as) = pmF f (evalE Φ (gOf T) o) (evalEs Φ (gOf T) as) := rfl
        rw [ez]
        cases f with
        | lcount => exact se_pm PySem.F.plainAttrs_list PySem.F.slot_list_count PySem.F.type_list_count (pm_lcount (units65 O.room)) (sndE o O ho).1 ha (base _) hfew hl (star1 hst) hrest
        | lindex => exact se_pm PySem.F.plainAttrs_list PySem.F.slot_list_index PySem.F.type_list_index (pm_lindex (units65 O.room)) (sndE o O ho).1 ha (base _) hfew hl (star1 hst) hrest
        | split1 => exact se_pm PySem.F.plainAttrs_str PySem.F.slot_str_split PySem.F.type_str_split pm_split1 (sndE o O ho).1 ha (base _) hfew hl (star1 hst) hrest
        | tindex => simp [isTix] at htx
        | scount => exact se_pm PySem.F.plainAttrs_str PySem.F.slot_str_count PySem.F.type_str_count pm_scount (sndE o O ho).1 ha (base _) hfew hl (star1 hst) hrest
        | sindex => exact se_pm PySem.F.plainAttrs_str PySem.F.slot_str_index PySem.F.type_str_index pm_sindex (sndE o O ho).1 ha (base _) hfew hl (star1 hst) hrest
      exact ⟨z, plain_test trivial z⟩
    · cases h
  | .var i, sc, top, W, X, e, O, h => by
    simp only [chkE] at h
    split at h
    · simp only [Bool.and_eq_true, decide_eq_true_eq] at h
      have z := se_var (T := T) (W := W) (pos := by assumption) (by rw [O.hN]; exact h.1.1) (by rw [O.sc]; exact lookup_vis h.1.2) (okName_of h.2).1 (okName_of h.2).2
      exact ⟨z, plain_test trivial z⟩
    · cases h
  | .kst d, sc, top, W, X, e, O, h => by
    simp only [chkE] at h
    split at h
    · obtain ⟨v, h1, h2⟩ := kst_ok (K := X.K) (X := X) h
      have z := se_kst (T := T) (W := W) h1 h2
      exact ⟨z, plain_test trivial z⟩
    · cases h
  | .glo j, sc, top, W, X, e, O, h => by
    simp only [chkE] at h
    split at h
    · rename_i x0 pos
      simp only [Bool.and_eq_true, decide_eq_true_eq, Option.map_eq_some_iff] at h
      obtain ⟨⟨⟨⟨x, d⟩, e1, e2⟩, h2⟩, h3⟩ := h
      obtain ⟨u, v, g1, g2, g3⟩ := O.mo.co j x d e1
      have e2' : x = _ := e2
      subst e2'
      have z := se_kst (T := T) (W := W) (pe_glob (pos := pos) (gl_of O.sc h2) g1 g2 (okName_of h3).1) (fun F => DC.d F g3)
      have ez : evalE Φ (gOf T) (.glo j) = fun _ μ => .ok (.d d) μ := by
        funext ρ μ
        simp only [evalE, gOf, e1, Option.map_some, Res.opt_some]
      rw [ez]
      exact ⟨z, plain_test trivial z⟩
    · cases h
  | .bin o a b, sc, top, W, X, e, O, h => by
    simp only [chkE] at h
    split at h
    · simp only [Bool.and_eq_true] at h
      have z := se_bin (T := T) (W := W) (pos := by assumption) (op_ok (X := X) h.1.1) (sndE a O h.1.2).1 (sndE b O h.2).1
      exact ⟨z, plain_test trivial z⟩
    · cases h
  | .neg a, sc, top, W, X, e, O, h => by
    simp only [chkE] at h
    split at h
    · have z := se_neg (T := T) (W := W) (pos := by assumption) (sndE a O h).1
      exact ⟨z, plain_test trivial z⟩
    · cases h
  | .cmp o a b, sc, top, W, X, e, O, h => by
    simp only [chkE] at h
    split at h
    · simp only [Bool.and_eq_true] at h
      have oo := co_ok (X := X) h.1.1.1 (units65 O.room)
      exact ⟨se_cmp oo (sndE a O h.1.2).1 (sndE b O h.2).1 (bmark h.1.1.2), st_cmp oo (sndE a O h.1.2).1 (sndE b O h.2).1 (bmark h.1.1.2)⟩
    · cases h
  | .chn o1 o2 a b c, sc, top, W, X, e, O, h => by
    simp only [chkE] at h
    split at h
    · simp only [Bool.and_eq_true] at h
      have p1 := co_ok (X := X) h.1.1.1.1.1 (units65 O.room)
      have p2 := co_ok (X := X) h.1.1.1.1.2 (units65 O.room)
      exact ⟨se_chn p1 p2 (sndE a O h.1.1.2).1 (sndE b O h.1.2).1 (sndE c O h.2).1 (lmark h.1.1.1.2), st_chn p1 p2 (sndE a O h.1.1.2).1 (sndE b O h.1.2).1 (sndE c O h.2).1 (lmark h.1.1.1.2)⟩
    · cases h
  | .bop k as, sc, top, W, X, e, O, h => by
    simp only [chkE] at h
    split at h
    · simp only [Bool.and_eq_true] at h
      have z := sndB as (pos := by assumption) O (bop_op h.1) h.2
      exact ⟨z.1, z.2.pt⟩
    · cases h
  | .not a, sc, top, W, X, e, O, h => by
    simp only [chkE] at h
    split at h
    · exact ⟨se_not (sndE a O h).1, st_not (sndE a O h).2⟩
    · cases h
  | .ite c a b, sc, top, W, X, e, O, h => by
    simp only [chkE] at h
    split at h
    · simp only [Bool.and_eq_true] at h
      exact ⟨se_ite (sndE c O h.1.1).2 (sndE a O h.1.2).1 (sndE b O h.2).1, st_ite (sndE c O h.1.1).2 (sndE a O h.1.2).2 (sndE b O h.2).2⟩
    · cases h
  | .call j as, sc, top, W, X, e, O, h => by
    simp only [chkE] at h
    split at h
    · rename_i x p y es pos
      rcases Bool.or_eq_true_iff.mp h with h | h
      rotate_left
      · simp only [Bool.and_eq_true] at h
        obtain ⟨⟨hh, hc⟩, hx⟩ := h
        unfold isxB at hx
        split at hx
        · rename_i nm p2
          simp only [Bool.and_eq_true, decide_eq_true_eq] at hx
          obtain ⟨⟨⟨⟨⟨x1, x2⟩, x3⟩, x4⟩, x5⟩, x6⟩ := hx
          subst x1
          cases as with
          | nil => simp [chkEs] at hc
          | cons a as =>
            cases as with
            | cons _ _ => simp [chkEs] at hc
            | nil =>
              simp only [chkEs, Bool.and_eq_true] at hc
              have z := O.isx hh _ _ x6 y p p2 pos _ (gl_of O.sc x2) (gl_of O.sc x3) (okName_of x4).1 (sndE a O hc.1.2).1 hc.1.1
              rw [show 1000 + (j - 1000) = j by omega] at z
              have ez : evalE Φ (gOf T) (.call j (.cons a .nil)) = fun ρ μ => (evalE Φ (gOf T) a ρ μ).bind fun w μ => Φ j [w] μ := by
                funext ρ μ
                simp only [evalE, evalEs]
                cases evalE Φ (gOf T) a ρ μ <;> rfl
              rw [ez]
              exact ⟨z, plain_test trivial z⟩
        · cases hx
      simp only [Bool.and_eq_true, decide_eq_true_eq] at h
      have cc := h.2
      have hst : notStar y = true := by
        cases as with
        | nil => simp [chkEs] at cc
        | cons _ _ =>
          simp only [chkEs, Bool.and_eq_true] at h
          exact h.2.1.1
      have hrest : ∀ env pos, (backTo pos (starEach es env)).any (·.1) = false := by
        intro env pos
        cases as with
        | nil => simp [chkEs] at cc
        | cons _ _ =>
          simp only [chkEs, Bool.and_eq_true] at h
          exact nostar_any h.2.2
      cases hh : T.hot with
      | true =>
        have z := O.fsH hh _ _ _ h.1.1.1 y es p pos _ (gl_of O.sc h.1.1.2) (fun ρ μ ws μ' e => evalEs_len e) (sndA as O h.2) (okName_of h.1.2).1 (star1 hst) (hrest _ _)
        exact ⟨z, plain_test trivial z⟩
      | false =>
        obtain ⟨f, fd, ps, g1, g2, g3, g4⟩ := O.fs hh _ _ _ h.1.1.1
        have z := se_call (T := T) (W := W) (pos := pos) (p := p) O.tk g4 (O.roomC hh) (gl_of O.sc h.1.1.2) g1 g2 g3 (fun ρ μ ws μ' e => evalEs_len e) (sndA as O h.2) (okName_of h.1.2).1 (star1 hst) (hrest _ _)
        exact ⟨z, plain_test trivial z⟩
    · rename_i x p pos
      simp only [Bool.and_eq_true, decide_eq_true_eq, Bool.not_eq_true'] at h
      obtain ⟨⟨⟨⟨hh, h1⟩, h2⟩, h3⟩, h4⟩ := h
      cases as with
      | cons _ _ => simp [cesNil] at h4
      | nil =>
        obtain ⟨f, fd, ps, g1, g2, g3, g4⟩ := O.fs hh _ _ _ h1
        have z := se_call0 (T := T) (W := W) (pos := pos) (p := p) O.tk g4 (O.roomC hh) (gl_of O.sc h2) g1 g2 g3 (okName_of h3).1
        exact ⟨z, plain_test trivial z⟩
    · rename_i y f pos
      simp only [Bool.and_eq_true, decide_eq_true_eq] at h
      obtain ⟨⟨⟨⟨hh, hc⟩, h5⟩, h6⟩, hno⟩ := h
      cases as with
      | nil => simp [chkEs] at hc
      | cons a as =>
        cases as with
        | cons _ _ => simp [chkEs] at hc
        | nil =>
          simp only [chkEs, Bool.and_eq_true] at hc
          have z := O.xat hh _ _ h6 y pos _ (sndE a O hc.1.2).1 hno
          rw [show 1000 + (j - 1000) = j by omega] at z
          have ez : evalE Φ (gOf T) (.call j (.cons a .nil)) = fun ρ μ => (evalE Φ (gOf T) a ρ μ).bind fun w μ => Φ j [w] μ := by
            funext ρ μ
            simp only [evalE, evalEs]
            cases evalE Φ (gOf T) a ρ μ <;> rfl
          rw [ez]
          exact ⟨z, plain_test trivial z⟩
    · cases h
  | .bi f as, sc, top, W, X, e, O, h => by
    simp only [chkE] at h
    split at h
    · rename_i x p y es pos
      simp only [Bool.and_eq_true, decide_eq_true_eq] at h
      have hx := h.1.1.2
      subst hx
      have cc := h.2
      have ha := sndA as O h.2
      have hg := gl_of O.sc h.1.2
      have hst : starEach (y :: es) X.env = (false, eval y X.env) :: starEach es X.env := by
        cases as with
        | nil => simp [chkEs] at cc
        | cons _ _ =>
          simp only [chkEs, Bool.and_eq_true] at cc
          exact star1 cc.1.1
      have hrest : (backTo pos (starEach es X.env)).any (·.1) = false := by
        cases as with
        | nil => simp [chkEs] at cc
        | cons _ _ =>
          simp only [chkEs, Bool.and_eq_true] at cc
          exact nostar_any cc.2
      have hok := h.1.1.1
      have hm : X.mg (bfName f) = none := O.mo.bn _ (by cases f <;> decide +kernel)
      have z : PE X (.Call (.Name (bfName f) p) (y :: es) [] pos) (tEX T X W (evalE Φ (gOf T) (.bi f as))) := by
        cases f with
        | len => exact se_bi bi_len hg hm (by decide +kernel) ha (by decide +kernel) (by decide +kernel) hst hrest
        | abs => exact se_bi bi_abs hg hm (by decide +kernel) ha (by decide +kernel) (by decide +kernel) hst hrest
        | int => exact se_ty bi_int hg hm (by decide +kernel) ha (by decide +kernel) (by decide +kernel) hst hrest
        | str => exact se_ty bi_str hg hm (by decide +kernel) ha (by decide +kernel) (by decide +kernel) hst hrest
        | tup => exact se_ty bi_tup hg hm (by decide +kernel) ha (by decide +kernel) (by decide +kernel) hst hrest
        | max1 => exact se_bi (bi_max1 (O.calm (by simpa [bfOk] using hok))) hg hm (by decide +kernel) ha (by decide +kernel) (by decide +kernel) hst hrest
        | min1 => exact se_bi (bi_min1 (O.calm (by simpa [bfOk] using hok))) hg hm (by decide +kernel) ha (by decide +kernel) (by decide +kernel) hst hrest
        | max2 => exact se_bi (bi_max2 (O.calm (by simpa [bfOk] using hok))) hg hm (by decide +kernel) ha (by decide +kernel) (by decide +kernel) hst hrest
        | min2 => exact se_bi (bi_min2 (O.calm (by simpa [bfOk] using hok))) hg hm (by decide +kernel) ha (by decide +kernel) (by decide +kernel) hst hrest
        | sorted => exact se_bi (bi_sorted (units65 O.room)) hg hm (by decide +kernel) ha (by decide +kernel) (by decide +kernel) hst hrest
        | all => exact se_bi (bi_all (O.calm (by simpa [bfOk] using hok))) hg hm (by decide +kernel) ha (by decide +kernel) (by decide +kernel) hst hrest
        | any => exact se_bi (bi_any (O.calm (by simpa [bfOk] using hok))) hg hm (by decide +kernel) ha (by decide +kernel) (by decide +kernel) hst hrest
        | sum => simp [bfOk] at hok
      exact ⟨z, plain_test trivial z⟩
    · cases h
  | .lis m a, sc, top, W, X, e, O, h => by
    simp only [chkE] at h
    split at h
    · rename_i x p y pos
      simp only [Bool.and_eq_true, decide_eq_true_eq] at h
      have hx := h.1.1.1
      subst hx
      have z := se_lis (T := T) (W := W) (m := m) (p := p) (pos := pos) (gl_of O.sc h.1.1.2) (O.mo.bn _ (by decide +kernel)) (sndE a O h.2).1 (star1 h.1.2)
      exact ⟨z, plain_test trivial z⟩
    · cases h
  | .mm f i as, sc, top, W, X, e, O, h => by
    simp only [chkE] at h
    split at h
    · rename_i x p1 nm apos es cpos
      simp only [Bool.and_eq_true, decide_eq_true_eq] at h
      obtain ⟨⟨⟨⟨⟨⟨hN, hv⟩, hd⟩, hnm⟩, hl⟩, h28⟩, hc⟩ := h
      subst hnm
      have hN' : X.N[i]? = some x := by rw [O.hN]; exact hN
      have hv' : Vis X.env.scope x := by rw [O.sc]; exact lookup_vis hv
      have base : attributeBase (.Name x p1) (mmName f) X.env (eval (.Name x p1) X.env) = eval (.Name x p1) X.env := by rfl
      have z : PE X (.Call (.Attribute (.Name x p1) (mmName f) apos) es [] cpos) (tEX T X W (evalE Φ (gOf T) (.mm f i as))) := by
        cases as with
        | nil =>
          cases es with
          | cons _ _ => simp [chkEs] at hc
          | nil =>
            have ez : evalE Φ (gOf T) (.mm f i .nil) = mmF f i fun _ μ => .ok [] μ := by
              funext ρ μ
              rfl
            rw [ez]
            cases f with
            | append => exact se_mm0 PySem.F.slot_list_append PySem.F.type_list_append mm_append hN' hv' (okName_of hd).1 (okName_of hd).2 base hl
            | extend => exact se_mm0 PySem.F.slot_list_extend PySem.F.type_list_extend mm_extend hN' hv' (okName_of hd).1 (okName_of hd).2 base hl
            | pop0 => exact se_mm0 PySem.F.slot_list_pop PySem.F.type_list_pop mm_pop0 hN' hv' (okName_of hd).1 (okName_of hd).2 base hl
            | pop1 => exact se_mm0 PySem.F.slot_list_pop PySem.F.type_list_pop mm_pop1 hN' hv' (okName_of hd).1 (okName_of hd).2 base hl
        | cons a as =>
          cases es with
          | nil => simp [chkEs] at hc
          | cons y es =>
            have ha := sndA (.cons a as) O hc
            have ez : evalE Φ (gOf T) (.mm f i (.cons a as)) = mmF f i (evalEs Φ (gOf T) (.cons a as)) := by
              funext ρ μ
              rfl
            rw [ez]
            have hfew : ((backTo cpos (starEach (y :: es) X.env)).all (fun x => !x.1) && (backToKw cpos (keywordEach [] X.env)).all (fun x => x.1.isSome) && decide ((y :: es).length + ([] : List Keyword).length + (if ([] : List Keyword).isEmpty then 0 else 1) < 30)) = true := by
              rw [nostar_all hc]
              simp only [List.length_cons] at h28
              have : (y :: es).length + ([] : List Keyword).length + (if ([] : List Keyword).isEmpty then 0 else 1) < 30 := by
                simp only [List.length_cons, List.length_nil, List.isEmpty_nil, if_true]
                omega
              rw [decide_eq_true this]
              rfl
            have cc := hc
            simp only [chkEs, Bool.and_eq_true] at cc
            have hs := star1 (env := X.env) (es := es) cc.1.1
            have hp := nostar_any (env := X.env) (pos := cpos) cc.2
            cases f with
            | append => exact se_mm PySem.F.slot_list_append PySem.F.type_list_append mm_append hN' hv' (okName_of hd).1 (okName_of hd).2 ha base hfew hl hs hp
            | extend => exact se_mm PySem.F.slot_list_extend PySem.F.type_list_extend mm_extend hN' hv' (okName_of hd).1 (okName_of hd).2 ha base hfew hl hs hp
            | pop0 => exact se_mm PySem.F.slot_list_pop PySem.F.type_list_pop mm_pop0 hN' hv' (okName_of hd).1 (okName_of hd).2 ha base hfew hl hs hp
            | pop1 => exact se_mm PySem.F.slot_list_pop PySem.F.type_list_pop mm_pop1 hN' hv' (okName_of hd).1 (okName_of hd).2 ha base hfew hl hs hp
      exact ⟨z, plain_test trivial z⟩
    · cases h
  | .isi a t, sc, top, W, X, e, O, h => by
    simp only [chkE] at h
    split at h
    · rename_i x p y ty p2 pos
      simp only [Bool.and_eq_true, decide_eq_true_eq] at h
      obtain ⟨⟨⟨⟨⟨hx, hg⟩, hty⟩, hgt⟩, hst⟩, ha⟩ := h
      subst hx hty
      have z := se_isi (T := T) (W := W) (t := t) (p := p) (pos := pos) (p2 := p2) (gl_of O.sc hg) (O.mo.bn _ (by decide +kernel)) (gl_of O.sc hgt) (O.mo.bn _ (by cases t <;> decide +kernel)) (by cases t <;> decide +kernel)
        (by cases t <;> decide +kernel) (by cases t <;> decide +kernel) (sndE a O ha).1 (star1 hst)
      exact ⟨z, plain_test trivial z⟩
    · cases h
  | .idx a i, sc, top, W, X, e, O, h => by
    simp only [chkE] at h
    split at h
    · simp only [Bool.and_eq_true] at h
      have z := se_idx (T := T) (W := W) (pos := by assumption) (sndE a O h.1.2).1 (sndE i O h.2).1 (plainIx h.1.1)
      exact ⟨z, plain_test trivial z⟩
    · cases h
  | .slc a lo hi, sc, top, W, X, e, O, h => by
    simp only [chkE] at h
    split at h
    · rename_i x l h' p2 pos
      simp only [Bool.and_eq_true] at h
      have z := se_slc (T := T) (W := W) (pos := pos) (p2 := p2) (sndE a O h.1.1).1 (sndO lo O h.1.2) (sndO hi O h.2)
      exact ⟨z, plain_test trivial z⟩
    · cases h
  | .tup as, sc, top, W, X, e, O, h => by
    simp only [chkE] at h
    split at h
    · have z := se_tup (T := T) (W := W) (pos := by assumption) (k := by assumption) (sndA as O h)
      exact ⟨z, plain_test trivial z⟩
    · cases h
  | .lst m as, sc, top, W, X, e, O, h => by
    simp only [chkE] at h
    split at h
    · have z := se_lst (T := T) (W := W) (m := m) (pos := by assumption) (sndA as O h)
      exact ⟨z, plain_test trivial z⟩
    · cases h
  | .lcm m own elt t src c, sc, top, W, X, e, O, h => by
    simp only [chkE] at h
    split at h
    · rename_i x tg it ifs scope pos
      simp only [Bool.and_eq_true, decide_eq_true_eq, List.all_eq_true] at h
      obtain ⟨⟨⟨⟨⟨⟨⟨⟨⟨hc0, hb⟩, ho⟩, hr⟩, hte⟩, hns⟩, he⟩, ht⟩, hsl⟩, hi⟩ := h
      have cold : T.hot = false := by simpa using hc0
      have nd : X.N.Nodup := by rw [O.hN]; exact O.nd
      have ok : BlkOk X.N X.env.scope scope (ownP N own) := by rw [O.hN, O.sc]; exact blkOk_by hb
      have hif : ∃ tt, (∀ (s : Shared) (H : Hp) (C : Addr) (cl : List (Str × Addr)) (fp : List Addr), PTs (X.blk s H scope (compEnvC scope cl C X.env) fp) ifs tt) ∧ ∀ σ H Q, tT T X.K X.mg W0 (evalC Φ (gOf T) c) σ H Q → tt σ H Q := by
        cases ifs with
        | nil =>
          cases c with
          | no => exact ⟨tYes, fun _ _ _ _ _ => pts_nil, fun σ H Q h => tT_true (T := T) σ H Q h⟩
          | so a => simp [chkO] at hi
        | cons y ys =>
          cases ys with
          | cons _ _ => simp at hi
          | nil =>
            cases c with
            | no => simp [chkO] at hi
            | so a =>
              have hy : chkE T N a (relS scope sc) y = true := by simpa only [chkO] using hi
              exact ⟨tT T X.K X.mg W0 (evalE Φ (gOf T) a), fun s H C cl fp => pts_one (sndE a (O.blk cold s H C cl fp scope) hy).2, fun _ _ _ h => h⟩
      obtain ⟨tt, h1, h2⟩ := hif
      have base := pe_lc (te := tE T X.K X.mg W0 (evalE Φ (gOf T) elt)) (g := gT X.K t) (pos := pos) (O.calm cold) nd (sndR src (tg := tg) O hte hr) ok (fun s H C cl fp => pg_ct (top := false) (X := X.blk s H scope (compEnvC scope cl C X.env) fp) ((O.blk cold s H C cl fp scope).calm cold) (O.blk cold s H C cl fp scope).hN O.nd (O.blk cold s H C cl fp scope).sc (fun z => nomatch z) t tg ht)
        h1 (fun s H C cl fp => (sndE elt (O.blk cold s H C cl fp scope) he).1) (fset hns)
      have z : PE X (.ListComp x [⟨tg, it, ifs, 0⟩] scope pos) (tEX T X W (evalE Φ (gOf T) (.lcm m own elt t src c))) := by
        have ez : evalE Φ (gOf T) (.lcm m own elt t src c) = lcF m own t (evalR Φ (gOf T) src) (evalE Φ (gOf T) elt) (evalC Φ (gOf T) c) := rfl
        rw [ez]
        refine PE.imp base fun σ H Q h => ?_
        rw [ho]
        exact lc_step hsl h2 h
      exact ⟨z, plain_test trivial z⟩
    · cases h
  | .fz a, sc, top, W, X, e, O, h => by
    simp only [chkE, Bool.and_eq_true] at h
    have z := se_fz (T := T) (W := W) (sndE a O h.2).1
    have hp := h.1
    exact ⟨z, plain_test (by cases e <;> first | trivial | (simp [plainB] at hp; done) | (rename_i op _ _; cases op <;> first | trivial | (simp [plainB] at hp))) z⟩
  | .addh a b, sc, top, W, X, e, O, h => by
    simp only [chkE] at h
    split at h
    · simp only [Bool.and_eq_true] at h
      have z := se_addh (T := T) (W := W) (pos := by assumption) (sndE a O h.1).1 (sndE b O h.2).1
      exact ⟨z, plain_test trivial z⟩
    · cases h
  | .kd j a, sc, top, W, X, e, O, h => by
    simp only [chkE] at h
    split at h
    · rename_i x p ix pos
      simp only [Bool.and_eq_true, decide_eq_true_eq, Option.map_eq_some_iff, Option.isNone_iff_eq_none] at h
      obtain ⟨⟨⟨⟨⟨⟨⟨x', es⟩, e1, e2⟩, hn⟩, h2⟩, h3⟩, hs⟩, ha⟩ := h
      have e2' : x' = x := e2
      subst e2'
      obtain ⟨q, g1, g2⟩ := O.mo.kd j x' es e1
      have hg : gOf T (1000 + j) = some (.dict (es.map fun q => (.str q.1, q.2))) := by
        unfold gOf
        rw [hn, show 1000 + j - 1000 = j by omega, e1]
        rfl
      have ez : evalE Φ (gOf T) (.kd j a) = kdF (es.map fun q => (.str q.1, q.2)) (evalE Φ (gOf T) a) := by
        funext ρ μ
        simp only [evalE, hg, kdF]
      rw [ez]
      have z := se_kd (T := T) (W := W) (pos := pos) (pe_glob (pos := p) (gl_of O.sc h2) g1 (show RelV (.ref q) (.ref q) from rfl) (okName_of h3).1) g2 (sndE a O ha).1 (plainIx hs)
      exact ⟨z, plain_test trivial z⟩
    · cases h
  | .dct0, sc, top, W, X, e, O, h => by
    simp only [chkE] at h
    split at h
    · have z := se_dct0 (T := T) (X := X) (W := W) (pos := by assumption)
      exact ⟨z, plain_test trivial z⟩
    · cases h
  | .told a b, sc, top, W, X, e, O, h => by
    simp only [chkE] at h
    split at h
    · simp only [Bool.and_eq_true] at h
      have z := se_told (T := T) (W := W) (pos := by assumption) (sndE a O h.1.2).1 (sndE b O h.2).1 (star1 h.1.1.1) (star1 h.1.1.2)
      exact ⟨z, plain_test trivial z⟩
    · cases h
  | .bcall j as, sc, top, W, X, e, O, h => by
    simp only [chkE] at h
    split at h
    · rename_i x p y es pos
      simp only [Bool.and_eq_true, decide_eq_true_eq, Bool.not_eq_true'] at h
      obtain ⟨⟨⟨⟨hh, h1⟩, h2⟩, h3⟩, hc⟩ := h
      have cc := hc
      have hst : notStar y = true := by
        cases as with
        | nil => simp [chkEs] at cc
        | cons _ _ =>
          simp only [chkEs, Bool.and_eq_true] at cc
          exact cc.1.1
      have hrest : ∀ env pos, (backTo pos (starEach es env)).any (·.1) = false := by
        intro env pos
        cases as with
        | nil => simp [chkEs] at cc
        | cons _ _ =>
          simp only [chkEs, Bool.and_eq_true] at cc
          exact nostar_any cc.2
      obtain ⟨f, fd, ps, g1, g2, g3, g4⟩ := O.fs hh _ _ _ h1
      have z := se_bcall (T := T) (W := W) (pos := pos) (p := p) O.tk g4 (O.roomC hh) (gl_of O.sc h2) g1 g2 g3 (fun ρ μ ws μ' e => evalEs_len e) (sndA as O hc) (okName_of h3).1 (star1 hst) (hrest _ _)
      exact ⟨z, plain_test trivial z⟩
    · cases h
  | .tix a, sc, top, W, X, e, O, h => by
    simp only [chkE] at h
    split at h
    · rename_i x c k p pos
      simp only [Bool.and_eq_true] at h
      have hk := h.1
      cases c <;> simp only [kstB, Bool.false_eq_true, decide_eq_true_eq] at hk
      subst hk
      have z := se_tix (T := T) (W := W) (pos := pos) (sndE a O h.2).1 pe_int (plainIx (e := .Constant (.int 1) k p) rfl)
      exact ⟨z, plain_test trivial z⟩
    · cases h
  | .mmx f o as, sc, top, W, X, e, O, h => by
    simp only [chkE] at h
    split at h
    · rename_i x nm apos y es cpos
      simp only [Bool.and_eq_true, decide_eq_true_eq] at h
      obtain ⟨⟨⟨⟨⟨hnm, hno⟩, hl⟩, h27⟩, ho⟩, hc⟩ := h
      subst hnm
      have base : ∀ nm, attributeBase x nm X.env (eval x X.env) = eval x X.env := fun nm => by cases x <;> first | rfl | (simp [noCall] at hno)
      have ha := sndA as O hc
      have cc := hc
      have hst : notStar y = true := by
        cases as with
        | nil => simp [chkEs] at cc
        | cons _ _ =>
          simp only [chkEs, Bool.and_eq_true] at cc
          exact cc.1.1
      have hrest : (backTo cpos (starEach es X.env)).any (·.1) = false := by
        cases as with
        | nil => simp [chkEs] at cc
        | cons _ _ =>
          simp only [chkEs, Bool.and_eq_true] at cc
          exact nostar_any cc.2
      have hfew : ((backTo cpos (starEach (y :: es) X.env)).all (fun x => !x.1) && (backToKw cpos (keywordEach [] X.env)).all (fun x => x.1.isSome) && decide ((y :: es).length + ([] : List Keyword).length + (if ([] : List Keyword).isEmpty then 0 else 1) < 30)) = true := by
        rw [nostar_all hc]
        have : (y :: es).length + ([] : List Keyword).length + (if ([] : List Keyword).isEmpty then 0 else 1) < 30 := by
          simp only [List.length_cons, List.length_nil, List.isEmpty_nil, if_true]
          omega
        rw [decide_eq_true this]
        rfl
      have ez : evalE Φ (gOf T) (.mmx f o as) = mmxF f (evalE Φ (gOf T) o) (evalEs Φ (gOf T) as) := rfl
      have z : PE X (.Call (.Attribute x (mmName f) apos) (y :: es) [] cpos) (tEX T X W (evalE Φ (gOf T) (.mmx f o as))) := by
        rw [ez]
        cases f with
        | append => exact se_mmx PySem.F.slot_list_append PySem.F.type_list_append mm_append (sndE o O ho).1 ha (base _) hfew hl (star1 hst) hrest
        | extend => exact se_mmx PySem.F.slot_list_extend PySem.F.type_list_extend mm_extend (sndE o O ho).1 ha (base _) hfew hl (star1 hst) hrest
        | pop0 => exact se_mmx PySem.F.slot_list_pop PySem.F.type_list_pop mm_pop0 (sndE o O ho).1 ha (base _) hfew hl (star1 hst) hrest
        | pop1 => exact se_mmx PySem.F.slot_list_pop PySem.F.type_list_pop mm_pop1 (sndE o O ho).1 ha (base _) hfew hl (star1 hst) hrest
      exact ⟨z, plain_test trivial z⟩
    · cases h
  | .lisr src, sc, top, W, X, e, O, h => by
    simp only [chkE] at h
    split at h
    · rename_i x p x2 p2 y pos2 pos
      simp only [Bool.and_eq_true, decide_eq_true_eq, Bool.not_eq_true'] at h
      obtain ⟨⟨⟨⟨⟨⟨hh, hx⟩, hg⟩, hx2⟩, hg2⟩, hst⟩, hc⟩ := h
      subst hx hx2
      cases src with
      | rg1 a =>
        simp only [chkL] at hc
        have z := se_lisr (T := T) (W := W) (p := p) (pos := pos) (p2 := p2) (pos2 := pos2) (O.calm hh) (gl_of O.sc hg) (O.mo.bn _ (by decide +kernel)) (gl_of O.sc hg2) (O.mo.bn _ (by decide +kernel)) (sndE a O hc).1 (star1 hst)
        exact ⟨z, plain_test trivial z⟩
      | _ => simp [chkL] at hc
    · cases h
  | .gloc j, sc, top, W, X, e, O, h => by
    simp only [chkE] at h
    split at h
    · rename_i x0 pos
      simp only [Bool.and_eq_true, decide_eq_true_eq, Option.map_eq_some_iff] at h
      obtain ⟨⟨⟨⟨x, d⟩, e1, e2⟩, h2⟩, h3⟩ := h
      obtain ⟨u, v, g1, g2, g3⟩ := O.mo.co j x d e1
      have e2' : x = _ := e2
      subst e2'
      have z := se_gloc (T := T) (W := W) (pe_glob (pos := pos) (gl_of O.sc h2) g1 g2 (okName_of h3).1) g3
      have ez : evalE Φ (gOf T) (.gloc j) = fun _ μ => .ok (.kc d) μ := by
        funext ρ μ
        simp only [evalE, gOf, e1, Option.map_some, Res.opt_some]
      rw [ez]
      exact ⟨z, plain_test trivial z⟩
    · cases h
  | .idxc a i, sc, top, W, X, e, O, h => by
    simp only [chkE] at h
    split at h
    · simp only [Bool.and_eq_true] at h
      have z := se_idxc (T := T) (W := W) (pos := by assumption) (sndE a O h.1.2).1 (sndE i O h.2).1 (plainIx h.1.1)
      exact ⟨z, plain_test trivial z⟩
    · cases h
  | .pmc f o as, sc, top, W, X, e, O, h => by
    simp only [chkE] at h
    split at h
    · rename_i x nm apos y es cpos
      simp only [Bool.and_eq_true, decide_eq_true_eq] at h
      obtain ⟨⟨⟨⟨⟨⟨hf, hnm⟩, hno⟩, hl⟩, h27⟩, ho⟩, hc⟩ := h
      subst hnm
      have base : ∀ nm, attributeBase x nm X.env (eval x X.env) = eval x X.env := fun nm => by cases x <;> first | rfl | (simp [noCall] at hno)
      have ha := sndA as O hc
      have cc := hc
      have hst : notStar y = true := by
        cases as with
        | nil => simp [chkEs] at cc
        | cons _ _ =>
          simp only [chkEs, Bool.and_eq_true] at cc
          exact cc.1.1
      have hrest : (backTo cpos (starEach es X.env)).any (·.1) = false := by
        cases as with
        | nil => simp [chkEs] at cc
        | cons _ _ =>
          simp only [chkEs, Bool.and_eq_true] at cc
          exact nostar_any cc.2
      have hfew : ((backTo cpos (starEach (y :: es) X.env)).all (fun x => !x.1) && (backToKw cpos (keywordEach [] X.env)).all (fun x => x.1.isSome) && decide ((y :: es).length + ([] : List Keyword).length + (if ([] : List Keyword).isEmpty then 0 else 1) < 30)) = true := by
        rw [nostar_all hc]
        have : (y :: es).length + ([] : List Keyword).length + (if ([] : List Keyword).isEmpty then 0 else 1) < 30 := by
          simp only [List.length_cons, List.length_nil, List.isEmpty_nil, if_true]
          omega
        rw [decide_eq_true this]
        rfl
      have ez : evalE Φ (gOf T) (.pmc f o as) = pmcF f (evalE Φ (gOf T) o) (evalEs Φ (gOf T) as) := rfl
      have z : PE X (.Call (.Attribute x "index" apos) (y :: es) [] cpos) (tEX T X W (evalE Φ (gOf T) (.pmc f o as))) := by
        rw [ez]
        exact se_pmc (by cases f <;> first | rfl | (simp [isTix] at hf)) (sndE o O ho).1 ha (base _) hfew hl (star1 hst) hrest
      exact ⟨z, plain_test trivial z⟩
    · cases h
theorem sndB {k : Bool} : ∀ (as : CEs) {sc : Scope} {top : Bool} {W : WX} {X : Cx} {e : Expr} {es : List Expr} {op : BoolOp} {pos : Pos}, XOk T N Φ n sc top W X → (op = if k then .And else .Or) → chkEs T N as sc (e :: es) = true →
    PE X (.BoolOp op (e :: es) pos) (tEX T X W (evalB Φ (gOf T) k as)) ∧ PW X (.BoolOp op (e :: es) pos) (tTX T X W (evalB Φ (gOf T) k as))
  | .nil, _, _, _, _, _, _, _, _, _, _, h => by simp [chkEs] at h
  | .cons a as, sc, top, W, X, e, es, op, pos, O, hop, h => by
    simp only [chkEs, Bool.and_eq_true] at h
    have ha := sndE a O h.1.2
    cases es with
    | nil =>
      cases as with
      | cons _ _ => simp [chkEs] at h
      | nil => exact ⟨bop1 ha.1 (by funext ρ μ; simp only [evalB]), bopw1 ha.2 (by funext ρ μ; simp only [evalB])⟩
    | cons d rest =>
      have hb := sndB (k := k) as (e := d) (es := rest) (op := op) (pos := pos) O hop h.2
      exact ⟨bop2 hop ha.1 hb.1, bopw2 hop ha.2 hb.2⟩
theorem sndA : ∀ (as : CEs) {sc : Scope} {top : Bool} {W : WX} {X : Cx} {es : List Expr}, XOk T N Φ n sc top W X → chkEs T N as sc es = true → PA X es (tAX T X W (evalEs Φ (gOf T) as))
  | .nil, sc, top, W, X, es, O, h => by
    cases es with
    | nil => exact sa_nil
    | cons _ _ => simp [chkEs] at h
  | .cons a as, sc, top, W, X, es, O, h => by
    cases es with
    | nil => simp [chkEs] at h
    | cons e es =>
      simp only [chkEs, Bool.and_eq_true] at h
      exact sa_cons (sndE a O h.1.2).1 (sndA as O h.2) (star1 h.1.1)
theorem sndO : ∀ (o : CEo) {sc : Scope} {top : Bool} {W : WX} {X : Cx} {e : Option Expr}, XOk T N Φ n sc top W X → chkO T N o sc e = true → PO X e (tOX T X W (evalO Φ (gOf T) o))
  | .no, sc, top, W, X, e, O, h => by
    cases e with
    | none => exact so_no
    | some _ => simp [chkO] at h
  | .so a, sc, top, W, X, e, O, h => by
    cases e with
    | none => simp [chkO] at h
    | some y =>
      simp only [chkO] at h
      exact so_so (sndE a O h).1
theorem sndR : ∀ (r : CSr) {sc : Scope} {top : Bool} {W : WX} {X : Cx} {e tg : Expr}, XOk T N Φ n sc top W X → enuT r tg = true → chkR T N r sc e = true → PI X tg e (tIX T X W (evalR Φ (gOf T) r))
  | .sq a, sc, top, W, X, e, tg, O, hte, h => by
    simp only [chkR] at h
    exact si_sq (sndE a O h).1
  | .rg1 a, sc, top, W, X, e, tg, O, hte, h => by
    simp only [chkR] at h
    split at h
    · simp only [Bool.and_eq_true, decide_eq_true_eq] at h
      have hx := h.1.1.1
      subst hx
      exact si_rg1 (gl_of O.sc h.1.1.2) (O.mo.bn _ (by decide +kernel)) (sndE a O h.2).1 (star1 h.1.2)
    · cases h
  | .rg2 a b, sc, top, W, X, e, tg, O, hte, h => by
    simp only [chkR] at h
    split at h
    · simp only [Bool.and_eq_true, decide_eq_true_eq] at h
      obtain ⟨⟨⟨⟨⟨hx, hg⟩, s1⟩, s2⟩, h1⟩, h2⟩ := h
      subst hx
      exact si_rg2 (gl_of O.sc hg) (O.mo.bn _ (by decide +kernel)) (sndE a O h1).1 (sndE b O h2).1 (by rw [star1 s1, star1 s2]; rfl) (by rw [star1 s2]; rfl)
    · cases h
  | .enu a, sc, top, W, X, e, tg, O, hte, h => by
    simp only [chkR] at h
    split at h
    · simp only [Bool.and_eq_true, decide_eq_true_eq] at h
      have hx := h.1.1.1
      subst hx
      cases tg <;> first | (simp [enuT] at hte; done) | exact si_enu (gl_of O.sc h.1.1.2) (O.mo.bn _ (by decide +kernel)) (sndE a O h.2).1 (star1 h.1.2)
    · cases h
  | .chs a, sc, top, W, X, e, tg, O, hte, h => by
    simp only [chkR] at h
    exact si_chs (sndE a O h).1
  | .key0 a, sc, top, W, X, e, tg, O, hte, h => by
    simp only [chkR] at h
    exact si_key0 (sndE a O h).1
end
end
end Ip
set_option Elab.async false
set_option linter.all false
set_option maxRecDepth 100000
set_option maxHeartbeats 4000000
/-! Ip: the evaluator is right for every checked block. -/
namespace Ip
open PySem L2
/-- whether y = [..] goes the short way -/
def swB (sc : Scope) (y : Str) (py pos : Pos) (scope : Scope) : Bool := (sc.names.lookup y == some .local) && (py.line == pos.line) && !(scope.names.any fun (n, k) => n == y && (k == .local || k == .cell))
theorem sw_lc {elt : Expr} {gs : List Comprehension} {scope : Scope} {pos py : Pos} {y : Str} {l : Nat} {env : PySem.Env} (hk : env.scope.kind = .function) :
    swapsWith (.ListComp elt gs scope pos) (some (.Name y py)) l env = pure (swB env.scope y py pos scope) := by
  have hb : env.blockKind = .function := by unfold Env.blockKind; rw [hk]; rfl
  unfold swapsWith swB Env.kindOf
  simp only [hb, Expr.pos]
  rfl
theorem sw_sub {e o i : Expr} {p : Pos} {l : Nat} {env : PySem.Env} : swapsWithSole [.Subscript o i p] e l env = pure false := by
  show swapsWith e (some (.Subscript o i p)) l env = pure false
  cases e <;> rfl
def kindB (sc : Scope) : Bool := match sc.kind with
  | .function => true
  | _ => false
def notTup : Expr → Bool
  | .Tuple .. => false
  | _ => true
section
variable (T : Tb) (N : List Str)
mutual
def chkS : CS → Scope → Stmt → Bool
  | .bad => fun _ _ => true
  | .pass => fun _ st => match st with
    | .Pass _ => true
    | _ => false
  | .brk => fun _ st => match st with
    | .Break _ => true
    | _ => false
  | .cnt => fun _ st => match st with
    | .Continue _ => true
    | _ => false
  | .ex a => fun sc st => match st with
    | .Expr e _ => notComp e && chkE T N a sc e
    | _ => false
  | .ret a => fun sc st => match st with
    | .Return (some e) _ => chkE T N a sc e
    | _ => false
  | .retN => fun _ st => match st with
    | .Return none _ => true
    | _ => false
  | .set i a => fun sc st => match st with
    | .Assign [.Name x py] e _ => decide (N[i]? = some x) && locB true sc x && chkE T N a sc e && (notComp e || (match a, e with
      | .lcm .., .ListComp _ _ _ _ => true
      | _, _ => false))
    | _ => false
  | .setT t a => fun sc st => match st with
    | .Assign [.Tuple es k p] e _ => !T.hot && chkT N sc true t (.Tuple es k p) && notComp e && notTup e && chkE T N a sc e
    | _ => false
  | .sto o i a => fun sc st => match st with
    | .Assign [.Subscript x ix _] e _ => notSlice ix && chkE T N o sc x && chkE T N i sc ix && chkE T N a sc e
    | _ => false
  | .aug i o a => fun sc st => match st with
    | .AugAssign (.Name x _) op e _ => decide (N[i]? = some x) && locB true sc x && chkE T N a sc e && (match o, op with
      | .add, .Add => true
      | .sub, .Sub => true
      | _, _ => false)
    | _ => false
  | .iff c a b => fun sc st => match st with
    | .If t x y _ => chkE T N c sc t && chkSs a sc x && chkSs b sc y
    | _ => false
  | .for_ t src b => fun sc st => match st with
    | .For tg it x [] _ => !T.hot && chkT N sc true t tg && notSet it && chkR T N src sc it && enuT src tg && chkSs b sc x
    | _ => false
  | .whl _ c b => fun sc st => match st with
    | .While t x [] _ => !T.hot && chkE T N c sc t && chkSs b sc x
    | _ => false
  | .rse c as => fun sc st => match st with
    | .Raise (some (.Call (.Name x _) (y :: es) [] _)) none _ => !T.hot && decide ((T.cl[c]?).map (·.1) = some x) && decide ((T.cl[c]?).map (·.2.length) = some (cesLen as)) && gloB sc x && okName x && chkEs T N as sc (y :: es)
    | _ => false
  | .try_ b => fun sc st => match st with
    | .Try x [.ExceptHandler (some (.Name k _)) (some n) [.Return (some (.Call (.Name le _) [.Name n' _] [] _)) _] _] [] [] _ => !T.hot && decide (k = "KeepError") && gloB sc k && okName n && decide (le = "_law_error") && gloB sc le && decide (n' = n) && decide (n ∈ N) && decide (sc.names.lookup n = some .local) && chkSs b sc x
    | _ => false
def chkSs : CSs → Scope → List Stmt → Bool
  | .nil => fun _ sts => match sts with
    | [] => true
    | _ :: _ => false
  | .cons a as => fun sc sts => match sts with
    | [] => false
    | st :: sts => chkS a sc st && chkSs as sc sts
end
end
/-- the reading of an except suite that gives the error's row -/
def tErr (T : Tb) (C : Nat → Option Str) (K : PySem.W.Frag) (mg : Str → Option Value) (L i : Nat) (a : Addr) (cls : Value) (d : Option Addr) : TS := fun Dn σ H => σ.length = L → σ[i]? = some (some (.ref a)) ∧
  ∃ F A μ x y, Rep K F H A μ ∧ XR T K mg F cls d x ∧ errD C x = some y ∧ Out K F H A μ y Dn.rt
/-- the classes, and the row of an error, as the module has them -/
structure XcOk (T : Tb) (C : Nat → Option Str) (n : Nat) (K : PySem.W.Frag) (mg : Str → Option Value) (P : Program) (w : World) (base : Heap) : Prop where
  /-- raise C(e, ..) -/
  rse : ∀ (X : Cx) (W : WX) (c : Nat) (x : Str) (fl : List Str), X.K = K → X.mg = mg → X.prog = P → X.w = w → X.base = base → X.calm = true → Room n X.A → Takes X W → T.cl[c]? = some (x, fl) → Gl X x →
    ∀ (e : Expr) (es : List Expr) (p pos p2 : Pos) (fs : Env → Sto → Res (List Val)), (∀ ρ μ ws μ', fs ρ μ = .ok ws μ' → ws.length = fl.length) → (x == ("__debug__" : Str)) = false → starEach (e :: es) X.env = (false, eval e X.env) :: starEach es X.env → (backTo pos (starEach es X.env)).any (·.1) = false →
      PA X (e :: es) (tAX T X W fs) → PS X (.Raise (some (.Call (.Name x p) (e :: es) [] pos)) none p2) (tSX T X W fun ρ μ => (fs ρ μ).bind fun ws μ => (Res.opt (dsOf ws) μ).bind fun xs μ => .exc ⟨c, xs.reverse⟩ μ)
  keep : ∃ CK, mg "KeepError" = some (.ref CK) ∧ ∀ (c : Nat) (x : Str) (fl : List Str) (C' : Addr), T.cl[c]? = some (x, fl) → mg x = some (.ref C') → PySem.W.exmOne K (.ref C') (.ref CK) = some true
  err : ∀ (X : Cx) (i : Nat) (nm : Str), X.K = K → X.mg = mg → X.prog = P → X.w = w → X.base = base → X.calm = true → Room n X.A → X.N[i]? = some nm → X.env.scope.names.lookup nm = some .local → okName nm = true → Gl X "_law_error" →
    ∀ (a : Addr) (oe : Obj) (cls : Value) (d : Option Addr) (pn : List (Addr × Obj)) (p1 p2 p3 p4 : Pos), Zc cls d oe → (∃ vs, oe.data = .fields vs) →
      PSs (X.suite a ((a, oe) :: pn)) [.Return (some (.Call (.Name "_law_error" p1) [.Name nm p2] [] p3)) p4] (tErr T C K mg X.N.length i a cls d)
structure SOk (T : Tb) (N : List Str) (Φ : Nat → List Val → Sto → Res Val) (C : Nat → Option Str) (n : Nat) (sc : Scope) (W : WX) (X : Cx) : Prop where
  xo : XOk T N Φ n sc true W X
  po : T.hot = false → PassesOwn (model X.prog X.w) X.A X.env X.xe
  kd : kindB sc = true
  xc : T.hot = false → XcOk T C n X.K X.mg X.prog X.w X.base
  hs : X.stack = X.env :: X.outer
  hf : X.env.frame = some X.env.locals
theorem SOk.kind {T : Tb} {N : List Str} {Φ : Nat → List Val → Sto → Res Val} {C : Nat → Option Str} {n : Nat} {sc : Scope} {W : WX} {X : Cx} (O : SOk T N Φ C n sc W X) : X.env.scope.kind = .function := by
  rw [O.xo.sc]
  have h := O.kd
  unfold kindB at h
  split at h
  · assumption
  · cases h
theorem loc_of {X : Cx} {sc : Scope} {x : Str} (hs : X.env.scope = sc) (hf : ∀ x, X.fn x = true) (h : locB true sc x = true) : Loc X.env.scope x ∧ (X.fn x = true ∨ X.env.scope.names.lookup x = some .local) := by
  unfold locB at h
  split at h
  · exact ⟨.inl (by rw [hs]; assumption), .inl (hf x)⟩
  · exact ⟨.inr (by rw [hs]; assumption), .inl (hf x)⟩
  · cases h
section
variable {T : Tb} {N : List Str} {Φ : Nat → List Val → Sto → Res Val} {C : Nat → Option Str} {n : Nat}
/-- y = [..] -/
theorem ss_setL {m : Bool} {own : List Nat} {elt : CE} {t : CT} {src : CSr} {c : CEo} {sc : Scope} {W : WX} {X : Cx} (O : SOk T N Φ C n sc W X) {i : Nat} {y : Str} {py spos pos : Pos} {x : Expr} {gs : List Comprehension} {scope : Scope}
    (hi : N[i]? = some y) (hl : locB true sc y = true) (h : chkE T N (.lcm m own elt t src c) sc (.ListComp x gs scope pos) = true) :
    PS X (.Assign [.Name y py] (.ListComp x gs scope pos) spos) (tSX T X W fun ρ μ => (evalE Φ (gOf T) (.lcm m own elt t src c) ρ μ).bind fun w μ => .ok (.nx (ρ.set i (some w))) μ) := by
  have hN' : X.N[i]? = some y := by rw [O.xo.hN]; exact hi
  have nd : X.N.Nodup := by rw [O.xo.hN]; exact O.xo.nd
  have hsw := sw_lc (elt := x) (gs := gs) (scope := scope) (pos := pos) (py := py) (y := y) (l := spos.line) O.kind
  cases hb : swB X.env.scope y py pos scope with
  | false =>
    rw [hb] at hsw
    obtain ⟨l1, l2⟩ := loc_of O.xo.sc (O.xo.fn rfl) hl
    exact ss_set nd hN' l1 l2 hsw (sndE _ O.xo h).1
  | true =>
    rw [hb] at hsw
    have hyl : X.env.scope.names.lookup y = some .local := by
      unfold swB at hb
      simp only [Bool.and_eq_true, beq_iff_eq] at hb
      exact hb.1.1
    simp only [chkE] at h
    split at h
    · rename_i e' x' tg it ifs scope' pos' heq
      injection heq with e1 e2 e3 e4
      subst e1 e2 e3 e4
      simp only [Bool.and_eq_true, decide_eq_true_eq, List.all_eq_true] at h
      obtain ⟨⟨⟨⟨⟨⟨⟨⟨⟨hc0, hbl⟩, ho⟩, hr⟩, hte⟩, hns⟩, he⟩, ht⟩, hsl⟩, hif0⟩ := h
      have cold : T.hot = false := by simpa using hc0
      have ok : BlkOk X.N X.env.scope scope (ownP N own) := by rw [O.xo.hN, O.xo.sc]; exact blkOk_by hbl
      have hif : ∃ tt, (∀ (s : Shared) (H : Hp) (C : Addr) (cl : List (Str × Addr)) (fp : List Addr), PTs (X.blk s H scope (compEnvC scope cl C X.env) fp) ifs tt) ∧ ∀ σ H Q, tT T X.K X.mg W0 (evalC Φ (gOf T) c) σ H Q → tt σ H Q := by
        cases ifs with
        | nil =>
          cases c with
          | no => exact ⟨tYes, fun _ _ _ _ _ => pts_nil, fun σ H Q h => tT_true (T := T) σ H Q h⟩
          | so a => simp [chkO] at hif0
        | cons z ys =>
          cases ys with
          | cons _ _ => simp at hif0
          | nil =>
            cases c with
            | no => simp [chkO] at hif0
            | so a =>
              have hy : chkE T N a (relS scope sc) z = true := by simpa only [chkO] using hif0
              exact ⟨tT T X.K X.mg W0 (evalE Φ (gOf T) a), fun s H C cl fp => pts_one (sndE a (O.xo.blk cold s H C cl fp scope) hy).2, fun _ _ _ h => h⟩
      obtain ⟨tt, h1, h2⟩ := hif
      have base := ps_setLc (te := tE T X.K X.mg W0 (evalE Φ (gOf T) elt)) (g := gT X.K t) (pos := pos) (spos := spos) (py := py) (O.xo.calm cold) nd hN' hyl hsw (sndR src (tg := tg) O.xo hte hr) ok
        (fun s H C cl fp => pg_ct (top := false) (X := X.blk s H scope (compEnvC scope cl C X.env) fp) ((O.xo.blk cold s H C cl fp scope).calm cold) (O.xo.blk cold s H C cl fp scope).hN O.xo.nd (O.xo.blk cold s H C cl fp scope).sc (fun z => nomatch z) t tg ht)
        h1 (fun s H C cl fp => (sndE elt (O.xo.blk cold s H C cl fp scope) he).1) (fset hns)
      have ez : evalE Φ (gOf T) (.lcm m own elt t src c) = lcF m own t (evalR Φ (gOf T) src) (evalE Φ (gOf T) elt) (evalC Φ (gOf T) c) := rfl
      rw [ez]
      refine PS.imp base fun Dn σ H h => ?_
      have h3 := asg_step h
      rw [ho]
      exact lc_step hsl h2 h3
    · cases h
mutual
theorem sndS : ∀ (c : CS) {sc : Scope} {W : WX} {X : Cx} {st : Stmt}, SOk T N Φ C n sc W X → chkS T N c sc st = true → PS X st (tSX T X W (evalS Φ (gOf T) C c))
  | .bad, _, _, _, _, _, _ => ss_bad
  | .pass, sc, W, X, st, O, h => by
    simp only [chkS] at h
    split at h
    · exact ss_pass
    · cases h
  | .brk, sc, W, X, st, O, h => by
    simp only [chkS] at h
    split at h
    · exact ss_brk
    · cases h
  | .cnt, sc, W, X, st, O, h => by
    simp only [chkS] at h
    split at h
    · exact ss_cnt
    · cases h
  | .ex a, sc, W, X, st, O, h => by
    simp only [chkS] at h
    split at h
    · rw [Bool.and_eq_true] at h
      exact ss_ex h.1 (sndE a O.xo h.2).1
    · cases h
  | .ret a, sc, W, X, st, O, h => by
    simp only [chkS] at h
    split at h
    · exact ss_ret (sndE a O.xo h).1
    · cases h
  | .retN, sc, W, X, st, O, h => by
    simp only [chkS] at h
    split at h
    · exact ss_retN
    · cases h
  | .set i a, sc, W, X, st, O, h => by
    simp only [chkS] at h
    split at h
    · rename_i x py e pos
      simp only [Bool.and_eq_true, decide_eq_true_eq, Bool.or_eq_true] at h
      obtain ⟨⟨⟨h1, h2⟩, h3⟩, h4⟩ := h
      obtain ⟨l1, l2⟩ := loc_of O.xo.sc (O.xo.fn rfl) h2
      rcases h4 with h4 | h4
      · exact ss_set (by rw [O.xo.hN]; exact O.xo.nd) (by rw [O.xo.hN]; exact h1) l1 l2 (sw_not h4) (sndE a O.xo h3).1
      · split at h4
        · exact ss_setL O h1 h2 h3
        · cases h4
    · cases h
  | .setT t a, sc, W, X, st, O, h => by
    simp only [chkS] at h
    split at h
    · rename_i es k p e pos
      simp only [Bool.and_eq_true] at h
      obtain ⟨⟨⟨⟨h0, h1⟩, h2⟩, h3⟩, h4⟩ := h
      have cold : T.hot = false := by simpa using h0
      refine ss_setT (pg_ct (top := true) (O.xo.calm cold) O.xo.hN O.xo.nd O.xo.sc O.xo.fn t _ h1) (sndE a O.xo h4).1 (show swapsWith e (some (.Tuple es k p)) pos.line X.env = pure false from sw_not h2) ?_ rfl
      cases e <;> first | rfl | (simp [notTup] at h3)
    · cases h
  | .sto o i a, sc, W, X, st, O, h => by
    simp only [chkS] at h
    split at h
    · rename_i x ix p e pos
      simp only [Bool.and_eq_true] at h
      obtain ⟨⟨⟨h1, h2⟩, h3⟩, h4⟩ := h
      exact ss_sto (sndE o O.xo h2).1 (sndE i O.xo h3).1 (sndE a O.xo h4).1 sw_sub (by intro v; cases ix <;> first | rfl | (simp [notSlice] at h1))
    · cases h
  | .aug i o a, sc, W, X, st, O, h => by
    simp only [chkS] at h
    split at h
    · rename_i x p op e pos
      simp only [Bool.and_eq_true, decide_eq_true_eq] at h
      obtain ⟨⟨⟨h1, h2⟩, h3⟩, h4⟩ := h
      obtain ⟨l1, l2⟩ := loc_of O.xo.sc (O.xo.fn rfl) h2
      have nd : X.N.Nodup := by rw [O.xo.hN]; exact O.xo.nd
      have hi : X.N[i]? = some x := by rw [O.xo.hN]; exact h1
      split at h4
      · exact ss_aug (o := .add) nd hi l1 l2 ip_add (fun i j z e => by cases e; rfl) (sndE a O.xo h3).1
      · exact ss_aug (o := .sub) nd hi l1 l2 ip_sub (fun i j z e => by cases e; rfl) (sndE a O.xo h3).1
      · cases h4
    · cases h
  | .iff c a b, sc, W, X, st, O, h => by
    simp only [chkS] at h
    split at h
    · simp only [Bool.and_eq_true] at h
      exact ss_if (sndE c O.xo h.1.1).2 (sndSs a O h.1.2) (sndSs b O h.2)
    · cases h
  | .for_ t src b, sc, W, X, st, O, h => by
    simp only [chkS] at h
    split at h
    · simp only [Bool.and_eq_true] at h
      obtain ⟨⟨⟨⟨⟨h0, h1⟩, h2⟩, h3⟩, hte⟩, h4⟩ := h
      have cold : T.hot = false := by simpa using h0
      exact ss_for (O.po cold) (O.xo.calm cold) (sndR src O.xo hte h3) (pg_ct (top := true) (O.xo.calm cold) O.xo.hN O.xo.nd O.xo.sc O.xo.fn t _ h1) (sndSs b O h4) (fset h2)
    · cases h
  | .whl k c b, sc, W, X, st, O, h => by
    simp only [chkS] at h
    split at h
    · simp only [Bool.and_eq_true] at h
      have cold : T.hot = false := by simpa using h.1.1
      exact ss_whl (O.po cold) (sndE c O.xo h.1.2).2 (sndSs b O h.2)
    · cases h
  | .rse c as, sc, W, X, st, O, h => by
    simp only [chkS] at h
    split at h
    · rename_i x p y es pos p2
      simp only [Bool.and_eq_true, decide_eq_true_eq] at h
      obtain ⟨⟨⟨⟨⟨h0, h1⟩, h2⟩, h3⟩, h4⟩, h5⟩ := h
      have cold : T.hot = false := by simpa using h0
      obtain ⟨⟨x', fl⟩, e1, e2⟩ := Option.map_eq_some_iff.mp h1
      have ex : x' = x := e2
      subst ex
      rw [e1] at h2
      have hlen : fl.length = cesLen as := Option.some.inj h2
      have cc := h5
      have hst : notStar y = true := by
        cases as with
        | nil => simp [chkEs] at cc
        | cons _ _ =>
          simp only [chkEs, Bool.and_eq_true] at cc
          exact cc.1.1
      have hrest : (backTo pos (starEach es X.env)).any (·.1) = false := by
        cases as with
        | nil => simp [chkEs] at cc
        | cons _ _ =>
          simp only [chkEs, Bool.and_eq_true] at cc
          exact nostar_any cc.2
      exact (O.xc cold).rse X W c _ fl rfl rfl rfl rfl rfl (O.xo.calm cold) (O.xo.roomC cold) O.xo.tk e1 (gl_of O.xo.sc h3) y es p pos p2 _ (fun ρ μ ws μ' e => by rw [hlen]; exact evalEs_len e) (okName_of h4).1 (star1 hst) hrest (sndA as O.xo h5)
    · cases h
  | .try_ b, sc, W, X, st, O, h => by
    simp only [chkS] at h
    split at h
    · rename_i x k np nm le p1 n' p2 p3 p4 p5 pos
      simp only [Bool.and_eq_true, decide_eq_true_eq] at h
      obtain ⟨⟨⟨⟨⟨⟨⟨⟨⟨h0, hk⟩, hgk⟩, hokn⟩, hle⟩, hgle⟩, hn⟩, hmem⟩, hloc⟩, hb⟩ := h
      subst hk hle hn
      have cold : T.hot = false := by simpa using h0
      obtain ⟨i, hi, hix⟩ := List.mem_iff_getElem.mp hmem
      have hN : X.N[i]? = some n' := by rw [O.xo.hN]; exact List.getElem?_eq_some_iff.mpr ⟨hi, hix⟩
      have hl' : X.env.scope.names.lookup n' = some .local := by rw [O.xo.sc]; exact hloc
      obtain ⟨CK, gK, hexm⟩ := (O.xc cold).keep
      have hnames : Names X "KeepError" (.ref CK) := ⟨gl_of O.xo.sc hgk, by decide +kernel, .inl gK⟩
      have nd : X.N.Nodup := by rw [O.xo.hN]; exact O.xo.nd
      have base := ps_try_as (pos := pos) (pos' := p5) (np := np) (Wout := W) (tb := fun W' => tS T X.K X.mg W' (evalSs Φ (gOf T) C b)) (ts := fun a cls d => tErr T C X.K X.mg X.N.length i a cls d) O.hs O.hf nd hN hl' hnames O.xo.tk
        (fun W' pn xe tk' po' => sndSs b (X := X.tr pn xe) ⟨⟨O.xo.hN, O.xo.nd, O.xo.sc, O.xo.calm, O.xo.hd, O.xo.room, O.xo.fn, tk', O.xo.mo, (fun h => by rw [cold] at h; cases h), (fun h => by rw [cold] at h; cases h), (fun h => by rw [cold] at h; cases h), O.xo.fs⟩, fun _ => po', O.kd, O.xc, O.hs, O.hf⟩ hb)
        (fun a oe cls d pn hz hf => (O.xc cold).err X i n' rfl rfl rfl rfl rfl (O.xo.calm cold) (O.xo.roomC cold) hN hl' hokn (gl_of O.xo.sc hgle) a oe cls d pn p1 p2 p3 p4 hz hf)
      refine PS.imp base fun Dn σ H ⟨ρ, F, A, μ, R, re, h⟩ => ?_
      refine ⟨ρ, F, A, μ, R, re, ?_⟩
      simp only [evalS] at h
      cases e : evalSs Φ (gOf T) C b ρ μ with
      | ok f μ1 =>
        rw [e] at h
        exact h
      | bad =>
        rw [e] at h
        exact h
      | exc z μ1 =>
        rw [e] at h
        intro cls d F' H' A' x' R' xr σ'
        obtain ⟨y, ey, h2⟩ := After.opt h
        obtain ⟨nm', fl, C', t1, t2, t3, t4⟩ := xr
        refine ⟨true, ?_, fun _ a ha => ?_, fun z => nomatch z⟩
        · rw [t3]
          exact hexm _ _ _ _ t1 t2
        · intro hlen
          have hlt : i < σ'.length := by
            rw [List.length_set] at hlen
            rw [hlen, O.xo.hN]
            exact hi
          refine ⟨List.getElem?_set_self hlt, F', A', μ1, z, y, R', ⟨nm', fl, C', t1, t2, t3, t4⟩, ey, fun v F2 H2 x2 R2 d2 => ?_⟩
          exact h2 F2 H2 A' (x'.trans x2) R2 v d2
    · cases h
theorem sndSs : ∀ (c : CSs) {sc : Scope} {W : WX} {X : Cx} {sts : List Stmt}, SOk T N Φ C n sc W X → chkSs T N c sc sts = true → PSs X sts (tSX T X W (evalSs Φ (gOf T) C c))
  | .nil, sc, W, X, sts, O, h => by
    cases sts with
    | nil => exact ss_nil
    | cons _ _ => simp [chkSs] at h
  | .cons a as, sc, W, X, sts, O, h => by
    cases sts with
    | nil => simp [chkSs] at h
    | cons st sts =>
      simp only [chkSs, Bool.and_eq_true] at h
      exact ss_cons (sndS a O h.1) (sndSs as O h.2)
end
end
end Ip
set_option Elab.async false
set_option linter.all false
set_option maxRecDepth 100000
set_option maxHeartbeats 4000000
/-! Ip: defs keep the promise that the evaluator tells. -/
namespace Ip
open PySem L2
section
variable {T : Tb} {K : PySem.W.Frag} {mg : Str → Option Value} {F H F' H' : Hp} {A A' : List Addr} {μ μ1 : Sto}
theorem Ext.cut (x : Ext F H A F' H' A') (hl : A.length = n) : A'.take n = A ∧ Ext F H A F' H' A := by
  obtain ⟨B, rfl⟩ := x.pre
  refine ⟨by rw [← hl, List.take_left], x.ff, ⟨[], by simp⟩, x.kp, x.ol, fun b h => .inl h⟩
theorem Rep.cut' {n : Nat} (R : Rep K F' H' A' μ1) (e : A'.take n = A) : Rep K F' H' A (μ1.take n) := e ▸ R.cut n
theorem Ext.keep1 {n i : Nat} {a : Addr} (x : Ext F H A F' H' A') (hl : A.length = n) (hi : n ≤ i) (ha : A'[i]? = some a) : Ext F H A F' H' (A ++ [a]) := by
  have hm := List.mem_of_getElem? ha
  have hn := x.nw a hm
  refine ⟨x.ff, ⟨[a], rfl⟩, x.kp, x.ol, fun b hb => ?_⟩
  rcases List.mem_append.mp hb with h | h
  · exact .inl h
  · simp only [List.mem_singleton] at h
    subst h
    exact hn
theorem Rep.keep1 {n i : Nat} {a : Addr} {o : MO} (x : Ext F H A F' H' A') (R : Rep K F' H' A' μ1) (hl : A.length = n) (hi : n ≤ i) (ha : A'[i]? = some a) (ho : μ1[i]? = some o) : Rep K F' H' (A ++ [a]) (μ1.take n ++ [o]) := by
  obtain ⟨B, rfl⟩ := x.pre
  have hlt : i < (A ++ B).length := (List.getElem?_eq_some_iff.mp ha).1
  have hlen : (μ1.take n).length = n := by
    rw [List.length_take, ← R.len]
    rw [List.length_append] at hlt ⊢
    omega
  have na : a ∉ A := fun z => by
    obtain ⟨j, hj, hj2⟩ := List.mem_iff_getElem.mp z
    have e : (A ++ B)[j]? = some a := by rw [List.getElem?_append_left hj]; exact List.getElem?_eq_some_iff.mpr ⟨hj, hj2⟩
    have := nodup_at R.nd ha e
    omega
  refine ⟨R.sub, ?_, by rw [List.length_append, List.length_append, hlen, hl]; rfl, fun j b m e1 e2 => ?_⟩
  · refine List.nodup_append.mpr ⟨(List.nodup_append.mp R.nd).1, by simp, fun b hb c hc => ?_⟩
    simp only [List.mem_singleton] at hc
    subst hc
    exact fun z => na (z ▸ hb)
  · by_cases hj : j < n
    · rw [List.getElem?_append_left (by omega)] at e1
      rw [List.getElem?_append_left (by omega), List.getElem?_take_of_lt hj] at e2
      exact R.at_ j b m (by rw [List.getElem?_append_left (by omega)]; exact e1) e2
    · rw [List.getElem?_append_right (by omega)] at e1
      rw [List.getElem?_append_right (by omega)] at e2
      have hj0 : j - A.length = 0 := by
        have := (List.getElem?_eq_some_iff.mp e1).1
        simp only [List.length_singleton] at this
        omega
      rw [hj0] at e1
      rw [hlen, ← hl, hj0] at e2
      simp only [List.getElem?_cons_zero, Option.some.injEq] at e1 e2
      subst e1 e2
      exact R.at_ i a o ha ho
theorem fin_after {r : Res Flo} {E : XK} {Q : VK} (R : Rep K F H A μ) (h : After T K mg F H A (finV μ.length r) E fun w _ F' H' A' => ∀ v, RV K F' A' v w → Q v H') :
    After T K mg F H A r (fun cls d H' => ∀ _ : L2.St, E cls d H') fun fl _ F' H' A' => EndF K { nx := fun _ H' => Q .non H', rt := Q } fl F' H' A' := by
  have hl : A.length = μ.length := R.len
  cases r with
  | ok f μ1 =>
    intro F' H' A' x R'
    obtain ⟨ec, xc⟩ := x.cut hl
    have Rc := R'.cut' ec
    cases f with
    | nx ρ => exact fun σ _ => h F' H' A xc Rc .non .non
    | bk ρ => exact h.elim
    | ct ρ => exact h.elim
    | ret w =>
      intro v rv
      cases w with
      | d y => exact h F' H' A xc Rc v rv
      | s ns => exact h F' H' A xc Rc v rv
      | x => exact h F' H' A xc Rc v rv
      | kc y => exact h F' H' A xc Rc v rv
      | t y n =>
        simp only [finV, outV] at h
        obtain ⟨p, vy, a, ev, e2, e3, ha⟩ := rv
        by_cases hn : n < μ.length
        · rw [if_pos hn] at h
          refine h F' H' A xc Rc v ⟨p, vy, a, ev, e2, e3, ?_⟩
          obtain ⟨B, rfl⟩ := x.pre
          rw [List.getElem?_append_left (by omega)] at ha
          exact ha
        · rw [if_neg hn] at h
          split at h
          · rename_i o ho
            refine h F' H' (A ++ [a]) (x.keep1 hl (Nat.le_of_not_lt hn) ha) (Rep.keep1 x R' hl (Nat.le_of_not_lt hn) ha ho) v ⟨p, vy, a, ev, e2, e3, ?_⟩
            rw [List.getElem?_append_right (by omega), hl]
            simp
          · exact h.elim
      | h n =>
        simp only [finV, outV] at h
        obtain ⟨a, ha, ev⟩ := rv
        by_cases hn : n < μ.length
        · rw [if_pos hn] at h
          refine h F' H' A xc Rc v ⟨a, ?_, ev⟩
          obtain ⟨B, rfl⟩ := x.pre
          rw [List.getElem?_append_left (by omega)] at ha
          exact ha
        · rw [if_neg hn] at h
          split at h
          · rename_i o ho
            refine h F' H' (A ++ [a]) (x.keep1 hl (Nat.le_of_not_lt hn) ha) (Rep.keep1 x R' hl (Nat.le_of_not_lt hn) ha ho) v ⟨a, ?_, ev⟩
            rw [List.getElem?_append_right (by omega), hl]
            simp
          · exact h.elim
  | exc e μ1 =>
    intro cls d F' H' A' x R' xr σ
    obtain ⟨ec, xc⟩ := x.cut hl
    exact h cls d F' H' A xc (R'.cut' ec) xr
  | bad => exact h.elim
theorem rvs_map : ∀ {vs : List V} {ws : List Val}, RVs K F A vs ws → ∀ (i : Nat) (w : Val), ws[i]? = some w → ∃ v, vs[i]? = some v ∧ RV K F A v w
  | _, _, .nil, i, w, e => by simp at e
  | _, _, .cons r _, 0, w, e => by
    simp only [List.getElem?_cons_zero, Option.some.injEq] at e
    subst e
    exact ⟨_, rfl, r⟩
  | _, _, .cons _ t, i + 1, w, e => by
    obtain ⟨v, h1, h2⟩ := rvs_map t i w (by simpa using e)
    exact ⟨v, by simpa using h1, h2⟩
theorem start_re {N : List Str} {f : CF} {vs : List V} {ws : List Val} (hN : N.length = f.nn) (hle : vs.length ≤ N.length) (r : RVs K F A vs ws) : RE K F A (L2.start N vs) (startE f ws) := by
  have hl := r.length
  refine ⟨?_, fun i w e => ?_⟩
  · unfold L2.start startE
    simp only [List.length_append, List.length_map, List.length_replicate]
    omega
  · unfold startE at e
    by_cases hi : i < ws.length
    · rw [List.getElem?_append_left (by simpa using hi), List.getElem?_map] at e
      obtain ⟨u, e1, e2⟩ := Option.map_eq_some_iff.mp e
      cases e2
      obtain ⟨v, h1, h2⟩ := rvs_map r i w e1
      refine ⟨v, ?_, h2⟩
      unfold L2.start
      rw [List.getElem?_append_left (by rw [List.length_map]; omega), List.getElem?_map, h1]
      rfl
    · rw [List.getElem?_append_right (by simpa using hi), List.getElem?_replicate] at e
      split at e <;> cases e
end

/-- a def of the text, its core form -/
structure DefOk (T : Tb) (j : Nat) (x : Str) (np : Nat) (cf : CF) (st : Stmt) (N ps : List Str) : Prop where
  sc : FnScope N ps (defScope st)
  kd : kindB (defScope st) = true
  np1 : ps.length = np
  np2 : cf.np = np
  le : np ≤ N.length
  nn : N.length = cf.nn
  chk : chkSs T N cf.body (defScope st) (defBody st) = true
/-- .. where it stands -/
structure DefAt (K : PySem.W.Frag) (mg : Str → Option Value) (x : Str) (st : Stmt) (ps : List Str) (f : Addr) (fd : FuncData) : Prop where
  fn : Fun K x x st f fd
  mg : mg x = some (.ref f)
  bi : Binds K fd ps []
/-- the whole table -/
structure AllOk (T : Tb) (Pt : Nat → Option CF) (C : Nat → Option Str) (m : Nat) (K : PySem.W.Frag) (mg : Str → Option Value) (P : Program) (w : World) (base : Heap) : Prop where
  cold : T.hot = false
  mo : ModOk T K mg w
  xc : ∀ n, n ≤ m → XcOk T C (n + 2) K mg P w base
  fs : ∀ (j : Nat) (x : Str) (np : Nat), T.fn[j]? = some (x, np) → ∃ cf st N ps f fd, Pt j = some cf ∧ DefOk T j x np cf st N ps ∧ DefAt K mg x st ps f fd
theorem def_ok0 {T : Tb} {Pt : Nat → Option CF} {C : Nat → Option Str} {m : Nat} {K : PySem.W.Frag} {mg : Str → Option Value} {P : Program} {w : World} {base : Heap} (O : AllOk T Pt C m K mg P w base) {k : Nat} (hk : k ≤ m) {j : Nat} {x : Str} {np : Nat} {cf : CF} {st : Stmt} {N ps : List Str} {f : Addr} {fd : FuncData}
    (hP : Pt j = some cf) (Dk : DefOk T j x np cf st N ps) (Da : DefAt K mg x st ps f fd)
    (ih : ∀ (j : Nat) (x : Str) (np : Nat), T.fn[j]? = some (x, np) → ∃ f fd ps, mg x = some (.ref f) ∧ PySem.W.keepIn K (.ref f) = true ∧ Binds K fd ps [] ∧ FnOk P w K mg base (L2.CX P w) (k + 2) f fd ps (spF T K mg (callF Pt (gOf T) C k j) np)) :
    FnOk P w K mg base (L2.CX P w) (k + 3) f fd ps (spF T K mg (callF Pt (gOf T) C (k + 1) j) np) := by
  refine Da.fn.okX Dk.sc (fun vs H Q E h => h.1.trans Dk.np1.symm) fun cdv A outer s H vs Q E hr hsp => ?_
  obtain ⟨hlen, F, Ad, μ, ws, R, rv, h⟩ := hsp
  have SO : SOk T N (callF Pt (gOf T) C k) C (k + 2) (defScope st) (fun cls d _ H => E cls d H) (cxOf (L2.CX P w) P w K mg base N x (defScope st) f cdv A outer s H E) :=
    ⟨⟨rfl, Dk.sc.nd, rfl, fun _ => rfl, fun _ => hr.hd, L2H.roomH_of hr, fun _ _ => rfl, takes_of rfl rfl rfl rfl, O.mo, (fun h => by rw [O.cold] at h; cases h), (fun h => by rw [O.cold] at h; cases h), (fun h => by rw [O.cold] at h; cases h), fun _ => ih⟩, fun _ => passes_of rfl, Dk.kd, fun _ => O.xc k hk, rfl, rfl⟩
  refine ⟨_, sndSs cf.body SO Dk.chk, startE cf ws, F, Ad, μ, R, start_re Dk.nn (by rw [hlen]; exact Dk.le) rv, ?_⟩
  simp only [callF, hP] at h
  rw [if_pos (by rw [← rv.length, hlen, Dk.np2])] at h
  exact fin_after R h
theorem fns_ok {T : Tb} {Pt : Nat → Option CF} {C : Nat → Option Str} {m : Nat} {K : PySem.W.Frag} {mg : Str → Option Value} {P : Program} {w : World} {base : Heap} (O : AllOk T Pt C m K mg P w base) :
    ∀ (k : Nat), k ≤ m → ∀ (j : Nat) (x : Str) (np : Nat), T.fn[j]? = some (x, np) → ∃ f fd ps, mg x = some (.ref f) ∧ PySem.W.keepIn K (.ref f) = true ∧ Binds K fd ps [] ∧ FnOk P w K mg base (L2.CX P w) (k + 2) f fd ps (spF T K mg (callF Pt (gOf T) C k j) np)
  | 0, _, j, x, np, e => by
    obtain ⟨cf, st, N, ps, f, fd, _, Dk, Da⟩ := O.fs j x np e
    refine ⟨f, fd, ps, Da.mg, Da.fn.kp, Da.bi, fun vs H Q E h => h.1.trans Dk.np1.symm, fun A outer s H args us vs Q E hr he hb hv hsp => ?_⟩
    obtain ⟨_, F, A', μ, ws, _, _, h⟩ := hsp
    exact h.elim
  | k + 1, hk, j, x, np, e => by
    obtain ⟨cf, st, N, ps, f, fd, hP, Dk, Da⟩ := O.fs j x np e
    exact ⟨f, fd, ps, Da.mg, Da.fn.kp, Da.bi, def_ok0 O (by omega) hP Dk Da fun j' x' np' e' => fns_ok O k (by omega) j' x' np' e'⟩
theorem def_ok {T : Tb} {Pt : Nat → Option CF} {C : Nat → Option Str} {m : Nat} {K : PySem.W.Frag} {mg : Str → Option Value} {P : Program} {w : World} {base : Heap} (O : AllOk T Pt C m K mg P w base) {k : Nat} (hk : k ≤ m) {j : Nat} {x : Str} {np : Nat} {cf : CF} {st : Stmt} {N ps : List Str} {f : Addr} {fd : FuncData}
    (hP : Pt j = some cf) (Dk : DefOk T j x np cf st N ps) (Da : DefAt K mg x st ps f fd) : FnOk P w K mg base (L2.CX P w) (k + 3) f fd ps (spF T K mg (callF Pt (gOf T) C (k + 1) j) np) :=
  def_ok0 O hk hP Dk Da fun j' x' np' e' => fns_ok O k hk j' x' np' e'
end Ip
set_option Elab.async false
set_option linter.all false
set_option maxRecDepth 100000
set_option maxHeartbeats 4000000
/-! Ip: own exceptions are made and raised. -/
namespace Ip
open PySem L2
/-- the one line of an own __init__ -/
def chkInit (f : Str) (st : Stmt) : Bool := match defBody st with
  | [.Assign [.Attribute (.Name s _) f1 _] (.Name f2 _) _] => decide (s = "self") && decide (f1 = f) && decide (f2 = f) && okName f
  | _ => false
structure OwnC (K : PySem.W.Frag) (mg : Str → Option Value) (x f : Str) (C : Addr) : Prop where
  g : mg x = some (.ref C)
  ox : OexC K C
  nf : PySem.W.findIn K (.ref C) f = some none
  ini : ∃ st q fI fd, PySem.W.findIn K (.ref C) "__init__" = some (some (.ref fI)) ∧ PySem.W.typeIn K (.ref fI) = some (.type "function") ∧ Fun K "__init__" q st fI fd ∧ Binds K fd ["self", f] [] ∧ FnScope ["self", f] ["self", f] (defScope st) ∧ chkInit f st = true
/-- what such an __init__ keeps -/
def spI (f : Str) : Sp := fun vs H Q E => ∃ a C y, vs = [.ref a, y] ∧ H a = some (exo a C none) ∧ ∀ dx, H dx = none → dx ≠ a → Q .non (upd (upd H dx (exd dx [(f, y)])) a (exo a C (some dx)))
def spIC (f : Str) (C : Addr) : Sp := fun vs H Q E => ∃ a y, vs = [.ref a, y] ∧ H a = some (exo a C none) ∧ ∀ dx, H dx = none → dx ≠ a → Q .non (upd (upd H dx (exd dx [(f, y)])) a (exo a C (some dx)))
section
variable {T : Tb} {K : PySem.W.Frag} {mg : Str → Option Value} {P : Program} {w : World} {base : Heap}
theorem own_init {x f q : Str} {C fI : Addr} {fd : FuncData} {st : Stmt} {k : Nat} (ox : OexC K C) (nf : PySem.W.findIn K (.ref C) f = some none) (fn : Fun K "__init__" q st fI fd) (S : FnScope ["self", f] ["self", f] (defScope st)) (ck : chkInit f st = true) :
    FnOk P w K mg base (L2.CX P w) (k + 1) fI fd ["self", f] (spIC f C) := by
  unfold chkInit at ck
  split at ck
  · rename_i s p1 f1 p2 f2 p3 pos hb
    simp only [Bool.and_eq_true, decide_eq_true_eq] at ck
    obtain ⟨⟨⟨e1, e2⟩, e3⟩, okn⟩ := ck
    subst e1 e2 e3
    refine fn.okX S (fun vs H Q E ⟨a, y, e, _⟩ => by rw [e]; rfl) fun cdv A outer s H vs Q E hr hsp => ?_
    rw [hb]
    obtain ⟨a, y, rfl, ha, q⟩ := hsp
    have vs1 : Vis (defScope st) "self" := by
      rcases S.par "self" (by simp) with h | h
      · exact .inl h
      · exact .inr (.inl h)
    have vs2 : Vis (defScope st) f2 := by
      rcases S.par f2 (by simp) with h | h
      · exact .inl h
      · exact .inr (.inl h)
    refine ⟨_, pss_one (ps_ost (pe_var (i := 0) rfl vs1) (pe_var (i := 1) rfl vs2 (okName_of okn).1 (okName_of okn).2) rfl), ?_⟩
    refine ⟨y, rfl, .ref a, rfl, a, C, rfl, ox, nf, .inl ⟨ha, fun dx h1 h2 => q dx h1 h2⟩⟩
  · cases ck
theorem upd_del {H : Hp} {a d : Addr} {o1 o2 o3 : HO} (ha : H a = none) (hd : d ≠ a) : upd (del (upd (upd H d o1) a o2) a) d o3 = upd H d o3 := by
  funext b
  by_cases h1 : b = d
  · subst h1
    rw [upd_same, upd_same]
  · rw [upd_ne h1, upd_ne h1]
    by_cases h2 : b = a
    · subst h2
      rw [del_same, ha]
    · rw [del_ne h2, upd_ne h2, upd_ne h1]
/-- raise C(e) -/
theorem own_raise {X : Cx} {W : WX} {c : Nat} {x f : Str} {C : Addr} {k : Nat} (O : OwnC X.K X.mg x f C) (hc : X.calm = true) (hr : Room (k + 2) X.A) (tk : Takes X W) (hT : T.cl[c]? = some (x, [f])) (hg : Gl X x)
    {e : Expr} {es : List Expr} {p pos p2 : Pos} {fs : Env → Sto → Res (List Val)} (hdb : (x == ("__debug__" : Str)) = false) (he : starEach (e :: es) X.env = (false, eval e X.env) :: starEach es X.env)
    (hpl : (backTo pos (starEach es X.env)).any (·.1) = false) (hlen : ∀ ρ μ ws μ', fs ρ μ = .ok ws μ' → ws.length = 1) (ha : PA X (e :: es) (tAX T X W fs)) :
    PS X (.Raise (some (.Call (.Name x p) (e :: es) [] pos)) none p2) (tSX T X W fun ρ μ => (fs ρ μ).bind fun ws μ => (Res.opt (dsOf ws) μ).bind fun xs μ => .exc ⟨c, xs.reverse⟩ μ) := by
  obtain ⟨st, q, fI, fd, i1, i2, i3, i4, i5, i6⟩ := O.ini
  have F1 : FnOk X.prog X.w X.K X.mg X.base (L2.CX X.prog X.w) (k + 1) fI fd ["self", f] (spIC f C) := own_init (x := x) O.ox O.nf i3 i5 i6
  have hx : Passes (L2.CX X.prog X.w) X (fun _ _ _ => False) := fun pins σ H s e s' I c => tk e s' (XE.of_call I (fun _ _ _ h => h.elim) c)
  have base := ps_raise (pos := p2) hc tk (pmk_oex (dvs := []) (ds := []) (p := p) O.ox i1 i2 F1 hr i4 .nil hx hg O.g ha hdb he hpl)
  refine PS.imp base fun D σ H ⟨ρ, F, A, μ, R, re, h⟩ => ?_
  have hl := hlen ρ μ
  refine ⟨ρ, F, A, μ, R, re, ?_⟩
  clear base
  dsimp only at h
  cases hfs : fs ρ μ with
  | ok ws μ1 =>
    rw [hfs] at h
    have hl1 := hl ws μ1 hfs
    intro F1 H1 A1 x1 R1 vs rv
    have h1 := h.ext x1
    obtain ⟨xs, ey, h2⟩ := After.opt h1
    have da := dsOf_rv rv ey
    have hv1 : vs.length = 1 := rv.length.trans hl1
    match vs, xs, hv1, da, ey, h2, rv with
    | [y], [z], _, .cons dz .nil, ey, h2, rv =>
      refine ⟨Nat.le_of_lt (by simp), fun a hn => ?_⟩
      refine ⟨a, y, rfl, upd_same, fun dx hdx hne => ?_⟩
      rw [upd_ne hne] at hdx
      have hz : H1 a = none := hn
      refine ⟨rfl, dx, [(f, y)], by rw [upd_same], ?_, hdx, ?_⟩
      · rw [upd_ne hne, upd_same]
      · have e1 : upd (upd (upd H1 a (exo a C none)) dx (exd dx [(f, y)])) a (exo a C (some dx)) = upd (upd H1 dx (exd dx [(f, y)])) a (exo a C (some dx)) := by
          funext b
          by_cases h1 : b = a
          · subst h1
            rw [upd_same, upd_same]
          · rw [upd_ne h1, upd_ne h1]
            by_cases h3 : b = dx
            · subst h3
              rw [upd_same, upd_same]
            · rw [upd_ne h3, upd_ne h3, upd_ne h1]
        rw [e1, upd_del hn hne]
        obtain ⟨R2, x2⟩ := R1.newF (o := .xd [(f, y)]) hdx
        exact h2 (.ref C) (some dx) _ _ _ x2 R2 ⟨x, [f], C, hT, O.g, rfl, .inr ⟨dx, [y], rfl, upd_same, .cons (dz.sub x2.ff) .nil, rfl⟩⟩ σ
  | exc z μ1 =>
    rw [hfs] at h
    intro cls d F' H' A' x' R' xr
    exact h cls d F' H' A' x' R' xr σ
  | bad =>
    rw [hfs] at h
    exact h.elim
end
end Ip
set_option Elab.async false
set_option linter.all false
set_option maxRecDepth 100000
set_option maxHeartbeats 4000000
/-! Ip: defs that are called within an except suite and are given the exception. -/
namespace PySem.W
open PySem PySem.Spec PySem.Calls PyProof.Rows
section
variable {prog : Program} {w : World} {A : Around} {E : Value → Shared → Prop} {s : Shared} {K : Frag} {x D : Addr} {ox : Obj}
theorem ipFind {nm : Str} {a g : Value} {o1 : Option Obj} (h1 : (clsIn K D).isSome = true) (h2 : findIn K (.ref D) nm = some (some a)) (h3 : specialIn K a "__get__" = some (some g)) (h4 : takesIn K a = some true) :
    findObj K D o1 nm = some (.bind g a) := by
  cases h5 : clsIn K D with
  | none => rw [h5] at h1; cases h1
  | some cd =>
    unfold findObj
    simp [h5, h2, h3, h4]
/-- the class of an exception that has a dict -/
theorem ipClassOf {R : Option Value → Shared → Prop} {o1 : Option Obj} (c1 : findIn K (.ref D) "__getattribute__" = some (some (.builtin "BaseException.__getattribute__"))) (c2 : findIn K (.ref D) "__getattr__" = some none)
    (c3 : subIn K (.ref D) (.type "BaseException") = some true) (c4 : hasDictIn K D = true) (c5 : findIn K (.ref D) "__class__" = some (some (.builtin "object.__class__")))
    (c6 : specialIn K (.builtin "object.__class__") "__get__" = some (some (.builtin "getset_descriptor.__get__"))) (c7 : takesIn K (.builtin "object.__class__") = some true) (c8 : mroIn K D (.type "object") = some true)
    (kin : K.In s.heap) (J : InstAt s.heap x ox D o1) (done : R (some (.ref D)) { s with toks := s.toks + 1 }) : wpAny (model prog w) A (getAttr? (.ref x) "__class__") R E s := by
  have fo : findObj K D o1 "__class__" = some (.bind (.builtin "getset_descriptor.__get__") (.builtin "object.__class__")) := ipFind (by obtain ⟨cd, q, _⟩ := any_some c4; rw [q]; rfl) c5 c6 c7
  obtain ⟨h0, g0, d0, k0, os0⟩ := s
  have l0 := J.type (M := model prog w)
  have l1 := looks_findIn (M := model prog w) kin c1
  have l2 := looks_findIn (M := model prog w) kin c2
  have l3 := looks_find (M := model prog w) kin J fo
  have isB : Looks (model prog w) h0 (isInstance (.ref x) (.type "BaseException")) true := l0.andThen (looks_subIn kin c3)
  have n1 : (false && onTheHeap (Value.builtin "BaseException.__getattribute__")) = false := rfl
  have n2 : (Value.builtin "BaseException.__getattribute__" == Value.builtin "object.__getattribute__") = false := by decide +kernel
  have n3 : (onTheHeap (Value.ref D) && Value.builtin "BaseException.__getattribute__" == Value.builtin "object.__getattribute__") = false := by rw [n2]; rfl
  unfold getAttr? getAttrBy? getAttrBy
  refine wpAny_bind (wpAny_mkText (wpAny_bind (wpAny_attempt (wpAny_holding (wpAny_bind (l0.at (wpAny_bind (l1.at ?_))))))))
  show wpAny _ _ (if (onTheHeap (Value.ref D) && Value.builtin "BaseException.__getattribute__" == Value.builtin "object.__getattribute__") = true then _ else _) _ _ _
  rw [n3, if_neg Bool.false_ne_true]
  unfold getAttrByItsOwn hookBefore
  refine wpAny_bind ?_
  rw [if_pos (show onTheHeap (Value.ref D) = true from rfl)]
  refine l2.at ?_
  refine wpAny_bind (wpAny_attempt (wpAny_holding ?_))
  unfold callGetattribute
  rw [n1, if_neg Bool.false_ne_true]
  unfold boundAndCalled
  rw [PySem.F.excAttr_ValueError.ga.bind (.ref x)]
  refine wpAny_bind (wpAny_pure ?_)
  show wpAny _ _ (call (.builtin "BaseException.__getattribute__") [.ref x, .str "__class__" k0]) _ _ _
  refine wpAny_call (codeAny_call_builtin PySem.F.excAttr_ValueError.ga.plain PySem.F.entry_bexc_ga ?_)
  refine @check_slot (model prog w) _ _ ⟨h0, g0, d0, k0 + 1, os0⟩ "BaseException.__getattribute__" "BaseException" "__getattribute__" (.ref x) [.str "__class__" k0] [] _ (by decide +kernel) (by decide +kernel) isB (PySem.F.args_bexc_ga (.ref x) (.str "__class__" k0)) ?_
  unfold Builtin.«object.__getattribute__»
  refine wpAny_bind (wpAny_of_eq (a := ((Value.ref x : Value), [Value.str "__class__" k0])) (by first | rfl | (simp only [slotArgs]; rfl)) ?_)
  refine wpAny_bind (wpAny_pure (wpAny_bind (l0.at (wpAny_bind (l3.at ?_)))))
  show wpAny _ _ (holding [Value.builtin "object.__class__"] (call (.builtin "getset_descriptor.__get__") [.builtin "object.__class__", .ref x, .ref D]) >>= ret) _ _ _
  refine wpAny_bind (wpAny_holding (wpAny_call (class_get (s := ⟨h0, g0, d0, k0 + 1, os0⟩) (ox := ox) (od := o1) kin J c8 ?_)))
  refine wpAny_pure ?_
  show wpAny _ _ (handedOut (.ref D)) _ _ _
  rw [handedOut_of (v := .ref D) rfl]
  first
    | exact wpAny_pure (wpAny_pure done)
    | exact wpAny_pure done
    | exact wpAny_pure (wpAny_bind (wpAny_pure (wpAny_pure done)))
theorem ipKit (C : L2.ExcC K D) : KitX K (.ref x) (.ref D) (fun h => ∃ o1, InstAt h x ox D o1) where
  ty := fun _ _ _ ⟨_, J⟩ => J.type
  it := fun _ _ kin _ => by
    obtain ⟨cdD, q, _⟩ := any_some C.hd
    unfold clsIn at q
    split at q
    · rename_i c' d' cd' sl' ho
      intro A' Q' E' s' k z
      unfold isType loadHead
      exact wpAny_bind (wpAny_loadPart (k _ _ (kin _ _ ho)) (wpAny_pure z))
    · cases q
  ne := fun h tp dd its n sl kin htp => by
    obtain ⟨cdD, q, _⟩ := any_some C.hd
    refine Bool.eq_false_iff.mpr fun z => ?_
    have e : D = tp := Value.ref.inj (beq_iff_eq.mp z)
    subst e
    unfold clsIn at q
    split at q
    · rename_i c' d' cd' sl' ho
      have z2 := (kin _ _ ho).symm.trans htp
      cases z2
    · cases q
  ca := fun kin ⟨_, J⟩ k => ipClassOf C.hg C.hk C.hs C.hd C.ha C.hn C.ht C.hm kin J k
end
end PySem.W
namespace Ip
open PySem PySem.Spec PyProof.Rows L2
/-- isinstance of the pinned exception -/
def rIsX (K : PySem.W.Frag) (D a : Addr) (d : Option Addr) : List V → Hp → VK → Prop := fun xs H Q => ∃ (c : V) (cv : Value) (b : Bool), xs = [.ref a, c] ∧ (∀ u, RelV c u → u = cv) ∧ PySem.W.kitOne K (.ref D) cv = some b ∧
  (d = none ∨ ∃ dd fs, d = some dd ∧ H dd = some (.xd fs)) ∧ Q (.bl b) H
theorem isE_ok {X : Cx} {a D : Addr} {d : Option Addr} {oe : Obj} (C : ExcC X.K D) (hp : (a, oe) ∈ X.pn) (hz : Zc (.ref D) d oe) (hf : ∃ vs, oe.data = .fields vs) : CallR X (.builtin "isinstance") (rIsX X.K D a d) := by
  intro pins s σ H xs us Q I r ⟨c, cv, b, e0, hcv, e, hd, q⟩
  subst e0
  cases r with
  | cons rx rr =>
    cases rr with
    | cons rt rr =>
      cases rr
      cases rx
      have ec := hcv _ rt
      subst ec
      obtain ⟨hget, _⟩ := I.pin (a, oe) (List.mem_append.mpr (.inl hp))
      obtain ⟨vs, hv⟩ := hf
      have J : ∃ o1, PySem.W.InstAt s.heap a oe D o1 := by
        obtain ⟨oc, od, oda, osl⟩ := oe
        obtain ⟨h1, h2⟩ := hz
        dsimp only at h1 h2 hv
        subst h1 h2 hv
        rcases hd with h | ⟨dd, fs, h, ho⟩
        · subst h
          exact ⟨none, hget, rfl, rfl, trivial⟩
        · subst h
          have hx : ObjOk X.prog X.w H s.heap dd (.xd fs) := I.hok dd _ ho
          obtain ⟨mA, hns, _⟩ := hx
          obtain ⟨o, _, _, e', _⟩ := hns
          exact ⟨some o, hget, rfl, rfl, e'⟩
      exact PySem.W.kia_one (PySem.W.ipKit C) I.kIn J e (fun z => nomatch z) fun tk => ⟨.bl b, H, I.kept (t' := tk) fun _ _ z => z, rfl, q⟩
/-- the attribute of the pinned exception -/
def tXg (a : Addr) (d : Option Addr) (f : Str) (te : TE) : TE := fun σ H Q => te σ H fun x H1 => x = .ref a ∧ ∃ (dd : Addr) (fs : List (Str × V)) (v : V), d = some dd ∧ H1 dd = some (.xd fs) ∧ fs.lookup f = some v ∧ Q v H1
theorem pe_xg {X : Cx} {a D : Addr} {oe : Obj} {d : Option Addr} {e : Expr} {te : TE} {pos : Pos} {n : Str} (C : XfC X.K D) (hno : PySem.W.findIn X.K (.ref D) n = some none) (hp : (a, oe) ∈ X.pn) (hz : Zc (.ref D) d oe) (hf : ∃ vs, oe.data = .fields vs)
    (he : PE X e te) (hb : attributeBase e n X.env (eval e X.env) = eval e X.env) : PE X (.Attribute e n pos) (tXg a d n te) := by
  refine ⟨fun pins s σ H Q I h => attr_of hb (thn (he.run pins s σ H _ I h) fun u s1 ⟨x, H1, I1, rx, ex, dd, fs, v, ed, ea, l, q⟩ => ?_)⟩
  subst ex ed
  cases (show u = Value.ref a from rx)
  obtain ⟨ho, _⟩ := I1.pin (a, oe) (List.mem_append.mpr (.inl hp))
  obtain ⟨vs, hd⟩ := hf
  have hx : ObjOk X.prog X.w H1 s1.heap dd (.xd fs) := I1.hok dd _ ea
  obtain ⟨mA, hns, hr⟩ := hx
  obtain ⟨od, h2, hl⟩ := lookIn_ns hns
  obtain ⟨u, hu, ru⟩ := RelO.some_of (v := v) (o := mA n) (by rw [← l]; exact hr n)
  have nc : PySem.W.notCls oe = true := by
    unfold PySem.W.notCls
    rw [hd] <;> rfl
  have J : PySem.W.InstAt s1.heap a oe D (some od) := ⟨ho, hz.1, nc, by rw [hz.2]; exact h2⟩
  exact HandSPX.exc_get I1.kIn J C.ga C.gg C.exC (PySem.W.findObj_own C.hdC hno rfl (by rw [hl, hu])) (handed_of ru) ⟨v, H1, I1.tok _, ru, q⟩

/-! ### a def that is called there -/
structure FnP (P : Program) (w : World) (K : PySem.W.Frag) (mg : Str → Option Value) (base : Heap) (CX : CXT) (p : Addr × Obj) (k : Nat) (f : Addr) (fd : FuncData) (ps : List Str) (sp : Sp) : Prop where
  len : ∀ vs H Q E, sp vs H Q E → vs.length = ps.length
  run : ∀ (A : Around) (st : List PySem.Env) (s : Shared) (H : Hp) (as : Args) (us : List Value) (vs : List V) (Q : VK) (E : XK), L2H.RoomH k A → L2H.PinOk st H s p → Env0 P w K mg base A st s H → BindsTo s fd as (ps.zip us) → Vals vs us → sp vs H Q E →
    codeAny (model P w) A (.call (.ref f) as) (CR CX st P w H s Q E) s
theorem fnP_of {P : Program} {w : World} {K : PySem.W.Frag} {mg : Str → Option Value} {base : Heap} {CX : CXT} {p : Addr × Obj} {k : Nat} {f : Addr} {fd : FuncData} {x q : Str} {st : Stmt} {N ps : List Str} {sp : Sp} (Fu : Fun K x q st f fd) (S : FnScope N ps (defScope st))
    (len : ∀ vs H Q E, sp vs H Q E → vs.length = ps.length)
    (body : ∀ (cdv : Value) (A : Around) (ot : List PySem.Env) (s : Shared) (H : Hp) (vs : List V) (Q : VK) (E : XK), L2H.RoomH k (A.deeper (envOfC q (defScope st) s.heap.objs.size f cdv)) → sp vs H Q E →
      ∃ t, PSs (L2H.cxH CX P w K mg base N q (defScope st) f cdv A ot s H E p) (defBody st) t ∧ t { nx := fun _ H' => Q .non H', rt := Q } (L2.start N vs) H) : FnP P w K mg base CX p (k + 1) f fd ps sp := by
  obtain ⟨oc, od, kV, doc, pm, an, cdv, ct, osl, rfl, lk, hcd⟩ := Fu.ex
  refine ⟨len, fun A ot s H as us vs Q E hr hpin e0 hb r hsp => ?_⟩
  have hl := len _ _ _ _ hsp
  have kin : K.In s.heap := e0.mod.kin.keeps fun b o e => (e0.bs b o e).1
  have lim : s.heap.NoLimit := e0.mod.nolimit.keeps fun b o e => (e0.bs b o e).1
  have kinds : ∀ y ∈ ps.zip us, (defScope st).names.lookup y.1 = some .local ∨ ((defScope st).names.lookup y.1 = some .cell ∧ ((cellsFrom (s.heap.objs.size + 1) (defScope st).names []).lookup y.1).isSome = true) := fun y hy => by
    have hm : y.1 ∈ ps := by
      obtain ⟨n, v⟩ := y
      exact (List.of_mem_zip hy).1
    exact (S.par y.1 hm).imp id fun c => ⟨c, PySem.W.cellsFrom_some _ _ _ (.inl c)⟩
  refine codeAny_call_function hr.depth (kin _ _ lk) rfl S.co S.gen rfl (PySem.W.codeRec_of kin hcd) (hb _ _ _ _ ?_)
  refine wpAny_newFunctionEnv_cells S.kind kinds fun env he s1 ic => ?_
  subst he
  refine ⟨lim.keeps ic.toInCall.keep, codeAny_func ?_⟩
  obtain ⟨t, ht, hq⟩ := body cdv A ot s H vs Q E (hr.deeper _) hsp
  have I : Inv (L2H.cxH CX P w K mg base N q (defScope st) f cdv A ot s H E p) [] (L2.start N vs) H s1 := L2H.inv_startH S hpin e0 hl r ic
  refine wpAny_mono (ht.run [] s1 (L2.start N vs) H _ I hq) (fun fl s' hs => ?_) fun e s' hs => hs
  have fin : ∀ {σ' : L2.St} {H' : Hp} {v : V} {u : Value}, Inv (L2H.cxH CX P w K mg base N q (defScope st) f cdv A ot s H E p) [] σ' H' s' → RelV v u → Q v H' → L2.CE ot P w H s Q u s' :=
    fun {σ' H' v u} J rv z => ⟨v, H', J.os, J.bare, J.base, J.hok, rv, z⟩
  cases fl with
  | next =>
    obtain ⟨σ', H', J, z⟩ := hs
    exact fin (v := V.non) (u := Value.none) J rfl z
  | ret u =>
    obtain ⟨v, σ', H', J, rv, z⟩ := hs
    exact fin J rv z
  | brk =>
    obtain ⟨_, _, _, z⟩ := hs
    exact z.elim
  | cont =>
    obtain ⟨_, _, _, z⟩ := hs
    exact z.elim
theorem pe_callP {X : Cx} {CX : CXT} {k : Nat} {f : Addr} {fd : FuncData} {ps : List Str} {sp : Sp} {E : L2.St → XK} {x : Str} {p : Addr × Obj} {q pos : Pos} {e : Expr} {es : List Expr} {t : TA} (Fo : FnP X.prog X.w X.K X.mg X.base CX p k f fd ps sp) (hr : L2H.RoomH k X.A) (hp : p ∈ X.pn)
    (hg : Gl X x) (hm : X.mg x = some (.ref f)) (hk : PySem.W.keepIn X.K (.ref f) = true) (hb : Binds X.K fd ps []) (hx : ∀ σ, PassesAt CX X σ (E σ)) (ha : PA X (e :: es) t)
    (hdb : (x == ("__debug__" : Str)) = false) (he : starEach (e :: es) X.env = (false, eval e X.env) :: starEach es X.env) (hpl : (backTo pos (starEach es X.env)).any (·.1) = false) :
    PE X (.Call (.Name x q) (e :: es) [] pos) (tCallS sp E t) := by
  refine ⟨fun pins s σ H Q I h => wpAny_Call_Name_kw (ld_glob I hg hm ?_ hdb)⟩
  refine PySem.W.callWith_K (h₀ := X.base) I.ok.mod.kin hk (thn (ha.run pos pins s σ H _ I h) fun us s1 ⟨vs, H1, J, r, q1⟩ => ⟨J.kIn, ?_⟩) he hpl
  have hl : us.length = ps.length := by rw [← r.length]; exact Fo.len _ _ _ _ q1
  have b := hb s1 us J.kIn (by rw [List.append_nil]; exact hl)
  rw [List.append_nil] at b
  have Pp := J.pin p (List.mem_append.mpr (.inl hp))
  have hpin : L2H.PinOk X.stack H1 s1 p := ⟨Pp.1, Pp.2.1, fun hm2 => (List.mem_cons.mp (J.stkSub p.1 hm2)).elim Pp.2.2.1 Pp.2.2.2.1, Pp.2.2.2.2⟩
  refine wpAny_call (codeAny_mono (Fo.run X.A X.stack s1 H1 ⟨us, []⟩ us vs Q (E σ) hr hpin J.env0 b r q1) fun r2 s' hq => ?_)
  cases r2 with
  | error er => exact hx σ pins H1 s1 er s' J hq
  | ok fl =>
    cases fl with
    | ret u => exact J.after hq
    | next => exact hq.elim
    | brk => exact hq.elim
    | cont => exact hq.elim
end Ip
set_option Elab.async false
set_option linter.all false
set_option maxRecDepth 100000
set_option maxHeartbeats 400000
/-! Ip: the row that _law_error makes of a caught error. -/
namespace Ip
open PySem L2
def ownNs : List Str := ["BadSizes", "BadBlock", "BadRecord", "BadScript", "BadStep", "BadHistory", "BadValue", "NotOpen", "Waiting", "Lost", "Full", "Gone", "TooMany"]
def pxs : List Px := ownNs.map .isx ++ [.isx "KeepError", .isx "ValueError"] ++ (["key", "block", "line", "column", "step", "name", "least", "word"] : List Str).map .xat
def hotT (T : Tb) : Tb := { fn := [("_law_named", 1), ("_law_attributes", 2)], co := [], cl := T.cl, hot := true, px := pxs }
def ansB (nm x : Str) : Bool := decide (x = nm) || decide (x = "KeepError") || decide (x = "ValueError")
def asks (nm : Str) (fl : List Str) (fs : List PyData) (j : Nat) : Option PyData := match pxs[j]? with
  | some (.isx x) => some (.bool (ansB nm x))
  | some (.xat f) => (fl.zip fs).lookup f
  | none => none
def hotF (a : Addr) (d : Option Addr) (nm : Str) (fl : List Str) (j : Nat) (ws : List Val) (μ : Sto) : Res Val := match ws with
  | [.x a' d' fl' fs] => if a' = a ∧ d' = d ∧ fl' = fl then (if j = 0 then .ok (.d (.str nm)) μ else Res.opt ((asks nm fl fs (j - 1000)).map .d) μ) else .bad
  | [.x a' d' fl' fs, .d (.str n')] => if a' = a ∧ d' = d ∧ fl' = fl ∧ n' = nm ∧ j = 1 then .ok (.d (.tuple fs.reverse)) μ else .bad
  | _ => .bad
def ask (i : Nat) : CE := .call (1000 + i) (.cons (.var 0) .nil)
def cesOf : List CE → CEs
  | [] => .nil
  | a :: as => .cons a (cesOf as)
def cssOf : List CS → CSs
  | [] => .nil
  | a :: as => .cons a (cssOf as)
def namesS : Str := "BadSizes BadBlock BadRecord BadScript BadStep BadHistory BadValue NotOpen Waiting Lost Full Gone TooMany"
def namedB : CSs := cssOf [
  .set 1 (.kst (.str namesS)),
  .set 2 (.lst false (cesOf [ask 0, ask 1, ask 2, ask 3])),
  .set 2 (.bin .add (.var 2) (.lst false (cesOf [ask 4, ask 5, ask 6, ask 7]))),
  .set 2 (.bin .add (.var 2) (.lst false (cesOf [ask 8, ask 9, ask 10, ask 11, ask 12]))),
  .iff (.bop false (cesOf [.cmp .ne (.pm .lcount (.var 2) (cesOf [.kst (.bool true)])) (.kst (.int 1)), .not (ask 13), .not (ask 14)])) (cssOf [.ret (.kst (.str "other"))]) .nil,
  .ret (.idx (.pm .split1 (.var 1) (cesOf [.kst (.str " ")])) (.pm .lindex (.var 2) (cesOf [.kst (.bool true)])))]
def attr1 (nm : Str) (i : Nat) : CS := .iff (.cmp .eq (.var 1) (.kst (.str nm))) (cssOf [.ret (.tup (cesOf [ask i]))]) .nil
def attrsB : CSs := cssOf [
  attr1 "BadSizes" 15,
  attr1 "BadBlock" 16,
  .iff (.cmp .eq (.var 1) (.kst (.str "BadScript"))) (cssOf [.ret (.tup (cesOf [ask 17, ask 18]))]) .nil,
  attr1 "BadHistory" 19,
  attr1 "BadValue" 20,
  attr1 "Gone" 21,
  .iff (.cmp .in_ (.var 1) (.tup (cesOf [.kst (.str "BadRecord"), .kst (.str "BadStep"), .kst (.str "Full"), .kst (.str "TooMany")]))) (cssOf [.ret (.tup (cesOf [ask 22]))]) .nil,
  .ret (.tup .nil)]
def errorB : CSs := cssOf [
  .set 1 (.call 0 (cesOf [.var 0])),
  .ret (.lst false (cesOf [.kst (.str "raised"), .var 1, .call 1 (cesOf [.var 0, .var 1])]))]

/-! ### what they answer -/
theorem ask_run {Φ : Nat → List Val → Sto → Res Val} {G : Nat → Option PyData} {i : Nat} {ρ : Env} {μ : Sto} {w : Val} (h : ρ[0]? = some (some w)) : evalE Φ G (ask i) ρ μ = Φ (1000 + i) [w] μ := by
  unfold ask
  simp only [evalE, evalEs, h, Res.bind_ok]
theorem split_ns : PySem.Txt.split namesS " " = ownNs := by decide +kernel
/-- the names of the attributes, by class -/
def flOf (nm : Str) : List Str :=
  if nm = "BadSizes" then ["key"] else if nm = "BadBlock" then ["block"] else if nm = "BadScript" then ["column", "line"] else if nm = "BadHistory" then ["step"] else if nm = "BadValue" then ["name"] else if nm = "Gone" then ["least"] else
  if nm ∈ (["BadRecord", "BadStep", "Full", "TooMany"] : List Str) then ["word"] else []
def cN : CF := ⟨1, 3, namedB⟩
def cA : CF := ⟨2, 2, attrsB⟩
def cE : CF := ⟨1, 2, errorB⟩
theorem hot_x {a : Addr} {d : Option Addr} {nm : Str} {fl : List Str} {fs : List PyData} {i : Nat} {μ : Sto} : hotF a d nm fl (1000 + i) [.x a d fl fs] μ = Res.opt ((asks nm fl fs i).map .d) μ := by
  unfold hotF
  simp
theorem newL_f {xs : List PyData} {μ : Sto} : newL false xs μ = .ok (.d (.list xs)) μ := rfl
theorem take_all (μ : Sto) : μ.take μ.length = μ := List.take_length
theorem asks_isx {nm : Str} {fl : List Str} {fs : List PyData} {i : Nat} {x : Str} (h : pxs[i]? = some (.isx x)) : asks nm fl fs i = some (.bool (ansB nm x)) := by
  unfold asks
  rw [h]
section
variable {G : Nat → Option PyData} {C : Nat → Option Str} {a : Addr} {d : Option Addr} {nm : Str} {fl : List Str} {fs : List PyData} {μ : Sto}
def fitsD (nm : Str) : List PyData := ownNs.map fun x => .bool (ansB nm x)
theorem ask_at {i : Nat} {ρ : Env} {x : Str} (h : ρ[0]? = some (some (.x a d fl fs))) (hx : pxs[i]? = some (.isx x)) : evalE (hotF a d nm fl) G (ask i) ρ μ = .ok (.d (.bool (ansB nm x))) μ := by
  rw [ask_run h, hot_x, asks_isx hx]
  rfl
theorem named_run (hn : nm ∈ ownNs) : finV μ.length (evalSs (hotF a d nm fl) G C namedB (startE cN [.x a d fl fs]) μ) = .ok (.d (.str nm)) μ := by
  have h0 : startE cN [.x a d fl fs] = [some (.x a d fl fs), none, none] := rfl
  have e1 : ∀ (w1 w2 : Option Val) (μ : Sto), ([some (.x a d fl fs), w1, w2] : Env)[0]? = some (some (.x a d fl fs)) := fun _ _ _ => rfl
  have q : ∀ (i : Nat) (x : Str), pxs[i]? = some (.isx x) → ∀ (w1 w2 : Option Val) (μ : Sto), evalE (hotF a d nm fl) G (ask i) [some (.x a d fl fs), w1, w2] μ = .ok (.d (.bool (ansB nm x))) μ := fun i x hx w1 w2 μ => ask_at rfl hx
  have q0 := q 0 _ rfl
  have q1 := q 1 _ rfl
  have q2 := q 2 _ rfl
  have q3 := q 3 _ rfl
  have q4 := q 4 _ rfl
  have q5 := q 5 _ rfl
  have q6 := q 6 _ rfl
  have q7 := q 7 _ rfl
  have q8 := q 8 _ rfl
  have q9 := q 9 _ rfl
  have q10 := q 10 _ rfl
  have q11 := q 11 _ rfl
  have q12 := q 12 _ rfl
  have q13 := q 13 _ rfl
  have q14 := q 14 _ rfl
  rw [h0]
  simp only [namedB, cssOf, cesOf, evalSs, evalS, evalE, evalEs, evalB, q0, q1, q2, q3, q4, q5, q6, q7, q8, q9, q10, q11, q12, q13, q14, Res.bind_ok, dsOf, dOf, Option.bind_some, Option.map_some, Res.opt_some, List.set_cons_zero, List.set_cons_succ, List.length_cons, List.length_nil, lim, Nat.zero_add, Nat.reduceAdd, Nat.reduceLeDiff, if_true, newL_f, List.getElem?_cons_zero, List.getElem?_cons_succ, rd, binD, List.cons_append, List.nil_append, pmT, pmD, split_ns]
  simp only [ownNs, List.mem_cons, List.not_mem_nil, or_false] at hn
  have et := take_all μ
  rcases hn with h | h | h | h | h | h | h | h | h | h | h | h | h <;> subst h <;> (refine Eq.trans (b := Res.ok (.d (.str _)) (μ.take μ.length)) ?_ (by rw [et]); kernel_rfl)
theorem attr1_run {n' : Str} {i : Nat} : evalS (hotF a d nm fl) G C (attr1 n' i) [some (.x a d fl fs), some (.d (.str nm))] μ =
    if nm = n' then Res.opt ((asks nm fl fs i).map fun y => .ret (.d (.tuple [y]))) μ else .ok (.nx [some (.x a d fl fs), some (.d (.str nm))]) μ := by
  have q : ∀ (μ : Sto), evalE (hotF a d nm fl) G (ask i) [some (.x a d fl fs), some (.d (.str nm))] μ = Res.opt ((asks nm fl fs i).map .d) μ := fun μ => (ask_run rfl).trans hot_x
  simp only [attr1, cssOf, cesOf, evalSs, evalS, evalE, evalEs, q, List.getElem?_cons_zero, List.getElem?_cons_succ, Res.bind_ok, rd, Option.bind_some, cmpD, eqD, Option.map_some, Res.opt_some, bOf, decide_eq_true_eq]
  split
  · cases asks nm fl fs i with
    | none => rfl
    | some y => rfl
  · rfl
theorem attr2_run : evalS (hotF a d nm fl) G C (.iff (.cmp .eq (.var 1) (.kst (.str "BadScript"))) (.cons (.ret (.tup (cesOf [ask 17, ask 18]))) .nil) .nil) [some (.x a d fl fs), some (.d (.str nm))] μ =
    if nm = "BadScript" then Res.opt ((asks nm fl fs 17).bind fun y => (asks nm fl fs 18).map fun z => .ret (.d (.tuple [y, z]))) μ else .ok (.nx [some (.x a d fl fs), some (.d (.str nm))]) μ := by
  have q : ∀ (i : Nat) (μ : Sto), evalE (hotF a d nm fl) G (ask i) [some (.x a d fl fs), some (.d (.str nm))] μ = Res.opt ((asks nm fl fs i).map .d) μ := fun i μ => (ask_run rfl).trans hot_x
  simp only [cssOf, cesOf, evalSs, evalS, evalE, evalEs, q, List.getElem?_cons_zero, List.getElem?_cons_succ, Res.bind_ok, rd, Option.bind_some, cmpD, eqD, Option.map_some, Res.opt_some, bOf, decide_eq_true_eq]
  split
  · cases asks nm fl fs 17 with
    | none => rfl
    | some y =>
      cases asks nm fl fs 18 with
      | none => rfl
      | some z => rfl
  · rfl
theorem attr4_run : evalS (hotF a d nm fl) G C (.iff (.cmp .in_ (.var 1) (.tup (cesOf [.kst (.str "BadRecord"), .kst (.str "BadStep"), .kst (.str "Full"), .kst (.str "TooMany")]))) (.cons (.ret (.tup (cesOf [ask 22]))) .nil) .nil) [some (.x a d fl fs), some (.d (.str nm))] μ =
    if (([.str "BadRecord", .str "BadStep", .str "Full", .str "TooMany"] : List PyData).any fun z => PyData.eqv z (.str nm)) = true then Res.opt ((asks nm fl fs 22).map fun y => .ret (.d (.tuple [y]))) μ else .ok (.nx [some (.x a d fl fs), some (.d (.str nm))]) μ := by
  have q : ∀ (μ : Sto), evalE (hotF a d nm fl) G (ask 22) [some (.x a d fl fs), some (.d (.str nm))] μ = Res.opt ((asks nm fl fs 22).map .d) μ := fun μ => (ask_run rfl).trans hot_x
  have e : inD (.str nm) (.tuple [.str "BadRecord", .str "BadStep", .str "Full", .str "TooMany"]) = some (([.str "BadRecord", .str "BadStep", .str "Full", .str "TooMany"] : List PyData).any fun z => PyData.eqv z (.str nm)) := rfl
  simp only [cssOf, cesOf, evalSs, evalS, evalE, evalEs, q, List.getElem?_cons_zero, List.getElem?_cons_succ, Res.bind_ok, rd, Option.bind_some, cmpD, e, Option.map_some, Res.opt_some, bOf, dsOf, dOf, List.length_cons, List.length_nil, lim, Nat.zero_add, Nat.reduceAdd, Nat.reduceLeDiff, if_true]
  generalize (([.str "BadRecord", .str "BadStep", .str "Full", .str "TooMany"] : List PyData).any fun z => PyData.eqv z (.str nm)) = r
  cases r with
  | true =>
    simp only [if_true]
    cases asks nm fl fs 22 with
    | none => rfl
    | some y => rfl
  | false => rfl
theorem flOf_le (nm : Str) : (flOf nm).length ≤ 2 := by
  unfold flOf
  repeat' split
  all_goals decide
theorem s1n {n' : Str} {i : Nat} {r : CSs} (h : nm ≠ n') : evalSs (hotF a d nm fl) G C (.cons (attr1 n' i) r) [some (.x a d fl fs), some (.d (.str nm))] μ = evalSs (hotF a d nm fl) G C r [some (.x a d fl fs), some (.d (.str nm))] μ := by
  simp only [evalSs, attr1_run, if_neg h, Res.bind_ok]
theorem s1y {n' : Str} {i : Nat} {r : CSs} {y : PyData} (h : nm = n') (e : asks nm fl fs i = some y) : evalSs (hotF a d nm fl) G C (.cons (attr1 n' i) r) [some (.x a d fl fs), some (.d (.str nm))] μ = .ok (.ret (.d (.tuple [y]))) μ := by
  simp only [evalSs, attr1_run, if_pos h, e, Option.map_some, Res.opt_some, Res.bind_ok]
theorem s2n {r : CSs} (h : nm ≠ "BadScript") : evalSs (hotF a d nm fl) G C (.cons (.iff (.cmp .eq (.var 1) (.kst (.str "BadScript"))) (.cons (.ret (.tup (cesOf [ask 17, ask 18]))) .nil) .nil) r) [some (.x a d fl fs), some (.d (.str nm))] μ = evalSs (hotF a d nm fl) G C r [some (.x a d fl fs), some (.d (.str nm))] μ := by
  simp only [evalSs, attr2_run, if_neg h, Res.bind_ok]
theorem s2y {r : CSs} {y z : PyData} (h : nm = "BadScript") (e1 : asks nm fl fs 17 = some y) (e2 : asks nm fl fs 18 = some z) : evalSs (hotF a d nm fl) G C (.cons (.iff (.cmp .eq (.var 1) (.kst (.str "BadScript"))) (.cons (.ret (.tup (cesOf [ask 17, ask 18]))) .nil) .nil) r) [some (.x a d fl fs), some (.d (.str nm))] μ = .ok (.ret (.d (.tuple [y, z]))) μ := by
  simp only [evalSs, attr2_run, if_pos h, e1, e2, Option.bind_some, Option.map_some, Res.opt_some, Res.bind_ok]
theorem s4n {r : CSs} (h : (([.str "BadRecord", .str "BadStep", .str "Full", .str "TooMany"] : List PyData).any fun z => PyData.eqv z (.str nm)) = false) : evalSs (hotF a d nm fl) G C (.cons (.iff (.cmp .in_ (.var 1) (.tup (cesOf [.kst (.str "BadRecord"), .kst (.str "BadStep"), .kst (.str "Full"), .kst (.str "TooMany")]))) (.cons (.ret (.tup (cesOf [ask 22]))) .nil) .nil) r) [some (.x a d fl fs), some (.d (.str nm))] μ = evalSs (hotF a d nm fl) G C r [some (.x a d fl fs), some (.d (.str nm))] μ := by
  simp only [evalSs, attr4_run, h, Bool.false_eq_true, if_false, Res.bind_ok]
theorem s4y {r : CSs} {y : PyData} (h : (([.str "BadRecord", .str "BadStep", .str "Full", .str "TooMany"] : List PyData).any fun z => PyData.eqv z (.str nm)) = true) (e : asks nm fl fs 22 = some y) : evalSs (hotF a d nm fl) G C (.cons (.iff (.cmp .in_ (.var 1) (.tup (cesOf [.kst (.str "BadRecord"), .kst (.str "BadStep"), .kst (.str "Full"), .kst (.str "TooMany")]))) (.cons (.ret (.tup (cesOf [ask 22]))) .nil) .nil) r) [some (.x a d fl fs), some (.d (.str nm))] μ = .ok (.ret (.d (.tuple [y]))) μ := by
  simp only [evalSs, attr4_run, h, if_true, e, Option.map_some, Res.opt_some, Res.bind_ok]
theorem attrs_run (hn : nm ∈ ownNs) (hl : fs.length = (flOf nm).length) : finV μ.length (evalSs (hotF a d nm (flOf nm)) G C attrsB (startE cA [.x a d (flOf nm) fs, .d (.str nm)]) μ) = .ok (.d (.tuple fs.reverse)) μ := by
  have h0 : startE cA [.x a d (flOf nm) fs, .d (.str nm)] = [some (.x a d (flOf nm) fs), some (.d (.str nm))] := rfl
  rw [h0]
  have et := take_all μ
  have key : ∀ w : PyData, (evalSs (hotF a d nm (flOf nm)) G C attrsB [some (.x a d (flOf nm) fs), some (.d (.str nm))] μ = .ok (.ret (.d (.tuple fs.reverse))) μ) → finV μ.length (evalSs (hotF a d nm (flOf nm)) G C attrsB [some (.x a d (flOf nm) fs), some (.d (.str nm))] μ) = .ok (.d (.tuple fs.reverse)) μ := fun w e => by
    rw [e]
    simp only [finV, outV, et]
  refine key .none ?_
  simp only [ownNs, List.mem_cons, List.not_mem_nil, or_false] at hn
  simp only [attrsB, cssOf]
  have hf : fs = [] ∨ (∃ y, fs = [y]) ∨ ∃ y z, fs = [y, z] := by
    match fs, hl with
    | [], _ => exact .inl rfl
    | [y], _ => exact .inr (.inl ⟨y, rfl⟩)
    | [y, z], _ => exact .inr (.inr ⟨y, z, rfl⟩)
    | y :: z :: u :: r, hl => exact absurd (hl ▸ flOf_le _) (by simp)
  have hl2 : (flOf nm).length = fs.length := hl.symm
  clear hl key h0
  rcases hn with h | h | h | h | h | h | h | h | h | h | h | h | h <;> subst h
  · rcases hf with h | ⟨y, h⟩ | ⟨y, z, h⟩ <;> subst h
    · exact absurd (show (flOf _).length = 0 from hl2) (by decide +kernel)
    · exact s1y (n' := "BadSizes") (y := y) rfl (by kernel_rfl)
    · exact absurd (show (flOf _).length = 2 from hl2) (by decide +kernel)
  · rcases hf with h | ⟨y, h⟩ | ⟨y, z, h⟩ <;> subst h
    · exact absurd (show (flOf _).length = 0 from hl2) (by decide +kernel)
    · refine (s1n (n' := "BadSizes") (by decide +kernel)).trans ?_
      exact s1y (n' := "BadBlock") (y := y) rfl (by kernel_rfl)
    · exact absurd (show (flOf _).length = 2 from hl2) (by decide +kernel)
  · rcases hf with h | ⟨y, h⟩ | ⟨y, z, h⟩ <;> subst h
    · exact absurd (show (flOf _).length = 0 from hl2) (by decide +kernel)
    · refine (s1n (n' := "BadSizes") (by decide +kernel)).trans ?_
      refine (s1n (n' := "BadBlock") (by decide +kernel)).trans ?_
      refine (s2n (by decide +kernel)).trans ?_
      refine (s1n (n' := "BadHistory") (by decide +kernel)).trans ?_
      refine (s1n (n' := "BadValue") (by decide +kernel)).trans ?_
      refine (s1n (n' := "Gone") (by decide +kernel)).trans ?_
      exact s4y (y := y) (by kernel_rfl) (by kernel_rfl)
    · exact absurd (show (flOf _).length = 2 from hl2) (by decide +kernel)
  · rcases hf with h | ⟨y, h⟩ | ⟨y, z, h⟩ <;> subst h
    · exact absurd (show (flOf _).length = 0 from hl2) (by decide +kernel)
    · exact absurd (show (flOf _).length = 1 from hl2) (by decide +kernel)
    · refine (s1n (n' := "BadSizes") (by decide +kernel)).trans ?_
      refine (s1n (n' := "BadBlock") (by decide +kernel)).trans ?_
      exact s2y (y := z) (z := y) rfl (by kernel_rfl) (by kernel_rfl)
  · rcases hf with h | ⟨y, h⟩ | ⟨y, z, h⟩ <;> subst h
    · exact absurd (show (flOf _).length = 0 from hl2) (by decide +kernel)
    · refine (s1n (n' := "BadSizes") (by decide +kernel)).trans ?_
      refine (s1n (n' := "BadBlock") (by decide +kernel)).trans ?_
      refine (s2n (by decide +kernel)).trans ?_
      refine (s1n (n' := "BadHistory") (by decide +kernel)).trans ?_
      refine (s1n (n' := "BadValue") (by decide +kernel)).trans ?_
      refine (s1n (n' := "Gone") (by decide +kernel)).trans ?_
      exact s4y (y := y) (by kernel_rfl) (by kernel_rfl)
    · exact absurd (show (flOf _).length = 2 from hl2) (by decide +kernel)
  · rcases hf with h | ⟨y, h⟩ | ⟨y, z, h⟩ <;> subst h
    · exact absurd (show (flOf _).length = 0 from hl2) (by decide +kernel)
    · refine (s1n (n' := "BadSizes") (by decide +kernel)).trans ?_
      refine (s1n (n' := "BadBlock") (by decide +kernel)).trans ?_
      refine (s2n (by decide +kernel)).trans ?_
      exact s1y (n' := "BadHistory") (y := y) rfl (by kernel_rfl)
    · exact absurd (show (flOf _).length = 2 from hl2) (by decide +kernel)
  · rcases hf with h | ⟨y, h⟩ | ⟨y, z, h⟩ <;> subst h
    · exact absurd (show (flOf _).length = 0 from hl2) (by decide +kernel)
    · refine (s1n (n' := "BadSizes") (by decide +kernel)).trans ?_
      refine (s1n (n' := "BadBlock") (by decide +kernel)).trans ?_
      refine (s2n (by decide +kernel)).trans ?_
      refine (s1n (n' := "BadHistory") (by decide +kernel)).trans ?_
      exact s1y (n' := "BadValue") (y := y) rfl (by kernel_rfl)
    · exact absurd (show (flOf _).length = 2 from hl2) (by decide +kernel)
  · rcases hf with h | ⟨y, h⟩ | ⟨y, z, h⟩ <;> subst h
    · refine (s1n (n' := "BadSizes") (by decide +kernel)).trans ?_
      refine (s1n (n' := "BadBlock") (by decide +kernel)).trans ?_
      refine (s2n (by decide +kernel)).trans ?_
      refine (s1n (n' := "BadHistory") (by decide +kernel)).trans ?_
      refine (s1n (n' := "BadValue") (by decide +kernel)).trans ?_
      refine (s1n (n' := "Gone") (by decide +kernel)).trans ?_
      refine (s4n (by kernel_rfl)).trans ?_
      kernel_rfl
    · exact absurd (show (flOf _).length = 1 from hl2) (by decide +kernel)
    · exact absurd (show (flOf _).length = 2 from hl2) (by decide +kernel)
  · rcases hf with h | ⟨y, h⟩ | ⟨y, z, h⟩ <;> subst h
    · refine (s1n (n' := "BadSizes") (by decide +kernel)).trans ?_
      refine (s1n (n' := "BadBlock") (by decide +kernel)).trans ?_
      refine (s2n (by decide +kernel)).trans ?_
      refine (s1n (n' := "BadHistory") (by decide +kernel)).trans ?_
      refine (s1n (n' := "BadValue") (by decide +kernel)).trans ?_
      refine (s1n (n' := "Gone") (by decide +kernel)).trans ?_
      refine (s4n (by kernel_rfl)).trans ?_
      kernel_rfl
    · exact absurd (show (flOf _).length = 1 from hl2) (by decide +kernel)
    · exact absurd (show (flOf _).length = 2 from hl2) (by decide +kernel)
  · rcases hf with h | ⟨y, h⟩ | ⟨y, z, h⟩ <;> subst h
    · refine (s1n (n' := "BadSizes") (by decide +kernel)).trans ?_
      refine (s1n (n' := "BadBlock") (by decide +kernel)).trans ?_
      refine (s2n (by decide +kernel)).trans ?_
      refine (s1n (n' := "BadHistory") (by decide +kernel)).trans ?_
      refine (s1n (n' := "BadValue") (by decide +kernel)).trans ?_
      refine (s1n (n' := "Gone") (by decide +kernel)).trans ?_
      refine (s4n (by kernel_rfl)).trans ?_
      kernel_rfl
    · exact absurd (show (flOf _).length = 1 from hl2) (by decide +kernel)
    · exact absurd (show (flOf _).length = 2 from hl2) (by decide +kernel)
  · rcases hf with h | ⟨y, h⟩ | ⟨y, z, h⟩ <;> subst h
    · exact absurd (show (flOf _).length = 0 from hl2) (by decide +kernel)
    · refine (s1n (n' := "BadSizes") (by decide +kernel)).trans ?_
      refine (s1n (n' := "BadBlock") (by decide +kernel)).trans ?_
      refine (s2n (by decide +kernel)).trans ?_
      refine (s1n (n' := "BadHistory") (by decide +kernel)).trans ?_
      refine (s1n (n' := "BadValue") (by decide +kernel)).trans ?_
      refine (s1n (n' := "Gone") (by decide +kernel)).trans ?_
      exact s4y (y := y) (by kernel_rfl) (by kernel_rfl)
    · exact absurd (show (flOf _).length = 2 from hl2) (by decide +kernel)
  · rcases hf with h | ⟨y, h⟩ | ⟨y, z, h⟩ <;> subst h
    · exact absurd (show (flOf _).length = 0 from hl2) (by decide +kernel)
    · refine (s1n (n' := "BadSizes") (by decide +kernel)).trans ?_
      refine (s1n (n' := "BadBlock") (by decide +kernel)).trans ?_
      refine (s2n (by decide +kernel)).trans ?_
      refine (s1n (n' := "BadHistory") (by decide +kernel)).trans ?_
      refine (s1n (n' := "BadValue") (by decide +kernel)).trans ?_
      exact s1y (n' := "Gone") (y := y) rfl (by kernel_rfl)
    · exact absurd (show (flOf _).length = 2 from hl2) (by decide +kernel)
  · rcases hf with h | ⟨y, h⟩ | ⟨y, z, h⟩ <;> subst h
    · exact absurd (show (flOf _).length = 0 from hl2) (by decide +kernel)
    · refine (s1n (n' := "BadSizes") (by decide +kernel)).trans ?_
      refine (s1n (n' := "BadBlock") (by decide +kernel)).trans ?_
      refine (s2n (by decide +kernel)).trans ?_
      refine (s1n (n' := "BadHistory") (by decide +kernel)).trans ?_
      refine (s1n (n' := "BadValue") (by decide +kernel)).trans ?_
      refine (s1n (n' := "Gone") (by decide +kernel)).trans ?_
      exact s4y (y := y) (by kernel_rfl) (by kernel_rfl)
    · exact absurd (show (flOf _).length = 2 from hl2) (by decide +kernel)
theorem error_run (hn : nm ∈ ownNs) : finV μ.length (evalSs (hotF a d nm fl) G C errorB (startE cE [.x a d fl fs]) μ) = .ok (.d (.list [.str "raised", .str nm, .tuple fs.reverse])) μ := by
  have h0 : startE cE [.x a d fl fs] = [some (.x a d fl fs), none] := rfl
  have q1 : ∀ μ, hotF a d nm fl 0 [.x a d fl fs] μ = .ok (.d (.str nm)) μ := fun μ => by simp [hotF]
  have q2 : ∀ μ, hotF a d nm fl 1 [.x a d fl fs, .d (.str nm)] μ = .ok (.d (.tuple fs.reverse)) μ := fun μ => by simp [hotF]
  rw [h0]
  simp only [errorB, cssOf, cesOf, evalSs, evalS, evalE, evalEs, List.getElem?_cons_zero, List.getElem?_cons_succ, Res.bind_ok, q1, List.set_cons_zero, List.set_cons_succ, q2, dsOf, dOf, Option.bind_some, Option.map_some, Res.opt_some, List.length_cons, List.length_nil, lim, Nat.zero_add, Nat.reduceAdd, Nat.reduceLeDiff, if_true, newL_f, finV, outV, take_all]
end
end Ip
set_option Elab.async false
set_option linter.all false
set_option maxRecDepth 100000
set_option maxHeartbeats 1000000
/-! Ip: the walk of _law_error. -/
namespace Ip
open PySem PySem.Spec PyProof.Rows L2
/-- what the written part says of an own class -/
structure Kit (K : PySem.W.Frag) (mg : Str → Option Value) (D : Addr) (nm : Str) : Prop where
  ec : ExcC K D
  xf : XfC K D
  nf : ∀ f ∈ (["key", "block", "line", "column", "step", "name", "least", "word"] : List Str), PySem.W.findIn K (.ref D) f = some none
  isx : ∀ x ∈ ownNs ++ [("KeepError" : Str)], ∃ D', mg x = some (.ref D') ∧ PySem.W.kitOne K (.ref D) (.ref D') = some (ansB nm x)
  vg : mg "ValueError" = none
  ve : PySem.W.kitOne K (.ref D) (.type "ValueError") = some true
def hotX (T : Tb) (fn : List (Str × Nat)) : Tb := { fn := fn, co := [], cl := T.cl, hot := true, px := pxs }
theorem px_isx {j : Nat} {x : Str} (h : pxs[j]? = some (.isx x)) : x ∈ ownNs ++ [("KeepError" : Str)] ∨ x = "ValueError" := by
  have hm := List.mem_of_getElem? h
  simp only [pxs, ownNs, List.map_cons, List.map_nil, List.cons_append, List.nil_append, List.mem_cons, List.not_mem_nil, or_false, Px.isx.injEq, reduceCtorEq] at hm ⊢
  simpa only [or_assoc] using hm
theorem px_xat {j : Nat} {f : Str} (h : pxs[j]? = some (.xat f)) : f ∈ (["key", "block", "line", "column", "step", "name", "least", "word"] : List Str) := by
  have hm := List.mem_of_getElem? h
  simp only [pxs, ownNs, List.map_cons, List.map_nil, List.cons_append, List.nil_append, List.mem_cons, List.not_mem_nil, or_false, Px.xat.injEq, reduceCtorEq, false_or] at hm ⊢
  exact hm
theorem zip_look {K : PySem.W.Frag} {F : Hp} : ∀ {fl : List Str} {vs : List V} {fs : List PyData} {f : Str} {y : PyData}, DA K F vs fs → (fl.zip fs).lookup f = some y → ∃ v, (fl.zip vs).lookup f = some v ∧ D K F v y
  | [], _, _, _, _, _, e => by simp at e
  | _ :: _, [], [], _, _, _, e => by simp at e
  | g :: fl, _ :: _, _ :: _, f, y, .cons dv dr, e => by
    simp only [List.zip_cons_cons] at e ⊢
    rw [List.lookup_cons] at e ⊢
    cases hb : f == g with
    | true =>
      rw [hb] at e
      cases e
      exact ⟨_, rfl, dv⟩
    | false =>
      rw [hb] at e
      exact zip_look dr e
section
variable {T : Tb} {fn : List (Str × Nat)} {K : PySem.W.Frag} {mg : Str → Option Value} {P : Program} {w : World} {base : Heap} {a Dx : Addr} {oe : Obj} {d : Option Addr} {nm : Str} {fl : List Str}
/-- a non-bad answer of hotF on one argument -/
theorem hot1 {w1 : Val} {j : Nat} {μ : Sto} {r : Res Val} (h : hotF a d nm fl j [w1] μ = r) (hb : r ≠ .bad) : ∃ fs, w1 = .x a d fl fs := by
  unfold hotF at h
  split at h
  · rename_i a' d' fl' fs he
    simp only [List.cons.injEq, and_true] at he
    subst he
    split at h
    · rename_i hc
      obtain ⟨rfl, rfl, rfl⟩ := hc
      exact ⟨_, rfl⟩
    · exact absurd h.symm hb
  · rename_i he
    simp at he
  · exact absurd h.symm hb
theorem isx_ok {X : Cx} {j : Nat} {x : Str} (Kt : Kit X.K X.mg Dx nm) (hbn : ∀ x ∈ bNames, X.mg x = none) (hp : (a, oe) ∈ X.pn) (hz : Zc (.ref Dx) d oe) (hf : ∃ vs, oe.data = .fields vs) (hx : pxs[j]? = some (.isx x)) :
    IsxOk (hotX T fn) X W0 (hotF a d nm fl (1000 + j)) x := by
  intro e p p2 pos fa hg1 hg2 hdb ha hst
  have key : ∃ c cv, PE X (.Name x p2) (tC c) ∧ (∀ u, RelV c u → u = cv) ∧ PySem.W.kitOne X.K (.ref Dx) cv = some (ansB nm x) := by
    rcases px_isx hx with h | h
    · obtain ⟨D', g1, g2⟩ := Kt.isx x h
      exact ⟨.ref D', .ref D', pe_glob hg2 g1 rfl hdb, fun u r => r, g2⟩
    · subst h
      exact ⟨.ty "ValueError", .type "ValueError", pe_bltn hg2 Kt.vg (by decide +kernel) rfl (by decide +kernel) hdb, fun u r => r, by rw [Kt.ve]; simp [ansB]⟩
  obtain ⟨c, cv, h2, hcv, hk⟩ := key
  refine PE.imp (pe_callB (isE_ok Kt.ec hp hz hf) hg1 (hbn _ (by decide +kernel)) (by decide +kernel) (pa_cons ha (pa_cons h2 pa_nil) (star1 hst)) (by decide) (by decide) (star1 hst) (by rfl)) fun σ H Q ⟨ρ, F, A, μ, R, re, h⟩ => ?_
  refine ⟨ρ, F, A, μ, R, re, h.bind.imp fun w1 μ1 F1 H1 A1 x1 R1 h1 v r => ?_⟩
  by_cases hb : hotF a d nm fl (1000 + j) [w1] μ1 = .bad
  · rw [hb] at h1
    exact h1.elim
  · obtain ⟨fs, rfl⟩ := hot1 rfl hb
    rw [hot_x, asks_isx hx] at h1
    obtain ⟨rfl, r2⟩ := r
    refine ⟨c, cv, ansB nm x, rfl, hcv, hk, ?_, h1.out.bl R1⟩
    rcases r2 with ⟨_, _, e⟩ | ⟨dd, vs, e1, e2, _⟩
    · exact .inl e
    · exact .inr ⟨dd, _, e1, R1.sub _ _ e2⟩
theorem xat_ok {X : Cx} {j : Nat} {f : Str} (Kt : Kit X.K X.mg Dx nm) (hp : (a, oe) ∈ X.pn) (hz : Zc (.ref Dx) d oe) (hf : ∃ vs, oe.data = .fields vs) (hx : pxs[j]? = some (.xat f)) :
    XatOk (hotX T fn) X W0 (hotF a d nm fl (1000 + j)) f := by
  intro e pos fa ha hno
  have base : attributeBase e f X.env (eval e X.env) = eval e X.env := by cases e <;> first | rfl | (simp [noCall] at hno)
  refine PE.imp (pe_xg Kt.xf (Kt.nf f (px_xat hx)) hp hz hf ha base) fun σ H Q ⟨ρ, F, A, μ, R, re, h⟩ => ?_
  refine ⟨ρ, F, A, μ, R, re, h.bind.imp fun w1 μ1 F1 H1 A1 x1 R1 h1 v r => ?_⟩
  by_cases hb : hotF a d nm fl (1000 + j) [w1] μ1 = .bad
  · rw [hb] at h1
    exact h1.elim
  · obtain ⟨fs, rfl⟩ := hot1 rfl hb
    rw [hot_x] at h1
    obtain ⟨w2, e1, h2⟩ := h1.opt'
    obtain ⟨y, e2, rfl⟩ := Option.map_eq_some_iff.mp e1
    unfold asks at e2
    rw [hx] at e2
    obtain ⟨rfl, r2⟩ := r
    refine ⟨rfl, ?_⟩
    rcases r2 with ⟨e3, e4, _⟩ | ⟨dd, vs, e3, e4, e5, e6⟩
    · subst e3 e4
      cases e2
    · obtain ⟨v, l, dv⟩ := zip_look e5 e2
      exact ⟨dd, _, v, e3, R1.sub _ _ e4, l, h2.here R1 v dv⟩
end
end Ip
set_option Elab.async false
set_option linter.all false
set_option maxRecDepth 100000
set_option maxHeartbeats 1000000
/-! Ip: an except suite that gives the row of its error. -/
namespace Ip
open PySem PySem.Spec PyProof.Rows L2
/-- a def of those texts -/
structure HotAt (T : Tb) (K : PySem.W.Frag) (mg : Str → Option Value) (x : Str) (N ps : List Str) (body : CSs) (st : Stmt) (f : Addr) (fd : FuncData) : Prop where
  fn : Fun K x x st f fd
  mg : mg x = some (.ref f)
  bi : Binds K fd ps []
  sc : FnScope N ps (defScope st)
  kd : kindB (defScope st) = true
  chk : chkSs T N body (defScope st) (defBody st) = true
section
variable {T : Tb} {fn : List (Str × Nat)} {K : PySem.W.Frag} {mg : Str → Option Value} {P : Program} {w : World} {base : Heap} {a Dx : Addr} {oe : Obj} {d : Option Addr} {nm : Str} {fl : List Str} {C : Nat → Option Str}
theorem DA.len {F : Hp} : ∀ {vs : List V} {xs : List PyData}, DA K F vs xs → vs.length = xs.length
  | _, _, .nil => rfl
  | _, _, .cons _ t => congrArg (· + 1) t.len
theorem rvs_len {F : Hp} {A : List Addr} : ∀ {vs : List V} {ws : List Val}, RVs K F A vs ws → ∀ a d fl fs, Val.x a d fl fs ∈ ws → fs.length = fl.length
  | _, _, .nil, _, _, _, _, h => by simp at h
  | _, _, .cons r t, a, d, fl, fs, h => by
    rcases List.mem_cons.mp h with e | h
    · subst e
      rcases r.2 with ⟨e1, e2, _⟩ | ⟨_, vs, _, _, da, hl⟩
      · subst e1 e2
        rfl
      · rw [hl, da.len]
    · exact rvs_len t a d fl fs h
/-- such a def by its core form: what it answers of the exception -/
theorem hot_def {x : Str} {N ps : List Str} {body : CSs} {st : Stmt} {f : Addr} {fd : FuncData} {k np : Nat} {g : List Val → Sto → Res Val} {cf : CF} (Kt : Kit K mg Dx nm) (M : ModOk (hotX T fn) K mg w) (hz : Zc (.ref Dx) d oe) (hf : ∃ vs, oe.data = .fields vs)
    (Ha : HotAt (hotX T fn) K mg x N ps body st f fd) (hps : ps.length = np) (hle : np ≤ N.length) (hNn : N.length = cf.nn) (hcf : cf.body = body)
    (hfs : ∀ (j : Nat) (y : Str) (mp : Nat), fn[j]? = some (y, mp) → ∃ f fd qs, mg y = some (.ref f) ∧ PySem.W.keepIn K (.ref f) = true ∧ Binds K fd qs [] ∧ FnP P w K mg base (L2.CX P w) (a, oe) k f fd qs (spF (hotX T fn) K mg (hotF a d nm fl j) mp))
    (run : ∀ (ws : List Val) (μ : Sto), ws.length = np → (∀ a d fl fs, Val.x a d fl fs ∈ ws → fs.length = fl.length) → g ws μ = .bad ∨ ∃ y, g ws μ = .ok (.d y) μ ∧ finV μ.length (evalSs (hotF a d nm fl) (gOf (hotX T fn)) C body (startE cf ws) μ) = .ok (.d y) μ) :
    FnP P w K mg base (L2.CX P w) (a, oe) (k + 1) f fd ps (spF (hotX T fn) K mg g np) := by
  refine fnP_of Ha.fn Ha.sc (fun vs H Q E h => h.1.trans hps.symm) fun cdv A ot s H vs Q E hr hsp => ?_
  obtain ⟨hlen, F, Ad, μ, ws, R, rv, h⟩ := hsp
  have hr0 : L2H.RoomH k (L2H.cxH (L2.CX P w) P w K mg base N x (defScope st) f cdv A ot s H E (a, oe)).A := hr
  have hp : (a, oe) ∈ (L2H.cxH (L2.CX P w) P w K mg base N x (defScope st) f cdv A ot s H E (a, oe)).pn := List.mem_singleton.mpr rfl
  have XO : XOk (hotX T fn) N (hotF a d nm fl) k (defScope st) true W0 (L2H.cxH (L2.CX P w) P w K mg base N x (defScope st) f cdv A ot s H E (a, oe)) := by
    refine ⟨rfl, Ha.sc.nd, rfl, (fun z => nomatch z), (fun z => nomatch z), hr0, fun _ _ => rfl, takes0, M, fun _ j y mp e => ?_, fun _ j y e => isx_ok (T := T) (fn := fn) Kt M.bn hp hz hf e, fun _ j y e => xat_ok Kt hp hz hf e, (fun z => nomatch z)⟩
    obtain ⟨f2, fd2, qs, g1, g2, g3, g4⟩ := hfs j y mp e
    intro b es p pos fs hg hl ha hdb he hpl
    have hx : ∀ σ, PassesAt (L2.CX P w) (L2H.cxH (L2.CX P w) P w K mg base N x (defScope st) f cdv A ot s H E (a, oe)) σ ((fun _ _ _ _ => False : L2.St → XK) σ) := fun σ pins H1 s1 e1 s2 I c => by
      obtain ⟨_, _, _, _, _, _, _, _, _, _, _, _, z⟩ := c
      exact z.elim
    refine PE.imp (pe_callP g4 hr0 hp hg g1 g2 g3 hx ha hdb he hpl) fun σ H1 Q1 ⟨ρ, F1, A1, μ1, R1, re, h1⟩ => ?_
    have hl' := hl ρ μ1
    refine ⟨ρ, F1, A1, μ1, R1, re, ?_⟩
    dsimp only at h1
    cases hfs1 : fs ρ μ1 with
    | ok ws2 μ2 =>
      rw [hfs1] at h1
      intro F2 H2 A2 x2 R2 vs2 rv2
      exact ⟨rv2.length.trans (hl' ws2 μ2 hfs1), F2, A2, μ2, ws2, R2, rv2, After.ext x2 h1⟩
    | exc e2 μ2 =>
      rw [hfs1] at h1
      exact h1
    | bad =>
      rw [hfs1] at h1
      exact h1.elim
  have SO : SOk (hotX T fn) N (hotF a d nm fl) C k (defScope st) W0 (L2H.cxH (L2.CX P w) P w K mg base N x (defScope st) f cdv A ot s H E (a, oe)) :=
    ⟨XO, (fun z => nomatch z), Ha.kd, (fun z => nomatch z), rfl, rfl⟩
  refine ⟨_, sndSs body SO Ha.chk, startE cf ws, F, Ad, μ, R, start_re hNn (by rw [hlen]; exact hle) rv, ?_⟩
  rcases run ws μ (rv.length.symm.trans hlen) (rvs_len rv) with hb | ⟨y, e1, e2⟩
  · rw [hb] at h
    exact h.elim
  · rw [e1] at h
    have h2 : After (hotX T fn) K mg F H Ad (finV μ.length (evalSs (hotF a d nm fl) (gOf (hotX T fn)) C body (startE cf ws) μ)) (fun _ _ _ => False) (fun w _ F' H' A' => ∀ v, RV K F' A' v w → Q v H') := by
      rw [e2]
      exact h
    exact (fin_after R h2).impE fun _ _ _ z => z
/-- the three of them -/
structure ErrAt (T : Tb) (K : PySem.W.Frag) (mg : Str → Option Value) : Prop where
  n : ∃ st f fd, HotAt (hotX T []) K mg "_law_named" ["error", "names", "fits"] ["error"] namedB st f fd
  a : ∃ st f fd, HotAt (hotX T []) K mg "_law_attributes" ["e", "name"] ["e", "name"] attrsB st f fd
  e : ∃ st f fd, HotAt (hotX T [("_law_named", 1), ("_law_attributes", 2)]) K mg "_law_error" ["error", "name"] ["error"] errorB st f fd
def errG (a : Addr) (d : Option Addr) (nm : Str) (fl : List Str) (ws : List Val) (μ : Sto) : Res Val := match ws with
  | [.x a' d' fl' fs] => if a' = a ∧ d' = d ∧ fl' = fl then .ok (.d (.list [.str "raised", .str nm, .tuple fs.reverse])) μ else .bad
  | _ => .bad
theorem err_fn (Ea : ErrAt T K mg) (Kt : Kit K mg Dx nm) (hbn : ∀ x ∈ bNames, mg x = none) (hz : Zc (.ref Dx) d oe) (hf : ∃ vs, oe.data = .fields vs) (hn : nm ∈ ownNs) :
    ∃ f fd, mg "_law_error" = some (.ref f) ∧ PySem.W.keepIn K (.ref f) = true ∧ Binds K fd ["error"] [] ∧ FnP P w K mg base (L2.CX P w) (a, oe) 2 f fd ["error"] (spF T K mg (errG a d nm (flOf nm)) 1) := by
  obtain ⟨st1, f1, fd1, h1⟩ := Ea.n
  obtain ⟨st2, f2, fd2, h2⟩ := Ea.a
  obtain ⟨st3, f3, fd3, h3⟩ := Ea.e
  have D1 : FnP P w K mg base (L2.CX P w) (a, oe) 1 f1 fd1 ["error"] (spF (hotX T []) K mg (hotF a d nm (flOf nm) 0) 1) := hot_def (C := fun _ => none) (cf := cN) Kt ⟨fun j x d e => by simp [hotX] at e, fun j x es e => by simp [hotX] at e, hbn⟩ hz hf h1 rfl (by decide) rfl rfl (fun j y mp e => by simp at e) fun ws μ hl _ => by
    match ws, hl with
    | [w1], _ =>
      by_cases hb : hotF a d nm (flOf nm) 0 [w1] μ = .bad
      · exact .inl hb
      · obtain ⟨fs, rfl⟩ := hot1 rfl hb
        exact .inr ⟨.str nm, by simp [hotF], named_run hn⟩
  have D2 : FnP P w K mg base (L2.CX P w) (a, oe) 1 f2 fd2 ["e", "name"] (spF (hotX T []) K mg (hotF a d nm (flOf nm) 1) 2) := hot_def (C := fun _ => none) (cf := cA) (fl := flOf nm) Kt ⟨fun j x d e => by simp [hotX] at e, fun j x es e => by simp [hotX] at e, hbn⟩ hz hf h2 rfl (by decide) rfl rfl (fun j y mp e => by simp at e) fun ws μ hl hlen => by
    match ws, hl with
    | [w1, w2], _ =>
      unfold hotF
      split
      · rename_i h
        simp at h
      · rename_i a' d' fl' fs n' h
        split
        · rename_i hc
          obtain ⟨rfl, rfl, rfl, rfl, _⟩ := hc
          simp only [List.cons.injEq, and_true] at h
          obtain ⟨rfl, rfl⟩ := h
          exact .inr ⟨_, rfl, attrs_run hn (hlen _ _ _ _ List.mem_cons_self)⟩
        · exact .inl rfl
      · exact .inl rfl
  refine ⟨f3, fd3, h3.mg, h3.fn.kp, h3.bi, ?_⟩
  refine hot_def (fn := [("_law_named", 1), ("_law_attributes", 2)]) (C := fun _ => none) (cf := cE) (fl := flOf nm) Kt ⟨fun j x d e => by simp [hotX] at e, fun j x es e => by simp [hotX] at e, hbn⟩ hz hf h3 rfl (by decide) rfl rfl (fun j y mp e => ?_) fun ws μ hl _ => ?_
  · match j, e with
    | 0, e =>
      cases e
      exact ⟨f1, fd1, _, h1.mg, h1.fn.kp, h1.bi, D1⟩
    | 1, e =>
      cases e
      exact ⟨f2, fd2, _, h2.mg, h2.fn.kp, h2.bi, D2⟩
    | j + 2, e => simp at e
  · match ws, hl with
    | [w1], _ =>
      unfold errG
      split
      · rename_i a' d' fl' fs h
        split
        · rename_i hc
          obtain ⟨rfl, rfl, rfl⟩ := hc
          simp only [List.cons.injEq, and_true] at h
          subst h
          exact .inr ⟨_, rfl, error_run hn⟩
        · exact .inl rfl
      · exact .inl rfl
/-- XcOk's err, the third part -/
theorem err_suite {n : Nat} (Ea : ErrAt T K mg) (hbn : ∀ x ∈ bNames, mg x = none)
    (hcl : ∀ (c : Nat) (x : Str) (fl : List Str), T.cl[c]? = some (x, fl) → x ∈ ownNs ∧ fl = flOf x ∧ C c = some x ∧ ∃ D, mg x = some (.ref D) ∧ Kit K mg D x) (h2 : 2 ≤ n)
    (X : Cx) (i : Nat) (nv : Str) (hK : X.K = K) (hmg : X.mg = mg) (hP : X.prog = P) (hw : X.w = w) (hb : X.base = base) (hr : Room n X.A) (hN : X.N[i]? = some nv) (hloc : X.env.scope.names.lookup nv = some .local) (hok : okName nv = true) (hg : Gl X "_law_error")
    (a : Addr) (oe : Obj) (cls : Value) (d : Option Addr) (pn : List (Addr × Obj)) (p1 p2 p3 p4 : Pos) (hz : Zc cls d oe) (hf : ∃ vs, oe.data = .fields vs) :
    PSs (X.suite a ((a, oe) :: pn)) [.Return (some (.Call (.Name "_law_error" p1) [.Name nv p2] [] p3)) p4] (tErr T C K mg X.N.length i a cls d) := by
  subst hK hmg hP hw hb
  refine ⟨fun pins s σ H Dn I q => ?_⟩
  obtain ⟨hσ, F, A, μ, x, y, R, xr, ey, out⟩ := q I.len
  obtain ⟨nm, fl, D, t1, t2, rfl, t4⟩ := xr
  obtain ⟨hn, hfl, hC, D', g1, Kt⟩ := hcl _ _ _ t1
  have eD : D = D' := by
    rw [g1] at t2
    injection t2 with t2
    injection t2 with t2
    exact t2.symm
  subst eD
  obtain ⟨f, fd, m1, m2, m3, Fo⟩ := err_fn (P := X.prog) (w := X.w) (base := X.base) (a := a) (oe := oe) (d := d) Ea Kt hbn hz hf hn
  have hrH : L2H.RoomH 2 (X.suite a ((a, oe) :: pn)).A := L2H.roomH_mark (hr.mono h2) _
  have hx : ∀ σ, PassesAt (L2.CX X.prog X.w) (X.suite a ((a, oe) :: pn)) σ ((fun _ _ _ _ => False : L2.St → XK) σ) := fun σ pins H1 s1 e1 s2 I c => by
    obtain ⟨_, _, _, _, _, _, _, _, _, _, _, _, z⟩ := c
    exact z.elim
  have pv : PE (X.suite a ((a, oe) :: pn)) (.Name nv p2) (tVar i) := pe_var hN (.inl hloc) (okName_of hok).1 (okName_of hok).2
  have body := pss_one (ps_ret (pos := p4) (pe_callP (X := X.suite a ((a, oe) :: pn)) (q := p1) (pos := p3) Fo hrH List.mem_cons_self hg m1 m2 m3 hx (pa_cons pv pa_nil rfl) (by decide) rfl rfl))
  refine body.run pins s σ H Dn I ⟨.ref a, hσ, rfl, F, A, μ, [.x a d fl x.fs], R, .cons ⟨rfl, ?_⟩ .nil, ?_⟩
  · rcases t4 with ⟨e1, e2, e3⟩ | ⟨dd, vs, e1, e2, e3, e4⟩
    · exact .inl ⟨e1, e2, e3⟩
    · exact .inr ⟨dd, vs, e1, e2, e3, e4⟩
  · have eg : errG a d nm (flOf nm) [.x a d fl x.fs] μ = .ok (.d (.list [.str "raised", .str nm, .tuple x.fs.reverse])) μ := by
      unfold errG
      simp [hfl]
    rw [eg]
    intro F' H' A' x' R' v rv
    have hA : A' = A := by
      obtain ⟨B, rfl⟩ := x'.pre
      have l1 := R'.len
      have l2 := R.len
      rw [List.length_append] at l1
      have : B = [] := List.eq_nil_of_length_eq_zero (by omega)
      rw [this, List.append_nil]
    subst hA
    unfold errD at ey
    rw [hC] at ey
    cases ey
    exact out v F' H' x' R' rv
end
end Ip
set_option Elab.async false
set_option linter.all false
set_option maxRecDepth 100000
set_option maxHeartbeats 1000000
/-! Ip: the law's own end: what the written part must say, and the claim. -/
namespace Ip
open PySem PySem.Spec PyProof.Rows L2
def AllP {α : Type} (P : α → Prop) : List α → Prop
  | [] => True
  | x :: xs => P x ∧ AllP P xs
theorem AllP.mem {α : Type} {P : α → Prop} : ∀ {l : List α}, AllP P l → ∀ x ∈ l, P x
  | _ :: _, ⟨h, t⟩, x, hx => by
    rcases List.mem_cons.mp hx with e | hx
    · rw [e]
      exact h
    · exact t.mem x hx
theorem allP_cons {α : Type} {P : α → Prop} {x : α} {xs : List α} (h : P x) (t : AllP P xs) : AllP P (x :: xs) := ⟨h, t⟩
/-- a def of the top stands in the written part -/
def DefIn (K : PySem.W.Frag) (x : Str) (st : Stmt) (ps : List Str) : Prop := ∃ f fd, PySem.W.nsIn K mainGlobals x = some (some (.ref f)) ∧ Fun K x x st f fd ∧ ∀ us : List Value, us.length = ps.length → bindArgs fd ⟨us, []⟩ = pure (ps.zip us)
theorem defIn_mk {K : PySem.W.Frag} {x : Str} {st : Stmt} {ps : List Str} {f : Addr} {oc kV dc pm cd ct : Value} {od an : Option Addr} {sl : Array (Option Value)} (a : PySem.W.nsIn K mainGlobals x = some (some (.ref f)))
    (l : K.lookup f = some ⟨oc, od, .func (PySem.W.fnOf x x (defArgs st) (defBody st) (defScope st) .none kV dc pm an cd ct), sl⟩) (c : PySem.W.codeIn K cd x = true) (k : PySem.W.keepIn K (.ref f) = true)
    (b : ∀ (kV dc pm : Value) (an : Option Addr) (cd ct : Value) (us : List Value), us.length = ps.length → bindArgs (PySem.W.fnOf x x (defArgs st) (defBody st) (defScope st) .none kV dc pm an cd ct) ⟨us, []⟩ = pure (ps.zip us)) : DefIn K x st ps :=
  ⟨f, _, a, fun_mk l c k, b kV dc pm an cd ct⟩
/-- a constant of the top -/
def ConIn (K : PySem.W.Frag) (x : Str) (d : PyData) : Prop := ∃ u v, PySem.W.nsIn K mainGlobals x = some (some u) ∧ RelV v u ∧ DC K v d
theorem con_int {K : PySem.W.Frag} {x : Str} {i : Int} {t : Tok} (a : PySem.W.nsIn K mainGlobals x = some (some (.int i t))) : ConIn K x (.int i) := ⟨_, .int i, a, ⟨t, rfl⟩, .int i⟩
theorem con_str {K : PySem.W.Frag} {x : Str} {z : Str} {t : Tok} (a : PySem.W.nsIn K mainGlobals x = some (some (.str z t))) : ConIn K x (.str z) := ⟨_, .str z, a, ⟨t, rfl⟩, .str z⟩
/-- the items of a constant tuple, as they stand in the written part -/
inductive TupD (K : PySem.W.Frag) : List Value → List PyData → Prop
  | nil : TupD K [] []
  | str {z : Str} {t : Tok} {us : List Value} {xs : List PyData} : TupD K us xs → TupD K (.str z t :: us) (.str z :: xs)
  | int {i : Int} {t : Tok} {us : List Value} {xs : List PyData} : TupD K us xs → TupD K (.int i t :: us) (.int i :: xs)
  | tup {a : Addr} {its : Array Value} {n : Nat} {sl : Array (Option Value)} {us : List Value} {ys xs : List PyData} (l : K.lookup a = some ⟨.type "tuple", none, .seq its n, sl⟩) (hs : its.size ≤ sizeLine) (t : TupD K its.toList ys) : TupD K us xs → TupD K (.ref a :: us) (.tuple ys :: xs)
theorem TupD.dc {K : PySem.W.Frag} {us : List Value} {xs : List PyData} (h : TupD K us xs) : ∃ vs, Vals vs us ∧ DCA K vs xs := by
  induction h with
  | nil => exact ⟨[], .nil, .nil⟩
  | @str z t us xs _ ih =>
    obtain ⟨vs, h1, h2⟩ := ih
    exact ⟨.str z :: vs, .cons ⟨t, rfl⟩ h1, .cons (.str z) h2⟩
  | @int i t us xs _ ih =>
    obtain ⟨vs, h1, h2⟩ := ih
    exact ⟨.int i :: vs, .cons ⟨t, rfl⟩ h1, .cons (.int i) h2⟩
  | @tup a its n sl us ys xs l hs _ _ ih1 ih2 =>
    obtain ⟨vs1, g1, g2⟩ := ih1
    obtain ⟨vs, h1, h2⟩ := ih2
    exact ⟨.ref a :: vs, .cons rfl h1, .cons (.tup ⟨_, its, n, l, rfl, rfl, rfl, hs, g1⟩ g2) h2⟩
theorem con_tup {K : PySem.W.Frag} {x : Str} {xs : List PyData} {a : Addr} {its : Array Value} {n : Nat} {sl : Array (Option Value)} (g : PySem.W.nsIn K mainGlobals x = some (some (.ref a))) (l : K.lookup a = some ⟨.type "tuple", none, .seq its n, sl⟩) (hs : its.size ≤ sizeLine) (t : TupD K its.toList xs) : ConIn K x (.tuple xs) := by
  obtain ⟨vs, h1, h2⟩ := t.dc
  exact ⟨_, .ref a, g, rfl, .tup ⟨_, its, n, l, rfl, rfl, rfl, hs, h1⟩ h2⟩
/-- a constant dict of the top -/
def KdIn (K : PySem.W.Frag) (w : World) (x : Str) (es : List (Str × PyData)) : Prop := ∃ p ds n, PySem.W.nsIn K mainGlobals x = some (some (.ref p)) ∧ K.lookup p = some { cls := .type "dict", data := .dict ds n } ∧ PySem.W.KeysLit w.params ds.toList ∧ AllP (fun q => ∃ u v, PySem.W.nsIn K p q.1 = some (some u) ∧ RelV v u ∧ DC K v q.2) es
theorem kdIn_mk {K : PySem.W.Frag} {w : World} {x : Str} {es : List (Str × PyData)} {p : Addr} {ds : Array DictEntry} {n : Nat} (g : PySem.W.nsIn K mainGlobals x = some (some (.ref p))) (l : K.lookup p = some { cls := .type "dict", data := .dict ds n }) (k : PySem.W.KeysLit w.params ds.toList) (q : AllP (fun q => ∃ u v, PySem.W.nsIn K p q.1 = some (some u) ∧ RelV v u ∧ DC K v q.2) es) : KdIn K w x es := ⟨p, ds, n, g, l, k, q⟩
theorem kd_tup {K : PySem.W.Frag} {p a : Addr} {z : Str} {its : Array Value} {n : Nat} {sl : Array (Option Value)} {xs : List PyData} (g : PySem.W.nsIn K p z = some (some (.ref a))) (l : K.lookup a = some ⟨.type "tuple", none, .seq its n, sl⟩) (hs : its.size ≤ sizeLine) (t : TupD K its.toList xs) : ∃ u v, PySem.W.nsIn K p z = some (some u) ∧ RelV v u ∧ DC K v (.tuple xs) := by
  obtain ⟨vs, h1, h2⟩ := t.dc
  exact ⟨_, .ref a, g, rfl, .tup ⟨_, its, n, l, rfl, rfl, rfl, hs, h1⟩ h2⟩
theorem kd_int {K : PySem.W.Frag} {p : Addr} {z : Str} {i : Int} {t : Tok} (g : PySem.W.nsIn K p z = some (some (.int i t))) : ∃ u v, PySem.W.nsIn K p z = some (some u) ∧ RelV v u ∧ DC K v (.int i) := ⟨_, .int i, g, ⟨t, rfl⟩, .int i⟩
theorem kd_str {K : PySem.W.Frag} {p : Addr} {z y : Str} {t : Tok} (g : PySem.W.nsIn K p z = some (some (.str y t))) : ∃ u v, PySem.W.nsIn K p z = some (some u) ∧ RelV v u ∧ DC K v (.str y) := ⟨_, .str y, g, ⟨t, rfl⟩, .str y⟩
theorem kd_all {K : PySem.W.Frag} {w : World} {p : Addr} {ds : Array DictEntry} {n : Nat} (l : K.lookup p = some { cls := .type "dict", data := .dict ds n }) (hk : PySem.W.KeysLit w.params ds.toList) : ∀ (es : List (Str × PyData)), AllP (fun q => ∃ u v, PySem.W.nsIn K p q.1 = some (some u) ∧ RelV v u ∧ DC K v q.2) es →
    ∀ z d, kdL (es.map fun q => (.str q.1, q.2)) z = some d → ∃ v, KDct K w p z v ∧ DC K v d
  | [], _, z, d, e => by simp [kdL] at e
  | (k, y) :: es, ⟨h1, h2⟩, z, d, e => by
    simp only [List.map_cons, kdL] at e
    by_cases hz : k = z
    · rw [if_pos hz] at e
      cases e
      subst hz
      obtain ⟨u, v, g1, g2, g3⟩ := h1
      exact ⟨v, ⟨ds, n, u, l, hk, g1, g2⟩, g3⟩
    · rw [if_neg hz] at e
      exact kd_all l hk es h2 z d e
/-- an own class with one attribute -/
structure ClsIn (K : PySem.W.Frag) (x : Str) (Dx : Addr) : Prop where
  g : PySem.W.nsIn K mainGlobals x = some (some (.ref Dx))
  ox : OexC K Dx
  ini : ∀ f, flOf x = [f] → ∃ st q fI fd, PySem.W.findIn K (.ref Dx) "__init__" = some (some (.ref fI)) ∧ PySem.W.typeIn K (.ref fI) = some (.type "function") ∧ Fun K "__init__" q st fI fd ∧ Binds K fd ["self", f] [] ∧ FnScope ["self", f] ["self", f] (defScope st) ∧ chkInit f st = true
  one : ∃ f, flOf x = [f] ∧ PySem.W.findIn K (.ref Dx) f = some none
  ec : ExcC K Dx
  xf : XfC K Dx
  nf : AllP (fun f => PySem.W.findIn K (.ref Dx) f = some none) (["key", "block", "line", "column", "step", "name", "least", "word"] : List Str)
  isx : AllP (fun y => ∃ D', PySem.W.nsIn K mainGlobals y = some (some (.ref D')) ∧ PySem.W.kitOne K (.ref Dx) (.ref D') = some (ansB x y)) (ownNs ++ [("KeepError" : Str)])
  ve : PySem.W.kitOne K (.ref Dx) (.type "ValueError") = some true
  keep : ∃ CK, PySem.W.nsIn K mainGlobals "KeepError" = some (some (.ref CK)) ∧ PySem.W.exmOne K (.ref Dx) (.ref CK) = some true
theorem clsIn_mk {K : PySem.W.Frag} {x f : Str} {st : Stmt} {qn : Str} {Dx f1 N CK : Addr} {nm q : Str} {bs bm : List Value} {sn : List Str} {sub : List Value} {ab : Bool} {col : Option Bool} {dd : Option Addr} {m0 m1 m2 m3 m5 : Option Value} {oc kV dc pm cd ct : Value} {od an : Option Addr} {sl : Array (Option Value)}
    (g : PySem.W.nsIn K mainGlobals x = some (some (.ref Dx))) (xL : K.lookup Dx = some (excClassObj nm q Dx N bs bm true sn sub ab col dd m0 m1 m2 m3 m5 "ValueError.__new__")) (hbm : PySem.HandSPX.refsVE bm = true)
    (sa : PySem.W.findIn K (.ref Dx) "__setattr__" = some (some (.builtin "object.__setattr__"))) (ga : PySem.W.findIn K (.ref Dx) "__getattribute__" = some (some (.builtin "BaseException.__getattribute__"))) (gg : PySem.W.findIn K (.ref Dx) "__getattr__" = some none)
    (kC : PySem.W.keepIn K (.ref Dx) = true) (eC : PySem.W.subIn K (.ref Dx) (.type "BaseException") = some true) (tC : PySem.W.typeIn K (.ref Dx) = some (.type "type")) (hC : PySem.W.hasDictIn K Dx = true)
    (ca : PySem.W.findIn K (.ref Dx) "__class__" = some (some (.builtin "object.__class__"))) (cn : PySem.W.specialIn K (.builtin "object.__class__") "__get__" = some (some (.builtin "getset_descriptor.__get__"))) (ck : PySem.W.takesIn K (.builtin "object.__class__") = some true) (cm : PySem.W.mroIn K Dx (.type "object") = some true)
    (i1 : PySem.W.findIn K (.ref Dx) "__init__" = some (some (.ref f1))) (t1 : PySem.W.typeIn K (.ref f1) = some (.type "function")) (l1 : K.lookup f1 = some ⟨oc, od, .func (PySem.W.fnOf "__init__" qn (defArgs st) (defBody st) (defScope st) .none kV dc pm an cd ct), sl⟩) (c1 : PySem.W.codeIn K cd qn = true) (k1 : PySem.W.keepIn K (.ref f1) = true)
    (kg : PySem.W.nsIn K mainGlobals "KeepError" = some (some (.ref CK))) (kE : PySem.W.subIn K (.ref CK) (.type "BaseException") = some true) (kH : PySem.W.hasDictIn K CK = true) (kT : PySem.W.typeIn K (.ref CK) = some (.type "type")) (kS : PySem.W.subIn K (.ref Dx) (.ref CK) = some true)
    (ve : PySem.W.kitOne K (.ref Dx) (.type "ValueError") = some true) (nf : AllP (fun f => PySem.W.findIn K (.ref Dx) f = some none) (["key", "block", "line", "column", "step", "name", "least", "word"] : List Str))
    (isx : AllP (fun y => ∃ D', PySem.W.nsIn K mainGlobals y = some (some (.ref D')) ∧ PySem.W.kitOne K (.ref Dx) (.ref D') = some (ansB x y)) (ownNs ++ [("KeepError" : Str)]))
    (hf : flOf x = [f]) (hfm : f ∈ (["key", "block", "line", "column", "step", "name", "least", "word"] : List Str)) (sc : FnScope ["self", f] ["self", f] (defScope st)) (chk : chkInit f st = true)
    (b : ∀ (kV dc pm : Value) (an : Option Addr) (cd ct : Value) (us : List Value), us.length = (["self", f] : List Str).length → bindArgs (PySem.W.fnOf "__init__" qn (defArgs st) (defBody st) (defScope st) .none kV dc pm an cd ct) ⟨us, []⟩ = pure ((["self", f] : List Str).zip us)) : ClsIn K x Dx := by
  refine ⟨g, ⟨⟨nm, q, N, bs, bm, sn, sub, ab, col, dd, m0, m1, m2, m3, m5, xL, hbm⟩, sa, eC, tC, kC⟩, fun f' e => ?_, ⟨f, hf, nf.mem f hfm⟩, ⟨ga, gg, eC, hC, ca, cn, ck, cm⟩, ⟨ga, gg, eC, hC⟩, nf, isx, ve, ⟨CK, kg, PySem.W.exm_ref kE kH kT kS⟩⟩
  rw [hf] at e
  simp only [List.cons.injEq, and_true] at e
  subst e
  exact ⟨st, qn, f1, _, i1, t1, fun_mk l1 c1 k1, .all (b kV dc pm an cd ct), sc, chk⟩
theorem ex_ref {K : PySem.W.Frag} {x : Str} {a : Addr} (h : PySem.W.nsIn K mainGlobals x = some (some (.ref a))) : ∃ CK, PySem.W.nsIn K mainGlobals x = some (some (.ref CK)) := ⟨a, h⟩
theorem ex_cls {K : PySem.W.Frag} {x : Str} {a : Addr} (h : ClsIn K x a) : ∃ Dx, ClsIn K x Dx := ⟨a, h⟩
theorem ex_isx {K : PySem.W.Frag} {y : Str} {v : Value} {b : Bool} {a : Addr} (h1 : PySem.W.nsIn K mainGlobals y = some (some (.ref a))) (h2 : PySem.W.kitOne K v (.ref a) = some b) : ∃ D', PySem.W.nsIn K mainGlobals y = some (some (.ref D')) ∧ PySem.W.kitOne K v (.ref D') = some b := ⟨a, h1, h2⟩
/-- what a law's written part must say -/
structure Facts (T : Tb) (L : List (Str × Stmt × List Str)) (w : World) (K : PySem.W.Frag) : Prop where
  co : AllP (fun p => ConIn K p.1 p.2) T.co
  kd : AllP (fun p => KdIn K w p.1 p.2) T.kd
  bn : AllP (fun x => PySem.W.nsIn K mainGlobals x = some none) bNames
  fs : AllP (fun p => DefIn K p.1 p.2.1 p.2.2) L
  cl : AllP (fun p => ∃ Dx, ClsIn K p.1 Dx) T.cl
  ke : ∃ CK, PySem.W.nsIn K mainGlobals "KeepError" = some (some (.ref CK))
  vg : PySem.W.nsIn K mainGlobals "ValueError" = some none
/-- what the texts must be -/
structure Texts (T : Tb) (Pt : Nat → Option CF) (C : Nat → Option Str) (L : List (Str × Stmt × List Str)) : Prop where
  cold : T.hot = false
  fs : ∀ (j : Nat) (x : Str) (np : Nat), T.fn[j]? = some (x, np) → ∃ cf st N ps, Pt j = some cf ∧ DefOk T j x np cf st N ps ∧ (x, st, ps) ∈ L
  cl : ∀ (c : Nat) (x : Str) (fl : List Str), T.cl[c]? = some (x, fl) → x ∈ ownNs ∧ fl = flOf x ∧ C c = some x
  n : ∃ st, (("_law_named" : Str), st, [("error" : Str)]) ∈ L ∧ FnScope ["error", "names", "fits"] ["error"] (defScope st) ∧ kindB (defScope st) = true ∧ chkSs (hotX T []) ["error", "names", "fits"] namedB (defScope st) (defBody st) = true
  a : ∃ st, (("_law_attributes" : Str), st, [("e" : Str), ("name" : Str)]) ∈ L ∧ FnScope ["e", "name"] ["e", "name"] (defScope st) ∧ kindB (defScope st) = true ∧ chkSs (hotX T []) ["e", "name"] attrsB (defScope st) (defBody st) = true
  e : ∃ st, (("_law_error" : Str), st, [("error" : Str)]) ∈ L ∧ FnScope ["error", "name"] ["error"] (defScope st) ∧ kindB (defScope st) = true ∧ chkSs (hotX T [("_law_named", 1), ("_law_attributes", 2)]) ["error", "name"] errorB (defScope st) (defBody st) = true
section
variable {T : Tb} {Pt : Nat → Option CF} {C : Nat → Option Str} {L : List (Str × Stmt × List Str)} {K : PySem.W.Frag} {mg : Str → Option Value} {h base : Heap} {P : Program} {w : World} {m : Nat}
theorem DefIn.at (X : K.In h) (G : h.Ns mainGlobals mg) {x : Str} {st : Stmt} {ps : List Str} (i : DefIn K x st ps) : ∃ f fd, DefAt K mg x st ps f fd := by
  obtain ⟨f, fd, a, F, b⟩ := i
  exact ⟨f, fd, F, PySem.W.mg_of X G a, .all b⟩
theorem hot_at {T' : Tb} (X : K.In h) (G : h.Ns mainGlobals mg) {x : Str} {st : Stmt} {ps N : List Str} {body : CSs} (i : DefIn K x st ps) (sc : FnScope N ps (defScope st)) (kd : kindB (defScope st) = true) (ck : chkSs T' N body (defScope st) (defBody st) = true) :
    ∃ st f fd, HotAt T' K mg x N ps body st f fd := by
  obtain ⟨f, fd, a, F, b⟩ := i
  exact ⟨st, f, fd, F, PySem.W.mg_of X G a, .all b, sc, kd, ck⟩
theorem all_ok (X : K.In h) (G : h.Ns mainGlobals mg) (Tx : Texts T Pt C L) (Fx : Facts T L w K) : AllOk T Pt C m K mg P w base := by
  have bn : ∀ x ∈ bNames, mg x = none := fun x hx => PySem.W.mg_none_of X G (Fx.bn.mem x hx)
  have kit : ∀ (c : Nat) (x : Str) (fl : List Str), T.cl[c]? = some (x, fl) → ∃ Dx, mg x = some (.ref Dx) ∧ Kit K mg Dx x ∧ ClsIn K x Dx := fun c x fl e => by
    obtain ⟨Dx, c1⟩ := Fx.cl.mem _ (List.mem_of_getElem? e)
    exact ⟨Dx, PySem.W.mg_of X G c1.g, ⟨c1.ec, c1.xf, fun f hf => c1.nf.mem f hf, fun y hy => by
      obtain ⟨D', g1, g2⟩ := c1.isx.mem y hy
      exact ⟨D', PySem.W.mg_of X G g1, g2⟩, PySem.W.mg_none_of X G Fx.vg, c1.ve⟩, c1⟩
  have Ea : ErrAt T K mg := by
    obtain ⟨st1, h1, s1, k1, c1⟩ := Tx.n
    obtain ⟨st2, h2, s2, k2, c2⟩ := Tx.a
    obtain ⟨st3, h3, s3, k3, c3⟩ := Tx.e
    exact ⟨hot_at X G (Fx.fs.mem _ h1) s1 k1 c1, hot_at X G (Fx.fs.mem _ h2) s2 k2 c2, hot_at X G (Fx.fs.mem _ h3) s3 k3 c3⟩
  refine ⟨Tx.cold, ⟨fun j x d e => ?_, fun j x es e => ?_, bn⟩, fun n hn => ⟨?_, ?_, ?_⟩, fun j x np e => ?_⟩
  · obtain ⟨u, v, a, r, q⟩ := Fx.co.mem _ (List.mem_of_getElem? e)
    exact ⟨u, v, PySem.W.mg_of X G a, r, q⟩
  · obtain ⟨p, ds, n, g, l, hk, q⟩ := Fx.kd.mem _ (List.mem_of_getElem? e)
    exact ⟨p, PySem.W.mg_of X G g, kd_all l hk _ q⟩
  · intro Xc Wc c x fl hK hmg hP hw hb hc hr tk hT hg e es p pos p2 fs hlen hdb he hpl ha
    subst hK hmg hP hw hb
    obtain ⟨hn1, hfl, _⟩ := Tx.cl c x fl hT
    obtain ⟨Dx, g, _, c1⟩ := kit c x fl hT
    obtain ⟨f, ef, nf⟩ := c1.one
    have hfl' : fl = [f] := hfl.trans ef
    subst hfl'
    exact own_raise (k := n) ⟨g, c1.ox, nf, c1.ini f ef⟩ hc hr tk hT hg hdb he hpl (fun ρ μ ws μ' e => hlen ρ μ ws μ' e) ha
  · obtain ⟨CK, g⟩ := Fx.ke
    refine ⟨CK, PySem.W.mg_of X G g, fun c x fl C' hT hm => ?_⟩
    obtain ⟨Dx, g1, _, c1⟩ := kit c x fl hT
    obtain ⟨CK', g2, q⟩ := c1.keep
    rw [g] at g2
    cases g2
    rw [g1] at hm
    cases hm
    exact q
  · intro Xc i nv hK hmg hP hw hb hc hr hN hloc hok hg a oe cls d pn p1 p2 p3 p4 hz hf
    exact err_suite (n := n + 2) Ea bn (fun c x fl e => by
      obtain ⟨h1, h2, h3⟩ := Tx.cl c x fl e
      obtain ⟨Dx, g, kt, _⟩ := kit c x fl e
      exact ⟨h1, h2, h3, Dx, g, kt⟩) (by omega) Xc i nv hK hmg hP hw hb hr hN hloc hok hg a oe cls d pn p1 p2 p3 p4 hz hf
  · obtain ⟨cf, st, N, ps, h1, h2, h3⟩ := Tx.fs j x np e
    obtain ⟨f, fd, da⟩ := (Fx.fs.mem _ h3).at X G
    exact ⟨cf, st, N, ps, f, fd, h1, h2, da⟩
/-- the law's own promise -/
def spLaw (K : PySem.W.Frag) (n : Nat) : Sp := fun vs H Q E => ∃ (a : Addr) (ns : List Int), vs = [V.ref a] ∧ ns.length ≤ n ∧ SqL K H a (ns.map V.int) ∧ ∀ H', Q (.bl true) H'
theorem rep0 {H : Hp} : Rep K H H [] [] := ⟨Sub.refl H, List.nodup_nil, rfl, fun i a m e _ => by simp at e⟩
theorem law_fn {j n : Nat} {x : Str} {cf : CF} {st : Stmt} {N : List Str} (X : K.In h) (G : h.Ns mainGlobals mg) (Tx : Texts T Pt C L) (Fx : Facts T L w K) (hP : Pt j = some cf) (Dk : DefOk T j "law" 1 cf st N [x]) (hL : (("law" : Str), st, [x]) ∈ L)
    (plain : ∀ ns : List Int, ns.length ≤ n → ∃ μ, callF Pt (gOf T) C (m + 1) j [.s ns] [] = .ok (.d (.bool true)) μ) {fa : Addr} (hfa : mg "law" = some (.ref fa)) :
    ∃ fd, (∀ (s : Shared) (u : Value), BindsTo s fd ⟨[u], []⟩ [(x, u)]) ∧ ∀ base : Heap, FnOk P w K mg base (L2.CX P w) (m + 3) fa fd [x] (spLaw K n) := by
  obtain ⟨f, fd, a, F, b⟩ := Fx.fs.mem _ hL
  have e := hfa.symm.trans (PySem.W.mg_of X G a)
  cases e
  refine ⟨fd, fun s u => .of_eq (b [u] rfl), fun base => ?_⟩
  have O : AllOk T Pt C m K mg P w base := all_ok X G Tx Fx
  have Da : DefAt K mg "law" st [x] fa fd := ⟨F, hfa, .all b⟩
  have base0 : FnOk P w K mg base (L2.CX P w) (m + 3) fa fd [x] (spF T K mg (callF Pt (gOf T) C (m + 1) j) 1) := def_ok O (Nat.le_refl m) hP Dk Da
  refine base0.imp fun vs H Q E hsp => ?_
  obtain ⟨a, ns, rfl, hn, hS, q⟩ := hsp
  obtain ⟨μ, e⟩ := plain ns hn
  refine ⟨rfl, H, [], [], [.s ns], rep0, .cons ⟨a, rfl, hS⟩ .nil, ?_⟩
  rw [e]
  intro F' H' A' x' R' v rv
  cases (show D K F' v (.bool true) from rv)
  exact q H'
end
/-- the walk of a law -/
theorem walk {l : PySem.W.OpenLaw} {q : Program} {loose : List Str} {XP : (Str → Option Value) → Heap → Prop} {YP : World → Heap → Prop} {d : DefRec} {K : Params → PySem.W.Frag} {T : Tb} {Pt : Nat → Option CF} {C : Nat → Option Str} {L : List (Str × Stmt × List Str)} {j m n : Nat} {x : Str} {cf : CF} {st : Stmt} {N : List Str}
    (hn : l.most = some n) (hn2 : n ≤ sizeLine) (hdf : d.params.defaults = []) (hnm : d.name = "law") (hr : Room (m + 3) callerA) (Tx : Texts T Pt C L) (hP : Pt j = some cf) (Dk : DefOk T j "law" 1 cf st N [x]) (hL : (("law" : Str), st, [x]) ∈ L)
    (plain : ∀ ns : List Int, ns.length ≤ n → ∃ μ, callF Pt (gOf T) C (m + 1) j [.s ns] [] = .ok (.d (.bool true)) μ)
    (hY : ∀ (w : World) (h : Heap), YP w h → (K w.params).In h) (F : ∀ (w : World), (∃ h, (K w.params).In h) → Facts T L w (K w.params)) :
    PySem.W.WalkO q loose XP YP l.row.toRowW d [] (fun f vs => PySem.call f vs) :=
  L2.walk_of (n := n) (k := m + 3) (x := x) (CX := fun w => L2.CX l.prog w) (sp := fun w => spLaw (K w.params) n) hn hn2 hdf hr hY
    (fun w mg fa h X G hfa => by
      rw [hnm] at hfa
      obtain ⟨fd, h1, h2⟩ := law_fn (P := l.prog) (w := w) (n := n) X G Tx (F w ⟨h, X⟩) hP Dk hL plain hfa
      exact ⟨fd, h1, fun base _ _ => h2 base⟩)
    (fun w H a ns hl _ hS => ⟨a, ns, rfl, hl, hS, fun _ => rfl⟩)
    (fun w H s e s' c => by
      obtain ⟨_, _, _, _, _, _, _, _, _, _, _, _, z⟩ := c
      exact z)
end Ip
set_option Elab.async false
set_option linter.all false
set_option maxRecDepth 100000
set_option maxHeartbeats 1000000
/-! Ip: the evaluator's steps as rewriting rules. -/
namespace Ip
open PySem
def seqR (r : Res Flo) (k : Env → Sto → Res Flo) : Res Flo := r.bind fun f μ => match f with
  | .nx ρ => k ρ μ
  | f => .ok f μ
@[simp] theorem seqR_nx {ρ : Env} {μ : Sto} {k : Env → Sto → Res Flo} : seqR (.ok (.nx ρ) μ) k = k ρ μ := rfl
@[simp] theorem seqR_ret {w : Val} {μ : Sto} {k : Env → Sto → Res Flo} : seqR (.ok (.ret w) μ) k = .ok (.ret w) μ := rfl
@[simp] theorem seqR_bk {ρ : Env} {μ : Sto} {k : Env → Sto → Res Flo} : seqR (.ok (.bk ρ) μ) k = .ok (.bk ρ) μ := rfl
@[simp] theorem seqR_ct {ρ : Env} {μ : Sto} {k : Env → Sto → Res Flo} : seqR (.ok (.ct ρ) μ) k = .ok (.ct ρ) μ := rfl
@[simp] theorem seqR_exc {x : Exn} {μ : Sto} {k : Env → Sto → Res Flo} : seqR (.exc x μ) k = .exc x μ := rfl
@[simp] theorem seqR_ite {p : Prop} [Decidable p] {a b : Res Flo} {k : Env → Sto → Res Flo} : seqR (if p then a else b) k = if p then seqR a k else seqR b k := by
  split <;> rfl
@[simp] theorem bind_ite {α β : Type} {p : Prop} [Decidable p] {a b : Res α} {k : α → Sto → Res β} : (if p then a else b).bind k = if p then a.bind k else b.bind k := by
  split <;> rfl
theorem ite_ok {α : Type} {p : Prop} [Decidable p] {a b : α} {μ : Sto} : (if p then Res.ok a μ else Res.ok b μ) = Res.ok (if p then a else b) μ := by
  split <;> rfl
@[simp] theorem fin_d {n : Nat} {x : PyData} {μ : Sto} : finV n (.ok (.ret (.d x)) μ) = .ok (.d x) (μ.take n) := rfl
@[simp] theorem fin_nx {n : Nat} {ρ : Env} {μ : Sto} : finV n (.ok (.nx ρ) μ) = .ok (.d .none) (μ.take n) := rfl
@[simp] theorem fin_exc {n : Nat} {x : Exn} {μ : Sto} : finV n (.exc x μ) = .exc x (μ.take n) := rfl
@[simp] theorem fin_ite {n : Nat} {p : Prop} [Decidable p] {a b : Res Flo} : finV n (if p then a else b) = if p then finV n a else finV n b := by
  split <;> rfl
@[simp] theorem opt_ite {α : Type} {p : Prop} [Decidable p] {a b : Option α} {μ : Sto} : Res.opt (if p then a else b) μ = if p then Res.opt a μ else Res.opt b μ := by
  split <;> rfl
section
variable {Φ : Nat → List Val → Sto → Res Val} {G : Nat → Option PyData} {C : Nat → Option Str} {ρ : Env} {μ : Sto}
@[simp] theorem rss_nil : evalSs Φ G C .nil ρ μ = .ok (.nx ρ) μ := by simp only [evalSs]
@[simp] theorem rss_cons {a : CS} {as : CSs} : evalSs Φ G C (.cons a as) ρ μ = seqR (evalS Φ G C a ρ μ) (evalSs Φ G C as) := by
  simp only [evalSs]
  rfl
@[simp] theorem rs_ret {a : CE} : evalS Φ G C (.ret a) ρ μ = (evalE Φ G a ρ μ).bind fun w μ => .ok (.ret w) μ := by simp only [evalS]
@[simp] theorem rs_set {i : Nat} {a : CE} : evalS Φ G C (.set i a) ρ μ = (evalE Φ G a ρ μ).bind fun w μ => .ok (.nx (ρ.set i (some w))) μ := by simp only [evalS]
@[simp] theorem rs_if {c : CE} {a b : CSs} : evalS Φ G C (.iff c a b) ρ μ = (evalE Φ G c ρ μ).bind fun w μ => (Res.opt (bOf w) μ).bind fun r μ => if r then evalSs Φ G C a ρ μ else evalSs Φ G C b ρ μ := by simp only [evalS]
@[simp] theorem rs_for {t : CT} {src : CSr} {b : CSs} : evalS Φ G C (.for_ t src b) ρ μ = (evalR Φ G src ρ μ).bind fun xs μ => forL t (evalSs Φ G C b) xs ρ μ := by simp only [evalS]
@[simp] theorem rs_ex {a : CE} : evalS Φ G C (.ex a) ρ μ = (evalE Φ G a ρ μ).bind fun _ μ => .ok (.nx ρ) μ := by simp only [evalS]
@[simp] theorem rs_setT {t : CT} {a : CE} : evalS Φ G C (.setT t a) ρ μ = (evalE Φ G a ρ μ).bind fun w μ => (Res.opt (asg t w ρ) μ).bind fun ρ μ => .ok (.nx ρ) μ := by simp only [evalS]
@[simp] theorem rs_rse {c : Nat} {as : CEs} : evalS Φ G C (.rse c as) ρ μ = (evalEs Φ G as ρ μ).bind fun ws μ => (Res.opt (dsOf ws) μ).bind fun xs μ => .exc ⟨c, xs.reverse⟩ μ := by simp only [evalS]
@[simp] theorem rr_sq {a : CE} : evalR Φ G (.sq a) ρ μ = (evalE Φ G a ρ μ).bind fun w μ => Res.opt ((dOf w).bind itemsOf) μ := by simp only [evalR]
theorem rr_rg1_ok {a : CE} {n : Int} {μ' : Sto} (h : evalE Φ G a ρ μ = .ok (.d (.int n)) μ') (hr : rgOk n = true) : evalR Φ G (.rg1 a) ρ μ = .ok (rngD 0 n.toNat) μ' := by
  simp only [evalR, h, Res.bind_ok, dOf, Option.bind_some, dInt, hr, if_true, Res.opt_some]
theorem rr_rg1 {a : CE} : evalR Φ G (.rg1 a) ρ μ = (evalE Φ G a ρ μ).bind fun w μ => Res.opt ((dOf w).bind fun x => (dInt x).bind fun n => if rgOk n then some (rngD 0 n.toNat) else none) μ := by simp only [evalR]
@[simp] theorem re_kst {x : PyData} : evalE Φ G (.kst x) ρ μ = .ok (.d x) μ := by simp only [evalE]
@[simp] theorem cm_isn {x : PyData} : cmpD .isn x .none = some (!isNon x) := by cases x <;> rfl
@[simp] theorem cm_is {x : PyData} : cmpD .is_ x .none = some (isNon x) := by cases x <;> rfl
@[simp] theorem cm_lt {i j : Int} : cmpD .lt (.int i) (.int j) = some (decide (i < j)) := rfl
@[simp] theorem cm_le {i j : Int} : cmpD .le (.int i) (.int j) = some (decide (i ≤ j)) := rfl
@[simp] theorem cm_gt {i j : Int} : cmpD .gt (.int i) (.int j) = some (decide (j < i)) := rfl
@[simp] theorem cm_ge {i j : Int} : cmpD .ge (.int i) (.int j) = some (decide (j ≤ i)) := rfl
@[simp] theorem cm_eqi {i j : Int} : cmpD .eq (.int i) (.int j) = some (decide (i = j)) := rfl
@[simp] theorem cm_nei {i j : Int} : cmpD .ne (.int i) (.int j) = some (!decide (i = j)) := rfl
@[simp] theorem cm_eqs {i j : Str} : cmpD .eq (.str i) (.str j) = some (decide (i = j)) := rfl
@[simp] theorem cm_nes {i j : Str} : cmpD .ne (.str i) (.str j) = some (!decide (i = j)) := rfl
def rdV (o : Option (Option Val)) (μ : Sto) : Res Val := match o with
  | some (some w) => .ok w μ
  | _ => .bad
@[simp] theorem rdV_s {w : Val} : rdV (some (some w)) μ = .ok w μ := rfl
@[simp] theorem re_var {i : Nat} : evalE Φ G (.var i) ρ μ = rdV (ρ[i]?) μ := by
  simp only [evalE]
  rfl
@[simp] theorem re_glo {j : Nat} : evalE Φ G (.glo j) ρ μ = Res.opt ((G j).map .d) μ := by simp only [evalE]
@[simp] theorem re_bin {o : BO} {a b : CE} : evalE Φ G (.bin o a b) ρ μ = (evalE Φ G a ρ μ).bind fun wa μ => (evalE Φ G b ρ μ).bind fun wb μ => Res.opt ((rd μ wa).bind fun x => (rd μ wb).bind fun y => (binD o x y).map .d) μ := by simp only [evalE]
@[simp] theorem re_neg {a : CE} : evalE Φ G (.neg a) ρ μ = (evalE Φ G a ρ μ).bind fun w μ => Res.opt ((dOf w).bind fun x => (dInt x).map fun i => .d (.int (-i))) μ := by simp only [evalE]
@[simp] theorem re_cmp {o : CO} {a b : CE} : evalE Φ G (.cmp o a b) ρ μ = (evalE Φ G a ρ μ).bind fun wa μ => (evalE Φ G b ρ μ).bind fun wb μ => Res.opt ((rd μ wa).bind fun x => (rd μ wb).bind fun y => (cmpD o x y).map fun r => .d (.bool r)) μ := by simp only [evalE]
@[simp] theorem re_chn {o1 o2 : CO} {a b c : CE} : evalE Φ G (.chn o1 o2 a b c) ρ μ = (evalE Φ G a ρ μ).bind fun wa μ => (evalE Φ G b ρ μ).bind fun wb μ =>
    (Res.opt ((dOf wa).bind fun x => (dOf wb).bind fun y => cmpD o1 x y) μ).bind fun r μ =>
    if r then (evalE Φ G c ρ μ).bind fun wc μ => Res.opt ((dOf wb).bind fun y => (dOf wc).bind fun z => (cmpD o2 y z).map fun r => .d (.bool r)) μ
    else .ok (.d (.bool false)) μ := by simp only [evalE]
@[simp] theorem re_bop {k : Bool} {as : CEs} : evalE Φ G (.bop k as) ρ μ = evalB Φ G k as ρ μ := by simp only [evalE]
@[simp] theorem re_not {a : CE} : evalE Φ G (.not a) ρ μ = (evalE Φ G a ρ μ).bind fun w μ => Res.opt ((bOf w).map fun b => .d (.bool !b)) μ := by simp only [evalE]
@[simp] theorem re_ite {c a b : CE} : evalE Φ G (.ite c a b) ρ μ = (evalE Φ G c ρ μ).bind fun w μ => (Res.opt (bOf w) μ).bind fun r μ => if r then evalE Φ G a ρ μ else evalE Φ G b ρ μ := by simp only [evalE]
@[simp] theorem re_call {j : Nat} {as : CEs} : evalE Φ G (.call j as) ρ μ = (evalEs Φ G as ρ μ).bind fun ws μ => Φ j ws μ := by simp only [evalE]
@[simp] theorem re_bi {f : BF} {as : CEs} : evalE Φ G (.bi f as) ρ μ = (evalEs Φ G as ρ μ).bind fun ws μ => Res.opt ((rds μ ws).bind fun xs => (biD f xs).map .d) μ := by simp only [evalE]
@[simp] theorem re_lis_s {m : Bool} {a : CE} {ns : List Int} {μ' : Sto} (h : evalE Φ G a ρ μ = .ok (.s ns) μ') : evalE Φ G (.lis m a) ρ μ = newL m (ns.map .int) μ' := by
  simp only [evalE, h, Res.bind_ok]
@[simp] theorem re_lis_d {m : Bool} {a : CE} {x : PyData} {μ' : Sto} (h : evalE Φ G a ρ μ = .ok (.d x) μ') : evalE Φ G (.lis m a) ρ μ = (Res.opt (itemsOf x) μ').bind fun xs μ => newL m xs μ := by
  simp only [evalE, h, Res.bind_ok, rd, Option.bind_some]
@[simp] theorem re_isi {a : CE} {t : Ty} : evalE Φ G (.isi a t) ρ μ = (evalE Φ G a ρ μ).bind fun w μ => Res.opt ((dOf w).map fun x => .d (.bool (isiD t x))) μ := by simp only [evalE]
@[simp] theorem re_idx {a i : CE} : evalE Φ G (.idx a i) ρ μ = (evalE Φ G a ρ μ).bind fun wa μ => (evalE Φ G i ρ μ).bind fun wi μ => Res.opt ((rd μ wa).bind fun x => (dOf wi).bind fun y => (idxD x y).map .d) μ := by simp only [evalE]
@[simp] theorem re_slc {a : CE} {lo hi : CEo} : evalE Φ G (.slc a lo hi) ρ μ = (evalE Φ G a ρ μ).bind fun wa μ => (evalO Φ G lo ρ μ).bind fun wl μ => (evalO Φ G hi ρ μ).bind fun wh μ => Res.opt ((rd μ wa).bind fun x => (slcD x wl wh).map .d) μ := by simp only [evalE]
@[simp] theorem re_tup {as : CEs} : evalE Φ G (.tup as) ρ μ = (evalEs Φ G as ρ μ).bind fun ws μ => Res.opt ((dsOf ws).bind fun xs => if xs.length ≤ lim then some (.d (.tuple xs)) else none) μ := by simp only [evalE]
@[simp] theorem re_lst {m : Bool} {as : CEs} : evalE Φ G (.lst m as) ρ μ = (evalEs Φ G as ρ μ).bind fun ws μ => (Res.opt (dsOf ws) μ).bind fun xs μ => if xs.length ≤ lim then newL m xs μ else .bad := by simp only [evalE]
@[simp] theorem re_lcm {m : Bool} {own : List Nat} {elt : CE} {t : CT} {src : CSr} {c : CEo} : evalE Φ G (.lcm m own elt t src c) ρ μ = (evalR Φ G src ρ μ).bind fun xs μ => (noExc (lcmL own t (evalE Φ G elt) (evalC Φ G c) ρ xs [] μ)).bind fun ys μ => newL m ys μ := by simp only [evalE]
def mmR (Φ : Nat → List Val → Sto → Res Val) (G : Nat → Option PyData) (f : MM) (o : Option (Option Val)) (as : CEs) (ρ : Env) (μ : Sto) : Res Val := match o with
  | some (some (.h n)) => match μ[n]? with
    | some (.lst _) => (evalEs Φ G as ρ μ).bind fun ws μ => (Res.opt (dsOf ws) μ).bind fun ys μ => match μ[n]? with
      | some (.lst xs) => (Res.opt (mmD f xs ys) μ).bind fun r μ => .ok (.d r.2) (μ.set n (.lst r.1))
      | _ => .bad
    | _ => .bad
  | _ => .bad
theorem re_mm {f : MM} {i n : Nat} {as : CEs} {xs0 xs ys : List PyData} {ws : List Val} {μ' : Sto} {r : List PyData × PyData} (h1 : ρ[i]? = some (some (.h n))) (h2 : μ[n]? = some (.lst xs0)) (h3 : evalEs Φ G as ρ μ = .ok ws μ') (h4 : dsOf ws = some ys) (h5 : μ'[n]? = some (.lst xs)) (h6 : mmD f xs ys = some r) :
    evalE Φ G (.mm f i as) ρ μ = .ok (.d r.2) (μ'.set n (.lst r.1)) := by
  simp only [evalE, h1, h2, h3, h4, h5, h6, Res.bind_ok, Res.opt_some]
@[simp] theorem ro_no : evalO Φ G .no ρ μ = .ok none μ := by simp only [evalO]
@[simp] theorem ro_so {a : CE} : evalO Φ G (.so a) ρ μ = (evalE Φ G a ρ μ).bind fun w μ => Res.opt ((dOf w).bind fun x => (dInt x).map some) μ := by simp only [evalO]
@[simp] theorem rc_no : evalC Φ G .no ρ μ = .ok (.d (.bool true)) μ := by simp only [evalC]
@[simp] theorem rc_so {a : CE} : evalC Φ G (.so a) ρ μ = evalE Φ G a ρ μ := by simp only [evalC]
@[simp] theorem re_pm {f : PM} {o : CE} {as : CEs} : evalE Φ G (.pm f o as) ρ μ = (evalE Φ G o ρ μ).bind fun w μ => (Res.opt ((dOf w).bind fun x => if pmT f x then some x else none) μ).bind fun x μ => (evalEs Φ G as ρ μ).bind fun ws μ => Res.opt ((dsOf ws).bind fun xs => (pmD f x xs).map .d) μ := by simp only [evalE]
@[simp] theorem rs_aug {i : Nat} {o : BO} {a : CE} {x : Int} (h : ρ[i]? = some (some (.d (.int x)))) : evalS Φ G C (.aug i o a) ρ μ = (evalE Φ G a ρ μ).bind fun w μ => (Res.opt ((dOf w).bind fun y => (dInt y).bind fun j => binD o (.int x) (.int j)) μ).bind fun z μ => .ok (.nx (ρ.set i (some (.d z)))) μ := by simp only [evalS, h]
@[simp] theorem newL_ff {xs : List PyData} : newL false xs μ = .ok (.d (.list xs)) μ := rfl
@[simp] theorem newL_tt {xs : List PyData} : newL true xs μ = .ok (.h μ.length) (μ ++ [.lst xs]) := rfl
@[simp] theorem rds_nil : rds μ [] = some [] := rfl
@[simp] theorem rds_cons {w : Val} {ws : List Val} : rds μ (w :: ws) = (rd μ w).bind fun x => (rds μ ws).map (x :: ·) := rfl
@[simp] theorem dsOf_nil : dsOf [] = some [] := rfl
@[simp] theorem dsOf_cons {w : Val} {ws : List Val} : dsOf (w :: ws) = (dOf w).bind fun x => (dsOf ws).map (x :: ·) := rfl
@[simp] theorem items_t {xs : List PyData} : itemsOf (.tuple xs) = some xs := rfl
@[simp] theorem items_l {xs : List PyData} : itemsOf (.list xs) = some xs := rfl
@[simp] theorem len_t {xs : List PyData} : biD .len [.tuple xs] = some (.int xs.length) := rfl
@[simp] theorem len_l {xs : List PyData} : biD .len [.list xs] = some (.int xs.length) := rfl
@[simp] theorem bint_i {i : Int} : biD .int [.int i] = some (.int i) := rfl
@[simp] theorem rb_nil {k : Bool} : evalB Φ G k .nil ρ μ = .ok (.d (.bool k)) μ := by simp only [evalB]
@[simp] theorem rb_cons {k : Bool} {a : CE} {as : CEs} : evalB Φ G k (.cons a as) ρ μ = (evalE Φ G a ρ μ).bind fun w μ => (Res.opt (bOf w) μ).bind fun b μ => if b = k then evalB Φ G k as ρ μ else .ok (.d (.bool b)) μ := by simp only [evalB]
@[simp] theorem res_nil : evalEs Φ G .nil ρ μ = .ok [] μ := by simp only [evalEs]
@[simp] theorem res_cons {a : CE} {as : CEs} : evalEs Φ G (.cons a as) ρ μ = (evalE Φ G a ρ μ).bind fun w μ => (evalEs Φ G as ρ μ).bind fun ws μ => .ok (w :: ws) μ := by simp only [evalEs]
@[simp] theorem bOf_b {b : Bool} : bOf (.d (.bool b)) = some b := rfl
@[simp] theorem dOf_d {x : PyData} : dOf (.d x) = some x := rfl
@[simp] theorem rd_d {x : PyData} : rd μ (.d x) = some x := rfl
@[simp] theorem dInt_i {i : Int} : dInt (.int i) = some i := rfl
@[simp] theorem re_gloc {j : Nat} : evalE Φ G (.gloc j) ρ μ = Res.opt ((G j).map .kc) μ := by simp only [evalE]
@[simp] theorem re_idxc {a i : CE} : evalE Φ G (.idxc a i) ρ μ = (evalE Φ G a ρ μ).bind fun wa μ => (evalE Φ G i ρ μ).bind fun wi μ => Res.opt ((kcT wa).bind fun x => (dOf wi).bind fun y => (idxD x y).map .kc) μ := by simp only [evalE]
@[simp] theorem re_pmc {f : PM} {o : CE} {as : CEs} : evalE Φ G (.pmc f o as) ρ μ = (evalE Φ G o ρ μ).bind fun w μ => (Res.opt (kcT w) μ).bind fun x μ => (evalEs Φ G as ρ μ).bind fun ws μ => Res.opt ((dsOf ws).bind fun xs => (pmcD f x xs).map .d) μ := by simp only [evalE]
@[simp] theorem re_kd {j : Nat} {a : CE} : evalE Φ G (.kd j a) ρ μ = (evalE Φ G a ρ μ).bind fun w μ => Res.opt ((dOf w).bind fun x => (kdO (G (1000 + j)) x).map .d) μ := by simp only [evalE]
@[simp] theorem re_dct0 : evalE Φ G .dct0 ρ μ = .ok (.d (.dict [])) μ := by simp only [evalE]
def toldR (x : PyData) (wb : Val) (μ : Sto) : Res Val := match wb with
  | .d y => .ok (.d (.list [x, y])) μ
  | .h n => .ok (.t x n) μ
  | _ => .bad
@[simp] theorem toldR_d {x y : PyData} : toldR x (.d y) μ = .ok (.d (.list [x, y])) μ := rfl
@[simp] theorem toldR_h {x : PyData} {n : Nat} : toldR x (.h n) μ = .ok (.t x n) μ := rfl
@[simp] theorem re_told {a b : CE} : evalE Φ G (.told a b) ρ μ = (evalE Φ G a ρ μ).bind fun wa μ => (evalE Φ G b ρ μ).bind fun wb μ => (Res.opt (dOf wa) μ).bind fun x μ => toldR x wb μ := by
  simp only [evalE]
  rfl
@[simp] theorem re_bcall {j : Nat} {as : CEs} : evalE Φ G (.bcall j as) ρ μ = (evalEs Φ G as ρ μ).bind fun ws μ => (Res.opt (lends μ ws) μ).bind fun xs μ => truB μ (Φ j (xs.map .d) []) := by simp only [evalE]
@[simp] theorem lends_nil : lends μ [] = some [] := rfl
@[simp] theorem lends_cons {w : Val} {ws : List Val} : lends μ (w :: ws) = (lend μ w).bind fun x => (lends μ ws).map (x :: ·) := rfl
@[simp] theorem lend_d {x : PyData} : lend μ (.d x) = some x := rfl
@[simp] theorem lend_kc {x : PyData} : lend μ (.kc x) = some x := rfl
@[simp] theorem truB_ok {b : Bool} {μ' : Sto} : truB μ (.ok (.d (.bool b)) μ') = .ok (.d (.bool b)) μ := rfl
def tixR (w : Val) (μ : Sto) : Res Val := match w with
  | .t _ n => .ok (.h n) μ
  | _ => .bad
@[simp] theorem tixR_t {y : PyData} {n : Nat} : tixR (.t y n) μ = .ok (.h n) μ := rfl
@[simp] theorem re_tix {a : CE} : evalE Φ G (.tix a) ρ μ = (evalE Φ G a ρ μ).bind fun w μ => tixR w μ := by
  simp only [evalE]
  rfl
theorem re_mmx {f : MM} {o : CE} {n : Nat} {as : CEs} {xs0 xs ys : List PyData} {ws : List Val} {μ1 μ' : Sto} {r : List PyData × PyData} (h1 : evalE Φ G o ρ μ = .ok (.h n) μ1) (h2 : μ1[n]? = some (.lst xs0)) (h3 : evalEs Φ G as ρ μ1 = .ok ws μ') (h4 : dsOf ws = some ys) (h5 : μ'[n]? = some (.lst xs)) (h6 : mmD f xs ys = some r) :
    evalE Φ G (.mmx f o as) ρ μ = .ok (.d r.2) (μ'.set n (.lst r.1)) := by
  simp only [evalE, h1, h2, h3, h4, h5, h6, Res.bind_ok, Res.opt_some]
@[simp] theorem re_lisr {src : CSr} : evalE Φ G (.lisr src) ρ μ = (evalR Φ G src ρ μ).bind fun xs μ => if xs.length ≤ lim then .ok (.d (.list xs)) μ else .bad := by simp only [evalE]
theorem re_addh {a b : CE} {wa wb : Val} {xs ys : List PyData} {μ1 μ2 : Sto} (h1 : evalE Φ G a ρ μ = .ok wa μ1) (h2 : evalE Φ G b ρ μ1 = .ok wb μ2) (h3 : rd μ2 wa = some (.list xs)) (h4 : rd μ2 wb = some (.list ys)) (h5 : xs.length + ys.length ≤ lim) :
    evalE Φ G (.addh a b) ρ μ = .ok (.h μ2.length) (μ2 ++ [.lst (xs ++ ys)]) := by
  simp only [evalE, h1, h2, h3, h4, Res.bind_ok, Option.bind_some, if_pos h5, Res.opt_some, newL_tt]
theorem re_fz_h {a : CE} {n : Nat} {xs : List PyData} {μ1 : Sto} (h1 : evalE Φ G a ρ μ = .ok (.h n) μ1) (h2 : μ1[n]? = some (.lst xs)) : evalE Φ G (.fz a) ρ μ = .ok (.d (.list xs)) (μ1.set n (.fz (.list xs))) := by
  simp only [evalE, h1, h2, Res.bind_ok]
theorem re_fz_f {a : CE} {n : Nat} {x : PyData} {μ1 : Sto} (h1 : evalE Φ G a ρ μ = .ok (.h n) μ1) (h2 : μ1[n]? = some (.fz x)) : evalE Φ G (.fz a) ρ μ = .ok (.d x) μ1 := by
  simp only [evalE, h1, h2, Res.bind_ok]
theorem re_fz_d {a : CE} {x : PyData} {μ1 : Sto} (h1 : evalE Φ G a ρ μ = .ok (.d x) μ1) : evalE Φ G (.fz a) ρ μ = .ok (.d x) μ1 := by
  simp only [evalE, h1, Res.bind_ok]
@[simp] theorem rr_enu {a : CE} : evalR Φ G (.enu a) ρ μ = (evalE Φ G a ρ μ).bind fun w μ => Res.opt (((dOf w).bind itemsOf).map (enuD 0)) μ := by simp only [evalR]
@[simp] theorem rr_chs {a : CE} : evalR Φ G (.chs a) ρ μ = (evalE Φ G a ρ μ).bind fun w μ => Res.opt ((dOf w).bind chsD) μ := by simp only [evalR]
@[simp] theorem rr_key0 {a : CE} : evalR Φ G (.key0 a) ρ μ = (evalE Φ G a ρ μ).bind fun w μ => Res.opt ((dOf w).bind key0D) μ := by simp only [evalR]
@[simp] theorem len_s {x : Str} : biD .len [.str x] = if x.length ≤ lim then some (.int (x.length : Nat)) else none := rfl
@[simp] theorem len_e : biD .len [.dict []] = some (.int 0) := rfl
@[simp] theorem dOf_kc {x : PyData} : dOf (.kc x) = some x := rfl
@[simp] theorem rd_kc {x : PyData} : rd μ (.kc x) = some x := rfl
@[simp] theorem kcT_t {xs : List PyData} : kcT (.kc (.tuple xs)) = some (.tuple xs) := rfl
@[simp] theorem rs_brk : evalS Φ G C .brk ρ μ = .ok (.bk ρ) μ := by simp only [evalS]
@[simp] theorem rs_pass : evalS Φ G C .pass ρ μ = .ok (.nx ρ) μ := by simp only [evalS]
@[simp] theorem rs_cnt : evalS Φ G C .cnt ρ μ = .ok (.ct ρ) μ := by simp only [evalS]
@[simp] theorem rs_retN : evalS Φ G C .retN ρ μ = .ok (.ret (.d .none)) μ := by simp only [evalS]
end
end Ip
set_option Elab.async false
set_option linter.all false
set_option maxRecDepth 100000
set_option maxHeartbeats 1000000
/-! Ip: the evaluator's runs, by what is asked of their ends. -/
namespace Ip
open PySem
/-- the run ends well, with this asked of its value and its store -/
def WF {α : Type} (r : Res α) (Q : α → Sto → Prop) : Prop := ∃ a μ, r = .ok a μ ∧ Q a μ
@[simp] theorem wf_ok {α : Type} {a : α} {μ : Sto} {Q : α → Sto → Prop} : WF (.ok a μ) Q ↔ Q a μ := ⟨fun ⟨_, _, e, h⟩ => by cases e; exact h, fun h => ⟨_, _, rfl, h⟩⟩
@[simp] theorem wf_bind {α β : Type} {r : Res α} {k : α → Sto → Res β} {Q : β → Sto → Prop} : WF (r.bind k) Q ↔ WF r fun a μ => WF (k a μ) Q := by
  cases r with
  | ok a μ => rw [Res.bind_ok, wf_ok]
  | exc x μ =>
    constructor
    · rintro ⟨_, _, e, _⟩
      cases e
    · rintro ⟨_, _, e, _⟩
      cases e
  | bad =>
    constructor
    · rintro ⟨_, _, e, _⟩
      cases e
    · rintro ⟨_, _, e, _⟩
      cases e
@[simp] theorem wf_ite {α : Type} {p : Prop} [Decidable p] {a b : Res α} {Q : α → Sto → Prop} : WF (if p then a else b) Q ↔ if p then WF a Q else WF b Q := by
  split <;> rfl
theorem wf_mono {α : Type} {r : Res α} {P Q : α → Sto → Prop} (h : WF r P) (hpq : ∀ a μ, P a μ → Q a μ) : WF r Q := by
  obtain ⟨a, μ, e, h⟩ := h
  exact ⟨a, μ, e, hpq a μ h⟩
theorem wf_eq {α : Type} {r : Res α} {a : α} {μ : Sto} {Q : α → Sto → Prop} (e : r = .ok a μ) (h : Q a μ) : WF r Q := ⟨a, μ, e, h⟩
section
variable {Φ : Nat → List Val → Sto → Res Val} {G : Nat → Option PyData} {C : Nat → Option Str} {ρ : Env} {μ : Sto}
/-- what is asked behind one statement: the rest's run, or the end -/
def sqQ (Φ : Nat → List Val → Sto → Res Val) (G : Nat → Option PyData) (C : Nat → Option Str) (as : CSs) (Q : Flo → Sto → Prop) (f : Flo) (μ : Sto) : Prop := match f with
  | .nx ρ => WF (evalSs Φ G C as ρ μ) Q
  | f => Q f μ
theorem sqQ_nx {as : CSs} {Q : Flo → Sto → Prop} : sqQ Φ G C as Q (.nx ρ) μ = WF (evalSs Φ G C as ρ μ) Q := rfl
theorem sqQ_ret {as : CSs} {Q : Flo → Sto → Prop} {w : Val} : sqQ Φ G C as Q (.ret w) μ = Q (.ret w) μ := rfl
theorem wf_cons {a : CS} {as : CSs} {Q : Flo → Sto → Prop} : WF (evalSs Φ G C (.cons a as) ρ μ) Q ↔ WF (evalS Φ G C a ρ μ) (sqQ Φ G C as Q) := by
  simp only [evalSs, wf_bind]
  constructor <;> intro h <;> refine wf_mono h fun f μ hf => ?_
  · cases f with
    | nx ρ => exact hf
    | ret w => exact (wf_ok (a := Flo.ret w) (Q := Q)).mp hf
    | bk w => exact (wf_ok (a := Flo.bk w) (Q := Q)).mp hf
    | ct w => exact (wf_ok (a := Flo.ct w) (Q := Q)).mp hf
  · cases f with
    | nx ρ => exact hf
    | ret w => exact (wf_ok (a := Flo.ret w) (Q := Q)).mpr hf
    | bk w => exact (wf_ok (a := Flo.bk w) (Q := Q)).mpr hf
    | ct w => exact (wf_ok (a := Flo.ct w) (Q := Q)).mpr hf
/-- one step: the first statement, and then the rest from each state told -/
theorem wf_step {a : CS} {as : CSs} {Q : Flo → Sto → Prop} (h : ∀ K : Flo → Sto → Prop, (∀ ρ μ, WF (evalSs Φ G C as ρ μ) Q → K (.nx ρ) μ) → (∀ w μ, Q (.ret w) μ → K (.ret w) μ) → WF (evalS Φ G C a ρ μ) K) : WF (evalSs Φ G C (.cons a as) ρ μ) Q :=
  wf_cons.mpr (h (sqQ Φ G C as Q) (fun _ _ h => h) fun _ _ h => h)
/-- a def whose value is plain -/
theorem wf_fin {r : Res Flo} {n : Nat} {Q : Val → Sto → Prop} (h : WF r fun f μ' => ∃ x, f = .ret (.d x) ∧ Q (.d x) (μ'.take n)) : WF (finV n r) Q := by
  obtain ⟨f, μ', rfl, x, rfl, h⟩ := h
  exact ⟨_, _, rfl, h⟩
/-- a for, by what holds ahead of each turn -/
theorem wf_for {t : CT} {body : Env → Sto → Res Flo} {Q : Flo → Sto → Prop} (I : List PyData → Env → Sto → Prop)
    (hstep : ∀ x r ρ μ, I (x :: r) ρ μ → ∃ ρ1, asg t (.d x) ρ = some ρ1 ∧ WF (body ρ1 μ) fun f μ' => match f with
      | .nx ρ' => I r ρ' μ'
      | .ct ρ' => I r ρ' μ'
      | .bk ρ' => Q (.nx ρ') μ'
      | .ret w => Q (.ret w) μ')
    (hend : ∀ ρ μ, I [] ρ μ → Q (.nx ρ) μ) : ∀ (xs : List PyData) {ρ : Env} {μ : Sto}, I xs ρ μ → WF (forL t body xs ρ μ) Q
  | [], ρ, μ, h => by
    simp only [forL, wf_ok]
    exact hend ρ μ h
  | x :: r, ρ, μ, h => by
    obtain ⟨ρ1, e, h1⟩ := hstep x r ρ μ h
    simp only [forL, e, Res.opt_some, Res.bind_ok, wf_bind]
    refine wf_mono h1 fun f μ' hf => ?_
    cases f with
    | nx ρ' => exact wf_for I hstep hend r hf
    | ct ρ' => exact wf_for I hstep hend r hf
    | bk ρ' => exact wf_ok.mpr hf
    | ret w => exact wf_ok.mpr hf
theorem wf_nil {Q : Flo → Sto → Prop} (h : Q (.nx ρ) μ) : WF (evalSs Φ G C .nil ρ μ) Q := by
  rw [rss_nil, wf_ok]
  exact h
theorem wf_set {i : Nat} {a : CE} {as : CSs} {Q : Flo → Sto → Prop} {w : Val} {μ' : Sto} (e : evalE Φ G a ρ μ = .ok w μ') (h : WF (evalSs Φ G C as (ρ.set i (some w)) μ') Q) : WF (evalSs Φ G C (.cons (.set i a) as) ρ μ) Q :=
  wf_cons.mpr (wf_eq (by rw [rs_set, e]; rfl) (by rw [sqQ_nx]; exact h))
theorem wf_setQ {i : Nat} {a : CE} {as : CSs} {Q : Flo → Sto → Prop} {P : Val → Sto → Prop} (e : WF (evalE Φ G a ρ μ) P) (h : ∀ w μ', P w μ' → WF (evalSs Φ G C as (ρ.set i (some w)) μ') Q) : WF (evalSs Φ G C (.cons (.set i a) as) ρ μ) Q := by
  obtain ⟨w, μ', e, hw⟩ := e
  exact wf_set e (h w μ' hw)
theorem wf_ex {a : CE} {as : CSs} {Q : Flo → Sto → Prop} {P : Val → Sto → Prop} (e : WF (evalE Φ G a ρ μ) P) (h : ∀ w μ', P w μ' → WF (evalSs Φ G C as ρ μ') Q) : WF (evalSs Φ G C (.cons (.ex a) as) ρ μ) Q := by
  obtain ⟨w, μ', e, hw⟩ := e
  exact wf_cons.mpr (wf_eq (by rw [rs_ex, e]; rfl) (by rw [sqQ_nx]; exact h w μ' hw))
theorem wf_ret {a : CE} {as : CSs} {Q : Flo → Sto → Prop} (e : WF (evalE Φ G a ρ μ) fun w μ' => Q (.ret w) μ') : WF (evalSs Φ G C (.cons (.ret a) as) ρ μ) Q := by
  obtain ⟨w, μ', e, hw⟩ := e
  exact wf_cons.mpr (wf_eq (by rw [rs_ret, e]; rfl) (by rw [sqQ_ret]; exact hw))
theorem wf_if {c : CE} {a b as : CSs} {Q : Flo → Sto → Prop} {P : Bool → Sto → Prop} (e : WF (evalE Φ G c ρ μ) fun w μ' => ∃ r, w = .d (.bool r) ∧ P r μ')
    (ht : ∀ μ', P true μ' → WF (evalSs Φ G C a ρ μ') (sqQ Φ G C as Q)) (hf : ∀ μ', P false μ' → WF (evalSs Φ G C b ρ μ') (sqQ Φ G C as Q)) : WF (evalSs Φ G C (.cons (.iff c a b) as) ρ μ) Q := by
  obtain ⟨w, μ', e, r, rfl, hw⟩ := e
  refine wf_cons.mpr ?_
  rw [rs_if, e]
  simp only [Res.bind_ok, bOf_b, Res.opt_some]
  cases r with
  | true => exact ht μ' hw
  | false => exact hf μ' hw
theorem wf_if_t {c : CE} {a b as : CSs} {Q : Flo → Sto → Prop} {μ' : Sto} (e : evalE Φ G c ρ μ = .ok (.d (.bool true)) μ') (h : WF (evalSs Φ G C a ρ μ') (sqQ Φ G C as Q)) : WF (evalSs Φ G C (.cons (.iff c a b) as) ρ μ) Q := by
  refine wf_cons.mpr ?_
  rw [rs_if, e]
  exact h
theorem wf_if_f {c : CE} {a b as : CSs} {Q : Flo → Sto → Prop} {μ' : Sto} (e : evalE Φ G c ρ μ = .ok (.d (.bool false)) μ') (h : WF (evalSs Φ G C b ρ μ') (sqQ Φ G C as Q)) : WF (evalSs Φ G C (.cons (.iff c a b) as) ρ μ) Q := by
  refine wf_cons.mpr ?_
  rw [rs_if, e]
  exact h
/-- an if without else that is not taken -/
theorem wf_if_no {c : CE} {a as : CSs} {Q : Flo → Sto → Prop} {μ' : Sto} (e : evalE Φ G c ρ μ = .ok (.d (.bool false)) μ') (h : WF (evalSs Φ G C as ρ μ') Q) : WF (evalSs Φ G C (.cons (.iff c a .nil) as) ρ μ) Q :=
  wf_if_f e (wf_nil h)
theorem wf_setT {t : CT} {a : CE} {as : CSs} {Q : Flo → Sto → Prop} {P : Val → Sto → Prop} (e : WF (evalE Φ G a ρ μ) P) (h : ∀ w μ', P w μ' → ∃ ρ', asg t w ρ = some ρ' ∧ WF (evalSs Φ G C as ρ' μ') Q) : WF (evalSs Φ G C (.cons (.setT t a) as) ρ μ) Q := by
  obtain ⟨w, μ', e, hw⟩ := e
  obtain ⟨ρ', e2, h⟩ := h w μ' hw
  exact wf_cons.mpr (wf_eq (by rw [rs_setT, e, Res.bind_ok, e2]; rfl) (by rw [sqQ_nx]; exact h))
theorem wf_forS {t : CT} {src : CSr} {b as : CSs} {Q : Flo → Sto → Prop} {P : List PyData → Sto → Prop} (e : WF (evalR Φ G src ρ μ) P) (h : ∀ xs μ', P xs μ' → WF (forL t (evalSs Φ G C b) xs ρ μ') (sqQ Φ G C as Q)) : WF (evalSs Φ G C (.cons (.for_ t src b) as) ρ μ) Q := by
  obtain ⟨xs, μ', e, hw⟩ := e
  refine wf_cons.mpr ?_
  rw [rs_for, e]
  exact h xs μ' hw
theorem wf_mm {f : MM} {i n : Nat} {as : CEs} {xs0 : List PyData} {Q : Val → Sto → Prop} (h1 : ρ[i]? = some (some (.h n))) (h2 : μ[n]? = some (.lst xs0)) (h3 : WF (evalEs Φ G as ρ μ) fun ws μ' => ∃ ys xs r, dsOf ws = some ys ∧ μ'[n]? = some (.lst xs) ∧ mmD f xs ys = some r ∧ Q (.d r.2) (μ'.set n (.lst r.1))) : WF (evalE Φ G (.mm f i as) ρ μ) Q := by
  obtain ⟨ws, μ', e, ys, xs, r, h4, h5, h6, hq⟩ := h3
  exact ⟨_, _, re_mm h1 h2 e h4 h5 h6, hq⟩
theorem wf_sto {o i a : CE} {as : CSs} {n j : Nat} {y : PyData} {k : Int} {xs : List PyData} {Q : Flo → Sto → Prop} {μ' : Sto} (ea : evalE Φ G a ρ μ = .ok (.d y) μ') (eo : evalE Φ G o ρ μ' = .ok (.h n) μ') (ei : evalE Φ G i ρ μ' = .ok (.d (.int k)) μ') (hn : μ'[n]? = some (.lst xs)) (hj : ixP xs.length k = some j)
    (h : WF (evalSs Φ G C as ρ (μ'.set n (.lst (xs.set j y)))) Q) : WF (evalSs Φ G C (.cons (.sto o i a) as) ρ μ) Q := by
  refine wf_cons.mpr (wf_eq ?_ (by rw [sqQ_nx]; exact h))
  simp only [evalS, ea, eo, ei, hn, Res.bind_ok, dOf_d, dInt_i, Option.bind_some, hj, Option.map_some, Res.opt_some]
theorem rs_try_ok {b : CSs} {f : Flo} {μ' : Sto} (h : evalSs Φ G C b ρ μ = .ok f μ') : evalS Φ G C (.try_ b) ρ μ = .ok f μ' := by
  simp only [evalS, h]
theorem rs_try_exc {b : CSs} {x : Exn} {μ' : Sto} {y : PyData} (h : evalSs Φ G C b ρ μ = .exc x μ') (hy : errD C x = some y) : evalS Φ G C (.try_ b) ρ μ = .ok (.ret (.d y)) μ' := by
  simp only [evalS, h, hy, Res.opt_some, Res.bind_ok]
theorem wf_call {j : Nat} {as : CEs} {Q : Val → Sto → Prop} (h : WF (evalEs Φ G as ρ μ) fun ws μ' => WF (Φ j ws μ') Q) : WF (evalE Φ G (.call j as) ρ μ) Q := by
  rw [re_call, wf_bind]
  exact h
theorem wf_call_eq {j : Nat} {as : CEs} {ws : List Val} {μ' : Sto} {Q : Val → Sto → Prop} (e : evalEs Φ G as ρ μ = .ok ws μ') (h : WF (Φ j ws μ') Q) : WF (evalE Φ G (.call j as) ρ μ) Q := by
  rw [re_call, e]
  exact h
/-- a comprehension without condition that changes nothing -/
theorem lcm_map {own : List Nat} {t : CT} {elt c : Env → Sto → Res Val} (f : PyData → PyData) : ∀ (xs acc : List PyData), (∀ x ∈ xs, ∃ ρ', asg t (.d x) (wipeE ρ own) = some ρ' ∧ elt ρ' μ = .ok (.d (f x)) μ ∧ c ρ' μ = .ok (.d (.bool true)) μ) → acc.length + xs.length ≤ lim →
    lcmL own t elt c ρ xs acc μ = .ok (acc ++ xs.map f) μ
  | [], acc, _, _ => by simp [lcmL]
  | x :: xs, acc, h, hl => by
    simp only [List.length_cons] at hl
    obtain ⟨ρ', e1, e2, e3⟩ := h x List.mem_cons_self
    have h1 : acc.length < lim := by omega
    have ih := lcm_map f (elt := elt) (c := c) (t := t) xs (acc ++ [f x]) (fun y hy => h y (List.mem_cons_of_mem _ hy)) (by rw [List.length_append, List.length_singleton]; omega)
    simp only [lcmL, e1, Res.opt_some, Res.bind_ok, e3, bOf_b, if_true, e2, dOf_d, if_pos h1, ih, List.map_cons, List.append_assoc, List.singleton_append]
def tryR (C : Nat → Option Str) : Res Flo → Res Flo
  | .ok f μ => .ok f μ
  | .exc x μ => (Res.opt (errD C x) μ).bind fun y μ => .ok (.ret (.d y)) μ
  | .bad => .bad
@[simp] theorem tryR_ok {f : Flo} : tryR C (.ok f μ) = .ok f μ := rfl
@[simp] theorem tryR_exc {x : Exn} : tryR C (.exc x μ) = (Res.opt (errD C x) μ).bind fun y μ => .ok (.ret (.d y)) μ := rfl
@[simp] theorem rs_try {b : CSs} : evalS Φ G C (.try_ b) ρ μ = tryR C (evalSs Φ G C b ρ μ) := by
  simp only [evalS]
  cases evalSs Φ G C b ρ μ <;> rfl
/-- the first statement goes on, in a state with this property -/
theorem wf_join {a : CS} {as : CSs} {Q : Flo → Sto → Prop} (J : Env → Sto → Prop) (h : WF (evalS Φ G C a ρ μ) fun f μ' => ∃ ρ', f = .nx ρ' ∧ J ρ' μ') (h2 : ∀ ρ' μ', J ρ' μ' → WF (evalSs Φ G C as ρ' μ') Q) : WF (evalSs Φ G C (.cons a as) ρ μ) Q := by
  obtain ⟨f, μ', e, ρ', rfl, hj⟩ := h
  exact wf_cons.mpr (wf_eq e (by rw [sqQ_nx]; exact h2 ρ' μ' hj))
theorem wf_ifS_t {c : CE} {a b : CSs} {Q : Flo → Sto → Prop} {μ' : Sto} (e : evalE Φ G c ρ μ = .ok (.d (.bool true)) μ') (h : WF (evalSs Φ G C a ρ μ') Q) : WF (evalS Φ G C (.iff c a b) ρ μ) Q := by
  rw [rs_if, e]
  exact h
theorem wf_ifS_f {c : CE} {a b : CSs} {Q : Flo → Sto → Prop} {μ' : Sto} (e : evalE Φ G c ρ μ = .ok (.d (.bool false)) μ') (h : WF (evalSs Φ G C b ρ μ') Q) : WF (evalS Φ G C (.iff c a b) ρ μ) Q := by
  rw [rs_if, e]
  exact h
end
end Ip
set_option Elab.async false
set_option linter.all false
set_option maxRecDepth 100000
set_option maxHeartbeats 1000000
/-! Ip: the evaluator's steps as equations, statement by statement. -/
namespace Ip
open PySem
@[simp] theorem seqR_bad {k : Env → Sto → Res Flo} : seqR .bad k = .bad := rfl
section
variable {Φ : Nat → List Val → Sto → Res Val} {G : Nat → Option PyData} {C : Nat → Option Str} {ρ ρ' : Env} {μ μ' : Sto}
theorem ss_nx {a : CS} {as : CSs} (e : evalS Φ G C a ρ μ = .ok (.nx ρ') μ') : evalSs Φ G C (.cons a as) ρ μ = evalSs Φ G C as ρ' μ' := by
  rw [rss_cons, e]
  rfl
theorem ss_rt {a : CS} {as : CSs} {w : Val} (e : evalS Φ G C a ρ μ = .ok (.ret w) μ') : evalSs Φ G C (.cons a as) ρ μ = .ok (.ret w) μ' := by
  rw [rss_cons, e]
  rfl
theorem ss_bk {a : CS} {as : CSs} (e : evalS Φ G C a ρ μ = .ok (.bk ρ') μ') : evalSs Φ G C (.cons a as) ρ μ = .ok (.bk ρ') μ' := by
  rw [rss_cons, e]
  rfl
theorem ss_xc {a : CS} {as : CSs} {x : Exn} (e : evalS Φ G C a ρ μ = .exc x μ') : evalSs Φ G C (.cons a as) ρ μ = .exc x μ' := by
  rw [rss_cons, e]
  rfl
theorem s_if_t {c : CE} {a b : CSs} (e : evalE Φ G c ρ μ = .ok (.d (.bool true)) μ') : evalS Φ G C (.iff c a b) ρ μ = evalSs Φ G C a ρ μ' := by
  rw [rs_if, e]
  rfl
theorem s_if_f {c : CE} {a b : CSs} (e : evalE Φ G c ρ μ = .ok (.d (.bool false)) μ') : evalS Φ G C (.iff c a b) ρ μ = evalSs Φ G C b ρ μ' := by
  rw [rs_if, e]
  rfl
/-- an if without else that is not taken -/
theorem s_if_no {c : CE} {a : CSs} (e : evalE Φ G c ρ μ = .ok (.d (.bool false)) μ') : evalS Φ G C (.iff c a .nil) ρ μ = .ok (.nx ρ) μ' := by
  rw [s_if_f e, rss_nil]
theorem s_set {i : Nat} {a : CE} {w : Val} (e : evalE Φ G a ρ μ = .ok w μ') : evalS Φ G C (.set i a) ρ μ = .ok (.nx (ρ.set i (some w))) μ' := by
  rw [rs_set, e]
  rfl
theorem s_ex {a : CE} {w : Val} (e : evalE Φ G a ρ μ = .ok w μ') : evalS Φ G C (.ex a) ρ μ = .ok (.nx ρ) μ' := by
  rw [rs_ex, e]
  rfl
theorem s_ret {a : CE} {w : Val} (e : evalE Φ G a ρ μ = .ok w μ') : evalS Φ G C (.ret a) ρ μ = .ok (.ret w) μ' := by
  rw [rs_ret, e]
  rfl
theorem s_setT {t : CT} {a : CE} {w : Val} (e : evalE Φ G a ρ μ = .ok w μ') (h : asg t w ρ = some ρ') : evalS Φ G C (.setT t a) ρ μ = .ok (.nx ρ') μ' := by
  rw [rs_setT, e, Res.bind_ok, h]
  rfl
theorem s_for {t : CT} {src : CSr} {b : CSs} {xs : List PyData} (e : evalR Φ G src ρ μ = .ok xs μ') : evalS Φ G C (.for_ t src b) ρ μ = forL t (evalSs Φ G C b) xs ρ μ' := by
  rw [rs_for, e]
  rfl
theorem s_sto {o i a : CE} {n j : Nat} {y : PyData} {k : Int} {xs : List PyData} (ea : evalE Φ G a ρ μ = .ok (.d y) μ') (eo : evalE Φ G o ρ μ' = .ok (.h n) μ') (ei : evalE Φ G i ρ μ' = .ok (.d (.int k)) μ') (hn : μ'[n]? = some (.lst xs)) (hj : ixP xs.length k = some j) :
    evalS Φ G C (.sto o i a) ρ μ = .ok (.nx ρ) (μ'.set n (.lst (xs.set j y))) := by
  simp only [evalS, ea, eo, ei, hn, Res.bind_ok, dOf_d, dInt_i, Option.bind_some, hj, Option.map_some, Res.opt_some]
theorem s_aug {i : Nat} {o : BO} {a : CE} {x y : Int} {z : PyData} (h : ρ[i]? = some (some (.d (.int x)))) (e : evalE Φ G a ρ μ = .ok (.d (.int y)) μ') (hb : binD o (.int x) (.int y) = some z) : evalS Φ G C (.aug i o a) ρ μ = .ok (.nx (ρ.set i (some (.d z)))) μ' := by
  rw [rs_aug h, e]
  simp [hb]
theorem s_rse {c : Nat} {as : CEs} {ws : List Val} {xs : List PyData} (e : evalEs Φ G as ρ μ = .ok ws μ') (h : dsOf ws = some xs) : evalS Φ G C (.rse c as) ρ μ = .exc ⟨c, xs.reverse⟩ μ' := by
  rw [rs_rse, e, Res.bind_ok, h]
  rfl
theorem forL_nx {t : CT} {body : Env → Sto → Res Flo} {x : PyData} {xs : List PyData} {ρ1 : Env} (h : asg t (.d x) ρ = some ρ1) (e : body ρ1 μ = .ok (.nx ρ') μ') : forL t body (x :: xs) ρ μ = forL t body xs ρ' μ' := by
  simp only [forL, h, Res.opt_some, Res.bind_ok, e]
theorem forL_rt {t : CT} {body : Env → Sto → Res Flo} {x : PyData} {xs : List PyData} {ρ1 : Env} {w : Val} (h : asg t (.d x) ρ = some ρ1) (e : body ρ1 μ = .ok (.ret w) μ') : forL t body (x :: xs) ρ μ = .ok (.ret w) μ' := by
  simp only [forL, h, Res.opt_some, Res.bind_ok, e]
theorem forL_bk {t : CT} {body : Env → Sto → Res Flo} {x : PyData} {xs : List PyData} {ρ1 : Env} (h : asg t (.d x) ρ = some ρ1) (e : body ρ1 μ = .ok (.bk ρ') μ') : forL t body (x :: xs) ρ μ = .ok (.nx ρ') μ' := by
  simp only [forL, h, Res.opt_some, Res.bind_ok, e]
theorem forL_xc {t : CT} {body : Env → Sto → Res Flo} {x : PyData} {xs : List PyData} {ρ1 : Env} {y : Exn} (h : asg t (.d x) ρ = some ρ1) (e : body ρ1 μ = .exc y μ') : forL t body (x :: xs) ρ μ = .exc y μ' := by
  simp only [forL, h, Res.opt_some, Res.bind_ok, e, Res.bind_exc]
theorem forL_nil {t : CT} {body : Env → Sto → Res Flo} : forL t body [] ρ μ = .ok (.nx ρ) μ := by
  simp only [forL]
theorem get_last {o : MO} : (μ ++ [o])[μ.length]? = some o := by
  rw [List.getElem?_append_right (Nat.le_refl _), Nat.sub_self]
  rfl
theorem set_last {o o' : MO} : (μ ++ [o]).set μ.length o' = μ ++ [o'] := by
  have h := List.set_append_right (s := μ) (t := [o]) (i := μ.length) (x := o') (Nat.le_refl _)
  rw [Nat.sub_self] at h
  exact h
theorem rd_last {xs : List PyData} : rd (μ ++ [.lst xs]) (.h μ.length) = some (.list xs) := by
  unfold rd
  simp only [get_last]
theorem fin_hn {o : MO} : finV μ.length (.ok (.ret (.h μ.length)) (μ ++ [o])) = .ok (.h μ.length) (μ ++ [o]) := by
  simp only [finV, outV, if_neg (Nat.lt_irrefl _), get_last, List.take_left]
/-- a new list that is handed out, behind others -/
theorem fin_hk {κ : Sto} {o : MO} : finV μ.length (.ok (.ret (.h (μ ++ κ).length)) ((μ ++ κ) ++ [o])) = .ok (.h μ.length) (μ ++ [o]) := by
  have h : ¬ (μ ++ κ).length < μ.length := by
    rw [List.length_append]
    omega
  have e := get_last (μ := μ ++ κ) (o := o)
  simp only [finV, outV, if_neg h, e]
  rw [List.append_assoc, List.take_left]
theorem ext_l {xs ys : List PyData} (h : xs.length + ys.length ≤ lim) : mmD .extend xs [.list ys] = some (xs ++ ys, .none) := by
  simp only [mmD, if_pos h]
theorem app_1 {xs : List PyData} {y : PyData} (h : xs.length < lim) : mmD .append xs [y] = some (xs ++ [y], .none) := by
  simp only [mmD, if_pos h]
theorem add_l {xs ys : List PyData} (h : xs.length + ys.length ≤ lim) : binD .add (.list xs) (.list ys) = some (.list (xs ++ ys)) := if_pos h
theorem add_t {xs ys : List PyData} (h : xs.length + ys.length ≤ lim) : binD .add (.tuple xs) (.tuple ys) = some (.tuple (xs ++ ys)) := if_pos h
theorem sml_of {i : Int} (h0 : 0 ≤ i) (h : i ≤ 1000000000000000000000000000000) : sml i = true := by
  unfold sml
  refine decide_eq_true ?_
  have h1 : i.natAbs ≤ 1000000000000000000000000000000 := by omega
  refine Nat.lt_of_le_of_lt h1 ?_
  decide +kernel
theorem add_ok {i j : Int} : binD .add (.int i) (.int j) = some (.int (i + j)) := rfl
theorem sub_ok {i j : Int} : binD .sub (.int i) (.int j) = some (.int (i - j)) := rfl
theorem mul_ok {i j : Int} (hi : sml i = true) (hj : sml j = true) : binD .mul (.int i) (.int j) = some (.int (i * j)) := by
  simp [binD, hi, hj]
theorem mod_ok {i j : Int} (hj : 0 < j) : binD .mod (.int i) (.int j) = some (.int (i % j)) := by
  simp [binD, hj]
theorem div_ok {i j : Int} (hj : 0 < j) (h : sml j = true) : binD .fdiv (.int i) (.int j) = some (.int (i / j)) := by
  simp [binD, hj, h]
theorem rng_len {lo : Int} {n : Nat} : (rngD lo n).length = n := by
  unfold rngD
  simp
theorem small_lim {a : Nat} (h : a ≤ 1000000) : a ≤ lim := by
  unfold lim
  omega
theorem mm_ext {i n : Nat} {as : CEs} {xs ys : List PyData} (h1 : ρ[i]? = some (some (.h n))) (h2 : μ[n]? = some (.lst xs)) (h3 : evalEs Φ G as ρ μ = .ok [.d (.list ys)] μ) (hl : xs.length + ys.length ≤ lim) : evalE Φ G (.mm .extend i as) ρ μ = .ok (.d .none) (μ.set n (.lst (xs ++ ys))) :=
  re_mm (r := (xs ++ ys, .none)) h1 h2 h3 rfl h2 (ext_l hl)
theorem mm_app {i n : Nat} {as : CEs} {xs : List PyData} {y : PyData} (h1 : ρ[i]? = some (some (.h n))) (h2 : μ[n]? = some (.lst xs)) (h3 : evalEs Φ G as ρ μ = .ok [.d y] μ) (hl : xs.length < lim) : evalE Φ G (.mm .append i as) ρ μ = .ok (.d .none) (μ.set n (.lst (xs ++ [y]))) :=
  re_mm (r := (xs ++ [y], .none)) h1 h2 h3 rfl h2 (app_1 hl)
end
end Ip
set_option Elab.async false
set_option linter.all false
set_option maxRecDepth 100000
set_option maxHeartbeats 4000000
/-! K11: the core forms of its defs, printed by gen.py, and that they are right. -/
namespace K11
open PySem L2 Ip
def top (i : Nat) : Stmt := PySem.Challenge.pw_whatstayed_k11_records_and_their_words.main.body.getD i (.Pass ⟨0, 0, 0, 0⟩)
abbrev s_is_int : Stmt := top 18
def N_is_int : List Str := ["value", "low", "high"]
def P_is_int : List Str := ["value", "low", "high"]
/-- is_int -/
def c_is_int : CF := ⟨3, 3, cssOf [(.ret (.bop true (cesOf [(.isi (.var 0) .int), (.not (.isi (.var 0) .bool)), (.chn .le .le (.var 1) (.var 0) (.var 2))])))]⟩
abbrev s_is_word : Stmt := top 19
def N_is_word : List Str := ["value"]
def P_is_word : List Str := ["value"]
/-- is_word -/
def c_is_word : CF := ⟨1, 1, cssOf [(.ret (.call 0 (cesOf [(.var 0), (.kst (.int (0))), (.glo 0)])))]⟩
abbrev s_split_number : Stmt := top 20
def N_split_number : List Str := ["n"]
def P_split_number : List Str := ["n"]
/-- split_number -/
def c_split_number : CF := ⟨1, 1, cssOf [(.ret (.tup (cesOf [(.bin .fdiv (.var 0) (.kst (.int (65536)))), (.bin .mod (.var 0) (.kst (.int (65536))))])))]⟩
abbrev s_is_name : Stmt := top 28
def N_is_name : List Str := ["value"]
def P_is_name : List Str := ["value"]
/-- is_name -/
def c_is_name : CF := ⟨1, 1, cssOf [(.iff (.bop false (cesOf [(.not (.isi (.var 0) .tuple)), (.cmp .ne (.bi .len (cesOf [(.var 0)])) (.kst (.int (2))))])) (cssOf [(.ret (.kst (.bool false)))]) (cssOf [])),
  (.ret (.bop true (cesOf [(.call 0 (cesOf [(.idx (.var 0) (.kst (.int (0)))), (.kst (.int (1))), (.glo 0)])), (.call 0 (cesOf [(.idx (.var 0) (.kst (.int (1)))), (.kst (.int (1))), (.glo 0)]))])))]⟩
abbrev s_is_field : Stmt := top 29
def N_is_field : List Str := ["form", "value", "low", "high", "one"]
def P_is_field : List Str := ["form", "value"]
/-- is_field -/
def c_is_field : CF := ⟨2, 5, cssOf [(.iff (.cmp .eq (.var 0) (.kst (.str "name"))) (cssOf [(.ret (.call 3 (cesOf [(.var 1)])))]) (cssOf [])),
  (.iff (.cmp .eq (.var 0) (.kst (.str "maybe"))) (cssOf [(.ret (.bop false (cesOf [(.cmp .is_ (.var 1) (.kst .none)), (.call 1 (cesOf [(.var 1)]))])))]) (cssOf [])),
  (.iff (.cmp .eq (.var 0) (.kst (.str "words"))) (cssOf [(.ret (.bop true (cesOf [(.isi (.var 1) .tuple), (.cmp .le (.bi .len (cesOf [(.var 1)])) (.glo 1)), (.bi .all (cesOf [(.lcm false [4] (.call 1 (cesOf [(.var 4)])) (.nm 4) (.sq (.var 1)) .no)]))])))]) (cssOf [])),
  (.setT (.cons (.nm 2) (.cons (.nm 3) .nil)) (.kd 0 (.var 0))),
  (.ret (.call 0 (cesOf [(.var 1), (.var 2), (.var 3)])))]⟩
abbrev s_wrong_item : Stmt := top 30
def N_wrong_item : List Str := ["record", "forms", "at", "form"]
def P_wrong_item : List Str := ["record"]
def b_wrong_item_0 : CSs := (cssOf [(.iff (.bop false (cesOf [(.cmp .eq (.bin .add (.var 2) (.kst (.int (1)))) (.bi .len (cesOf [(.var 0)]))), (.not (.call 4 (cesOf [(.var 3), (.idx (.var 0) (.bin .add (.var 2) (.kst (.int (1)))))])))])) (cssOf [(.ret (.bin .add (.var 2) (.kst (.int (1)))))]) (cssOf []))])
/-- wrong_item -/
def c_wrong_item : CF := ⟨1, 4, cssOf [(.iff (.bop false (cesOf [(.not (.isi (.var 0) .tuple)), (.cmp .eq (.bi .len (cesOf [(.var 0)])) (.kst (.int (0)))), (.not (.isi (.idx (.var 0) (.kst (.int (0)))) .str))])) (cssOf [(.ret (.kst (.int (0))))]) (cssOf [])),
  (.iff (.bop false (cesOf [(.cmp .eq (.idx (.var 0) (.kst (.int (0)))) (.kst (.str ""))), (.cmp .nin (.idx (.var 0) (.kst (.int (0)))) (.gloc 2))])) (cssOf [(.ret (.kst (.int (0))))]) (cssOf [])),
  (.set 1 (.idx (.gloc 3) (.pmc .tindex (.gloc 2) (cesOf [(.idx (.var 0) (.kst (.int (0))))])))),
  (.for_ (.cons (.nm 2) (.cons (.nm 3) .nil)) (.enu (.var 1)) b_wrong_item_0),
  (.iff (.cmp .gt (.bi .len (cesOf [(.var 0)])) (.bin .add (.bi .len (cesOf [(.var 1)])) (.kst (.int (1))))) (cssOf [(.ret (.bin .add (.bi .len (cesOf [(.var 1)])) (.kst (.int (1)))))]) (cssOf [])),
  (.ret (.kst .none))]⟩
abbrev s_check_record : Stmt := top 31
def N_check_record : List Str := ["record", "wrong"]
def P_check_record : List Str := ["record"]
/-- check_record -/
def c_check_record : CF := ⟨1, 2, cssOf [(.set 1 (.call 5 (cesOf [(.var 0)]))),
  (.iff (.cmp .isn (.var 1) (.kst .none)) (cssOf [(.rse 0 (cesOf [(.var 1)]))]) (cssOf []))]⟩
abbrev s_is_record : Stmt := top 32
def N_is_record : List Str := ["value"]
def P_is_record : List Str := ["value"]
/-- is_record -/
def c_is_record : CF := ⟨1, 1, cssOf [(.ret (.cmp .is_ (.call 5 (cesOf [(.var 0)])) (.kst .none)))]⟩
abbrev s_field_words : Stmt := top 33
def N_field_words : List Str := ["form", "value"]
def P_field_words : List Str := ["form", "value"]
/-- field_words -/
def c_field_words : CF := ⟨2, 2, cssOf [(.iff (.cmp .eq (.var 0) (.kst (.str "name"))) (cssOf [(.ret (.lis false (.var 1)))]) (cssOf [])),
  (.iff (.cmp .eq (.var 0) (.kst (.str "tree"))) (cssOf [(.ret (.lst false (cesOf [])))]) (cssOf [])),
  (.iff (.cmp .eq (.var 0) (.kst (.str "maybe"))) (cssOf [(.ret (.lst false (cesOf [(.ite (.cmp .is_ (.var 1) (.kst .none)) (.kst (.int (0))) (.var 1))])))]) (cssOf [])),
  (.iff (.cmp .eq (.var 0) (.kst (.str "words"))) (cssOf [(.ret (.bin .add (.lst false (cesOf [(.bi .len (cesOf [(.var 1)]))])) (.lis false (.var 1))))]) (cssOf [])),
  (.iff (.cmp .in_ (.var 0) (.tup (cesOf [(.kst (.str "number")), (.kst (.str "link"))]))) (cssOf [(.ret (.lis false (.call 2 (cesOf [(.var 1)]))))]) (cssOf [])),
  (.ret (.lst false (cesOf [(.var 1)])))]⟩
abbrev s_packed : Stmt := top 34
def N_packed : List Str := ["record", "code", "first", "flag", "words", "at", "form", "value", "there"]
def P_packed : List Str := ["record"]
def b_packed_0 : CSs := (cssOf [(.set 7 (.idx (.var 0) (.bin .add (.var 5) (.kst (.int (1)))))), (.iff (.cmp .in_ (.var 6) (.tup (cesOf [(.kst (.str "tree")), (.kst (.str "maybe"))]))) (cssOf [(.set 8 (.ite (.cmp .eq (.var 6) (.kst (.str "tree"))) (.cmp .eq (.var 7) (.kst (.int (1)))) (.cmp .isn (.var 7) (.kst .none)))), (.aug 2 .add (.ite (.var 8) (.var 3) (.kst (.int (0))))), (.set 3 (.bin .mul (.var 3) (.kst (.int (2)))))]) (cssOf [])), (.ex (.mm .extend 4 (cesOf [(.call 8 (cesOf [(.var 6), (.var 7)]))])))])
/-- packed -/
def c_packed : CF := ⟨1, 9, cssOf [(.set 1 (.pmc .tindex (.gloc 2) (cesOf [(.idx (.var 0) (.kst (.int (0))))]))),
  (.set 2 (.var 1)),
  (.set 3 (.kst (.int (16)))),
  (.set 4 (.lst true (cesOf []))),
  (.for_ (.cons (.nm 5) (.cons (.nm 6) .nil)) (.enu (.idx (.gloc 3) (.var 1))) b_packed_0),
  (.ret (.addh (.lst false (cesOf [(.var 2)])) (.var 4)))]⟩
abbrev s_record_words : Stmt := top 35
def N_record_words : List Str := ["record"]
def P_record_words : List Str := ["record"]
/-- record_words -/
def c_record_words : CF := ⟨1, 1, cssOf [(.ex (.call 6 (cesOf [(.var 0)]))),
  (.ret (.call 9 (cesOf [(.var 0)])))]⟩
abbrev s_pair_at : Stmt := top 36
def N_pair_at : List Str := ["form", "words", "at", "high", "low", "number"]
def P_pair_at : List Str := ["form", "words", "at"]
/-- pair_at -/
def c_pair_at : CF := ⟨3, 6, cssOf [(.set 3 (.idx (.var 1) (.var 2))),
  (.iff (.bop true (cesOf [(.cmp .eq (.var 0) (.kst (.str "name"))), (.cmp .eq (.var 3) (.kst (.int (0))))])) (cssOf [(.rse 0 (cesOf [(.var 2)]))]) (cssOf [])),
  (.iff (.cmp .eq (.bin .add (.var 2) (.kst (.int (1)))) (.bi .len (cesOf [(.var 1)]))) (cssOf [(.ret (.kst .none))]) (cssOf [])),
  (.set 4 (.idx (.var 1) (.bin .add (.var 2) (.kst (.int (1)))))),
  (.set 5 (.bin .add (.bin .mul (.kst (.int (65536))) (.var 3)) (.var 4))),
  (.iff (.bop false (cesOf [(.bop true (cesOf [(.cmp .eq (.var 0) (.kst (.str "name"))), (.cmp .eq (.var 4) (.kst (.int (0))))])), (.bop true (cesOf [(.cmp .eq (.var 0) (.kst (.str "number"))), (.cmp .eq (.var 5) (.kst (.int (0))))]))])) (cssOf [(.rse 0 (cesOf [(.bin .add (.var 2) (.kst (.int (1))))]))]) (cssOf [])),
  (.ret (.tup (cesOf [(.ite (.cmp .eq (.var 0) (.kst (.str "name"))) (.tup (cesOf [(.var 3), (.var 4)])) (.var 5)), (.bin .add (.var 2) (.kst (.int (2))))])))]⟩
abbrev s_field_at : Stmt := top 37
def N_field_at : List Str := ["form", "flag", "words", "at", "one", "behind"]
def P_field_at : List Str := ["form", "flag", "words", "at"]
/-- field_at -/
def c_field_at : CF := ⟨4, 6, cssOf [(.iff (.cmp .eq (.var 0) (.kst (.str "tree"))) (cssOf [(.ret (.tup (cesOf [(.var 1), (.var 3)])))]) (cssOf [])),
  (.iff (.cmp .eq (.var 3) (.bi .len (cesOf [(.var 2)]))) (cssOf [(.ret (.kst .none))]) (cssOf [])),
  (.set 4 (.idx (.var 2) (.var 3))),
  (.iff (.cmp .in_ (.var 0) (.tup (cesOf [(.kst (.str "name")), (.kst (.str "number")), (.kst (.str "link"))]))) (cssOf [(.ret (.call 11 (cesOf [(.var 0), (.var 2), (.var 3)])))]) (cssOf [])),
  (.iff (.cmp .eq (.var 0) (.kst (.str "words"))) (cssOf [(.iff (.cmp .gt (.var 4) (.glo 1)) (cssOf [(.rse 0 (cesOf [(.var 3)]))]) (cssOf [])), (.set 5 (.bin .add (.bin .add (.var 3) (.kst (.int (1)))) (.var 4))), (.ret (.ite (.cmp .le (.var 5) (.bi .len (cesOf [(.var 2)]))) (.tup (cesOf [(.bi .tup (cesOf [(.slc (.var 2) (.so (.bin .add (.var 3) (.kst (.int (1))))) (.so (.var 5)))])), (.var 5)])) (.kst .none)))]) (cssOf [])),
  (.iff (.bop false (cesOf [(.bop true (cesOf [(.cmp .eq (.var 0) (.kst (.str "page"))), (.cmp .gt (.var 4) (.kst (.int (255))))])), (.bop true (cesOf [(.cmp .eq (.var 0) (.kst (.str "maybe"))), (.cmp .eq (.var 1) (.kst (.int (0)))), (.cmp .gt (.var 4) (.kst (.int (0))))]))])) (cssOf [(.rse 0 (cesOf [(.var 3)]))]) (cssOf [])),
  (.iff (.bop true (cesOf [(.cmp .eq (.var 0) (.kst (.str "maybe"))), (.cmp .eq (.var 1) (.kst (.int (0))))])) (cssOf [(.ret (.tup (cesOf [(.kst .none), (.bin .add (.var 3) (.kst (.int (1))))])))]) (cssOf [])),
  (.ret (.tup (cesOf [(.var 4), (.bin .add (.var 3) (.kst (.int (1))))])))]⟩
abbrev s_unpacked : Stmt := top 38
def N_unpacked : List Str := ["words", "at", "code", "flags", "forms", "many", "items", "place", "form", "flag", "found"]
def P_unpacked : List Str := ["words", "at"]
def b_unpacked_0 : CSs := (cssOf [(.set 9 (.bin .mod (.var 3) (.kst (.int (2))))), (.iff (.cmp .in_ (.var 8) (.tup (cesOf [(.kst (.str "tree")), (.kst (.str "maybe"))]))) (cssOf [(.set 3 (.bin .fdiv (.var 3) (.kst (.int (2)))))]) (cssOf [])), (.set 10 (.call 12 (cesOf [(.var 8), (.var 9), (.var 0), (.var 7)]))), (.iff (.cmp .is_ (.var 10) (.kst .none)) (cssOf [(.ret (.kst .none))]) (cssOf [])), (.ex (.mm .append 6 (cesOf [(.idx (.var 10) (.kst (.int (0))))]))), (.set 7 (.idx (.var 10) (.kst (.int (1)))))])
/-- unpacked -/
def c_unpacked : CF := ⟨2, 11, cssOf [(.iff (.cmp .eq (.var 1) (.bi .len (cesOf [(.var 0)]))) (cssOf [(.ret (.kst .none))]) (cssOf [])),
  (.set 2 (.bin .mod (.idx (.var 0) (.var 1)) (.kst (.int (16))))),
  (.set 3 (.bin .fdiv (.idx (.var 0) (.var 1)) (.kst (.int (16))))),
  (.iff (.bop false (cesOf [(.cmp .ge (.var 2) (.bi .len (cesOf [(.gloc 2)]))), (.cmp .eq (.idx (.gloc 2) (.var 2)) (.kst (.str "")))])) (cssOf [(.rse 0 (cesOf [(.var 1)]))]) (cssOf [])),
  (.set 4 (.idx (.gloc 3) (.var 2))),
  (.set 5 (.bi .len (cesOf [(.lcm false [8] (.var 8) (.nm 8) (.sq (.var 4)) (.so (.cmp .in_ (.var 8) (.tup (cesOf [(.kst (.str "tree")), (.kst (.str "maybe"))])))))]))),
  (.iff (.cmp .gt (.bin .shr (.var 3) (.var 5)) (.kst (.int (0)))) (cssOf [(.rse 0 (cesOf [(.var 1)]))]) (cssOf [])),
  (.set 6 (.lst true (cesOf [(.idx (.gloc 2) (.var 2))]))),
  (.set 7 (.bin .add (.var 1) (.kst (.int (1))))),
  (.for_ (.nm 8) (.sq (.var 4)) b_unpacked_0),
  (.ret (.tup (cesOf [(.bi .tup (cesOf [(.var 6)])), (.var 7)])))]⟩
abbrev s_record_at : Stmt := top 39
def N_record_at : List Str := ["words", "at", "one"]
def P_record_at : List Str := ["words", "at"]
/-- record_at -/
def c_record_at : CF := ⟨2, 3, cssOf [(.iff (.bop false (cesOf [(.not (.isi (.var 0) .list)), (.not (.bi .all (cesOf [(.lcm false [2] (.call 1 (cesOf [(.var 2)])) (.nm 2) (.sq (.var 0)) .no)])))])) (cssOf [(.rse 1 (cesOf [(.kst (.str "words"))]))]) (cssOf [])),
  (.iff (.not (.call 0 (cesOf [(.var 1), (.kst (.int (0))), (.bi .len (cesOf [(.var 0)]))]))) (cssOf [(.rse 1 (cesOf [(.kst (.str "at"))]))]) (cssOf [])),
  (.ret (.call 13 (cesOf [(.var 0), (.var 1)])))]⟩
abbrev s_field_of : Stmt := top 40
def N_field_of : List Str := ["record", "form", "forms"]
def P_field_of : List Str := ["record", "form"]
/-- field_of -/
def c_field_of : CF := ⟨2, 3, cssOf [(.set 2 (.idxc (.gloc 3) (.pmc .tindex (.gloc 2) (cesOf [(.idx (.var 0) (.kst (.int (0))))])))),
  (.ret (.ite (.cmp .in_ (.var 1) (.var 2)) (.idx (.var 0) (.bin .add (.pmc .tindex (.var 2) (cesOf [(.var 1)])) (.kst (.int (1))))) (.kst .none)))]⟩
abbrev s_page_of : Stmt := top 41
def N_page_of : List Str := ["record"]
def P_page_of : List Str := ["record"]
/-- page_of -/
def c_page_of : CF := ⟨1, 1, cssOf [(.ex (.call 6 (cesOf [(.var 0)]))),
  (.ret (.call 15 (cesOf [(.var 0), (.kst (.str "page"))])))]⟩
abbrev s_name_of : Stmt := top 42
def N_name_of : List Str := ["record"]
def P_name_of : List Str := ["record"]
/-- name_of -/
def c_name_of : CF := ⟨1, 1, cssOf [(.ex (.call 6 (cesOf [(.var 0)]))),
  (.ret (.call 15 (cesOf [(.var 0), (.kst (.str "name"))])))]⟩
abbrev s__law_stream : Stmt := top 44
def N__law_stream : List Str := ["script"]
def P__law_stream : List Str := ["script"]
/-- _law_stream -/
def c__law_stream : CF := ⟨1, 1, cssOf [(.ret (.lst true (cesOf [(.lis false (.var 0)), (.kst (.int (0))), (.kst (.int (0)))])))]⟩
abbrev s__law_next : Stmt := top 45
def N__law_next : List Str := ["stream", "many", "k", "cell", "digit"]
def P__law_next : List Str := ["stream", "many"]
/-- _law_next -/
def c__law_next : CF := ⟨2, 5, cssOf [(.iff (.cmp .eq (.idx (.var 0) (.kst (.int (1)))) (.kst (.int (0)))) (cssOf [(.set 2 (.idx (.var 0) (.kst (.int (2))))), (.set 3 (.bin .add (.kst (.int (7))) (.var 2))), (.iff (.cmp .lt (.var 2) (.bi .len (cesOf [(.idx (.var 0) (.kst (.int (0))))]))) (cssOf [(.set 3 (.bin .mod (.bi .int (cesOf [(.bi .abs (cesOf [(.idx (.idx (.var 0) (.kst (.int (0)))) (.var 2))]))])) (.bin .mul (.bin .mul (.bin .pow (.kst (.int (10))) (.kst (.int (64)))) (.bin .pow (.kst (.int (10))) (.kst (.int (64))))) (.bin .pow (.kst (.int (10))) (.kst (.int (64)))))))]) (cssOf [])), (.iff (.cmp .lt (.var 3) (.bin .pow (.kst (.int (10))) (.kst (.int (18))))) (cssOf [(.set 3 (.bin .mod (.bi .int (cesOf [(.bin .add (.bin .add (.bin .mul (.var 3) (.kst (.int (48271)))) (.bin .mul (.var 2) (.kst (.int (69621))))) (.kst (.int (11))))])) (.kst (.int (2147483647))))), (.set 3 (.bin .add (.bin .mul (.bin .mod (.bi .int (cesOf [(.bin .add (.bin .mul (.var 3) (.kst (.int (16807)))) (.kst (.int (13))))])) (.kst (.int (2147483647)))) (.kst (.int (65537)))) (.var 3)))]) (cssOf [])), (.sto (.var 0) (.kst (.int (1))) (.var 3)), (.sto (.var 0) (.kst (.int (2))) (.bin .add (.var 2) (.kst (.int (1)))))]) (cssOf [])),
  (.set 4 (.bin .mod (.bi .int (cesOf [(.idx (.var 0) (.kst (.int (1))))])) (.var 1))),
  (.sto (.var 0) (.kst (.int (1))) (.bin .fdiv (.idx (.var 0) (.kst (.int (1)))) (.var 1))),
  (.ret (.var 4))]⟩
abbrev s__law_pick : Stmt := top 46
def N__law_pick : List Str := ["stream", "rows"]
def P__law_pick : List Str := ["stream", "rows"]
/-- _law_pick -/
def c__law_pick : CF := ⟨2, 2, cssOf [(.ret (.idx (.var 1) (.call 19 (cesOf [(.var 0), (.bi .len (cesOf [(.var 1)]))]))))]⟩
abbrev s__law_from : Stmt := top 47
def N__law_from : List Str := ["stream", "low", "high"]
def P__law_from : List Str := ["stream", "low", "high"]
/-- _law_from -/
def c__law_from : CF := ⟨3, 3, cssOf [(.ret (.bin .add (.var 1) (.call 19 (cesOf [(.var 0), (.bin .add (.bin .sub (.var 2) (.var 1)) (.kst (.int (1))))]))))]⟩
abbrev s__law_number : Stmt := top 48
def N__law_number : List Str := ["value", "low", "high"]
def P__law_number : List Str := ["value", "low", "high"]
/-- _law_number -/
def c__law_number : CF := ⟨3, 3, cssOf [(.iff (.bop false (cesOf [(.not (.isi (.var 0) .int)), (.isi (.var 0) .bool)])) (cssOf [(.ret (.kst (.bool false)))]) (cssOf [])),
  (.ret (.bop true (cesOf [(.cmp .le (.var 1) (.var 0)), (.cmp .le (.var 0) (.var 2))])))]⟩
abbrev s__law_is_row : Stmt := top 49
def N__law_is_row : List Str := ["value", "kind", "many"]
def P__law_is_row : List Str := ["value", "kind", "many"]
/-- _law_is_row -/
def c__law_is_row : CF := ⟨3, 3, cssOf [(.iff (.bop true (cesOf [(.cmp .eq (.var 1) (.kst (.str "L"))), (.not (.isi (.var 0) .list))])) (cssOf [(.ret (.kst (.bool false)))]) (cssOf [])),
  (.iff (.bop true (cesOf [(.cmp .eq (.var 1) (.kst (.str "T"))), (.not (.isi (.var 0) .tuple))])) (cssOf [(.ret (.kst (.bool false)))]) (cssOf [])),
  (.ret (.bop false (cesOf [(.cmp .is_ (.var 2) (.kst .none)), (.cmp .eq (.bi .len (cesOf [(.var 0)])) (.var 2))])))]⟩
abbrev s__law_same : Stmt := top 50
def N__law_same : List Str := ["actual", "due", "left", "turn", "one", "other", "at", "key"]
def P__law_same : List Str := ["actual", "due"]
def b__law_same_0 : CSs := (cssOf [(.iff (.cmp .eq (.bi .len (cesOf [(.var 2)])) (.kst (.int (0)))) (cssOf [(.ret (.kst (.bool true)))]) (cssOf [])), (.setT (.cons (.nm 4) (.cons (.nm 5) .nil)) (.mm .pop0 2 (cesOf []))), (.iff (.bop false (cesOf [(.isi (.var 5) .tuple), (.isi (.var 5) .list)])) (cssOf [(.iff (.bop false (cesOf [(.cmp .ne (.isi (.var 5) .tuple) (.isi (.var 4) .tuple)), (.cmp .ne (.isi (.var 5) .list) (.isi (.var 4) .list)), (.cmp .ne (.bi .len (cesOf [(.var 4)])) (.bi .len (cesOf [(.var 5)])))])) (cssOf [(.ret (.kst (.bool false)))]) (cssOf [])), (.ex (.mm .extend 2 (cesOf [(.lcm false [6] (.tup (cesOf [(.idx (.var 4) (.var 6)), (.idx (.var 5) (.var 6))])) (.nm 6) (.rg1 (.bi .len (cesOf [(.var 5)]))) .no)])))]) (cssOf [(.iff (.isi (.var 5) .dict) (cssOf [(.iff (.bop false (cesOf [(.not (.isi (.var 4) .dict)), (.cmp .ne (.bi .len (cesOf [(.var 4)])) (.bi .len (cesOf [(.var 5)]))), (.cmp .gt (.bi .len (cesOf [(.lcm false [7] (.var 7) (.nm 7) (.key0 (.var 5)) (.so (.cmp .nin (.var 7) (.var 4))))])) (.kst (.int (0))))])) (cssOf [(.ret (.kst (.bool false)))]) (cssOf [])), (.ex (.mm .extend 2 (cesOf [(.lcm false [7] (.tup (cesOf [(.idx (.var 4) (.var 7)), (.idx (.var 5) (.var 7))])) (.nm 7) (.key0 (.var 5)) .no)])))]) (cssOf [(.iff (.bop false (cesOf [(.isi (.var 5) .bool), (.isi (.var 5) .str)])) (cssOf [(.iff (.bop false (cesOf [(.cmp .ne (.isi (.var 4) .bool) (.isi (.var 5) .bool)), (.cmp .ne (.isi (.var 4) .str) (.isi (.var 5) .str)), (.cmp .ne (.var 4) (.var 5))])) (cssOf [(.ret (.kst (.bool false)))]) (cssOf []))]) (cssOf [(.iff (.isi (.var 5) .int) (cssOf [(.iff (.bop false (cesOf [(.not (.isi (.var 4) .int)), (.isi (.var 4) .bool), (.cmp .ne (.var 4) (.var 5))])) (cssOf [(.ret (.kst (.bool false)))]) (cssOf []))]) (cssOf [(.iff (.cmp .isn (.var 4) (.kst .none)) (cssOf [(.ret (.kst (.bool false)))]) (cssOf []))]))]))]))]))])
/-- _law_same -/
def c__law_same : CF := ⟨2, 8, cssOf [(.set 2 (.lst true (cesOf [(.tup (cesOf [(.var 0), (.var 1)]))]))),
  (.for_ (.nm 3) (.rg1 (.kst (.int (2000000)))) b__law_same_0),
  (.ret (.kst (.bool false)))]⟩
abbrev s__law_copy : Stmt := top 51
def N__law_copy : List Str := ["value", "found", "key", "item"]
def P__law_copy : List Str := ["value"]
def b__law_copy_0 : CSs := (cssOf [(.sto (.var 1) (.var 2) (.call 25 (cesOf [(.idx (.var 0) (.var 2))])))])
/-- _law_copy -/
def c__law_copy : CF := ⟨1, 4, cssOf [(.iff (.isi (.var 0) .dict) (cssOf [(.set 1 .dct0), (.for_ (.nm 2) (.key0 (.var 0)) b__law_copy_0), (.ret (.var 1))]) (cssOf [])),
  (.iff (.isi (.var 0) .list) (cssOf [(.ret (.lcm false [3] (.call 25 (cesOf [(.var 3)])) (.nm 3) (.sq (.var 0)) .no))]) (cssOf [])),
  (.iff (.isi (.var 0) .tuple) (cssOf [(.ret (.bi .tup (cesOf [(.lcm false [3] (.call 25 (cesOf [(.var 3)])) (.nm 3) (.sq (.var 0)) .no)])))]) (cssOf [])),
  (.ret (.var 0))]⟩
abbrev s__law_table : Stmt := top 55
def N__law_table : List Str := ["rows"]
def P__law_table : List Str := []
/-- _law_table -/
def c__law_table : CF := ⟨0, 1, cssOf [(.set 0 (.lst false (cesOf [(.tup (cesOf [(.kst (.str "begin")), (.kst (.int (1))), (.kst (.str "n"))])), (.tup (cesOf [(.kst (.str "put")), (.kst (.int (2))), (.kst (.str "ntgkmmz"))])), (.tup (cesOf [(.kst (.str "undo")), (.kst (.int (3))), (.kst (.str "ntgkmmz"))])), (.tup (cesOf [(.kst (.str "commit")), (.kst (.int (4))), (.kst (.str "no"))])), (.tup (cesOf [(.kst (.str "abort")), (.kst (.int (5))), (.kst (.str "n"))]))]))),
  (.set 0 (.bin .add (.var 0) (.lst false (cesOf [(.tup (cesOf [(.kst (.str "gone")), (.kst (.int (6))), (.kst (.str "tgkk"))])), (.tup (cesOf [(.kst (.str "fresh")), (.kst (.int (7))), (.kst (.str "gw"))])), (.tup (cesOf [(.kst (.str "cut")), (.kst (.int (8))), (.kst (.str "gkgkk"))])), (.tup (cesOf [(.kst (.str "link")), (.kst (.int (9))), (.kst (.str "gkkg"))])), (.tup (cesOf [(.kst (.str "unlink")), (.kst (.int (10))), (.kst (.str "gkkg"))]))])))),
  (.ret (.bin .add (.var 0) (.lst false (cesOf [(.tup (cesOf [(.kst (.str "take")), (.kst (.int (11))), (.kst (.str "ggkkw"))])), (.tup (cesOf [(.kst (.str "closed")), (.kst (.int (13))), (.kst (.str ""))])), (.tup (cesOf [(.kst (.str "void")), (.kst (.int (14))), (.kst (.str ""))]))]))))]⟩
abbrev s__law_edge : Stmt := top 56
def N__law_edge : List Str := ["stream", "low", "high"]
def P__law_edge : List Str := ["stream", "low", "high"]
/-- _law_edge -/
def c__law_edge : CF := ⟨3, 3, cssOf [(.ret (.call 20 (cesOf [(.var 0), (.tup (cesOf [(.var 1), (.var 2), (.bin .add (.var 1) (.kst (.int (1)))), (.bin .sub (.var 2) (.kst (.int (1)))), (.call 21 (cesOf [(.var 0), (.var 1), (.var 2)])), (.call 21 (cesOf [(.var 0), (.var 1), (.var 2)]))]))])))]⟩
abbrev s__law_field : Stmt := top 57
def N__law_field : List Str := ["stream", "form", "turn"]
def P__law_field : List Str := ["stream", "form"]
/-- _law_field -/
def c__law_field : CF := ⟨2, 3, cssOf [(.iff (.cmp .eq (.var 1) (.kst (.str "n"))) (cssOf [(.ret (.tup (cesOf [(.call 27 (cesOf [(.var 0), (.kst (.int (1))), (.kst (.int (65535)))])), (.call 27 (cesOf [(.var 0), (.kst (.int (1))), (.kst (.int (65535)))]))])))]) (cssOf [])),
  (.iff (.cmp .eq (.var 1) (.kst (.str "t"))) (cssOf [(.ret (.call 19 (cesOf [(.var 0), (.kst (.int (2)))])))]) (cssOf [])),
  (.iff (.cmp .eq (.var 1) (.kst (.str "g"))) (cssOf [(.ret (.call 27 (cesOf [(.var 0), (.kst (.int (0))), (.kst (.int (255)))])))]) (cssOf [])),
  (.iff (.cmp .eq (.var 1) (.kst (.str "m"))) (cssOf [(.ret (.call 20 (cesOf [(.var 0), (.tup (cesOf [(.kst .none), (.kst (.int (0))), (.call 27 (cesOf [(.var 0), (.kst (.int (0))), (.kst (.int (65535)))]))]))])))]) (cssOf [])),
  (.iff (.bop false (cesOf [(.cmp .eq (.var 1) (.kst (.str "z"))), (.cmp .eq (.var 1) (.kst (.str "o")))])) (cssOf [(.ret (.call 27 (cesOf [(.var 0), (.ite (.cmp .eq (.var 1) (.kst (.str "o"))) (.kst (.int (1))) (.kst (.int (0)))), (.call 20 (cesOf [(.var 0), (.tup (cesOf [(.kst (.int (3))), (.kst (.int (65536))), (.kst (.int (4294967295)))]))]))])))]) (cssOf [])),
  (.iff (.cmp .eq (.var 1) (.kst (.str "w"))) (cssOf [(.ret (.bi .tup (cesOf [(.lcm false [2] (.call 27 (cesOf [(.var 0), (.kst (.int (0))), (.kst (.int (65535)))])) (.nm 2) (.rg1 (.call 20 (cesOf [(.var 0), (.tup (cesOf [(.kst (.int (0))), (.kst (.int (1))), (.kst (.int (3))), (.kst (.int (28))), (.call 19 (cesOf [(.var 0), (.kst (.int (29)))]))]))]))) .no)])))]) (cssOf [])),
  (.ret (.call 27 (cesOf [(.var 0), (.kst (.int (0))), (.kst (.int (65535)))])))]⟩
abbrev s__law_drawn : Stmt := top 58
def N__law_drawn : List Str := ["stream", "kind", "code", "forms", "form"]
def P__law_drawn : List Str := ["stream"]
/-- _law_drawn -/
def c__law_drawn : CF := ⟨1, 5, cssOf [(.setT (.cons (.nm 1) (.cons (.nm 2) (.cons (.nm 3) .nil))) (.call 20 (cesOf [(.var 0), (.call 26 (cesOf []))]))),
  (.ret (.bi .tup (cesOf [(.bin .add (.lst false (cesOf [(.var 1)])) (.lcm false [4] (.call 28 (cesOf [(.var 0), (.var 4)])) (.nm 4) (.chs (.var 3)) .no))])))]⟩
abbrev s__law_good : Stmt := top 59
def N__law_good : List Str := ["form", "value", "one"]
def P__law_good : List Str := ["form", "value"]
/-- _law_good -/
def c__law_good : CF := ⟨2, 3, cssOf [(.iff (.cmp .eq (.var 0) (.kst (.str "n"))) (cssOf [(.ret (.bop true (cesOf [(.call 23 (cesOf [(.var 1), (.kst (.str "T")), (.kst (.int (2)))])), (.call 22 (cesOf [(.idx (.var 1) (.kst (.int (0)))), (.kst (.int (1))), (.kst (.int (65535)))])), (.call 22 (cesOf [(.idx (.var 1) (.kst (.int (1)))), (.kst (.int (1))), (.kst (.int (65535)))]))])))]) (cssOf [])),
  (.iff (.cmp .eq (.var 0) (.kst (.str "w"))) (cssOf [(.ret (.bop true (cesOf [(.call 23 (cesOf [(.var 1), (.kst (.str "T")), (.kst .none)])), (.cmp .le (.bi .len (cesOf [(.var 1)])) (.kst (.int (28)))), (.cmp .eq (.bi .len (cesOf [(.lcm false [2] (.kst (.int (1))) (.nm 2) (.sq (.var 1)) (.so (.not (.call 22 (cesOf [(.var 2), (.kst (.int (0))), (.kst (.int (65535)))])))))])) (.kst (.int (0))))])))]) (cssOf [])),
  (.iff (.cmp .eq (.var 0) (.kst (.str "m"))) (cssOf [(.ret (.bop false (cesOf [(.cmp .is_ (.var 1) (.kst .none)), (.call 22 (cesOf [(.var 1), (.kst (.int (0))), (.kst (.int (65535)))]))])))]) (cssOf [])),
  (.iff (.bop false (cesOf [(.cmp .eq (.var 0) (.kst (.str "z"))), (.cmp .eq (.var 0) (.kst (.str "o")))])) (cssOf [(.ret (.call 22 (cesOf [(.var 1), (.ite (.cmp .eq (.var 0) (.kst (.str "o"))) (.kst (.int (1))) (.kst (.int (0)))), (.kst (.int (4294967295)))])))]) (cssOf [])),
  (.ret (.call 22 (cesOf [(.var 1), (.kst (.int (0))), (.ite (.cmp .eq (.var 0) (.kst (.str "t"))) (.kst (.int (1))) (.ite (.cmp .eq (.var 0) (.kst (.str "g"))) (.kst (.int (255))) (.kst (.int (65535)))))])))]⟩
abbrev s__law_fault : Stmt := top 60
def N__law_fault : List Str := ["value", "rows", "forms", "at", "row"]
def P__law_fault : List Str := ["value"]
def b__law_fault_0 : CSs := (cssOf [(.iff (.bop false (cesOf [(.cmp .ge (.bin .add (.var 3) (.kst (.int (1)))) (.bi .len (cesOf [(.var 0)]))), (.not (.call 30 (cesOf [(.idx (.var 2) (.var 3)), (.idx (.var 0) (.bin .add (.var 3) (.kst (.int (1)))))])))])) (cssOf [(.ret (.bin .add (.var 3) (.kst (.int (1)))))]) (cssOf []))])
/-- _law_fault -/
def c__law_fault : CF := ⟨1, 5, cssOf [(.iff (.bop false (cesOf [(.not (.isi (.var 0) .tuple)), (.cmp .eq (.bi .len (cesOf [(.var 0)])) (.kst (.int (0)))), (.not (.isi (.idx (.var 0) (.kst (.int (0)))) .str))])) (cssOf [(.ret (.kst (.int (0))))]) (cssOf [])),
  (.set 1 (.lcm false [4] (.var 4) (.nm 4) (.sq (.call 26 (cesOf []))) (.so (.cmp .eq (.idx (.var 4) (.kst (.int (0)))) (.idx (.var 0) (.kst (.int (0)))))))),
  (.iff (.cmp .eq (.bi .len (cesOf [(.var 1)])) (.kst (.int (0)))) (cssOf [(.ret (.kst (.int (0))))]) (cssOf [])),
  (.set 2 (.idx (.idx (.var 1) (.kst (.int (0)))) (.kst (.int (2))))),
  (.for_ (.nm 3) (.rg1 (.bi .len (cesOf [(.var 2)]))) b__law_fault_0),
  (.ret (.ite (.cmp .eq (.bi .len (cesOf [(.var 0)])) (.bin .add (.bi .len (cesOf [(.var 2)])) (.kst (.int (1))))) (.kst .none) (.bin .add (.bi .len (cesOf [(.var 2)])) (.kst (.int (1))))))]⟩
abbrev s__law_words : Stmt := top 61
def N__law_words : List Str := ["record", "kind", "code", "forms", "weight", "found", "at", "value", "row"]
def P__law_words : List Str := ["record"]
def b__law_words_0 : CSs := (cssOf [(.set 7 (.idx (.var 0) (.bin .add (.var 6) (.kst (.int (1)))))), (.iff (.cmp .eq (.idx (.var 3) (.var 6)) (.kst (.str "t"))) (cssOf [(.sto (.var 5) (.kst (.int (0))) (.bin .add (.idx (.var 5) (.kst (.int (0)))) (.bin .mul (.var 4) (.var 7)))), (.set 4 (.bin .mul (.var 4) (.kst (.int (2)))))]) (cssOf [(.iff (.cmp .eq (.idx (.var 3) (.var 6)) (.kst (.str "m"))) (cssOf [(.sto (.var 5) (.kst (.int (0))) (.bin .add (.idx (.var 5) (.kst (.int (0)))) (.ite (.cmp .is_ (.var 7) (.kst .none)) (.kst (.int (0))) (.var 4)))), (.set 4 (.bin .mul (.var 4) (.kst (.int (2))))), (.ex (.mm .append 5 (cesOf [(.ite (.cmp .is_ (.var 7) (.kst .none)) (.kst (.int (0))) (.var 7))])))]) (cssOf [(.iff (.cmp .eq (.idx (.var 3) (.var 6)) (.kst (.str "n"))) (cssOf [(.set 5 (.addh (.var 5) (.lst false (cesOf [(.idx (.var 7) (.kst (.int (0)))), (.idx (.var 7) (.kst (.int (1))))]))))]) (cssOf [(.iff (.cmp .in_ (.idx (.var 3) (.var 6)) (.kst (.str "zo"))) (cssOf [(.set 5 (.addh (.var 5) (.lst false (cesOf [(.bin .fdiv (.var 7) (.kst (.int (65536)))), (.bin .mod (.bi .int (cesOf [(.var 7)])) (.kst (.int (65536))))]))))]) (cssOf [(.iff (.cmp .eq (.idx (.var 3) (.var 6)) (.kst (.str "w"))) (cssOf [(.set 5 (.addh (.bin .add (.var 5) (.lst false (cesOf [(.bi .len (cesOf [(.var 7)]))]))) (.lis false (.var 7))))]) (cssOf [(.ex (.mm .append 5 (cesOf [(.var 7)])))]))]))]))]))]))])
/-- _law_words -/
def c__law_words : CF := ⟨1, 9, cssOf [(.setT (.cons (.nm 1) (.cons (.nm 2) (.cons (.nm 3) .nil))) (.idx (.lcm false [8] (.var 8) (.nm 8) (.sq (.call 26 (cesOf []))) (.so (.cmp .eq (.idx (.var 8) (.kst (.int (0)))) (.idx (.var 0) (.kst (.int (0))))))) (.kst (.int (0))))),
  (.set 4 (.kst (.int (16)))),
  (.set 5 (.lst true (cesOf [(.var 2)]))),
  (.for_ (.nm 6) (.rg1 (.bi .len (cesOf [(.var 3)]))) b__law_words_0),
  (.ret (.var 5))]⟩
abbrev s__law_no : Stmt := top 62
def N__law_no : List Str := ["index"]
def P__law_no : List Str := ["index"]
/-- _law_no -/
def c__law_no : CF := ⟨1, 1, cssOf [(.ret (.lst false (cesOf [(.kst (.str "raised")), (.kst (.str "BadRecord")), (.tup (cesOf [(.var 0)]))])))]⟩
abbrev s__law_bad_word : Stmt := top 63
def N__law_bad_word : List Str := ["form", "turn", "got", "word", "flag"]
def P__law_bad_word : List Str := ["form", "turn", "got", "word", "flag"]
/-- _law_bad_word -/
def c__law_bad_word : CF := ⟨5, 5, cssOf [(.iff (.cmp .eq (.var 0) (.kst (.str "n"))) (cssOf [(.ret (.cmp .eq (.var 3) (.kst (.int (0)))))]) (cssOf [])),
  (.iff (.cmp .eq (.var 0) (.kst (.str "o"))) (cssOf [(.ret (.bop true (cesOf [(.cmp .eq (.var 1) (.kst (.int (1)))), (.cmp .eq (.var 3) (.kst (.int (0)))), (.cmp .eq (.idx (.var 2) (.kst (.int (0)))) (.kst (.int (0))))])))]) (cssOf [])),
  (.iff (.cmp .eq (.var 0) (.kst (.str "g"))) (cssOf [(.ret (.cmp .gt (.var 3) (.kst (.int (255)))))]) (cssOf [])),
  (.iff (.cmp .eq (.var 0) (.kst (.str "m"))) (cssOf [(.ret (.bop true (cesOf [(.cmp .eq (.var 4) (.kst (.int (0)))), (.cmp .gt (.var 3) (.kst (.int (0))))])))]) (cssOf [])),
  (.ret (.bop true (cesOf [(.cmp .eq (.var 0) (.kst (.str "w"))), (.cmp .eq (.var 1) (.kst (.int (0)))), (.cmp .gt (.var 3) (.kst (.int (28))))])))]⟩
abbrev s__law_value : Stmt := top 64
def N__law_value : List Str := ["form", "got", "flag"]
def P__law_value : List Str := ["form", "got", "flag"]
/-- _law_value -/
def c__law_value : CF := ⟨3, 3, cssOf [(.iff (.cmp .eq (.var 0) (.kst (.str "n"))) (cssOf [(.ret (.tup (cesOf [(.idx (.var 1) (.kst (.int (0)))), (.idx (.var 1) (.kst (.int (1))))])))]) (cssOf [])),
  (.iff (.bop false (cesOf [(.cmp .eq (.var 0) (.kst (.str "z"))), (.cmp .eq (.var 0) (.kst (.str "o")))])) (cssOf [(.ret (.bin .add (.bin .mul (.kst (.int (65536))) (.idx (.var 1) (.kst (.int (0))))) (.idx (.var 1) (.kst (.int (1))))))]) (cssOf [])),
  (.iff (.cmp .eq (.var 0) (.kst (.str "w"))) (cssOf [(.ret (.bi .tup (cesOf [(.slc (.var 1) (.so (.kst (.int (1)))) .no)])))]) (cssOf [])),
  (.ret (.ite (.bop true (cesOf [(.cmp .eq (.var 0) (.kst (.str "m"))), (.cmp .eq (.var 2) (.kst (.int (0))))])) (.kst .none) (.idx (.var 1) (.kst (.int (0))))))]⟩
abbrev s__law_due : Stmt := top 65
def N__law_due : List Str := ["words", "at", "rows", "flags", "items", "place", "form", "flag", "got", "many", "turn", "row"]
def P__law_due : List Str := ["words", "at"]
def b__law_due_1 : CSs := (cssOf [(.iff (.cmp .eq (.var 10) (.var 9)) (cssOf [.brk]) (cssOf [])), (.iff (.cmp .eq (.var 5) (.bi .len (cesOf [(.var 0)]))) (cssOf [(.ret (.lst false (cesOf [(.kst (.str "told")), (.kst .none)])))]) (cssOf [])), (.iff (.call 34 (cesOf [(.var 6), (.var 10), (.var 8), (.idx (.var 0) (.var 5)), (.var 7)])) (cssOf [(.ret (.call 33 (cesOf [(.var 5)])))]) (cssOf [])), (.ex (.mm .append 8 (cesOf [(.idx (.var 0) (.var 5))]))), (.set 5 (.bin .add (.var 5) (.kst (.int (1))))), (.set 9 (.ite (.cmp .eq (.var 6) (.kst (.str "w"))) (.bin .add (.kst (.int (1))) (.idx (.var 8) (.kst (.int (0))))) (.var 9)))])
def b__law_due_0 : CSs := (cssOf [(.set 7 (.bin .mod (.bi .int (cesOf [(.var 3)])) (.kst (.int (2))))), (.iff (.cmp .in_ (.var 6) (.kst (.str "tm"))) (cssOf [(.set 3 (.bin .fdiv (.var 3) (.kst (.int (2)))))]) (cssOf [])), (.set 8 (.lst true (cesOf []))), (.set 9 (.ite (.cmp .eq (.var 6) (.kst (.str "t"))) (.kst (.int (0))) (.ite (.cmp .in_ (.var 6) (.kst (.str "nzo"))) (.kst (.int (2))) (.kst (.int (1)))))), (.for_ (.nm 10) (.rg1 (.kst (.int (30)))) b__law_due_1), (.ex (.mm .append 4 (cesOf [(.ite (.cmp .eq (.var 6) (.kst (.str "t"))) (.var 7) (.call 35 (cesOf [(.var 6), (.var 8), (.var 7)])))])))])
/-- _law_due -/
def c__law_due : CF := ⟨2, 12, cssOf [(.iff (.cmp .eq (.var 1) (.bi .len (cesOf [(.var 0)]))) (cssOf [(.ret (.lst false (cesOf [(.kst (.str "told")), (.kst .none)])))]) (cssOf [])),
  (.set 2 (.lcm false [11] (.var 11) (.nm 11) (.sq (.call 26 (cesOf []))) (.so (.cmp .eq (.idx (.var 11) (.kst (.int (1)))) (.bin .mod (.bi .int (cesOf [(.idx (.var 0) (.var 1))])) (.kst (.int (16)))))))),
  (.set 3 (.bin .fdiv (.bi .int (cesOf [(.idx (.var 0) (.var 1))])) (.kst (.int (16))))),
  (.iff (.bop false (cesOf [(.cmp .eq (.bi .len (cesOf [(.var 2)])) (.kst (.int (0)))), (.cmp .ge (.var 3) (.idx (.tup (cesOf [(.kst (.int (1))), (.kst (.int (2))), (.kst (.int (4))), (.kst (.int (8)))])) (.bin .add (.pm .scount (.idx (.idx (.var 2) (.kst (.int (0)))) (.kst (.int (2)))) (cesOf [(.kst (.str "t"))])) (.pm .scount (.idx (.idx (.var 2) (.kst (.int (0)))) (.kst (.int (2)))) (cesOf [(.kst (.str "m"))])))))])) (cssOf [(.ret (.call 33 (cesOf [(.var 1)])))]) (cssOf [])),
  (.set 4 (.lst true (cesOf [(.idx (.idx (.var 2) (.kst (.int (0)))) (.kst (.int (0))))]))),
  (.set 5 (.bin .add (.var 1) (.kst (.int (1))))),
  (.for_ (.nm 6) (.chs (.idx (.idx (.var 2) (.kst (.int (0)))) (.kst (.int (2))))) b__law_due_0),
  (.ret (.lst false (cesOf [(.kst (.str "told")), (.tup (cesOf [(.bi .tup (cesOf [(.var 4)])), (.var 5)]))])))]⟩
abbrev s__law_asked : Stmt := top 66
def N__law_asked : List Str := ["word", "one", "at", "error"]
def P__law_asked : List Str := ["word", "one", "at"]
/-- _law_asked -/
def c__law_asked : CF := ⟨3, 4, cssOf [(.try_ (cssOf [(.iff (.cmp .eq (.var 0) (.kst (.str "words"))) (cssOf [(.ret (.told (.kst (.str "told")) (.call 10 (cesOf [(.var 1)]))))]) (cssOf [])), (.iff (.cmp .eq (.var 0) (.kst (.str "at"))) (cssOf [(.ret (.told (.kst (.str "told")) (.call 14 (cesOf [(.var 1), (.var 2)]))))]) (cssOf [])), (.iff (.cmp .eq (.var 0) (.kst (.str "page"))) (cssOf [(.ret (.told (.kst (.str "told")) (.call 16 (cesOf [(.var 1)]))))]) (cssOf [])), (.ret (.told (.kst (.str "told")) (.call 17 (cesOf [(.var 1)]))))]))]⟩
abbrev s__law_bent : Stmt := top 67
def N__law_bent : List Str := ["stream", "record", "at", "some", "rows"]
def P__law_bent : List Str := ["stream", "record"]
/-- _law_bent -/
def c__law_bent : CF := ⟨2, 5, cssOf [(.iff (.bop false (cesOf [(.not (.call 23 (cesOf [(.var 1), (.kst (.str "T")), (.kst .none)]))), (.cmp .eq (.bi .len (cesOf [(.var 1)])) (.kst (.int (0))))])) (cssOf [(.ret (.var 1))]) (cssOf [])),
  (.set 2 (.call 19 (cesOf [(.var 0), (.bin .add (.bi .len (cesOf [(.var 1)])) (.kst (.int (2))))]))),
  (.set 3 (.call 19 (cesOf [(.var 0), (.bin .pow (.kst (.int (10))) (.kst (.int (9))))]))),
  (.iff (.cmp .eq (.var 2) (.bi .len (cesOf [(.var 1)]))) (cssOf [(.ret (.slc (.var 1) .no (.so (.call 19 (cesOf [(.var 0), (.bi .len (cesOf [(.var 1)]))])))))]) (cssOf [])),
  (.iff (.cmp .gt (.var 2) (.bi .len (cesOf [(.var 1)]))) (cssOf [(.ret (.call 20 (cesOf [(.var 0), (.tup (cesOf [(.bin .add (.var 1) (.tup (cesOf [(.kst (.int (0)))]))), (.bin .add (.var 1) (.tup (cesOf [(.kst .none)]))), (.lis false (.var 1)), (.kst .none), (.kst (.int (0))), (.kst (.str "begin")), .dct0]))])))]) (cssOf [])),
  (.iff (.cmp .eq (.var 2) (.kst (.int (0)))) (cssOf [(.ret (.bin .add (.tup (cesOf [(.call 20 (cesOf [(.var 0), (.tup (cesOf [(.kst (.str "Begin")), (.kst (.str "")), (.kst (.str "root")), (.kst (.str "put ")), (.kst (.str "checkpoint")), (.kst .none), (.kst (.int (3))), (.tup (cesOf [(.kst (.str "put"))])), (.kst (.str "close")), (.kst (.str "und"))]))]))])) (.slc (.var 1) (.so (.kst (.int (1)))) .no)))]) (cssOf [])),
  (.set 4 (.tup (cesOf [(.bin .add (.kst (.int (65536))) (.var 3)), (.kst (.int (256))), (.kst (.int (65535))), (.kst (.int (65536))), (.neg (.kst (.int (1)))), (.kst (.int (0))), (.kst (.int (1))), (.kst (.int (2))), (.kst (.bool true)), (.kst (.bool false)), (.kst .none), (.kst (.str "0")), (.bin .add (.kst (.int (4294967296))) (.var 3)), (.kst (.int (4294967295))), (.tup (cesOf [(.kst (.int (0))), (.kst (.int (1)))])), (.tup (cesOf [(.kst (.int (1))), (.kst (.int (0)))]))]))),
  (.set 4 (.bin .add (.var 4) (.tup (cesOf [(.tup (cesOf [(.kst (.int (1))), (.kst (.int (65536)))])), (.tup (cesOf [(.kst (.int (1))), (.kst (.int (2))), (.kst (.int (3)))])), (.tup (cesOf [(.kst (.int (1)))])), (.lst false (cesOf [(.kst (.int (1))), (.kst (.int (2)))])), (.tup (cesOf [(.kst (.bool true)), (.kst (.int (1)))])), (.tup (cesOf [])), (.bin .mul (.tup (cesOf [(.kst (.int (0)))])) (.kst (.int (29)))), (.bin .mul (.tup (cesOf [(.kst (.int (0)))])) (.kst (.int (28)))), (.tup (cesOf [(.kst (.int (65536)))])), (.tup (cesOf [(.neg (.kst (.int (1))))])), (.tup (cesOf [(.kst .none)])), (.lst false (cesOf [(.kst (.int (0)))])), .dct0, (.tup (cesOf [(.kst (.int (1))), (.kst (.str "2"))]))])))),
  (.ret (.bin .add (.bin .add (.slc (.var 1) .no (.so (.var 2))) (.tup (cesOf [(.call 20 (cesOf [(.var 0), (.var 4)]))]))) (.slc (.var 1) (.so (.bin .add (.var 2) (.kst (.int (1))))) .no)))]⟩
abbrev s__law_records_fit : Stmt := top 68
def N__law_records_fit : List Str := ["stream", "record", "rows", "one", "fault", "passed", "due", "found", "word", "forms", "page", "name", "row"]
def P__law_records_fit : List Str := ["stream", "record"]
def b__law_records_fit_1 : CSs := (cssOf [(.set 6 (.ite (.cmp .isn (.var 4) (.kst .none)) (.call 33 (cesOf [(.var 4)])) (.lst false (cesOf [(.kst (.str "told")), (.ite (.cmp .eq (.var 8) (.kst (.str "words"))) (.fz (.call 32 (cesOf [(.var 3)]))) (.ite (.cmp .eq (.var 8) (.kst (.str "page"))) (.var 10) (.var 11)))])))), (.iff (.bop false (cesOf [(.not (.bcall 24 (cesOf [(.call 37 (cesOf [(.var 8), (.var 5), (.kst (.int (0)))])), (.var 6)]))), (.not (.bcall 24 (cesOf [(.var 5), (.var 3)])))])) (cssOf [(.ret (.kst (.bool false)))]) (cssOf []))])
def b__law_records_fit_0 : CSs := (cssOf [(.set 4 (.call 31 (cesOf [(.var 3)]))), (.set 5 (.call 25 (cesOf [(.var 3)]))), (.iff (.not (.bcall 24 (cesOf [(.call 7 (cesOf [(.var 5)])), (.cmp .is_ (.var 4) (.kst .none))]))) (cssOf [(.ret (.kst (.bool false)))]) (cssOf [])), (.set 6 (.ite (.cmp .isn (.var 4) (.kst .none)) (.call 33 (cesOf [(.var 4)])) (.lst false (cesOf [(.kst (.str "told")), (.fz (.call 32 (cesOf [(.var 3)])))])))), (.set 7 (.call 37 (cesOf [(.kst (.str "words")), (.var 5), (.kst (.int (0)))]))), (.iff (.not (.bcall 24 (cesOf [(.var 7), (.var 6)]))) (cssOf [(.ret (.kst (.bool false)))]) (cssOf [])), (.iff (.cmp .is_ (.var 4) (.kst .none)) (cssOf [(.ex (.mmx .append (.tix (.var 7)) (cesOf [(.kst (.int (0)))]))), (.set 9 (.idx (.lcm false [12] (.idx (.var 12) (.kst (.int (2)))) (.nm 12) (.sq (.call 26 (cesOf []))) (.so (.cmp .eq (.idx (.var 12) (.kst (.int (0)))) (.idx (.var 3) (.kst (.int (0))))))) (.kst (.int (0))))), (.set 10 (.ite (.cmp .in_ (.kst (.str "g")) (.var 9)) (.idx (.var 3) (.bin .add (.kst (.int (1))) (.pm .sindex (.var 9) (cesOf [(.kst (.str "g"))])))) (.kst .none))), (.set 11 (.ite (.cmp .in_ (.kst (.str "n")) (.var 9)) (.idx (.var 3) (.kst (.int (1)))) (.kst .none)))]) (cssOf [])), (.for_ (.nm 8) (.sq (.tup (cesOf [(.kst (.str "words")), (.kst (.str "page")), (.kst (.str "name"))]))) b__law_records_fit_1)])
/-- _law_records_fit -/
def c__law_records_fit : CF := ⟨2, 13, cssOf [(.set 2 (.lst false (cesOf [(.var 1), (.call 38 (cesOf [(.var 0), (.var 1)])), (.call 38 (cesOf [(.var 0), (.call 38 (cesOf [(.var 0), (.var 1)]))])), (.call 38 (cesOf [(.var 0), (.call 29 (cesOf [(.var 0)]))]))]))),
  (.for_ (.nm 3) (.sq (.var 2)) b__law_records_fit_0),
  (.ret (.kst (.bool true)))]⟩
abbrev s__law_rows_fit : Stmt := top 69
def N__law_rows_fit : List Str := ["stream", "words", "places", "at", "passed"]
def P__law_rows_fit : List Str := ["stream", "words", "places"]
def b__law_rows_fit_0 : CSs := (cssOf [(.set 4 (.lis false (.var 1))), (.iff (.bop false (cesOf [(.not (.bcall 24 (cesOf [(.call 37 (cesOf [(.kst (.str "at")), (.var 4), (.var 3)])), (.call 36 (cesOf [(.var 1), (.var 3)]))]))), (.not (.bcall 24 (cesOf [(.var 4), (.var 1)])))])) (cssOf [(.ret (.kst (.bool false)))]) (cssOf []))])
/-- _law_rows_fit -/
def c__law_rows_fit : CF := ⟨3, 5, cssOf [(.for_ (.nm 3) (.sq (.var 2)) b__law_rows_fit_0),
  (.ret (.kst (.bool true)))]⟩
abbrev s__law_refusals_fit : Stmt := top 70
def N__law_refusals_fit : List Str := ["stream", "words", "at", "some", "wrong", "one", "place"]
def P__law_refusals_fit : List Str := ["stream", "words"]
def b__law_refusals_fit_0 : CSs := (cssOf [(.iff (.not (.bcall 24 (cesOf [(.call 37 (cesOf [(.kst (.str "at")), (.var 5), (.call 20 (cesOf [(.var 0), (.tup (cesOf [(.kst (.int (0))), (.neg (.kst (.int (1)))), (.kst .none)]))]))])), (.lst false (cesOf [(.kst (.str "raised")), (.kst (.str "BadValue")), (.tup (cesOf [(.kst (.str "words"))]))]))]))) (cssOf [(.ret (.kst (.bool false)))]) (cssOf []))])
def b__law_refusals_fit_1 : CSs := (cssOf [(.iff (.not (.bcall 24 (cesOf [(.call 37 (cesOf [(.kst (.str "at")), (.var 1), (.var 6)])), (.lst false (cesOf [(.kst (.str "raised")), (.kst (.str "BadValue")), (.tup (cesOf [(.kst (.str "at"))]))]))]))) (cssOf [(.ret (.kst (.bool false)))]) (cssOf []))])
/-- _law_refusals_fit -/
def c__law_refusals_fit : CF := ⟨2, 7, cssOf [(.set 2 (.call 19 (cesOf [(.var 0), (.bi .len (cesOf [(.var 1)]))]))),
  (.set 3 (.bin .add (.kst (.int (65536))) (.call 19 (cesOf [(.var 0), (.bin .pow (.kst (.int (10))) (.kst (.int (6))))])))),
  (.set 4 (.bin .add (.bin .add (.slc (.var 1) .no (.so (.var 2))) (.lst false (cesOf [(.call 20 (cesOf [(.var 0), (.tup (cesOf [(.var 3), (.neg (.kst (.int (1)))), (.kst (.bool true)), (.kst .none), (.kst (.str "1")), (.kst (.int (65536)))]))]))]))) (.slc (.var 1) (.so (.bin .add (.var 2) (.kst (.int (1))))) .no))),
  (.for_ (.nm 5) (.sq (.tup (cesOf [(.var 4), (.bi .tup (cesOf [(.var 1)])), (.kst .none), (.kst (.str "13"))]))) b__law_refusals_fit_0),
  (.for_ (.nm 6) (.sq (.tup (cesOf [(.neg (.kst (.int (1)))), (.bin .add (.bi .len (cesOf [(.var 1)])) (.kst (.int (1)))), (.bin .add (.bi .len (cesOf [(.var 1)])) (.var 3)), (.kst (.bool true)), (.kst .none), (.kst (.str "0")), (.tup (cesOf [(.kst (.int (0)))]))]))) b__law_refusals_fit_1),
  (.ret (.kst (.bool true)))]⟩
abbrev s_law : Stmt := top 71
def N_law : List Str := ["script", "stream", "records", "words", "places", "record", "cut", "turn", "at", "bent", "free"]
def P_law : List Str := ["script"]
def b_law_0 : CSs := (cssOf [(.ex (.mm .append 4 (cesOf [(.bi .len (cesOf [(.var 3)]))]))), (.set 3 (.bin .add (.var 3) (.call 32 (cesOf [(.var 5)])))), (.iff (.not (.bcall 24 (cesOf [(.call 37 (cesOf [(.kst (.str "at")), (.lis false (.var 3)), (.idx (.var 4) (.neg (.kst (.int (1)))))])), (.lst false (cesOf [(.kst (.str "told")), (.tup (cesOf [(.var 5), (.bi .len (cesOf [(.var 3)]))]))]))]))) (cssOf [(.ret (.kst (.bool false)))]) (cssOf []))])
def b_law_1 : CSs := (cssOf [(.set 8 (.call 19 (cesOf [(.var 1), (.bi .len (cesOf [(.var 3)]))]))), (.set 9 (.bin .add (.bin .add (.slc (.var 3) .no (.so (.var 8))) (.lst false (cesOf [(.call 20 (cesOf [(.var 1), (.tup (cesOf [(.kst (.int (0))), (.kst (.int (1))), (.kst (.int (28))), (.kst (.int (29))), (.kst (.int (255))), (.kst (.int (256))), (.kst (.int (65535))), (.ite (.cmp .lt (.idx (.var 3) (.var 8)) (.kst (.int (65535)))) (.bin .add (.idx (.var 3) (.var 8)) (.kst (.int (1)))) (.kst (.int (0)))), (.call 19 (cesOf [(.var 1), (.kst (.int (65536)))]))]))]))]))) (.slc (.var 3) (.so (.bin .add (.var 8) (.kst (.int (1))))) .no))), (.iff (.not (.call 40 (cesOf [(.var 1), (.var 9), (.fz (.var 4))]))) (cssOf [(.ret (.kst (.bool false)))]) (cssOf []))])
/-- law -/
def c_law : CF := ⟨1, 11, cssOf [(.set 1 (.call 18 (cesOf [(.var 0)]))),
  (.set 2 (.lcm false [7] (.call 29 (cesOf [(.var 1)])) (.nm 7) (.rg1 (.call 21 (cesOf [(.var 1), (.kst (.int (1))), (.kst (.int (6)))]))) .no)),
  (.iff (.not (.call 39 (cesOf [(.var 1), (.call 20 (cesOf [(.var 1), (.var 2)]))]))) (cssOf [(.ret (.kst (.bool false)))]) (cssOf [])),
  (.set 3 (.lcm false [7] (.call 27 (cesOf [(.var 1), (.kst (.int (0))), (.kst (.int (65535)))])) (.nm 7) (.rg1 (.call 19 (cesOf [(.var 1), (.kst (.int (4)))]))) .no)),
  (.set 4 (.lst true (cesOf []))),
  (.for_ (.nm 5) (.sq (.var 2)) b_law_0),
  (.iff (.bop false (cesOf [(.not (.call 40 (cesOf [(.var 1), (.var 3), (.bin .add (.var 4) (.lst false (cesOf [(.kst (.int (0))), (.bi .len (cesOf [(.var 3)]))])))]))), (.not (.call 41 (cesOf [(.var 1), (.var 3)])))])) (cssOf [(.ret (.kst (.bool false)))]) (cssOf [])),
  (.set 6 (.slc (.var 3) .no (.so (.call 21 (cesOf [(.var 1), (.kst (.int (0))), (.bi .len (cesOf [(.var 3)]))]))))),
  (.iff (.not (.call 40 (cesOf [(.var 1), (.var 6), (.bin .add (.lcm false [8] (.var 8) (.nm 8) (.sq (.fz (.var 4))) (.so (.cmp .le (.var 8) (.bi .len (cesOf [(.var 6)]))))) (.lst false (cesOf [(.bi .len (cesOf [(.var 6)]))])))]))) (cssOf [(.ret (.kst (.bool false)))]) (cssOf [])),
  (.for_ (.nm 7) (.rg1 (.kst (.int (3)))) b_law_1),
  (.set 10 (.lcm false [7] (.call 20 (cesOf [(.var 1), (.tup (cesOf [(.call 19 (cesOf [(.var 1), (.kst (.int (16)))])), (.bin .add (.call 19 (cesOf [(.var 1), (.kst (.int (16)))])) (.bin .mul (.kst (.int (16))) (.call 19 (cesOf [(.var 1), (.kst (.int (9)))])))), (.call 19 (cesOf [(.var 1), (.kst (.int (300)))])), (.kst (.int (0)))]))])) (.nm 7) (.rg1 (.kst (.int (12)))) .no)),
  (.ret (.call 40 (cesOf [(.var 1), (.var 10), (.lisr (.rg1 (.kst (.int (13)))))])))]⟩
def T : Tb := { fn := [(("is_int" : Str), 3), (("is_word" : Str), 1), (("split_number" : Str), 1), (("is_name" : Str), 1), (("is_field" : Str), 2), (("wrong_item" : Str), 1), (("check_record" : Str), 1), (("is_record" : Str), 1), (("field_words" : Str), 2), (("packed" : Str), 1), (("record_words" : Str), 1), (("pair_at" : Str), 3), (("field_at" : Str), 4), (("unpacked" : Str), 2), (("record_at" : Str), 2), (("field_of" : Str), 2), (("page_of" : Str), 1), (("name_of" : Str), 1), (("_law_stream" : Str), 1), (("_law_next" : Str), 2), (("_law_pick" : Str), 2), (("_law_from" : Str), 3), (("_law_number" : Str), 3), (("_law_is_row" : Str), 3), (("_law_same" : Str), 2), (("_law_copy" : Str), 1), (("_law_table" : Str), 0), (("_law_edge" : Str), 3), (("_law_field" : Str), 2), (("_law_drawn" : Str), 1), (("_law_good" : Str), 2), (("_law_fault" : Str), 1), (("_law_words" : Str), 1), (("_law_no" : Str), 1), (("_law_bad_word" : Str), 5), (("_law_value" : Str), 3), (("_law_due" : Str), 2), (("_law_asked" : Str), 3), (("_law_bent" : Str), 2), (("_law_records_fit" : Str), 2), (("_law_rows_fit" : Str), 3), (("_law_refusals_fit" : Str), 2), (("law" : Str), 1)], co := [(("TOP_WORD" : Str), ((.int (65535)) : PyData)), (("MOST_WORDS" : Str), ((.int (28)) : PyData)), (("NAMES" : Str), ((.tuple [(.str ""), (.str "begin"), (.str "put"), (.str "undo"), (.str "commit"), (.str "abort"), (.str "gone"), (.str "fresh"), (.str "cut"), (.str "link"), (.str "unlink"), (.str "take"), (.str ""), (.str "closed"), (.str "void")]) : PyData)), (("FORMS" : Str), ((.tuple [(.tuple []), (.tuple [(.str "name")]), (.tuple [(.str "name"), (.str "tree"), (.str "page"), (.str "word"), (.str "maybe"), (.str "maybe"), (.str "link")]), (.tuple [(.str "name"), (.str "tree"), (.str "page"), (.str "word"), (.str "maybe"), (.str "maybe"), (.str "link")]), (.tuple [(.str "name"), (.str "number")]), (.tuple [(.str "name")]), (.tuple [(.str "tree"), (.str "page"), (.str "word"), (.str "word")]), (.tuple [(.str "page"), (.str "words")]), (.tuple [(.str "page"), (.str "word"), (.str "page"), (.str "word"), (.str "word")]), (.tuple [(.str "page"), (.str "word"), (.str "word"), (.str "page")]), (.tuple [(.str "page"), (.str "word"), (.str "word"), (.str "page")]), (.tuple [(.str "page"), (.str "page"), (.str "word"), (.str "word"), (.str "words")]), (.tuple []), (.tuple []), (.tuple [])]) : PyData))], cl := [("BadRecord", flOf "BadRecord"), ("BadValue", flOf "BadValue")], kd := [(("BOUNDS" : Str), [(("tree" : Str), ((.tuple [(.int (0)), (.int (1))]) : PyData)), (("page" : Str), ((.tuple [(.int (0)), (.int (255))]) : PyData)), (("word" : Str), ((.tuple [(.int (0)), (.int (65535))]) : PyData)), (("number" : Str), ((.tuple [(.int (1)), (.int (4294967295))]) : PyData)), (("link" : Str), ((.tuple [(.int (0)), (.int (4294967295))]) : PyData))])] }
def Cn (c : Nat) : Option Str := (T.cl[c]?).map (·.1)
def Pt : Nat → Option CF
  | 0 => some c_is_int
  | 1 => some c_is_word
  | 2 => some c_split_number
  | 3 => some c_is_name
  | 4 => some c_is_field
  | 5 => some c_wrong_item
  | 6 => some c_check_record
  | 7 => some c_is_record
  | 8 => some c_field_words
  | 9 => some c_packed
  | 10 => some c_record_words
  | 11 => some c_pair_at
  | 12 => some c_field_at
  | 13 => some c_unpacked
  | 14 => some c_record_at
  | 15 => some c_field_of
  | 16 => some c_page_of
  | 17 => some c_name_of
  | 18 => some c__law_stream
  | 19 => some c__law_next
  | 20 => some c__law_pick
  | 21 => some c__law_from
  | 22 => some c__law_number
  | 23 => some c__law_is_row
  | 24 => some c__law_same
  | 25 => some c__law_copy
  | 26 => some c__law_table
  | 27 => some c__law_edge
  | 28 => some c__law_field
  | 29 => some c__law_drawn
  | 30 => some c__law_good
  | 31 => some c__law_fault
  | 32 => some c__law_words
  | 33 => some c__law_no
  | 34 => some c__law_bad_word
  | 35 => some c__law_value
  | 36 => some c__law_due
  | 37 => some c__law_asked
  | 38 => some c__law_bent
  | 39 => some c__law_records_fit
  | 40 => some c__law_rows_fit
  | 41 => some c__law_refusals_fit
  | 42 => some c_law
  | _ => none
theorem D_is_int : DefOk T 0 "is_int" 3 c_is_int s_is_int N_is_int P_is_int := ⟨⟨rfl, rfl, rfl, by decide +kernel, rfl, by decide +kernel, by decide +kernel⟩, rfl, rfl, rfl, by decide, rfl, by decide +kernel⟩
theorem D_is_word : DefOk T 1 "is_word" 1 c_is_word s_is_word N_is_word P_is_word := ⟨⟨rfl, rfl, rfl, by decide +kernel, rfl, by decide +kernel, by decide +kernel⟩, rfl, rfl, rfl, by decide, rfl, by decide +kernel⟩
theorem D_split_number : DefOk T 2 "split_number" 1 c_split_number s_split_number N_split_number P_split_number := ⟨⟨rfl, rfl, rfl, by decide +kernel, rfl, by decide +kernel, by decide +kernel⟩, rfl, rfl, rfl, by decide, rfl, by decide +kernel⟩
theorem D_is_name : DefOk T 3 "is_name" 1 c_is_name s_is_name N_is_name P_is_name := ⟨⟨rfl, rfl, rfl, by decide +kernel, rfl, by decide +kernel, by decide +kernel⟩, rfl, rfl, rfl, by decide, rfl, by decide +kernel⟩
theorem D_is_field : DefOk T 4 "is_field" 2 c_is_field s_is_field N_is_field P_is_field := ⟨⟨rfl, rfl, rfl, by decide +kernel, rfl, by decide +kernel, by decide +kernel⟩, rfl, rfl, rfl, by decide, rfl, by decide +kernel⟩
theorem D_wrong_item : DefOk T 5 "wrong_item" 1 c_wrong_item s_wrong_item N_wrong_item P_wrong_item := ⟨⟨rfl, rfl, rfl, by decide +kernel, rfl, by decide +kernel, by decide +kernel⟩, rfl, rfl, rfl, by decide, rfl, by decide +kernel⟩
theorem D_check_record : DefOk T 6 "check_record" 1 c_check_record s_check_record N_check_record P_check_record := ⟨⟨rfl, rfl, rfl, by decide +kernel, rfl, by decide +kernel, by decide +kernel⟩, rfl, rfl, rfl, by decide, rfl, by decide +kernel⟩
theorem D_is_record : DefOk T 7 "is_record" 1 c_is_record s_is_record N_is_record P_is_record := ⟨⟨rfl, rfl, rfl, by decide +kernel, rfl, by decide +kernel, by decide +kernel⟩, rfl, rfl, rfl, by decide, rfl, by decide +kernel⟩
theorem D_field_words : DefOk T 8 "field_words" 2 c_field_words s_field_words N_field_words P_field_words := ⟨⟨rfl, rfl, rfl, by decide +kernel, rfl, by decide +kernel, by decide +kernel⟩, rfl, rfl, rfl, by decide, rfl, by decide +kernel⟩
theorem D_packed : DefOk T 9 "packed" 1 c_packed s_packed N_packed P_packed := ⟨⟨rfl, rfl, rfl, by decide +kernel, rfl, by decide +kernel, by decide +kernel⟩, rfl, rfl, rfl, by decide, rfl, by decide +kernel⟩
theorem D_record_words : DefOk T 10 "record_words" 1 c_record_words s_record_words N_record_words P_record_words := ⟨⟨rfl, rfl, rfl, by decide +kernel, rfl, by decide +kernel, by decide +kernel⟩, rfl, rfl, rfl, by decide, rfl, by decide +kernel⟩
theorem D_pair_at : DefOk T 11 "pair_at" 3 c_pair_at s_pair_at N_pair_at P_pair_at := ⟨⟨rfl, rfl, rfl, by decide +kernel, rfl, by decide +kernel, by decide +kernel⟩, rfl, rfl, rfl, by decide, rfl, by decide +kernel⟩
theorem D_field_at : DefOk T 12 "field_at" 4 c_field_at s_field_at N_field_at P_field_at := ⟨⟨rfl, rfl, rfl, by decide +kernel, rfl, by decide +kernel, by decide +kernel⟩, rfl, rfl, rfl, by decide, rfl, by decide +kernel⟩
theorem D_unpacked : DefOk T 13 "unpacked" 2 c_unpacked s_unpacked N_unpacked P_unpacked := ⟨⟨rfl, rfl, rfl, by decide +kernel, rfl, by decide +kernel, by decide +kernel⟩, rfl, rfl, rfl, by decide, rfl, by decide +kernel⟩
theorem D_record_at : DefOk T 14 "record_at" 2 c_record_at s_record_at N_record_at P_record_at := ⟨⟨rfl, rfl, rfl, by decide +kernel, rfl, by decide +kernel, by decide +kernel⟩, rfl, rfl, rfl, by decide, rfl, by decide +kernel⟩
theorem D_field_of : DefOk T 15 "field_of" 2 c_field_of s_field_of N_field_of P_field_of := ⟨⟨rfl, rfl, rfl, by decide +kernel, rfl, by decide +kernel, by decide +kernel⟩, rfl, rfl, rfl, by decide, rfl, by decide +kernel⟩
theorem D_page_of : DefOk T 16 "page_of" 1 c_page_of s_page_of N_page_of P_page_of := ⟨⟨rfl, rfl, rfl, by decide +kernel, rfl, by decide +kernel, by decide +kernel⟩, rfl, rfl, rfl, by decide, rfl, by decide +kernel⟩
theorem D_name_of : DefOk T 17 "name_of" 1 c_name_of s_name_of N_name_of P_name_of := ⟨⟨rfl, rfl, rfl, by decide +kernel, rfl, by decide +kernel, by decide +kernel⟩, rfl, rfl, rfl, by decide, rfl, by decide +kernel⟩
theorem D__law_stream : DefOk T 18 "_law_stream" 1 c__law_stream s__law_stream N__law_stream P__law_stream := ⟨⟨rfl, rfl, rfl, by decide +kernel, rfl, by decide +kernel, by decide +kernel⟩, rfl, rfl, rfl, by decide, rfl, by decide +kernel⟩
theorem D__law_next : DefOk T 19 "_law_next" 2 c__law_next s__law_next N__law_next P__law_next := ⟨⟨rfl, rfl, rfl, by decide +kernel, rfl, by decide +kernel, by decide +kernel⟩, rfl, rfl, rfl, by decide, rfl, by decide +kernel⟩
theorem D__law_pick : DefOk T 20 "_law_pick" 2 c__law_pick s__law_pick N__law_pick P__law_pick := ⟨⟨rfl, rfl, rfl, by decide +kernel, rfl, by decide +kernel, by decide +kernel⟩, rfl, rfl, rfl, by decide, rfl, by decide +kernel⟩
theorem D__law_from : DefOk T 21 "_law_from" 3 c__law_from s__law_from N__law_from P__law_from := ⟨⟨rfl, rfl, rfl, by decide +kernel, rfl, by decide +kernel, by decide +kernel⟩, rfl, rfl, rfl, by decide, rfl, by decide +kernel⟩
theorem D__law_number : DefOk T 22 "_law_number" 3 c__law_number s__law_number N__law_number P__law_number := ⟨⟨rfl, rfl, rfl, by decide +kernel, rfl, by decide +kernel, by decide +kernel⟩, rfl, rfl, rfl, by decide, rfl, by decide +kernel⟩
theorem D__law_is_row : DefOk T 23 "_law_is_row" 3 c__law_is_row s__law_is_row N__law_is_row P__law_is_row := ⟨⟨rfl, rfl, rfl, by decide +kernel, rfl, by decide +kernel, by decide +kernel⟩, rfl, rfl, rfl, by decide, rfl, by decide +kernel⟩
theorem D__law_same : DefOk T 24 "_law_same" 2 c__law_same s__law_same N__law_same P__law_same := ⟨⟨rfl, rfl, rfl, by decide +kernel, rfl, by decide +kernel, by decide +kernel⟩, rfl, rfl, rfl, by decide, rfl, by decide +kernel⟩
theorem D__law_copy : DefOk T 25 "_law_copy" 1 c__law_copy s__law_copy N__law_copy P__law_copy := ⟨⟨rfl, rfl, rfl, by decide +kernel, rfl, by decide +kernel, by decide +kernel⟩, rfl, rfl, rfl, by decide, rfl, by decide +kernel⟩
theorem D__law_table : DefOk T 26 "_law_table" 0 c__law_table s__law_table N__law_table P__law_table := ⟨⟨rfl, rfl, rfl, by decide +kernel, rfl, by decide +kernel, by decide +kernel⟩, rfl, rfl, rfl, by decide, rfl, by decide +kernel⟩
theorem D__law_edge : DefOk T 27 "_law_edge" 3 c__law_edge s__law_edge N__law_edge P__law_edge := ⟨⟨rfl, rfl, rfl, by decide +kernel, rfl, by decide +kernel, by decide +kernel⟩, rfl, rfl, rfl, by decide, rfl, by decide +kernel⟩
theorem D__law_field : DefOk T 28 "_law_field" 2 c__law_field s__law_field N__law_field P__law_field := ⟨⟨rfl, rfl, rfl, by decide +kernel, rfl, by decide +kernel, by decide +kernel⟩, rfl, rfl, rfl, by decide, rfl, by decide +kernel⟩
theorem D__law_drawn : DefOk T 29 "_law_drawn" 1 c__law_drawn s__law_drawn N__law_drawn P__law_drawn := ⟨⟨rfl, rfl, rfl, by decide +kernel, rfl, by decide +kernel, by decide +kernel⟩, rfl, rfl, rfl, by decide, rfl, by decide +kernel⟩
theorem D__law_good : DefOk T 30 "_law_good" 2 c__law_good s__law_good N__law_good P__law_good := ⟨⟨rfl, rfl, rfl, by decide +kernel, rfl, by decide +kernel, by decide +kernel⟩, rfl, rfl, rfl, by decide, rfl, by decide +kernel⟩
theorem D__law_fault : DefOk T 31 "_law_fault" 1 c__law_fault s__law_fault N__law_fault P__law_fault := ⟨⟨rfl, rfl, rfl, by decide +kernel, rfl, by decide +kernel, by decide +kernel⟩, rfl, rfl, rfl, by decide, rfl, by decide +kernel⟩
theorem D__law_words : DefOk T 32 "_law_words" 1 c__law_words s__law_words N__law_words P__law_words := ⟨⟨rfl, rfl, rfl, by decide +kernel, rfl, by decide +kernel, by decide +kernel⟩, rfl, rfl, rfl, by decide, rfl, by decide +kernel⟩
theorem D__law_no : DefOk T 33 "_law_no" 1 c__law_no s__law_no N__law_no P__law_no := ⟨⟨rfl, rfl, rfl, by decide +kernel, rfl, by decide +kernel, by decide +kernel⟩, rfl, rfl, rfl, by decide, rfl, by decide +kernel⟩
theorem D__law_bad_word : DefOk T 34 "_law_bad_word" 5 c__law_bad_word s__law_bad_word N__law_bad_word P__law_bad_word := ⟨⟨rfl, rfl, rfl, by decide +kernel, rfl, by decide +kernel, by decide +kernel⟩, rfl, rfl, rfl, by decide, rfl, by decide +kernel⟩
theorem D__law_value : DefOk T 35 "_law_value" 3 c__law_value s__law_value N__law_value P__law_value := ⟨⟨rfl, rfl, rfl, by decide +kernel, rfl, by decide +kernel, by decide +kernel⟩, rfl, rfl, rfl, by decide, rfl, by decide +kernel⟩
theorem D__law_due : DefOk T 36 "_law_due" 2 c__law_due s__law_due N__law_due P__law_due := ⟨⟨rfl, rfl, rfl, by decide +kernel, rfl, by decide +kernel, by decide +kernel⟩, rfl, rfl, rfl, by decide, rfl, by decide +kernel⟩
theorem D__law_asked : DefOk T 37 "_law_asked" 3 c__law_asked s__law_asked N__law_asked P__law_asked := ⟨⟨rfl, rfl, rfl, by decide +kernel, rfl, by decide +kernel, by decide +kernel⟩, rfl, rfl, rfl, by decide, rfl, by decide +kernel⟩
theorem D__law_bent : DefOk T 38 "_law_bent" 2 c__law_bent s__law_bent N__law_bent P__law_bent := ⟨⟨rfl, rfl, rfl, by decide +kernel, rfl, by decide +kernel, by decide +kernel⟩, rfl, rfl, rfl, by decide, rfl, by decide +kernel⟩
theorem D__law_records_fit : DefOk T 39 "_law_records_fit" 2 c__law_records_fit s__law_records_fit N__law_records_fit P__law_records_fit := ⟨⟨rfl, rfl, rfl, by decide +kernel, rfl, by decide +kernel, by decide +kernel⟩, rfl, rfl, rfl, by decide, rfl, by decide +kernel⟩
theorem D__law_rows_fit : DefOk T 40 "_law_rows_fit" 3 c__law_rows_fit s__law_rows_fit N__law_rows_fit P__law_rows_fit := ⟨⟨rfl, rfl, rfl, by decide +kernel, rfl, by decide +kernel, by decide +kernel⟩, rfl, rfl, rfl, by decide, rfl, by decide +kernel⟩
theorem D__law_refusals_fit : DefOk T 41 "_law_refusals_fit" 2 c__law_refusals_fit s__law_refusals_fit N__law_refusals_fit P__law_refusals_fit := ⟨⟨rfl, rfl, rfl, by decide +kernel, rfl, by decide +kernel, by decide +kernel⟩, rfl, rfl, rfl, by decide, rfl, by decide +kernel⟩
theorem D_law : DefOk T 42 "law" 1 c_law s_law N_law P_law := ⟨⟨rfl, rfl, rfl, by decide +kernel, rfl, by decide +kernel, by decide +kernel⟩, rfl, rfl, rfl, by decide, rfl, by decide +kernel⟩
abbrev s__law_named : Stmt := top 52
abbrev s__law_attributes : Stmt := top 53
abbrev s__law_error : Stmt := top 54
def L : List (Str × Stmt × List Str) := [(("is_int" : Str), s_is_int, P_is_int), (("is_word" : Str), s_is_word, P_is_word), (("split_number" : Str), s_split_number, P_split_number), (("is_name" : Str), s_is_name, P_is_name), (("is_field" : Str), s_is_field, P_is_field), (("wrong_item" : Str), s_wrong_item, P_wrong_item), (("check_record" : Str), s_check_record, P_check_record), (("is_record" : Str), s_is_record, P_is_record), (("field_words" : Str), s_field_words, P_field_words), (("packed" : Str), s_packed, P_packed), (("record_words" : Str), s_record_words, P_record_words), (("pair_at" : Str), s_pair_at, P_pair_at), (("field_at" : Str), s_field_at, P_field_at), (("unpacked" : Str), s_unpacked, P_unpacked), (("record_at" : Str), s_record_at, P_record_at), (("field_of" : Str), s_field_of, P_field_of), (("page_of" : Str), s_page_of, P_page_of), (("name_of" : Str), s_name_of, P_name_of), (("_law_stream" : Str), s__law_stream, P__law_stream), (("_law_next" : Str), s__law_next, P__law_next), (("_law_pick" : Str), s__law_pick, P__law_pick), (("_law_from" : Str), s__law_from, P__law_from), (("_law_number" : Str), s__law_number, P__law_number), (("_law_is_row" : Str), s__law_is_row, P__law_is_row), (("_law_same" : Str), s__law_same, P__law_same), (("_law_copy" : Str), s__law_copy, P__law_copy), (("_law_table" : Str), s__law_table, P__law_table), (("_law_edge" : Str), s__law_edge, P__law_edge), (("_law_field" : Str), s__law_field, P__law_field), (("_law_drawn" : Str), s__law_drawn, P__law_drawn), (("_law_good" : Str), s__law_good, P__law_good), (("_law_fault" : Str), s__law_fault, P__law_fault), (("_law_words" : Str), s__law_words, P__law_words), (("_law_no" : Str), s__law_no, P__law_no), (("_law_bad_word" : Str), s__law_bad_word, P__law_bad_word), (("_law_value" : Str), s__law_value, P__law_value), (("_law_due" : Str), s__law_due, P__law_due), (("_law_asked" : Str), s__law_asked, P__law_asked), (("_law_bent" : Str), s__law_bent, P__law_bent), (("_law_records_fit" : Str), s__law_records_fit, P__law_records_fit), (("_law_rows_fit" : Str), s__law_rows_fit, P__law_rows_fit), (("_law_refusals_fit" : Str), s__law_refusals_fit, P__law_refusals_fit), (("law" : Str), s_law, P_law), (("_law_named" : Str), s__law_named, (["error"] : List Str)), (("_law_attributes" : Str), s__law_attributes, (["e", "name"] : List Str)), (("_law_error" : Str), s__law_error, (["error"] : List Str))]
theorem fsT : ∀ (j : Nat) (x : Str) (np : Nat), T.fn[j]? = some (x, np) → ∃ cf st N ps, Pt j = some cf ∧ DefOk T j x np cf st N ps ∧ (x, st, ps) ∈ L
  | 0, x, np, e => by
    cases (show some (("is_int" : Str), 3) = some (x, np) from e)
    exact ⟨_, _, _, _, rfl, D_is_int, List.mem_of_getElem? (i := 0) rfl⟩
  | 1, x, np, e => by
    cases (show some (("is_word" : Str), 1) = some (x, np) from e)
    exact ⟨_, _, _, _, rfl, D_is_word, List.mem_of_getElem? (i := 1) rfl⟩
  | 2, x, np, e => by
    cases (show some (("split_number" : Str), 1) = some (x, np) from e)
    exact ⟨_, _, _, _, rfl, D_split_number, List.mem_of_getElem? (i := 2) rfl⟩
  | 3, x, np, e => by
    cases (show some (("is_name" : Str), 1) = some (x, np) from e)
    exact ⟨_, _, _, _, rfl, D_is_name, List.mem_of_getElem? (i := 3) rfl⟩
  | 4, x, np, e => by
    cases (show some (("is_field" : Str), 2) = some (x, np) from e)
    exact ⟨_, _, _, _, rfl, D_is_field, List.mem_of_getElem? (i := 4) rfl⟩
  | 5, x, np, e => by
    cases (show some (("wrong_item" : Str), 1) = some (x, np) from e)
    exact ⟨_, _, _, _, rfl, D_wrong_item, List.mem_of_getElem? (i := 5) rfl⟩
  | 6, x, np, e => by
    cases (show some (("check_record" : Str), 1) = some (x, np) from e)
    exact ⟨_, _, _, _, rfl, D_check_record, List.mem_of_getElem? (i := 6) rfl⟩
  | 7, x, np, e => by
    cases (show some (("is_record" : Str), 1) = some (x, np) from e)
    exact ⟨_, _, _, _, rfl, D_is_record, List.mem_of_getElem? (i := 7) rfl⟩
  | 8, x, np, e => by
    cases (show some (("field_words" : Str), 2) = some (x, np) from e)
    exact ⟨_, _, _, _, rfl, D_field_words, List.mem_of_getElem? (i := 8) rfl⟩
  | 9, x, np, e => by
    cases (show some (("packed" : Str), 1) = some (x, np) from e)
    exact ⟨_, _, _, _, rfl, D_packed, List.mem_of_getElem? (i := 9) rfl⟩
  | 10, x, np, e => by
    cases (show some (("record_words" : Str), 1) = some (x, np) from e)
    exact ⟨_, _, _, _, rfl, D_record_words, List.mem_of_getElem? (i := 10) rfl⟩
  | 11, x, np, e => by
    cases (show some (("pair_at" : Str), 3) = some (x, np) from e)
    exact ⟨_, _, _, _, rfl, D_pair_at, List.mem_of_getElem? (i := 11) rfl⟩
  | 12, x, np, e => by
    cases (show some (("field_at" : Str), 4) = some (x, np) from e)
    exact ⟨_, _, _, _, rfl, D_field_at, List.mem_of_getElem? (i := 12) rfl⟩
  | 13, x, np, e => by
    cases (show some (("unpacked" : Str), 2) = some (x, np) from e)
    exact ⟨_, _, _, _, rfl, D_unpacked, List.mem_of_getElem? (i := 13) rfl⟩
  | 14, x, np, e => by
    cases (show some (("record_at" : Str), 2) = some (x, np) from e)
    exact ⟨_, _, _, _, rfl, D_record_at, List.mem_of_getElem? (i := 14) rfl⟩
  | 15, x, np, e => by
    cases (show some (("field_of" : Str), 2) = some (x, np) from e)
    exact ⟨_, _, _, _, rfl, D_field_of, List.mem_of_getElem? (i := 15) rfl⟩
  | 16, x, np, e => by
    cases (show some (("page_of" : Str), 1) = some (x, np) from e)
    exact ⟨_, _, _, _, rfl, D_page_of, List.mem_of_getElem? (i := 16) rfl⟩
  | 17, x, np, e => by
    cases (show some (("name_of" : Str), 1) = some (x, np) from e)
    exact ⟨_, _, _, _, rfl, D_name_of, List.mem_of_getElem? (i := 17) rfl⟩
  | 18, x, np, e => by
    cases (show some (("_law_stream" : Str), 1) = some (x, np) from e)
    exact ⟨_, _, _, _, rfl, D__law_stream, List.mem_of_getElem? (i := 18) rfl⟩
  | 19, x, np, e => by
    cases (show some (("_law_next" : Str), 2) = some (x, np) from e)
    exact ⟨_, _, _, _, rfl, D__law_next, List.mem_of_getElem? (i := 19) rfl⟩
  | 20, x, np, e => by
    cases (show some (("_law_pick" : Str), 2) = some (x, np) from e)
    exact ⟨_, _, _, _, rfl, D__law_pick, List.mem_of_getElem? (i := 20) rfl⟩
  | 21, x, np, e => by
    cases (show some (("_law_from" : Str), 3) = some (x, np) from e)
    exact ⟨_, _, _, _, rfl, D__law_from, List.mem_of_getElem? (i := 21) rfl⟩
  | 22, x, np, e => by
    cases (show some (("_law_number" : Str), 3) = some (x, np) from e)
    exact ⟨_, _, _, _, rfl, D__law_number, List.mem_of_getElem? (i := 22) rfl⟩
  | 23, x, np, e => by
    cases (show some (("_law_is_row" : Str), 3) = some (x, np) from e)
    exact ⟨_, _, _, _, rfl, D__law_is_row, List.mem_of_getElem? (i := 23) rfl⟩
  | 24, x, np, e => by
    cases (show some (("_law_same" : Str), 2) = some (x, np) from e)
    exact ⟨_, _, _, _, rfl, D__law_same, List.mem_of_getElem? (i := 24) rfl⟩
  | 25, x, np, e => by
    cases (show some (("_law_copy" : Str), 1) = some (x, np) from e)
    exact ⟨_, _, _, _, rfl, D__law_copy, List.mem_of_getElem? (i := 25) rfl⟩
  | 26, x, np, e => by
    cases (show some (("_law_table" : Str), 0) = some (x, np) from e)
    exact ⟨_, _, _, _, rfl, D__law_table, List.mem_of_getElem? (i := 26) rfl⟩
  | 27, x, np, e => by
    cases (show some (("_law_edge" : Str), 3) = some (x, np) from e)
    exact ⟨_, _, _, _, rfl, D__law_edge, List.mem_of_getElem? (i := 27) rfl⟩
  | 28, x, np, e => by
    cases (show some (("_law_field" : Str), 2) = some (x, np) from e)
    exact ⟨_, _, _, _, rfl, D__law_field, List.mem_of_getElem? (i := 28) rfl⟩
  | 29, x, np, e => by
    cases (show some (("_law_drawn" : Str), 1) = some (x, np) from e)
    exact ⟨_, _, _, _, rfl, D__law_drawn, List.mem_of_getElem? (i := 29) rfl⟩
  | 30, x, np, e => by
    cases (show some (("_law_good" : Str), 2) = some (x, np) from e)
    exact ⟨_, _, _, _, rfl, D__law_good, List.mem_of_getElem? (i := 30) rfl⟩
  | 31, x, np, e => by
    cases (show some (("_law_fault" : Str), 1) = some (x, np) from e)
    exact ⟨_, _, _, _, rfl, D__law_fault, List.mem_of_getElem? (i := 31) rfl⟩
  | 32, x, np, e => by
    cases (show some (("_law_words" : Str), 1) = some (x, np) from e)
    exact ⟨_, _, _, _, rfl, D__law_words, List.mem_of_getElem? (i := 32) rfl⟩
  | 33, x, np, e => by
    cases (show some (("_law_no" : Str), 1) = some (x, np) from e)
    exact ⟨_, _, _, _, rfl, D__law_no, List.mem_of_getElem? (i := 33) rfl⟩
  | 34, x, np, e => by
    cases (show some (("_law_bad_word" : Str), 5) = some (x, np) from e)
    exact ⟨_, _, _, _, rfl, D__law_bad_word, List.mem_of_getElem? (i := 34) rfl⟩
  | 35, x, np, e => by
    cases (show some (("_law_value" : Str), 3) = some (x, np) from e)
    exact ⟨_, _, _, _, rfl, D__law_value, List.mem_of_getElem? (i := 35) rfl⟩
  | 36, x, np, e => by
    cases (show some (("_law_due" : Str), 2) = some (x, np) from e)
    exact ⟨_, _, _, _, rfl, D__law_due, List.mem_of_getElem? (i := 36) rfl⟩
  | 37, x, np, e => by
    cases (show some (("_law_asked" : Str), 3) = some (x, np) from e)
    exact ⟨_, _, _, _, rfl, D__law_asked, List.mem_of_getElem? (i := 37) rfl⟩
  | 38, x, np, e => by
    cases (show some (("_law_bent" : Str), 2) = some (x, np) from e)
    exact ⟨_, _, _, _, rfl, D__law_bent, List.mem_of_getElem? (i := 38) rfl⟩
  | 39, x, np, e => by
    cases (show some (("_law_records_fit" : Str), 2) = some (x, np) from e)
    exact ⟨_, _, _, _, rfl, D__law_records_fit, List.mem_of_getElem? (i := 39) rfl⟩
  | 40, x, np, e => by
    cases (show some (("_law_rows_fit" : Str), 3) = some (x, np) from e)
    exact ⟨_, _, _, _, rfl, D__law_rows_fit, List.mem_of_getElem? (i := 40) rfl⟩
  | 41, x, np, e => by
    cases (show some (("_law_refusals_fit" : Str), 2) = some (x, np) from e)
    exact ⟨_, _, _, _, rfl, D__law_refusals_fit, List.mem_of_getElem? (i := 41) rfl⟩
  | 42, x, np, e => by
    cases (show some (("law" : Str), 1) = some (x, np) from e)
    exact ⟨_, _, _, _, rfl, D_law, List.mem_of_getElem? (i := 42) rfl⟩
  | j + 43, x, np, e => nomatch (show (none : Option (Str × Nat)) = some (x, np) from e)
theorem clT : ∀ (c : Nat) (x : Str) (fl : List Str), T.cl[c]? = some (x, fl) → x ∈ ownNs ∧ fl = flOf x ∧ Cn c = some x
  | 0, x, fl, e => by
    cases (show some (("BadRecord" : Str), flOf "BadRecord") = some (x, fl) from e)
    exact ⟨by decide +kernel, rfl, rfl⟩
  | 1, x, fl, e => by
    cases (show some (("BadValue" : Str), flOf "BadValue") = some (x, fl) from e)
    exact ⟨by decide +kernel, rfl, rfl⟩
  | c + 2, x, fl, e => nomatch (show (none : Option (Str × List Str)) = some (x, fl) from e)
theorem Tx : Texts T Pt Cn L := ⟨rfl, fsT, clT, ⟨s__law_named, List.mem_of_getElem? (i := 43) rfl, ⟨rfl, rfl, rfl, by decide +kernel, rfl, by decide +kernel, by decide +kernel⟩, rfl, by decide +kernel⟩, ⟨s__law_attributes, List.mem_of_getElem? (i := 44) rfl, ⟨rfl, rfl, rfl, by decide +kernel, rfl, by decide +kernel, by decide +kernel⟩, rfl, by decide +kernel⟩, ⟨s__law_error, List.mem_of_getElem? (i := 45) rfl, ⟨rfl, rfl, rfl, by decide +kernel, rfl, by decide +kernel, by decide +kernel⟩, rfl, by decide +kernel⟩⟩
end K11
set_option Elab.async false
set_option linter.all false
set_option maxRecDepth 100000
set_option maxHeartbeats 2000000
/-! K11: the forms, the rows, the first functions. -/
namespace K11
open PySem Ip

theorem call_eq {k j : Nat} {ws : List Val} {μ : Sto} (f : CF) (h : Pt j = some f) (hl : ws.length = f.np) : callF Pt (gOf T) Cn (k + 1) j ws μ = finV μ.length (evalSs (callF Pt (gOf T) Cn k) (gOf T) Cn f.body (startE f ws) μ) := by
  simp only [callF, h, hl, if_true]
@[simp] theorem ces_nil : cesOf [] = .nil := rfl
@[simp] theorem ces_cons {a : CE} {as : List CE} : cesOf (a :: as) = .cons a (cesOf as) := rfl
@[simp] theorem css_nil : cssOf [] = .nil := rfl
@[simp] theorem css_cons {a : CS} {as : List CS} : cssOf (a :: as) = .cons a (cssOf as) := rfl
def isI (v : PyData) (lo hi : Int) : Bool := match v with
  | .int i => decide (lo ≤ i) && decide (i ≤ hi)
  | _ => false
inductive Fm where | n | t | g | k | m | z | o | w
  deriving DecidableEq
def Fm.cp : Fm → Nat
  | .n => 110
  | .t => 116
  | .g => 103
  | .k => 107
  | .m => 109
  | .z => 122
  | .o => 111
  | .w => 119
def Fm.ch (f : Fm) : Str := ⟨#[f.cp]⟩
def chS (fs : List Fm) : Str := ⟨(fs.map Fm.cp).toArray⟩
def Fm.nm : Fm → Str
  | .n => "name"
  | .t => "tree"
  | .g => "page"
  | .k => "word"
  | .m => "maybe"
  | .z => "link"
  | .o => "number"
  | .w => "words"
theorem ch_iff (a b : Fm) : (a.ch = b.ch) = (a = b) := by
  cases a <;> cases b <;> first | (simp; done) | (simp; decide +kernel)
theorem nm_iff (a b : Fm) : (a.nm = b.nm) = (a = b) := by
  cases a <;> cases b <;> first | (simp; done) | (simp; decide +kernel)
theorem lc_n : ("n" : Str) = Fm.ch .n := by decide +kernel
theorem lc_t : ("t" : Str) = Fm.ch .t := by decide +kernel
theorem lc_g : ("g" : Str) = Fm.ch .g := by decide +kernel
theorem lc_m : ("m" : Str) = Fm.ch .m := by decide +kernel
theorem lc_z : ("z" : Str) = Fm.ch .z := by decide +kernel
theorem lc_o : ("o" : Str) = Fm.ch .o := by decide +kernel
theorem lc_w : ("w" : Str) = Fm.ch .w := by decide +kernel
theorem ln_n : ("name" : Str) = Fm.nm .n := rfl
theorem ln_t : ("tree" : Str) = Fm.nm .t := rfl
theorem ln_g : ("page" : Str) = Fm.nm .g := rfl
theorem ln_m : ("maybe" : Str) = Fm.nm .m := rfl
theorem ln_z : ("link" : Str) = Fm.nm .z := rfl
theorem ln_o : ("number" : Str) = Fm.nm .o := rfl
theorem ln_w : ("words" : Str) = Fm.nm .w := rfl
abbrev Row := Str × Nat × List Fm
def rowsL : List Row := [("begin", 1, [.n]), ("put", 2, [.n, .t, .g, .k, .m, .m, .z]), ("undo", 3, [.n, .t, .g, .k, .m, .m, .z]), ("commit", 4, [.n, .o]), ("abort", 5, [.n]), ("gone", 6, [.t, .g, .k, .k]), ("fresh", 7, [.g, .w]),
  ("cut", 8, [.g, .k, .g, .k, .k]), ("link", 9, [.g, .k, .k, .g]), ("unlink", 10, [.g, .k, .k, .g]), ("take", 11, [.g, .g, .k, .k, .w]), ("closed", 13, []), ("void", 14, [])]
def rowD (r : Row) : PyData := .tuple [.str r.1, .int (r.2.1 : Nat), .str (chS r.2.2)]
def namesL : List Str := ["", "begin", "put", "undo", "commit", "abort", "gone", "fresh", "cut", "link", "unlink", "take", "", "closed", "void"]
def chgL : List Str := ["name", "tree", "page", "word", "maybe", "maybe", "link"]
def rowL : List Str := ["page", "word", "word", "page"]
def formsL : List (List Str) := [[], ["name"], chgL, chgL, ["name", "number"], ["name"], ["tree", "page", "word", "word"], ["page", "words"], ["page", "word", "page", "word", "word"], rowL, rowL, ["page", "page", "word", "word", "words"], [], [], []]
def tupS (l : List Str) : PyData := .tuple (l.map .str)
@[simp] theorem g0 : gOf T 0 = some (.int 65535) := rfl
@[simp] theorem g1 : gOf T 1 = some (.int 28) := rfl
@[simp] theorem g2 : gOf T 2 = some (.tuple (namesL.map .str)) := rfl
@[simp] theorem g3 : gOf T 3 = some (.tuple (formsL.map tupS)) := rfl
theorem gk : gOf T (1000 + 0) = some (.dict [(.str "tree", .tuple [.int 0, .int 1]), (.str "page", .tuple [.int 0, .int 255]), (.str "word", .tuple [.int 0, .int 65535]), (.str "number", .tuple [.int 1, .int 4294967295]), (.str "link", .tuple [.int 0, .int 4294967295])]) := rfl
def look (s : Str) : Option Row := rowsL.find? fun r => decide (r.1 = s)
def lookC (c : Int) : Option Row := rowsL.find? fun r => decide ((r.2.1 : Int) = c)
theorem look_mem {s : Str} {r : Row} (h : look s = some r) : r ∈ rowsL ∧ r.1 = s := ⟨List.mem_of_find?_eq_some h, by simpa using List.find?_some h⟩
theorem lookC_mem {c : Int} {r : Row} (h : lookC c = some r) : r ∈ rowsL ∧ (r.2.1 : Int) = c := ⟨List.mem_of_find?_eq_some h, by simpa using List.find?_some h⟩
theorem filt_all : ∀ r ∈ rowsL, rowsL.filter (fun q => decide (q.1 = r.1)) = [r] := by decide +kernel
theorem filtC_all : ∀ r ∈ rowsL, rowsL.filter (fun q => decide (q.2.1 = r.2.1)) = [r] := by decide +kernel
theorem filt_some {s : Str} {r : Row} (h : look s = some r) : rowsL.filter (fun q => decide (q.1 = s)) = [r] := by
  obtain ⟨h1, rfl⟩ := look_mem h
  exact filt_all r h1
theorem filt_none {s : Str} (h : look s = none) : rowsL.filter (fun q => decide (q.1 = s)) = [] := by
  rw [List.filter_eq_nil_iff]
  exact List.find?_eq_none.mp h
theorem filtC_some {c : Int} {r : Row} (h : lookC c = some r) : rowsL.filter (fun q => decide ((q.2.1 : Int) = c)) = [r] := by
  obtain ⟨h1, rfl⟩ := lookC_mem h
  have := filtC_all r h1
  rw [← this]
  congr 1
  funext q
  simp [Int.natCast_inj]
theorem filtC_none {c : Int} (h : lookC c = none) : rowsL.filter (fun q => decide ((q.2.1 : Int) = c)) = [] := by
  rw [List.filter_eq_nil_iff]
  exact List.find?_eq_none.mp h
theorem names_all : ∀ n ∈ namesL, n = "" ∨ (look n).isSome = true := by decide +kernel
theorem row_all : ∀ r ∈ rowsL, r.1 ≠ "" ∧ namesL.findIdx? (fun y => decide (y = r.1)) = some r.2.1 ∧ formsL[r.2.1]? = some (r.2.2.map Fm.nm) ∧ r.1 ∈ namesL ∧ r.2.2.length ≤ 7 ∧ namesL[r.2.1]? = some r.1 ∧ r.2.1 < 15 := by decide +kernel
theorem eqv_s (a b : Str) : PyData.eqv (.str a) (.str b) = decide (a = b) := by
  show (a == b) = _
  by_cases h : a = b
  · subst h
    simp
  · simp [h]
theorem is_int_eq (k : Nat) (v : PyData) (lo hi : Int) (μ : Sto) : callF Pt (gOf T) Cn (k + 1) 0 [.d v, .d (.int lo), .d (.int hi)] μ = .ok (.d (.bool (isI v lo hi))) μ := by
  rw [call_eq c_is_int rfl rfl, show startE c_is_int [.d v, .d (.int lo), .d (.int hi)] = [some (.d v), some (.d (.int lo)), some (.d (.int hi))] from rfl]
  cases v with
  | int i =>
    by_cases h1 : lo ≤ i <;> by_cases h2 : i ≤ hi <;> simp [c_is_int, isiD, isI, h1, h2]
  | _ => simp [c_is_int, isiD, isI]
theorem is_word_eq (k : Nat) (v : PyData) (μ : Sto) : callF Pt (gOf T) Cn (k + 2) 1 [.d v] μ = .ok (.d (.bool (isI v 0 65535))) μ := by
  rw [call_eq c_is_word rfl rfl, show startE c_is_word [.d v] = [some (.d v)] from rfl]
  simp [c_is_word, is_int_eq]
theorem number_eq (k : Nat) (v : PyData) (lo hi : Int) (μ : Sto) : callF Pt (gOf T) Cn (k + 1) 22 [.d v, .d (.int lo), .d (.int hi)] μ = .ok (.d (.bool (isI v lo hi))) μ := by
  rw [call_eq c__law_number rfl rfl, show startE c__law_number [.d v, .d (.int lo), .d (.int hi)] = [some (.d v), some (.d (.int lo)), some (.d (.int hi))] from rfl]
  cases v with
  | int i =>
    by_cases h1 : lo ≤ i <;> by_cases h2 : i ≤ hi <;> simp [c__law_number, isiD, isI, h1, h2]
  | _ => simp [c__law_number, isiD, isI]
theorem ix0 {x : PyData} {xs : List PyData} : idxD (.tuple (x :: xs)) (.int 0) = some x := by
  simp [idxD, ixP, L2.ixN]
theorem ix1 {x y : PyData} {xs : List PyData} : idxD (.tuple (x :: y :: xs)) (.int 1) = some y := by
  have h : (1 : Int) < ↑xs.length + 1 + 1 := by omega
  simp [idxD, ixP, L2.ixN, h]
theorem ix2 {x y z : PyData} {xs : List PyData} : idxD (.tuple (x :: y :: z :: xs)) (.int 2) = some z := by
  have h : (2 : Int) < ↑xs.length + 1 + 1 + 1 := by omega
  simp [idxD, ixP, L2.ixN, h]
theorem il0 {x : PyData} {xs : List PyData} : idxD (.list (x :: xs)) (.int 0) = some x := by
  simp [idxD, ixP, L2.ixN]
theorem il1 {x y : PyData} {xs : List PyData} : idxD (.list (x :: y :: xs)) (.int 1) = some y := by
  have h : (1 : Int) < ↑xs.length + 1 + 1 := by omega
  simp [idxD, ixP, L2.ixN, h]
theorem il2 {x y z : PyData} {xs : List PyData} : idxD (.list (x :: y :: z :: xs)) (.int 2) = some z := by
  have h : (2 : Int) < ↑xs.length + 1 + 1 + 1 := by omega
  simp [idxD, ixP, L2.ixN, h]
theorem ixn {xs : List PyData} {x : PyData} {i : Nat} (h : xs[i]? = some x) : idxD (.tuple xs) (.int (i : Nat)) = some x ∧ idxD (.list xs) (.int (i : Nat)) = some x := by
  have hl := (List.getElem?_eq_some_iff.mp h).1
  have e : ixP xs.length (i : Int) = some i := by
    unfold ixP L2.ixN
    rw [if_pos (by omega), if_pos (by omega), Int.toNat_natCast]
  simp [idxD, e, h]
def nameB (v : PyData) : Bool := match v with
  | .tuple [x, y] => isI x 1 65535 && isI y 1 65535
  | _ => false
theorem is_name_eq (k : Nat) (v : PyData) (μ : Sto) : callF Pt (gOf T) Cn (k + 2) 3 [.d v] μ = .ok (.d (.bool (nameB v))) μ := by
  rw [call_eq c_is_name rfl rfl, show startE c_is_name [.d v] = [some (.d v)] from rfl]
  cases v with
  | tuple xs =>
    match xs with
    | [] => simp [c_is_name, isiD, nameB]
    | [x] => simp [c_is_name, isiD, nameB]
    | [x, y] =>
      cases hx : isI x 1 65535 <;> simp [c_is_name, isiD, nameB, ix0, ix1, is_int_eq, hx]
    | x :: y :: z :: r =>
      have h3 : ¬ (((r.length : Int) + 1 + 1 + 1) = 2) := by omega
      simp [c_is_name, isiD, nameB, h3]
  | _ => simp [c_is_name, isiD, nameB]
def good (f : Fm) (v : PyData) : Bool := match f with
  | .n => nameB v
  | .w => (match v with
    | .tuple xs => decide (xs.length ≤ 28) && xs.all fun x => isI x 0 65535
    | _ => false)
  | .m => isNon v || isI v 0 65535
  | .z => isI v 0 4294967295
  | .o => isI v 1 4294967295
  | .t => isI v 0 1
  | .g => isI v 0 255
  | .k => isI v 0 65535
end K11
set_option Elab.async false
set_option linter.all false
set_option maxRecDepth 100000
set_option maxHeartbeats 2000000
/-! K11: a field is right. -/
namespace K11
open PySem Ip

/-- a comprehension with a condition that changes nothing -/
theorem lcm_fm {own : List Nat} {t : CT} {elt c : Ip.Env → Sto → Res Val} {ρ : Ip.Env} {μ : Sto} (p : PyData → Bool) (f : PyData → PyData) : ∀ (xs acc : List PyData), (∀ x ∈ xs, ∃ ρ', asg t (.d x) (wipeE ρ own) = some ρ' ∧ c ρ' μ = .ok (.d (.bool (p x))) μ ∧ (p x = true → elt ρ' μ = .ok (.d (f x)) μ)) → acc.length + xs.length ≤ lim →
    lcmL own t elt c ρ xs acc μ = .ok (acc ++ (xs.filter p).map f) μ
  | [], acc, _, _ => by simp [lcmL]
  | x :: xs, acc, h, hl => by
    simp only [List.length_cons] at hl
    obtain ⟨ρ', e1, e2, e3⟩ := h x List.mem_cons_self
    have h1 : acc.length < lim := by omega
    cases hp : p x with
    | true =>
      have ih := lcm_fm p f (elt := elt) (c := c) (t := t) xs (acc ++ [f x]) (fun y hy => h y (List.mem_cons_of_mem _ hy)) (by rw [List.length_append, List.length_singleton]; omega)
      simp only [lcmL, e1, Res.opt_some, Res.bind_ok, e2, bOf_b, hp, if_true, e3 hp, dOf_d, if_pos h1, ih, List.filter_cons, List.map_cons, List.append_assoc, List.singleton_append]
    | false =>
      have ih := lcm_fm p f (elt := elt) (c := c) (t := t) xs acc (fun y hy => h y (List.mem_cons_of_mem _ hy)) (by omega)
      simp only [lcmL, e1, Res.opt_some, Res.bind_ok, e2, bOf_b, hp, if_neg Bool.false_ne_true, ih, List.filter_cons, Bool.false_eq_true]
      rfl
theorem dB_map {p : PyData → Bool} : ∀ xs : List PyData, dBools (xs.map fun x => .bool (p x)) = some (xs.map p)
  | [] => rfl
  | x :: xs => by simp [dBools, dB_map xs]
theorem all_map {p : PyData → Bool} {xs : List PyData} : biD .all [.list (xs.map fun x => .bool (p x))] = some (.bool (xs.all p)) := by
  simp [biD, dB_map, List.all_map]
theorem isW_words {Φ : Nat → List Val → Sto → Res Val} {ρ : Ip.Env} {μ : Sto} {i j : Nat} {v : PyData} {xs : List PyData} (hΦ : ∀ v, Φ 1 [.d v] μ = .ok (.d (.bool (isI v 0 65535))) μ) (hv : itemsOf v = some xs) (h : ρ[i]? = some (some (.d v))) (hj : j < ρ.length) (hl : xs.length ≤ lim) :
    evalE Φ (gOf T) (.lcm false [j] (.call 1 (.cons (.var j) .nil)) (.nm j) (.sq (.var i)) .no) ρ μ = .ok (.d (.list (xs.map fun x => .bool (isI x 0 65535)))) μ := by
  have e : evalR Φ (gOf T) (.sq (.var i)) ρ μ = .ok xs μ := by simp [h, hv]
  have z := lcm_map (own := [j]) (t := .nm j) (elt := evalE Φ (gOf T) (.call 1 (.cons (.var j) .nil))) (c := evalC Φ (gOf T) .no) (ρ := ρ) (μ := μ) (fun x => .bool (isI x 0 65535)) xs [] (fun x _ => ⟨_, rfl, by simp [wipeE, hΦ, hj], by simp⟩) (by simpa using hl)
  rw [re_lcm, e, Res.bind_ok, z]
  rfl
theorem bnd {f : Fm} : kdO (gOf T 1000) (.str f.nm) = match f with
    | .t => some (.tuple [.int 0, .int 1])
    | .g => some (.tuple [.int 0, .int 255])
    | .k => some (.tuple [.int 0, .int 65535])
    | .o => some (.tuple [.int 1, .int 4294967295])
    | .z => some (.tuple [.int 0, .int 4294967295])
    | _ => none := by
  have g : gOf T 1000 = _ := gk
  rw [g, show ("word" : Str) = Fm.nm .k from rfl, ln_t, ln_g, ln_o, ln_z]
  cases f <;> simp [kdO, kdL, nm_iff]
theorem lim28 {n : Nat} (h : n ≤ 28) : n ≤ lim := by
  unfold lim
  omega
theorem is_field_eq (k : Nat) (f : Fm) (v : PyData) (μ : Sto) : callF Pt (gOf T) Cn (k + 3) 4 [.d (.str f.nm), .d v] μ = .ok (.d (.bool (good f v))) μ := by
  rw [call_eq c_is_field rfl rfl, show startE c_is_field [.d (.str f.nm), .d v] = [some (.d (.str f.nm)), some (.d v), none, none, none] from rfl]
  cases hf : f
  case w =>
    cases v with
    | tuple xs =>
      by_cases hl : xs.length ≤ 28
      · have e := isW_words (Φ := callF Pt (gOf T) Cn (k + 2)) (ρ := [some (.d (.str Fm.w.nm)), some (.d (.tuple xs)), none, none, none]) (μ := μ) (i := 1) (j := 4) (v := .tuple xs) (xs := xs) (fun v => is_word_eq k v μ) rfl rfl (by simp) (lim28 hl)
        have h2 : (xs.length : Int) ≤ 28 := by omega
        simp [-re_lcm, c_is_field, ln_n, ln_m, ln_w, nm_iff, isiD, e, all_map, h2, hl, good, Bool.decide_and]
      · have h2 : ¬ (xs.length : Int) ≤ 28 := by omega
        simp [c_is_field, ln_n, ln_m, ln_w, nm_iff, isiD, h2, hl, good]
    | _ => simp [c_is_field, ln_n, ln_m, ln_w, nm_iff, isiD, good]
  case n => simp [c_is_field, ln_n, nm_iff, is_name_eq, good]
  case m => cases hv : isNon v <;> simp [c_is_field, ln_n, ln_m, nm_iff, is_word_eq, good, hv]
  all_goals
    simp [c_is_field, ln_n, ln_m, ln_w, nm_iff, bnd, asg, is_int_eq, good]
theorem is_row_eq (k : Nat) (v : PyData) (n : Int) (μ : Sto) : callF Pt (gOf T) Cn (k + 1) 23 [.d v, .d (.str "T"), .d (.int n)] μ = .ok (.d (.bool (match v with | .tuple xs => decide ((xs.length : Int) = n) | _ => false))) μ := by
  rw [call_eq c__law_is_row rfl rfl, show startE c__law_is_row [.d v, .d (.str "T"), .d (.int n)] = [some (.d v), some (.d (.str "T")), some (.d (.int n))] from rfl]
  have e : (("T" : Str) = "L") = False := by simp; decide +kernel
  cases v <;> simp [c__law_is_row, isiD, isNon, e]
theorem is_row_eqN (k : Nat) (v : PyData) (μ : Sto) : callF Pt (gOf T) Cn (k + 1) 23 [.d v, .d (.str "T"), .d .none] μ = .ok (.d (.bool (match v with | .tuple _ => true | _ => false))) μ := by
  rw [call_eq c__law_is_row rfl rfl, show startE c__law_is_row [.d v, .d (.str "T"), .d .none] = [some (.d v), some (.d (.str "T")), some (.d .none)] from rfl]
  have e : (("T" : Str) = "L") = False := by simp; decide +kernel
  cases v <;> simp [c__law_is_row, isiD, isNon, e]
theorem bad_words {Φ : Nat → List Val → Sto → Res Val} {w0 : Option Val} {μ : Sto} {xs : List PyData} (hΦ : ∀ v lo hi, Φ 22 [.d v, .d (.int lo), .d (.int hi)] μ = .ok (.d (.bool (isI v lo hi))) μ) (hl : xs.length ≤ lim) :
    evalE Φ (gOf T) (.lcm false [2] (.kst (.int (1))) (.nm 2) (.sq (.var 1)) (.so (.not (.call 22 (cesOf [(.var 2), (.kst (.int (0))), (.kst (.int (65535)))]))))) [w0, some (.d (.tuple xs)), none] μ = .ok (.d (.list ((xs.filter fun x => !isI x 0 65535).map fun _ => .int 1))) μ := by
  have e : evalR Φ (gOf T) (.sq (.var 1)) [w0, some (.d (.tuple xs)), none] μ = .ok xs μ := by simp
  have z := lcm_fm (own := [2]) (t := .nm 2) (elt := evalE Φ (gOf T) (.kst (.int (1)))) (c := evalC Φ (gOf T) (.so (.not (.call 22 (cesOf [(.var 2), (.kst (.int (0))), (.kst (.int (65535)))]))))) (ρ := [w0, some (.d (.tuple xs)), none]) (μ := μ) (fun x => !isI x 0 65535) (fun _ => .int 1) xs [] (fun x _ => ⟨_, rfl, by simp [wipeE, hΦ], by simp⟩) (by simpa using hl)
  rw [re_lcm, e, Res.bind_ok, z]
  rfl
theorem filt_len {xs : List PyData} {p : PyData → Bool} {f : PyData → PyData} : (((((xs.filter fun x => !p x).map f).length : Nat) : Int) = 0) = (xs.all p = true) := by
  rw [List.length_map]
  apply propext
  rw [List.all_eq_true]
  constructor
  · intro h x hx
    have h0 : xs.filter (fun x => !p x) = [] := List.eq_nil_of_length_eq_zero (by omega)
    rw [List.filter_eq_nil_iff] at h0
    simpa using h0 x hx
  · intro h
    rw [List.filter_eq_nil_iff.mpr (fun x hx => by simp [h x hx])]
    rfl
theorem filt_nil {xs : List PyData} {p : PyData → Bool} {f : PyData → PyData} : ((xs.filter fun x => !p x).map f = []) = (xs.all p = true) := by
  rw [← filt_len (f := f)]
  apply propext
  constructor
  · intro h
    rw [h]
    rfl
  · intro h
    exact List.eq_nil_of_length_eq_zero (by omega)
theorem law_good_eq (k : Nat) (f : Fm) (v : PyData) (μ : Sto) : callF Pt (gOf T) Cn (k + 2) 30 [.d (.str f.ch), .d v] μ = .ok (.d (.bool (good f v))) μ := by
  rw [call_eq c__law_good rfl rfl, show startE c__law_good [.d (.str f.ch), .d v] = [some (.d (.str f.ch)), some (.d v), none] from rfl]
  cases hf : f
  case n =>
    cases v with
    | tuple xs =>
      match xs with
      | [] => simp [c__law_good, lc_n, ch_iff, is_row_eq, good, nameB]
      | [x] => simp [c__law_good, lc_n, ch_iff, is_row_eq, good, nameB]
      | [x, y] =>
        cases hx : isI x 1 65535 <;> simp [c__law_good, lc_n, ch_iff, is_row_eq, good, nameB, ix0, ix1, number_eq, hx]
      | x :: y :: z :: r =>
        have h3 : ¬ (((r.length : Int) + 1 + 1 + 1) = 2) := by omega
        simp [c__law_good, lc_n, ch_iff, is_row_eq, good, nameB, h3]
    | _ => simp [c__law_good, lc_n, ch_iff, is_row_eq, good, nameB]
  case w =>
    cases v with
    | tuple xs =>
      by_cases hl : xs.length ≤ 28
      · have e := bad_words (Φ := callF Pt (gOf T) Cn (k + 1)) (w0 := some (.d (.str Fm.w.ch))) (μ := μ) (xs := xs) (fun v lo hi => number_eq k v lo hi μ) (lim28 hl)
        simp only [ces_cons, ces_nil] at e
        have h2 : (xs.length : Int) ≤ 28 := by omega
        have hd := filt_nil (xs := xs) (p := fun x => isI x 0 65535) (f := fun _ => .int 1)
        generalize (xs.filter fun x => !isI x 0 65535).map (fun _ => PyData.int 1) = L at e hd
        cases hall : (xs.all fun x => isI x 0 65535) <;> rw [hall] at hd <;> simp only [Bool.false_eq_true, eq_iff_iff, iff_false, iff_true] at hd <;> simp [-re_lcm, c__law_good, e, lc_n, lc_w, ch_iff, is_row_eqN, h2, hl, good, hd, hall, -List.all_eq_true, -List.all_eq_false]
      · have h2 : ¬ (xs.length : Int) ≤ 28 := by omega
        simp [c__law_good, lc_n, lc_w, ch_iff, is_row_eqN, h2, hl, good]
    | _ => simp [c__law_good, lc_n, lc_w, ch_iff, is_row_eqN, good]
  case m => cases hv : isNon v <;> simp [c__law_good, lc_n, lc_w, lc_m, ch_iff, number_eq, good, hv]
  all_goals
    simp [c__law_good, lc_n, lc_w, lc_m, lc_z, lc_o, lc_t, lc_g, ch_iff, number_eq, good]
end K11
set_option Elab.async false
set_option linter.all false
set_option maxRecDepth 100000
set_option maxHeartbeats 2000000
/-! K11: the rows of the table, the least wrong item. -/
namespace K11
open PySem Ip

theorem cs0 : ("" : Str) = chS [] := by decide +kernel
theorem cs1 : ("n" : Str) = chS [.n] := by decide +kernel
theorem cs2 : ("ntgkmmz" : Str) = chS [.n, .t, .g, .k, .m, .m, .z] := by decide +kernel
theorem cs3 : ("no" : Str) = chS [.n, .o] := by decide +kernel
theorem cs4 : ("tgkk" : Str) = chS [.t, .g, .k, .k] := by decide +kernel
theorem cs5 : ("gw" : Str) = chS [.g, .w] := by decide +kernel
theorem cs6 : ("gkgkk" : Str) = chS [.g, .k, .g, .k, .k] := by decide +kernel
theorem cs7 : ("gkkg" : Str) = chS [.g, .k, .k, .g] := by decide +kernel
theorem cs8 : ("ggkkw" : Str) = chS [.g, .g, .k, .k, .w] := by decide +kernel
theorem rows_lit : rowsL.map rowD = [.tuple [.str "begin", .int 1, .str "n"], .tuple [.str "put", .int 2, .str "ntgkmmz"], .tuple [.str "undo", .int 3, .str "ntgkmmz"], .tuple [.str "commit", .int 4, .str "no"], .tuple [.str "abort", .int 5, .str "n"]] ++
    [.tuple [.str "gone", .int 6, .str "tgkk"], .tuple [.str "fresh", .int 7, .str "gw"], .tuple [.str "cut", .int 8, .str "gkgkk"], .tuple [.str "link", .int 9, .str "gkkg"], .tuple [.str "unlink", .int 10, .str "gkkg"]] ++ [.tuple [.str "take", .int 11, .str "ggkkw"], .tuple [.str "closed", .int 13, .str ""], .tuple [.str "void", .int 14, .str ""]] := by
  rw [cs1, cs2, cs3, cs4, cs5, cs6, cs7, cs8, cs0]
  rfl
theorem table_eq (k : Nat) (μ : Sto) : callF Pt (gOf T) Cn (k + 1) 26 [] μ = .ok (.d (.list (rowsL.map rowD))) μ := by
  rw [call_eq c__law_table rfl rfl, show startE c__law_table [] = [none] from rfl, rows_lit]
  have h3 : 3 ≤ lim := by decide
  have h5 : 5 ≤ lim := by decide
  have h10 : 10 ≤ lim := by decide
  have h13 : 13 ≤ lim := by decide
  simp [c__law_table, h3, h5, h10, h13, binD]
def keyP (s : Str) : PyData → Bool
  | .tuple (.str a :: _) => decide (a = s)
  | _ => false
theorem filt_rows (s : Str) : (rowsL.map rowD).filter (keyP s) = (rowsL.filter fun r => decide (r.1 = s)).map rowD := by
  rw [List.filter_map]
  rfl
def keyC (c : Int) : PyData → Bool
  | .tuple (_ :: .int a :: _) => decide (a = c)
  | _ => false
theorem filt_rowsC (c : Int) : (rowsL.map rowD).filter (keyC c) = (rowsL.filter fun r => decide ((r.2.1 : Int) = c)).map rowD := by
  rw [List.filter_map]
  rfl
theorem rows_of {Φ : Nat → List Val → Sto → Res Val} {ρ : Ip.Env} {μ : Sto} {i j : Nat} {s : Str} {vs : List PyData} (hΦ : Φ 26 [] μ = .ok (.d (.list (rowsL.map rowD))) μ) (hi : i < j) (h : ρ[i]? = some (some (.d (.tuple (.str s :: vs))))) (hj : j < ρ.length) :
    evalE Φ (gOf T) (.lcm false [j] (.var j) (.nm j) (.sq (.call 26 .nil)) (.so (.cmp .eq (.idx (.var j) (.kst (.int 0))) (.idx (.var i) (.kst (.int 0)))))) ρ μ = .ok (.d (.list ((rowsL.filter fun r => decide (r.1 = s)).map rowD))) μ := by
  have e : evalR Φ (gOf T) (.sq (.call 26 .nil)) ρ μ = .ok (rowsL.map rowD) μ := by simp [hΦ]
  have z := lcm_fm (own := [j]) (t := .nm j) (elt := evalE Φ (gOf T) (.var j)) (c := evalC Φ (gOf T) (.so (.cmp .eq (.idx (.var j) (.kst (.int 0))) (.idx (.var i) (.kst (.int 0)))))) (ρ := ρ) (μ := μ) (keyP s) id (rowsL.map rowD) [] (fun x hx => by
    obtain ⟨r, _, rfl⟩ := List.mem_map.mp hx
    have hne : ¬ j = i := by omega
    refine ⟨_, rfl, ?_, fun _ => by simp [wipeE, hj]⟩
    simp [wipeE, hj, List.getElem?_set, hne, h, rowD, ix0, keyP]) (by decide)
  rw [re_lcm, e, Res.bind_ok, z, List.map_id, List.nil_append, filt_rows]
  rfl
theorem nin_names (s : Str) : cmpD .nin (.str s) (.tuple (namesL.map .str)) = some (!decide (s ∈ namesL)) := by
  have h1 : (namesL.map PyData.str).all flatD = true := rfl
  have h2 : ((namesL.map PyData.str).any fun z => PyData.eqv z (.str s)) = decide (s ∈ namesL) := by
    rw [List.any_map]
    rw [Bool.eq_iff_iff, List.any_eq_true, decide_eq_true_eq]
    simp only [Function.comp, eqv_s, decide_eq_true_eq]
    exact ⟨fun ⟨x, h1, h2⟩ => h2 ▸ h1, fun h => ⟨s, h, rfl⟩⟩
  simp only [cmpD, inD, flatD, h1, h2, Bool.true_and, if_true, Option.map_some]
theorem dS_map : ∀ l : List Str, dStrs (l.map .str) = some l
  | [] => rfl
  | x :: l => by simp [dStrs, dS_map l]
theorem tix_of {l : List Str} {s : Str} {j : Nat} (h : l.findIdx? (fun y => decide (y = s)) = some j) : pmD .tindex (.tuple (l.map .str)) [.str s] = some (.int (j : Nat)) := by
  simp [pmD, dS_map, h]
theorem ch_ix {fs : List Fm} {f : Fm} {i : Nat} (h : fs[i]? = some f) (hl : fs.length ≤ 7) : idxD (.str (chS fs)) (.int (i : Nat)) = some (.str f.ch) := by
  have h1 : (chS fs).length ≤ lim := by
    show ((fs.map Fm.cp).toArray).size ≤ lim
    unfold lim
    simp
    omega
  have h2 : L2.atI (chS fs).cps.toList ((i : Nat) : Int) = some f.cp := by
    have hi := (List.getElem?_eq_some_iff.mp h).1
    have e : L2.ixN fs.length ((i : Nat) : Int) = some i := by
      unfold L2.ixN
      rw [if_pos (by omega), if_pos (by omega), Int.toNat_natCast]
    simp [L2.atI, chS, h, e]
  simp only [idxD, if_pos h1, h2, Option.map_some]
  rfl
theorem ch_len {fs : List Fm} (hl : fs.length ≤ 7) : biD .len [.str (chS fs)] = some (.int (fs.length : Nat)) := by
  have h0 : (chS fs).length = fs.length := by
    show ((fs.map Fm.cp).toArray).size = fs.length
    simp
  have h1 : fs.length ≤ lim := by
    unfold lim
    omega
  rw [len_s, h0, if_pos h1]
theorem chs_of (fs : List Fm) : chsD (.str (chS fs)) = some (fs.map fun f => .str f.ch) := by
  simp [chsD, chS, Fm.ch]
/-- the first of the fields that is wrong or lacking -/
def loopF : List Fm → Nat → List PyData → Option Nat
  | [], _, _ => none
  | _ :: _, at_, [] => some (at_ + 1)
  | f :: fs, at_, v :: vs => if good f v then loopF fs (at_ + 1) vs else some (at_ + 1)
def fault (x : PyData) : Option Nat := match x with
  | .tuple (.str s :: vs) => (match look s with
    | none => some 0
    | some r => (match loopF r.2.2 0 vs with
      | some i => some i
      | none => if vs.length = r.2.2.length then none else some (r.2.2.length + 1)))
  | _ => some 0
def optN : Option Nat → PyData
  | none => .none
  | some i => .int (i : Nat)
theorem loopF_len : ∀ (fs : List Fm) (at_ : Nat) (vs : List PyData), loopF fs at_ vs = none → fs.length ≤ vs.length
  | [], _, _, _ => Nat.zero_le _
  | _ :: _, _, [], h => by simp [loopF] at h
  | f :: fs, at_, v :: vs, h => by
    simp only [loopF] at h
    split at h
    · have := loopF_len fs _ vs h
      simp only [List.length_cons]
      omega
    · cases h

theorem body_wrong {k : Nat} {xs : List PyData} {w1 : Option Val} {at_ : Nat} {f : Fm} {μ : Sto} : evalSs (callF Pt (gOf T) Cn (k + 3)) (gOf T) Cn b_wrong_item_0 [some (.d (.tuple xs)), w1, some (.d (.int (at_ : Nat))), some (.d (.str f.nm))] μ =
    if xs.length = at_ + 1 then .ok (.ret (.d (.int ((at_ + 1 : Nat) : Int)))) μ else match xs[at_ + 1]? with
      | some v => if good f v then .ok (.nx [some (.d (.tuple xs)), w1, some (.d (.int (at_ : Nat))), some (.d (.str f.nm))]) μ else .ok (.ret (.d (.int ((at_ + 1 : Nat) : Int)))) μ
      | none => .bad := by
  by_cases hl : xs.length = at_ + 1
  · have h2 : ((at_ : Int) + 1 = (xs.length : Int)) := by omega
    rw [if_pos hl]
    simp [b_wrong_item_0, binD, h2]
  · have h2 : ¬ ((at_ : Int) + 1 = (xs.length : Int)) := by omega
    cases hx : xs[at_ + 1]? with
    | none =>
      have h3 := List.getElem?_eq_none_iff.mp hx
      have e : idxD (.tuple xs) (.int ((at_ : Int) + 1)) = none := by
        have e : ixP xs.length ((at_ : Int) + 1) = none := by
          unfold ixP L2.ixN
          rw [if_pos (by omega), if_neg (by omega)]
        simp [idxD, e]
      simp [b_wrong_item_0, binD, h2, hl, e]
    | some v =>
      have e := (ixn hx).1
      have e' : idxD (.tuple xs) (.int ((at_ : Int) + 1)) = some v := by simpa using e
      cases hg : good f v <;> simp [b_wrong_item_0, binD, h2, hl, e', is_field_eq, hg]
theorem loop_wrong {k : Nat} {xs : List PyData} {w1 : Option Val} {μ : Sto} : ∀ (fs : List Fm) (at_ : Nat) (vs : List PyData), (∃ pre, xs = pre ++ vs ∧ pre.length = at_ + 1) → ∀ w2 w3, ∃ w2' w3', forL (.cons (.nm 2) (.cons (.nm 3) .nil)) (evalSs (callF Pt (gOf T) Cn (k + 3)) (gOf T) Cn b_wrong_item_0) (enuD at_ (fs.map fun f => .str f.nm)) [some (.d (.tuple xs)), w1, w2, w3] μ =
    match loopF fs at_ vs with
    | some i => .ok (.ret (.d (.int (i : Nat)))) μ
    | none => .ok (.nx [some (.d (.tuple xs)), w1, w2', w3']) μ
  | [], at_, vs, h, w2, w3 => ⟨w2, w3, by simp [enuD, forL, loopF]⟩
  | f :: fs, at_, [], ⟨pre, h1, h2⟩, w2, w3 => by
    have hl : xs.length = at_ + 1 := by
      rw [h1]
      simpa using h2
    refine ⟨w2, w3, ?_⟩
    simp only [List.map_cons, enuD, forL, asg, Option.bind_some, List.set_cons_succ, List.set_cons_zero, Res.opt_some, Res.bind_ok, body_wrong, if_pos hl, loopF]
  | f :: fs, at_, v :: vs, ⟨pre, h1, h2⟩, w2, w3 => by
    have hl : ¬ xs.length = at_ + 1 := by
      rw [h1]
      simp
      omega
    have hx : xs[at_ + 1]? = some v := by
      rw [h1, List.getElem?_append_right (by omega), h2]
      simp
    obtain ⟨w2', w3', ih⟩ := loop_wrong (k := k) (xs := xs) (w1 := w1) (μ := μ) fs (at_ + 1) vs ⟨pre ++ [v], by rw [h1]; simp, by simp [h2]⟩ (some (.d (.int (at_ : Nat)))) (some (.d (.str f.nm)))
    refine ⟨w2', w3', ?_⟩
    simp only [List.map_cons, enuD, forL, asg, Option.bind_some, List.set_cons_succ, List.set_cons_zero, Res.opt_some, Res.bind_ok, body_wrong, if_neg hl, hx, loopF]
    cases good f v with
    | true => simpa using ih
    | false => simp
theorem wrong_item_eq (k : Nat) (x : PyData) (μ : Sto) : callF Pt (gOf T) Cn (k + 4) 5 [.d x] μ = .ok (.d (optN (fault x))) μ := by
  rw [call_eq c_wrong_item rfl rfl, show startE c_wrong_item [.d x] = [some (.d x), none, none, none] from rfl]
  cases x with
  | tuple xs =>
    match xs with
    | [] => simp [c_wrong_item, isiD, fault, optN]
    | y :: vs =>
      have hne : ¬ ((vs.length : Int) + 1 = 0) := by omega
      cases y with
      | str s =>
        cases hk : look s with
        | none =>
          by_cases hs : s = ""
          · have hk' : look "" = none := hs ▸ hk
            subst hs
            simp [c_wrong_item, isiD, fault, optN, ix0, hne, hk']
          · have hm : s ∉ namesL := fun h => by
              rcases names_all s h with h | h
              · exact hs h
              · rw [hk] at h
                cases h
            simp [c_wrong_item, isiD, fault, optN, ix0, hne, hk, hs, nin_names, hm]
        | some r =>
          obtain ⟨hr, rfl⟩ := look_mem hk
          obtain ⟨q1, q2, q3, q4, q5, q6, q7⟩ := row_all r hr
          have e1 := tix_of q2
          have e2 : idxD (.tuple (formsL.map tupS)) (.int (r.2.1 : Nat)) = some (tupS (r.2.2.map Fm.nm)) := (ixn (by rw [List.getElem?_map, q3]; rfl)).1
          obtain ⟨w2, w3, e3⟩ := loop_wrong (k := k) (xs := .str r.1 :: vs) (w1 := some (.d (tupS (r.2.2.map Fm.nm)))) (μ := μ) r.2.2 0 vs ⟨[.str r.1], rfl, rfl⟩ none none
          have e4 : itemsOf (tupS (r.2.2.map Fm.nm)) = some (r.2.2.map fun f => .str f.nm) := by simp [tupS]
          have e5 : biD .len [tupS (r.2.2.map Fm.nm)] = some (.int (r.2.2.length : Nat)) := by simp [tupS]
          cases hlp : loopF r.2.2 0 vs with
          | some i =>
            rw [hlp] at e3
            simp [c_wrong_item, isiD, fault, optN, ix0, hne, hk, q1, nin_names, q4, pmcD, e1, e2, e3, e4, hlp]
          | none =>
            have hle := loopF_len _ _ _ hlp
            rw [hlp] at e3
            have hne2 : ¬ ((r.2.2.length : Int) + 1 = 0) := by omega
            by_cases hgt : vs.length = r.2.2.length
            · simp [hne2, c_wrong_item, isiD, fault, optN, ix0, hne, hk, q1, nin_names, q4, pmcD, e1, e2, e3, e4, e5, hlp, binD, hgt]
            · have h2 : (r.2.2.length : Int) + 1 < (vs.length : Int) + 1 := by omega
              simp [c_wrong_item, isiD, fault, optN, ix0, hne, hk, q1, nin_names, q4, pmcD, e1, e2, e3, e4, e5, hlp, binD, hgt, h2]
      | _ => simp [c_wrong_item, isiD, fault, optN, ix0, hne]
  | _ => simp [c_wrong_item, isiD, fault, optN]

theorem body_fault {k : Nat} {xs : List PyData} {w1 w4 : Option Val} {at_ : Nat} {all : List Fm} {f : Fm} {μ : Sto} (hf : all[at_]? = some f) (h7 : all.length ≤ 7) : evalSs (callF Pt (gOf T) Cn (k + 2)) (gOf T) Cn b__law_fault_0 [some (.d (.tuple xs)), w1, some (.d (.str (chS all))), some (.d (.int (at_ : Nat))), w4] μ =
    match xs[at_ + 1]? with
      | some v => if good f v then .ok (.nx [some (.d (.tuple xs)), w1, some (.d (.str (chS all))), some (.d (.int (at_ : Nat))), w4]) μ else .ok (.ret (.d (.int ((at_ + 1 : Nat) : Int)))) μ
      | none => .ok (.ret (.d (.int ((at_ + 1 : Nat) : Int)))) μ := by
  have e2 := ch_ix hf h7
  cases hx : xs[at_ + 1]? with
  | none =>
    have h3 := List.getElem?_eq_none_iff.mp hx
    have h2 : ((xs.length : Int) ≤ (at_ : Int) + 1) := by omega
    simp [b__law_fault_0, binD, h2]
  | some v =>
    have h3 := (List.getElem?_eq_some_iff.mp hx).1
    have h2 : ¬ ((xs.length : Int) ≤ (at_ : Int) + 1) := by omega
    have e := (ixn hx).1
    have e' : idxD (.tuple xs) (.int ((at_ : Int) + 1)) = some v := by simpa using e
    cases hg : good f v <;> simp [b__law_fault_0, binD, h2, e', e2, law_good_eq, hg]
theorem rng_cons (lo : Int) (n : Nat) : rngD lo (n + 1) = .int lo :: rngD (lo + 1) n := by
  unfold rngD
  rw [List.range_succ_eq_map, List.map_cons, List.map_map]
  congr 1
  · simp
  · apply List.map_congr_left
    intro k _
    simp only [Function.comp]
    congr 1
    omega
theorem loop_fault {k : Nat} {xs : List PyData} {w1 w4 : Option Val} {all : List Fm} {μ : Sto} (h7 : all.length ≤ 7) : ∀ (fs : List Fm) (at_ : Nat) (vs : List PyData), (∃ pre, all = pre ++ fs ∧ pre.length = at_) → (∃ pre, xs = pre ++ vs ∧ pre.length = at_ + 1) → ∀ w3, ∃ w3', forL (.nm 3) (evalSs (callF Pt (gOf T) Cn (k + 2)) (gOf T) Cn b__law_fault_0) (rngD (at_ : Nat) fs.length) [some (.d (.tuple xs)), w1, some (.d (.str (chS all))), w3, w4] μ =
    match loopF fs at_ vs with
    | some i => .ok (.ret (.d (.int (i : Nat)))) μ
    | none => .ok (.nx [some (.d (.tuple xs)), w1, some (.d (.str (chS all))), w3', w4]) μ
  | [], at_, vs, _, h, w3 => ⟨w3, by simp [rngD, forL, loopF]⟩
  | f :: fs, at_, [], ⟨pa, a1, a2⟩, ⟨pre, h1, h2⟩, w3 => by
    have hx : xs[at_ + 1]? = none := by
      rw [h1]
      simp
      omega
    have hf : all[at_]? = some f := by
      rw [a1, List.getElem?_append_right (by omega), a2]
      simp
    refine ⟨w3, ?_⟩
    simp only [List.length_cons, rng_cons, forL, asg, List.set_cons_succ, List.set_cons_zero, Res.opt_some, Res.bind_ok, body_fault hf h7, hx, loopF]
  | f :: fs, at_, v :: vs, ⟨pa, a1, a2⟩, ⟨pre, h1, h2⟩, w3 => by
    have hx : xs[at_ + 1]? = some v := by
      rw [h1, List.getElem?_append_right (by omega), h2]
      simp
    have hf : all[at_]? = some f := by
      rw [a1, List.getElem?_append_right (by omega), a2]
      simp
    obtain ⟨w3', ih⟩ := loop_fault (k := k) (xs := xs) (w1 := w1) (w4 := w4) (μ := μ) h7 fs (at_ + 1) vs ⟨pa ++ [f], by rw [a1]; simp, by simp [a2]⟩ ⟨pre ++ [v], by rw [h1]; simp, by simp [h2]⟩ (some (.d (.int (at_ : Nat))))
    refine ⟨w3', ?_⟩
    simp only [List.length_cons, rng_cons, forL, asg, List.set_cons_succ, List.set_cons_zero, Res.opt_some, Res.bind_ok, body_fault hf h7, hx, loopF]
    cases good f v with
    | true => simpa using ih
    | false => simp
theorem rw0 {r : Row} : idxD (rowD r) (.int 0) = some (.str r.1) := ix0
theorem rw1 {r : Row} : idxD (rowD r) (.int 1) = some (.int (r.2.1 : Nat)) := ix1
theorem rw2 {r : Row} : idxD (rowD r) (.int 2) = some (.str (chS r.2.2)) := ix2
theorem rg_small {n : Nat} (h : n ≤ 7) : rgOk (n : Nat) = true := by
  unfold rgOk
  rw [Bool.and_eq_true]
  exact ⟨decide_eq_true (by omega), decide_eq_true (by omega)⟩
theorem law_fault_eq (k : Nat) (x : PyData) (μ : Sto) : callF Pt (gOf T) Cn (k + 3) 31 [.d x] μ = .ok (.d (optN (fault x))) μ := by
  rw [call_eq c__law_fault rfl rfl, show startE c__law_fault [.d x] = [some (.d x), none, none, none, none] from rfl]
  cases x with
  | tuple xs =>
    match xs with
    | [] => simp [c__law_fault, isiD, fault, optN]
    | y :: vs =>
      have hne : ¬ ((vs.length : Int) + 1 = 0) := by omega
      cases y with
      | str s =>
        have er := rows_of (Φ := callF Pt (gOf T) Cn (k + 2)) (ρ := [some (.d (.tuple (.str s :: vs))), none, none, none, none]) (μ := μ) (i := 0) (j := 4) (s := s) (vs := vs) (table_eq _ μ) (by decide) rfl (by simp)
        cases hk : look s with
        | none =>
          rw [filt_none hk] at er
          simp [-re_lcm, c__law_fault, isiD, fault, optN, ix0, hne, hk, er]
        | some r =>
          obtain ⟨hr, rfl⟩ := look_mem hk
          obtain ⟨q1, q2, q3, q4, q5, q6, q7⟩ := row_all r hr
          rw [filt_some hk] at er
          obtain ⟨w3, e3⟩ := loop_fault (k := k) (xs := .str r.1 :: vs) (w1 := some (.d (.list [rowD r]))) (w4 := none) (all := r.2.2) (μ := μ) q5 r.2.2 0 vs ⟨[], rfl, rfl⟩ ⟨[.str r.1], rfl, rfl⟩ none
          have hl := ch_len q5
          have eI : evalR (callF Pt (gOf T) Cn (k + 2)) (gOf T) (.rg1 (.bi .len (.cons (.var 2) .nil))) [some (.d (.tuple (.str r.1 :: vs))), some (.d (.list [rowD r])), some (.d (.str (chS r.2.2))), none, none] μ = .ok (rngD 0 r.2.2.length) μ := by
            rw [rr_rg1_ok (n := (r.2.2.length : Nat)) (μ' := μ) (by simp [hl, -len_s]) (rg_small q5), Int.toNat_natCast]
          rw [show ((0 : Nat) : Int) = 0 from rfl] at e3
          cases hlp : loopF r.2.2 0 vs with
          | some i =>
            rw [hlp] at e3
            simp [-re_lcm, c__law_fault, isiD, fault, optN, ix0, rw2, il0, hne, hk, er, eI, e3, hlp]
          | none =>
            have hle := loopF_len _ _ _ hlp
            rw [hlp] at e3
            by_cases hgt : vs.length = r.2.2.length
            · have hne2 : ¬ ((r.2.2.length : Int) + 1 = 0) := by omega
              simp [hne2, -re_lcm, -len_s, c__law_fault, isiD, fault, optN, ix0, rw2, il0, hne, hk, er, eI, e3, hlp, hl, binD, hgt]
            · have h2 : ¬ ((vs.length : Int) = (r.2.2.length : Int)) := by omega
              simp [-re_lcm, -len_s, c__law_fault, isiD, fault, optN, ix0, rw2, il0, hne, hk, er, eI, e3, hlp, hl, binD, hgt, h2]
      | _ => simp [c__law_fault, isiD, fault, optN, ix0, hne]
  | _ => simp [c__law_fault, isiD, fault, optN]
end K11
set_option Elab.async false
set_option linter.all false
set_option maxRecDepth 100000
set_option maxHeartbeats 2000000
/-! K11: the words of a record. -/
namespace K11
open PySem Ip

theorem int_of {v : PyData} {lo hi : Int} (h : isI v lo hi = true) : ∃ i, v = .int i ∧ lo ≤ i ∧ i ≤ hi := by
  cases v with
  | int i =>
    simp only [isI, Bool.and_eq_true, decide_eq_true_eq] at h
    exact ⟨i, rfl, h⟩
  | _ => cases h
theorem is_record_eq (k : Nat) (x : PyData) (μ : Sto) : callF Pt (gOf T) Cn (k + 5) 7 [.d x] μ = .ok (.d (.bool (fault x).isNone)) μ := by
  rw [call_eq c_is_record rfl rfl, show startE c_is_record [.d x] = [some (.d x)] from rfl]
  cases h : fault x <;> simp [c_is_record, wrong_item_eq, h, optN, isNon]
theorem check_ok (k : Nat) {x : PyData} (h : fault x = none) (μ : Sto) : callF Pt (gOf T) Cn (k + 5) 6 [.d x] μ = .ok (.d .none) μ := by
  rw [call_eq c_check_record rfl rfl, show startE c_check_record [.d x] = [some (.d x), none] from rfl]
  simp [c_check_record, wrong_item_eq, h, optN, isNon]
theorem check_no (k : Nat) {x : PyData} {i : Nat} (h : fault x = some i) (μ : Sto) : callF Pt (gOf T) Cn (k + 5) 6 [.d x] μ = .exc ⟨0, [.int (i : Nat)]⟩ μ := by
  rw [call_eq c_check_record rfl rfl, show startE c_check_record [.d x] = [some (.d x), none] from rfl]
  simp [c_check_record, wrong_item_eq, h, optN, isNon]
/-- the words of a field -/
def fw (f : Fm) (v : PyData) : List PyData := match f, v with
  | .n, .tuple xs => xs
  | .t, _ => []
  | .m, v => [if isNon v then .int 0 else v]
  | .w, .tuple xs => .int (xs.length : Nat) :: xs
  | .z, .int i => [.int (i / 65536), .int (i % 65536)]
  | .o, .int i => [.int (i / 65536), .int (i % 65536)]
  | _, v => [v]
/-- its flag -/
def fb (f : Fm) (v : PyData) : Option Int := match f, v with
  | .t, .int i => some i
  | .m, v => some (if isNon v then 0 else 1)
  | _, _ => none
theorem fw_len {f : Fm} {v : PyData} (h : good f v = true) : (fw f v).length ≤ 29 := by
  cases f with
  | n =>
    simp only [good, nameB] at h
    split at h
    · simp [fw]
    · cases h
  | w =>
    simp only [good] at h
    split at h
    · simp only [Bool.and_eq_true, decide_eq_true_eq] at h
      simp only [fw, List.length_cons]
      omega
    · cases h
  | t => simp [fw]
  | m => simp [fw]
  | z => obtain ⟨i, rfl, _⟩ := int_of h; simp [fw]
  | o => obtain ⟨i, rfl, _⟩ := int_of h; simp [fw]
  | g => simp [fw]
  | k => simp [fw]
theorem split_eq (k : Nat) (i : Int) (μ : Sto) : callF Pt (gOf T) Cn (k + 1) 2 [.d (.int i)] μ = .ok (.d (.tuple [.int (i / 65536), .int (i % 65536)])) μ := by
  rw [call_eq c_split_number rfl rfl, show startE c_split_number [.d (.int i)] = [some (.d (.int i))] from rfl]
  have h2 : 2 ≤ lim := by decide
  have hs : sml 65536 = true := sml_of (by decide) (by decide)
  simp [c_split_number, binD, h2, hs]
theorem in_nl {f : Fm} : inD (.str f.nm) (.tuple [.str "number", .str "link"]) = some (decide (f = .o ∨ f = .z)) := by
  cases f <;> decide +kernel
theorem in_tm {f : Fm} : inD (.str f.nm) (.tuple [.str "tree", .str "maybe"]) = some (decide (f = .t ∨ f = .m)) := by
  cases f <;> decide +kernel
theorem in_nnl {f : Fm} : inD (.str f.nm) (.tuple [.str "name", .str "number", .str "link"]) = some (decide (f = .n ∨ f = .o ∨ f = .z)) := by
  cases f <;> decide +kernel
theorem in_zo {f : Fm} : inD (.str f.ch) (.str "zo") = some (decide (f = .z ∨ f = .o)) := by
  cases f <;> decide +kernel
theorem in_ctm {f : Fm} : inD (.str f.ch) (.str "tm") = some (decide (f = .t ∨ f = .m)) := by
  cases f <;> decide +kernel
theorem in_nzo {f : Fm} : inD (.str f.ch) (.str "nzo") = some (decide (f = .n ∨ f = .z ∨ f = .o)) := by
  cases f <;> decide +kernel
theorem cm_in {x y : PyData} : cmpD .in_ x y = inD x y := rfl
theorem l1 : 1 ≤ lim := by decide
theorem l2 : 2 ≤ lim := by decide
theorem l3 : 3 ≤ lim := by decide
theorem l0 : 0 ≤ lim := by decide
theorem field_words_eq (k : Nat) {f : Fm} {v : PyData} (h : good f v = true) (μ : Sto) : callF Pt (gOf T) Cn (k + 2) 8 [.d (.str f.nm), .d v] μ = .ok (.d (.list (fw f v))) μ := by
  rw [call_eq c_field_words rfl rfl, show startE c_field_words [.d (.str f.nm), .d v] = [some (.d (.str f.nm)), some (.d v)] from rfl]
  cases f with
  | n =>
    simp only [good, nameB] at h
    split at h
    · simp [c_field_words, ln_n, nm_iff, fw, re_lis_d (x := .tuple _) (μ' := μ)]
    · cases h
  | t => simp [c_field_words, ln_n, ln_t, nm_iff, fw, l0]
  | m => cases hv : isNon v <;> simp [c_field_words, ln_n, ln_t, ln_m, nm_iff, fw, hv, l1]
  | w =>
    simp only [good] at h
    split at h
    · rename_i xs
      simp only [Bool.and_eq_true, decide_eq_true_eq] at h
      have e := add_l (xs := [.int (xs.length : Nat)]) (ys := xs) (small_lim (by simp only [List.length_singleton]; omega))
      have e2 : evalE (callF Pt (gOf T) Cn (k + 1)) (gOf T) (.lis false (.var 1)) [some (.d (.str Fm.w.nm)), some (.d (.tuple xs))] μ = .ok (.d (.list xs)) μ := by
        rw [re_lis_d (x := .tuple xs) (μ' := μ) (by simp)]
        simp
      simp [c_field_words, ln_n, ln_t, ln_m, ln_w, nm_iff, fw, l1, e, e2]
    · cases h
  | z =>
    obtain ⟨i, rfl, _⟩ := int_of h
    have e2 : evalE (callF Pt (gOf T) Cn (k + 1)) (gOf T) (.lis false (.call 2 (.cons (.var 1) .nil))) [some (.d (.str Fm.z.nm)), some (.d (.int i))] μ = .ok (.d (.list [.int (i / 65536), .int (i % 65536)])) μ := by
      rw [re_lis_d (x := .tuple [.int (i / 65536), .int (i % 65536)]) (μ' := μ) (by simp [split_eq])]
      simp
    have e3 := in_nl (f := .z)
    simp [c_field_words, show ("name" : Str) = Fm.nm .n from rfl, ln_t, ln_m, ln_w, nm_iff, fw, l2, e2, cm_in, e3]
  | o =>
    obtain ⟨i, rfl, _⟩ := int_of h
    have e2 : evalE (callF Pt (gOf T) Cn (k + 1)) (gOf T) (.lis false (.call 2 (.cons (.var 1) .nil))) [some (.d (.str Fm.o.nm)), some (.d (.int i))] μ = .ok (.d (.list [.int (i / 65536), .int (i % 65536)])) μ := by
      rw [re_lis_d (x := .tuple [.int (i / 65536), .int (i % 65536)]) (μ' := μ) (by simp [split_eq])]
      simp
    have e3 := in_nl (f := .o)
    simp [c_field_words, show ("name" : Str) = Fm.nm .n from rfl, ln_t, ln_m, ln_w, nm_iff, fw, l2, e2, cm_in, e3]
  | g =>
    have e3 := in_nl (f := .g)
    simp [c_field_words, ln_n, ln_t, ln_m, ln_w, nm_iff, fw, l2, cm_in, e3, l1]
  | k =>
    have e3 := in_nl (f := .k)
    simp [c_field_words, ln_n, ln_t, ln_m, ln_w, nm_iff, fw, l2, cm_in, e3, l1]
end K11
set_option Elab.async false
set_option linter.all false
set_option maxRecDepth 100000
set_option maxHeartbeats 2000000
/-! K11: the words of a whole record, by both hands. -/
namespace K11
open PySem Ip

def fst1 (f : Fm) (v : PyData) (a b : Int) : Int := match fb f v with
  | none => a
  | some c => a + b * c
def flg1 (f : Fm) (v : PyData) (b : Int) : Int := match fb f v with
  | none => b
  | some _ => b * 2
def fstW : List Fm → List PyData → Int → Int → Int
  | f :: fs, v :: vs, a, b => fstW fs vs (fst1 f v a b) (flg1 f v b)
  | _, _, a, _ => a
def wsW : List Fm → List PyData → List PyData
  | f :: fs, v :: vs => fw f v ++ wsW fs vs
  | _, _ => []
def wordsOf (r : Row) (vs : List PyData) : List PyData := .int (fstW r.2.2 vs (r.2.1 : Nat) 16) :: wsW r.2.2 vs
theorem sml_pow {e : Nat} (h : e ≤ 20) : sml (2 ^ e) = true := by
  have h1 : (2 : Nat) ^ e ≤ 2 ^ 20 := Nat.pow_le_pow_right (by decide) h
  have h2 : ((2 : Int) ^ e) = ((2 ^ e : Nat) : Int) := by simp
  rw [h2]
  have h3 : (2 : Nat) ^ 20 = 1048576 := by decide
  rw [h3] at h1
  generalize (2 : Nat) ^ e = n at h1
  exact sml_of (by omega) (by omega)
theorem flg1_pow {f : Fm} {v : PyData} {e : Nat} : ∃ e', e ≤ e' ∧ e' ≤ e + 1 ∧ flg1 f v (2 ^ e) = 2 ^ e' := by
  unfold flg1
  cases fb f v with
  | none => exact ⟨e, Nat.le_refl _, by omega, rfl⟩
  | some c => exact ⟨e + 1, by omega, Nat.le_refl _, by rw [Int.pow_succ]⟩
theorem flag_packed {Φ : Nat → List Val → Sto → Res Val} {w0 w1 w4 w5 w8 : Option Val} {a b : Int} {f : Fm} {v : PyData} {μ : Sto} (hg : good f v = true) (hb : sml b = true) : ∃ w8', evalS Φ (gOf T) Cn (.iff (.cmp .in_ (.var 6) (.tup (cesOf [(.kst (.str "tree")), (.kst (.str "maybe"))]))) (cssOf [(.set 8 (.ite (.cmp .eq (.var 6) (.kst (.str "tree"))) (.cmp .eq (.var 7) (.kst (.int (1)))) (.cmp .isn (.var 7) (.kst .none)))), (.aug 2 .add (.ite (.var 8) (.var 3) (.kst (.int (0))))), (.set 3 (.bin .mul (.var 3) (.kst (.int (2)))))]) (cssOf [])) [w0, w1, some (.d (.int a)), some (.d (.int b)), w4, w5, some (.d (.str f.nm)), some (.d v), w8] μ =
    .ok (.nx [w0, w1, some (.d (.int (fst1 f v a b))), some (.d (.int (flg1 f v b))), w4, w5, some (.d (.str f.nm)), some (.d v), w8']) μ := by
  have hs2 : sml 2 = true := sml_of (by decide) (by decide)
  have hm := mul_ok hb hs2
  by_cases hf : f = .t ∨ f = .m
  · have hc : evalE Φ (gOf T) (.cmp .in_ (.var 6) (.tup (cesOf [(.kst (.str "tree")), (.kst (.str "maybe"))]))) [w0, w1, some (.d (.int a)), some (.d (.int b)), w4, w5, some (.d (.str f.nm)), some (.d v), w8] μ = .ok (.d (.bool true)) μ := by
      simp [l2, cm_in, in_tm, hf]
    have key : ∃ r : Bool, ∃ c : Int, fb f v = some c ∧ c = (if r then 1 else 0) ∧ evalE Φ (gOf T) (.ite (.cmp .eq (.var 6) (.kst (.str "tree"))) (.cmp .eq (.var 7) (.kst (.int (1)))) (.cmp .isn (.var 7) (.kst .none))) [w0, w1, some (.d (.int a)), some (.d (.int b)), w4, w5, some (.d (.str f.nm)), some (.d v), w8] μ = .ok (.d (.bool r)) μ := by
      rcases hf with rfl | rfl
      · obtain ⟨i, rfl, h0, h1⟩ := int_of hg
        refine ⟨decide (i = 1), i, rfl, ?_, by simp [ln_t, nm_iff]⟩
        by_cases h : i = 1
        · simp [h]
        · simp [h]
          omega
      · refine ⟨!isNon v, _, rfl, ?_, by simp [ln_t, nm_iff]⟩
        cases isNon v <;> rfl
    obtain ⟨r, c, e1, e2, e3⟩ := key
    refine ⟨some (.d (.bool r)), ?_⟩
    simp only [css_cons, css_nil]
    rw [s_if_t hc, ss_nx (s_set e3)]
    rw [ss_nx (s_aug (x := a) (y := if r then b else 0) (z := .int (a + if r then b else 0)) (μ' := μ) rfl ?_ rfl)]
    · rw [ss_nx (s_set (w := .d (.int (b * 2))) (μ' := μ) ?_), rss_nil]
      · have q1 : fst1 f v a b = a + if r then b else 0 := by
          unfold fst1
          rw [e1]
          show a + b * c = _
          rw [e2]
          cases r <;> simp
        have q2 : flg1 f v b = b * 2 := by
          unfold flg1
          rw [e1]
        rw [q1, q2]
        rfl
      · simp [hm]
    · cases r <;> simp
  · have hn : fb f v = none := by
      cases f <;> first | rfl | (simp at hf)
    refine ⟨w8, ?_⟩
    simp [l2, cm_in, in_tm, hf, fst1, flg1, hn]
theorem body_packed {k : Nat} {xs ws : List PyData} {w1 w7 w8 : Option Val} {a b : Int} {at_ : Nat} {f : Fm} {v : PyData} {μ : Sto} (hx : xs[at_ + 1]? = some v) (hg : good f v = true) (hb : sml b = true) (hl : ws.length + 29 ≤ lim) : ∃ w8', evalSs (callF Pt (gOf T) Cn (k + 2)) (gOf T) Cn b_packed_0 [some (.d (.tuple xs)), w1, some (.d (.int a)), some (.d (.int b)), some (.h μ.length), some (.d (.int (at_ : Nat))), some (.d (.str f.nm)), w7, w8] (μ ++ [.lst ws]) =
    .ok (.nx [some (.d (.tuple xs)), w1, some (.d (.int (fst1 f v a b))), some (.d (.int (flg1 f v b))), some (.h μ.length), some (.d (.int (at_ : Nat))), some (.d (.str f.nm)), some (.d v), w8']) (μ ++ [.lst (ws ++ fw f v)]) := by
  have e := (ixn hx).1
  have e' : idxD (.tuple xs) (.int ((at_ : Int) + 1)) = some v := by simpa using e
  obtain ⟨w8', h2⟩ := flag_packed (Φ := callF Pt (gOf T) Cn (k + 2)) (w0 := some (.d (.tuple xs))) (w1 := w1) (w4 := some (.h μ.length)) (w5 := some (.d (.int (at_ : Nat)))) (w8 := w8) (a := a) (b := b) (μ := μ ++ [.lst ws]) hg hb
  refine ⟨w8', ?_⟩
  have hw := fw_len hg
  refine (ss_nx (s_set (w := .d v) (μ' := μ ++ [.lst ws]) (by simp [add_ok, e']))).trans ?_
  refine (ss_nx h2).trans ?_
  refine (ss_nx (s_ex (mm_ext (n := μ.length) (xs := ws) (ys := fw f v) rfl get_last (by simp [field_words_eq k hg]) (by omega)))).trans ?_
  rw [css_nil, rss_nil, set_last]
theorem loop_packed {k : Nat} {xs : List PyData} {w1 : Option Val} {μ : Sto} : ∀ (fs : List Fm) (at_ : Nat) (vs : List PyData) (a : Int) (e : Nat) (ws : List PyData), (∃ pre, xs = pre ++ vs ∧ pre.length = at_ + 1) → loopF fs at_ vs = none → e + fs.length ≤ 20 → ws.length + 29 * fs.length ≤ 1000 → ∀ w5 w6 w7 w8, ∃ b' w5' w6' w7' w8', forL (.cons (.nm 5) (.cons (.nm 6) .nil)) (evalSs (callF Pt (gOf T) Cn (k + 2)) (gOf T) Cn b_packed_0) (enuD at_ (fs.map fun f => .str f.nm)) [some (.d (.tuple xs)), w1, some (.d (.int a)), some (.d (.int (2 ^ e))), some (.h μ.length), w5, w6, w7, w8] (μ ++ [.lst ws]) =
    .ok (.nx [some (.d (.tuple xs)), w1, some (.d (.int (fstW fs vs a (2 ^ e)))), b', some (.h μ.length), w5', w6', w7', w8']) (μ ++ [.lst (ws ++ wsW fs vs)])
  | [], at_, vs, a, e, ws, _, _, _, _, w5, w6, w7, w8 => ⟨_, w5, w6, w7, w8, by simp [enuD, forL, fstW, wsW]; rfl⟩
  | f :: fs, at_, [], _, _, _, _, hl, _, _, _, _, _, _ => by simp [loopF] at hl
  | f :: fs, at_, v :: vs, a, e, ws, ⟨pre, h1, h2⟩, hl, he, hw, w5, w6, w7, w8 => by
    have hx : xs[at_ + 1]? = some v := by
      rw [h1, List.getElem?_append_right (by omega), h2]
      simp
    simp only [loopF] at hl
    simp only [List.length_cons] at he hw
    cases hg : good f v with
    | false => simp [hg] at hl
    | true =>
      simp only [hg, if_true] at hl
      have hfl := fw_len hg
      obtain ⟨w8', e1⟩ := body_packed (k := k) (w1 := w1) (w7 := w7) (w8 := w8) (a := a) (b := 2 ^ e) (μ := μ) hx hg (sml_pow (by omega)) (ws := ws) (small_lim (by omega))
      obtain ⟨e', q1, q2, q3⟩ := flg1_pow (f := f) (v := v) (e := e)
      rw [q3] at e1
      obtain ⟨b', w5', w6', w7', w8'', ih⟩ := loop_packed (k := k) (xs := xs) (w1 := w1) (μ := μ) fs (at_ + 1) vs (fst1 f v a (2 ^ e)) e' (ws ++ fw f v) ⟨pre ++ [v], by rw [h1]; simp, by simp [h2]⟩ hl (by omega) (by rw [List.length_append]; omega) (some (.d (.int (at_ : Nat)))) (some (.d (.str f.nm))) (some (.d v)) w8'
      refine ⟨b', w5', w6', w7', w8'', ?_⟩
      simp only [List.map_cons, enuD]
      rw [forL_nx (ρ1 := [some (.d (.tuple xs)), w1, some (.d (.int a)), some (.d (.int (2 ^ e))), some (.h μ.length), some (.d (.int (at_ : Nat))), some (.d (.str f.nm)), w7, w8]) rfl e1, ih]
      simp only [fstW, wsW, q3, List.append_assoc]
theorem fault_none {s : Str} {vs : List PyData} (h : fault (.tuple (.str s :: vs)) = none) : ∃ r, look s = some r ∧ loopF r.2.2 0 vs = none ∧ vs.length = r.2.2.length := by
  simp only [fault] at h
  cases hk : look s with
  | none => simp [hk] at h
  | some r =>
    simp only [hk] at h
    cases hl : loopF r.2.2 0 vs with
    | some i => simp [hl] at h
    | none =>
      simp only [hl] at h
      by_cases he : vs.length = r.2.2.length
      · exact ⟨r, rfl, hl, he⟩
      · simp [he] at h
theorem fault_tup {x : PyData} (h : fault x = none) : ∃ s vs r, x = .tuple (.str s :: vs) ∧ look s = some r ∧ loopF r.2.2 0 vs = none ∧ vs.length = r.2.2.length := by
  cases x with
  | tuple xs =>
    match xs with
    | [] => cases h
    | y :: vs =>
      cases y with
      | str s =>
        obtain ⟨r, hr⟩ := fault_none h
        exact ⟨s, vs, r, rfl, hr⟩
      | _ => cases h
  | _ => cases h
theorem wsW_len : ∀ (fs : List Fm) (at_ : Nat) (vs : List PyData), loopF fs at_ vs = none → (wsW fs vs).length ≤ 29 * fs.length
  | [], _, _, _ => by simp [wsW]
  | _ :: _, _, [], h => by simp [loopF] at h
  | f :: fs, at_, v :: vs, h => by
    simp only [loopF] at h
    cases hg : good f v with
    | false => simp [hg] at h
    | true =>
      simp only [hg, if_true] at h
      have := wsW_len fs _ vs h
      have := fw_len hg
      simp only [wsW, List.length_append, List.length_cons]
      omega
theorem packed_eq (k : Nat) {s : Str} {vs : List PyData} {r : Row} (hk : look s = some r) (hlp : loopF r.2.2 0 vs = none) (μ : Sto) : callF Pt (gOf T) Cn (k + 3) 9 [.d (.tuple (.str s :: vs))] μ = .ok (.h μ.length) (μ ++ [.lst (wordsOf r vs)]) := by
  obtain ⟨hr, rfl⟩ := look_mem hk
  obtain ⟨q1, q2, q3, q4, q5, q6, q7⟩ := row_all r hr
  rw [call_eq c_packed rfl rfl, show startE c_packed [.d (.tuple (.str r.1 :: vs))] = [some (.d (.tuple (.str r.1 :: vs))), none, none, none, none, none, none, none, none] from rfl]
  have e1 := tix_of q2
  have e2 : idxD (.tuple (formsL.map tupS)) (.int (r.2.1 : Nat)) = some (tupS (r.2.2.map Fm.nm)) := (ixn (by rw [List.getElem?_map, q3]; rfl)).1
  have e4 : itemsOf (tupS (r.2.2.map Fm.nm)) = some (r.2.2.map fun f => .str f.nm) := by simp [tupS]
  obtain ⟨b', w5, w6, w7, w8, e3⟩ := loop_packed (k := k) (xs := .str r.1 :: vs) (w1 := some (.d (.int (r.2.1 : Nat)))) (μ := μ) r.2.2 0 vs (r.2.1 : Nat) 4 [] ⟨[.str r.1], rfl, rfl⟩ hlp (by omega) (by simp; omega) none none none none
  have hle := wsW_len _ _ _ hlp
  refine (congrArg _ (ss_nx (s_set (w := .d (.int (r.2.1 : Nat))) (μ' := μ) (by simp [ix0, pmcD, e1])))).trans ?_
  refine (congrArg _ (ss_nx (s_set (w := .d (.int (r.2.1 : Nat))) (μ' := μ) (by simp)))).trans ?_
  refine (congrArg _ (ss_nx (s_set (w := .d (.int 16)) (μ' := μ) (by simp)))).trans ?_
  refine (congrArg _ (ss_nx (s_set (w := .h μ.length) (μ' := μ ++ [.lst []]) (by simp [l0])))).trans ?_
  refine (congrArg _ (ss_nx ((s_for (xs := enuD 0 (r.2.2.map fun f => .str f.nm)) (μ' := μ ++ [.lst []]) (by simp [e2, e4])).trans e3))).trans ?_
  rw [List.nil_append]
  refine (congrArg _ (ss_rt (s_ret (re_addh (xs := [.int (fstW r.2.2 vs (r.2.1 : Nat) (2 ^ 4))]) (ys := wsW r.2.2 vs) (wa := .d (.list [.int (fstW r.2.2 vs (r.2.1 : Nat) (2 ^ 4))])) (wb := .h μ.length) (μ1 := μ ++ [.lst (wsW r.2.2 vs)]) (μ2 := μ ++ [.lst (wsW r.2.2 vs)]) (by simp [l1]) (by simp) rfl rd_last (small_lim (by simp; omega)))))).trans ?_
  rw [fin_hk]
  rfl
theorem record_words_ok (k : Nat) {x : PyData} {s : Str} {vs : List PyData} {r : Row} (hx : x = .tuple (.str s :: vs)) (h : fault x = none) (hk : look s = some r) (hlp : loopF r.2.2 0 vs = none) (μ : Sto) : callF Pt (gOf T) Cn (k + 6) 10 [.d x] μ = .ok (.h μ.length) (μ ++ [.lst (wordsOf r vs)]) := by
  rw [call_eq c_record_words rfl rfl, show startE c_record_words [.d x] = [some (.d x)] from rfl]
  refine (congrArg _ (ss_nx (s_ex (w := .d .none) (μ' := μ) (by simp [check_ok k h])))).trans ?_
  refine (congrArg _ (ss_rt (s_ret (w := .h μ.length) (μ' := μ ++ [.lst (wordsOf r vs)]) (by subst hx; simp [packed_eq (k + 2) hk hlp])))).trans fin_hn
theorem record_words_no (k : Nat) {x : PyData} {i : Nat} (h : fault x = some i) (μ : Sto) : callF Pt (gOf T) Cn (k + 6) 10 [.d x] μ = .exc ⟨0, [.int (i : Nat)]⟩ μ := by
  rw [call_eq c_record_words rfl rfl, show startE c_record_words [.d x] = [some (.d x)] from rfl]
  simp [c_record_words, check_no k h]
end K11
set_option Elab.async false
set_option linter.all false
set_option maxRecDepth 100000
set_option maxHeartbeats 2000000
/-! K11: the law reckons the words of a record. -/
namespace K11
open PySem Ip

theorem at0 {x : PyData} {xs : List PyData} : ixP (x :: xs).length (0 : Int) = some 0 := by
  simp [ixP, L2.ixN]
theorem rd_lastI {J : Sto} {xs : List PyData} : rd (J ++ [.lst xs]) (.h J.length) = some (.list xs) := rd_last
theorem body_lw {Φ : Nat → List Val → Sto → Res Val} {xs ws : List PyData} {w1 w2 w7 w8 : Option Val} {all : List Fm} {a b : Int} {at_ : Nat} {f : Fm} {v : PyData} {J : Sto} (hf : all[at_]? = some f) (h7 : all.length ≤ 7) (hx : xs[at_ + 1]? = some v) (hg : good f v = true) (hb : sml b = true) (hl : ws.length + 30 ≤ 1000) :
    ∃ κ, evalSs Φ (gOf T) Cn b__law_words_0 [some (.d (.tuple xs)), w1, w2, some (.d (.str (chS all))), some (.d (.int b)), some (.h J.length), some (.d (.int (at_ : Nat))), w7, w8] (J ++ [.lst (.int a :: ws)]) =
    .ok (.nx [some (.d (.tuple xs)), w1, w2, some (.d (.str (chS all))), some (.d (.int (flg1 f v b))), some (.h (J ++ κ).length), some (.d (.int (at_ : Nat))), some (.d v), w8]) ((J ++ κ) ++ [.lst (.int (fst1 f v a b) :: (ws ++ fw f v))]) := by
  have e := (ixn hx).1
  have e' : idxD (.tuple xs) (.int ((at_ : Int) + 1)) = some v := by simpa using e
  have e2 := ch_ix hf h7
  have hs2 : sml 2 = true := sml_of (by decide) (by decide)
  have hs6 : sml 65536 = true := sml_of (by decide) (by decide)
  have hm := mul_ok hb hs2
  have hfl := fw_len hg
  have s0 := ss_nx (Φ := Φ) (G := gOf T) (C := Cn) (a := .set 7 (.idx (.var 0) (.bin .add (.var 6) (.kst (.int (1)))))) (ρ := [some (.d (.tuple xs)), w1, w2, some (.d (.str (chS all))), some (.d (.int b)), some (.h J.length), some (.d (.int (at_ : Nat))), w7, w8]) (μ := J ++ [.lst (.int a :: ws)]) (as := cssOf (match b__law_words_0 with | .cons _ (.cons x _) => [x] | _ => [])) (s_set (w := .d v) (μ' := J ++ [.lst (.int a :: ws)]) (by simp [add_ok, e']))
  cases f with
  | t =>
    obtain ⟨i, rfl, h0, h1⟩ := int_of hg
    have hmi := mul_ok hb (sml_of h0 (by omega))
    refine ⟨[], s0.trans ?_⟩
    rw [List.append_nil]
    refine (ss_nx ((s_if_t (μ' := J ++ [.lst (.int a :: ws)]) (by simp [e2, lc_t, ch_iff])).trans ?_)).trans (by simp only [css_nil]; exact rss_nil)
    refine (ss_nx (s_sto (n := J.length) (j := 0) (k := 0) (y := .int (a + b * i)) (xs := .int a :: ws) (μ' := J ++ [.lst (.int a :: ws)]) (by simp [rd_last, il0, hmi, add_ok]) (by simp) (by simp) get_last at0)).trans ?_
    rw [set_last]
    refine (ss_nx (s_set (w := .d (.int (b * 2))) (μ' := J ++ [.lst (.int (a + b * i) :: ws)]) (by simp [hm]))).trans ?_
    rw [css_nil, rss_nil]
    simp [flg1, fst1, fb, fw]
  | m =>
    refine ⟨[], s0.trans ?_⟩
    rw [List.append_nil]
    refine (ss_nx ((s_if_f (μ' := J ++ [.lst (.int a :: ws)]) (by simp [e2, lc_t, ch_iff])).trans ?_)).trans (by simp only [css_nil]; exact rss_nil)
    refine (ss_nx ((s_if_t (μ' := J ++ [.lst (.int a :: ws)]) (by simp [e2, lc_m, ch_iff])).trans ?_)).trans (by simp only [css_nil]; exact rss_nil)
    refine (ss_nx (s_sto (n := J.length) (j := 0) (k := 0) (y := .int (a + if isNon v then 0 else b)) (xs := .int a :: ws) (μ' := J ++ [.lst (.int a :: ws)]) (by cases hv : isNon v <;> simp [rd_last, il0, add_ok, hv]) (by simp) (by simp) get_last at0)).trans ?_
    rw [set_last]
    refine (ss_nx (s_set (w := .d (.int (b * 2))) (μ' := J ++ [.lst (.int (a + if isNon v then 0 else b) :: ws)]) (by simp [hm]))).trans ?_
    refine (ss_nx (s_ex (mm_app (n := J.length) (xs := .int (a + if isNon v then 0 else b) :: ws) (y := if isNon v then .int 0 else v) rfl get_last (by cases hv : isNon v <;> simp [hv]) (by unfold lim; simp only [List.length_cons]; omega)))).trans ?_
    rw [css_nil, rss_nil, set_last]
    cases hv : isNon v <;> simp [flg1, fst1, fb, fw, hv]
  | n =>
    simp only [good, nameB] at hg
    split at hg
    · rename_i x y
      refine ⟨[.lst (.int a :: ws)], s0.trans ?_⟩
      refine (ss_nx ((s_if_f (μ' := J ++ [.lst (.int a :: ws)]) (by simp [e2, lc_t, ch_iff])).trans ?_)).trans (by simp only [css_nil]; exact rss_nil)
      refine (ss_nx ((s_if_f (μ' := J ++ [.lst (.int a :: ws)]) (by simp [e2, lc_m, ch_iff])).trans ?_)).trans (by simp only [css_nil]; exact rss_nil)
      refine (ss_nx ((s_if_t (μ' := J ++ [.lst (.int a :: ws)]) (by simp [e2, lc_n, ch_iff])).trans ?_)).trans (by simp only [css_nil]; exact rss_nil)
      refine (ss_nx (s_set (re_addh (xs := .int a :: ws) (ys := [x, y]) (wa := .h J.length) (wb := .d (.list [x, y])) (μ1 := J ++ [.lst (.int a :: ws)]) (μ2 := J ++ [.lst (.int a :: ws)]) (by simp) (by simp [ix0, ix1, l2]) rd_last rfl (small_lim (by simp; omega))))).trans ?_
      rw [css_nil, rss_nil]
      rfl
    · cases hg
  | w =>
    simp only [good] at hg
    split at hg
    · rename_i ys
      simp only [Bool.and_eq_true, decide_eq_true_eq] at hg
      have hadd : binD .add (.list (.int a :: ws)) (.list [.int (ys.length : Nat)]) = some (.list (.int a :: (ws ++ [.int (ys.length : Nat)]))) := add_l (xs := .int a :: ws) (ys := [.int (ys.length : Nat)]) (small_lim (by simp; omega))
      refine ⟨[.lst (.int a :: ws)], s0.trans ?_⟩
      refine (ss_nx ((s_if_f (μ' := J ++ [.lst (.int a :: ws)]) (by simp [e2, lc_t, ch_iff])).trans ?_)).trans (by simp only [css_nil]; exact rss_nil)
      refine (ss_nx ((s_if_f (μ' := J ++ [.lst (.int a :: ws)]) (by simp [e2, lc_m, ch_iff])).trans ?_)).trans (by simp only [css_nil]; exact rss_nil)
      refine (ss_nx ((s_if_f (μ' := J ++ [.lst (.int a :: ws)]) (by simp [e2, lc_n, ch_iff])).trans ?_)).trans (by simp only [css_nil]; exact rss_nil)
      refine (ss_nx ((s_if_f (μ' := J ++ [.lst (.int a :: ws)]) (by simp [e2, cm_in, in_zo])).trans ?_)).trans (by simp only [css_nil]; exact rss_nil)
      refine (ss_nx ((s_if_t (μ' := J ++ [.lst (.int a :: ws)]) (by simp [e2, lc_w, ch_iff])).trans ?_)).trans (by simp only [css_nil]; exact rss_nil)
      refine (ss_nx (s_set (re_addh (xs := (.int a :: ws) ++ [.int (ys.length : Nat)]) (ys := ys) (wa := .d (.list ((.int a :: ws) ++ [.int (ys.length : Nat)]))) (wb := .d (.list ys)) (μ1 := J ++ [.lst (.int a :: ws)]) (μ2 := J ++ [.lst (.int a :: ws)]) (by simp [rd_last, l1, hadd]) (by rw [re_lis_d (x := .tuple ys) (μ' := J ++ [.lst (.int a :: ws)]) (by simp)]; simp) rfl rfl (small_lim (by simp; omega))))).trans ?_
      rw [css_nil, rss_nil]
      simp [flg1, fst1, fb, fw]
    · cases hg
  | z =>
    obtain ⟨i, rfl, h0, h1⟩ := int_of hg
    refine ⟨[.lst (.int a :: ws)], s0.trans ?_⟩
    refine (ss_nx ((s_if_f (μ' := J ++ [.lst (.int a :: ws)]) (by simp [e2, lc_t, ch_iff])).trans ?_)).trans (by simp only [css_nil]; exact rss_nil)
    refine (ss_nx ((s_if_f (μ' := J ++ [.lst (.int a :: ws)]) (by simp [e2, lc_m, ch_iff])).trans ?_)).trans (by simp only [css_nil]; exact rss_nil)
    refine (ss_nx ((s_if_f (μ' := J ++ [.lst (.int a :: ws)]) (by simp [e2, lc_n, ch_iff])).trans ?_)).trans (by simp only [css_nil]; exact rss_nil)
    refine (ss_nx ((s_if_t (μ' := J ++ [.lst (.int a :: ws)]) (by simp [e2, cm_in, in_zo])).trans ?_)).trans (by simp only [css_nil]; exact rss_nil)
    refine (ss_nx (s_set (re_addh (xs := .int a :: ws) (ys := [.int (i / 65536), .int (i % 65536)]) (wa := .h J.length) (wb := .d (.list [.int (i / 65536), .int (i % 65536)])) (μ1 := J ++ [.lst (.int a :: ws)]) (μ2 := J ++ [.lst (.int a :: ws)]) (by simp) (by simp [l2, binD, hs6]) rd_last rfl (small_lim (by simp; omega))))).trans ?_
    rw [css_nil, rss_nil]
    rfl
  | o =>
    obtain ⟨i, rfl, h0, h1⟩ := int_of hg
    refine ⟨[.lst (.int a :: ws)], s0.trans ?_⟩
    refine (ss_nx ((s_if_f (μ' := J ++ [.lst (.int a :: ws)]) (by simp [e2, lc_t, ch_iff])).trans ?_)).trans (by simp only [css_nil]; exact rss_nil)
    refine (ss_nx ((s_if_f (μ' := J ++ [.lst (.int a :: ws)]) (by simp [e2, lc_m, ch_iff])).trans ?_)).trans (by simp only [css_nil]; exact rss_nil)
    refine (ss_nx ((s_if_f (μ' := J ++ [.lst (.int a :: ws)]) (by simp [e2, lc_n, ch_iff])).trans ?_)).trans (by simp only [css_nil]; exact rss_nil)
    refine (ss_nx ((s_if_t (μ' := J ++ [.lst (.int a :: ws)]) (by simp [e2, cm_in, in_zo])).trans ?_)).trans (by simp only [css_nil]; exact rss_nil)
    refine (ss_nx (s_set (re_addh (xs := .int a :: ws) (ys := [.int (i / 65536), .int (i % 65536)]) (wa := .h J.length) (wb := .d (.list [.int (i / 65536), .int (i % 65536)])) (μ1 := J ++ [.lst (.int a :: ws)]) (μ2 := J ++ [.lst (.int a :: ws)]) (by simp) (by simp [l2, binD, hs6]) rd_last rfl (small_lim (by simp; omega))))).trans ?_
    rw [css_nil, rss_nil]
    rfl
  | g =>
    refine ⟨[], s0.trans ?_⟩
    rw [List.append_nil]
    refine (ss_nx ((s_if_f (μ' := J ++ [.lst (.int a :: ws)]) (by simp [e2, lc_t, ch_iff])).trans ?_)).trans (by simp only [css_nil]; exact rss_nil)
    refine (ss_nx ((s_if_f (μ' := J ++ [.lst (.int a :: ws)]) (by simp [e2, lc_m, ch_iff])).trans ?_)).trans (by simp only [css_nil]; exact rss_nil)
    refine (ss_nx ((s_if_f (μ' := J ++ [.lst (.int a :: ws)]) (by simp [e2, lc_n, ch_iff])).trans ?_)).trans (by simp only [css_nil]; exact rss_nil)
    refine (ss_nx ((s_if_f (μ' := J ++ [.lst (.int a :: ws)]) (by simp [e2, cm_in, in_zo])).trans ?_)).trans (by simp only [css_nil]; exact rss_nil)
    refine (ss_nx ((s_if_f (μ' := J ++ [.lst (.int a :: ws)]) (by simp [e2, lc_w, ch_iff])).trans ?_)).trans (by simp only [css_nil]; exact rss_nil)
    refine (ss_nx (s_ex (mm_app (n := J.length) (xs := .int a :: ws) (y := v) rfl get_last (by simp) (by unfold lim; simp only [List.length_cons]; omega)))).trans ?_
    rw [css_nil, rss_nil, set_last]
    rfl
  | k =>
    refine ⟨[], s0.trans ?_⟩
    rw [List.append_nil]
    refine (ss_nx ((s_if_f (μ' := J ++ [.lst (.int a :: ws)]) (by simp [e2, lc_t, ch_iff])).trans ?_)).trans (by simp only [css_nil]; exact rss_nil)
    refine (ss_nx ((s_if_f (μ' := J ++ [.lst (.int a :: ws)]) (by simp [e2, lc_m, ch_iff])).trans ?_)).trans (by simp only [css_nil]; exact rss_nil)
    refine (ss_nx ((s_if_f (μ' := J ++ [.lst (.int a :: ws)]) (by simp [e2, lc_n, ch_iff])).trans ?_)).trans (by simp only [css_nil]; exact rss_nil)
    refine (ss_nx ((s_if_f (μ' := J ++ [.lst (.int a :: ws)]) (by simp [e2, cm_in, in_zo])).trans ?_)).trans (by simp only [css_nil]; exact rss_nil)
    refine (ss_nx ((s_if_f (μ' := J ++ [.lst (.int a :: ws)]) (by simp [e2, lc_w, ch_iff])).trans ?_)).trans (by simp only [css_nil]; exact rss_nil)
    refine (ss_nx (s_ex (mm_app (n := J.length) (xs := .int a :: ws) (y := v) rfl get_last (by simp) (by unfold lim; simp only [List.length_cons]; omega)))).trans ?_
    rw [css_nil, rss_nil, set_last]
    rfl
end K11
set_option Elab.async false
set_option linter.all false
set_option maxRecDepth 100000
set_option maxHeartbeats 2000000
/-! K11: _law_words, and page and name. -/
namespace K11
open PySem Ip

theorem loop_lw {Φ : Nat → List Val → Sto → Res Val} {xs : List PyData} {w1 w2 w8 : Option Val} {all : List Fm} (h7 : all.length ≤ 7) : ∀ (fs : List Fm) (at_ : Nat) (vs : List PyData) (a : Int) (e : Nat) (ws : List PyData) (J : Sto), (∃ pre, all = pre ++ fs ∧ pre.length = at_) → (∃ pre, xs = pre ++ vs ∧ pre.length = at_ + 1) → loopF fs at_ vs = none → e + fs.length ≤ 20 → ws.length + 30 * fs.length ≤ 900 → ∀ w6 w7, ∃ b' w6' w7' κ,
    forL (.nm 6) (evalSs Φ (gOf T) Cn b__law_words_0) (rngD (at_ : Nat) fs.length) [some (.d (.tuple xs)), w1, w2, some (.d (.str (chS all))), some (.d (.int (2 ^ e))), some (.h J.length), w6, w7, w8] (J ++ [.lst (.int a :: ws)]) =
    .ok (.nx [some (.d (.tuple xs)), w1, w2, some (.d (.str (chS all))), b', some (.h (J ++ κ).length), w6', w7', w8]) ((J ++ κ) ++ [.lst (.int (fstW fs vs a (2 ^ e)) :: (ws ++ wsW fs vs))])
  | [], at_, vs, a, e, ws, J, _, _, _, _, _, w6, w7 => ⟨some (.d (.int (2 ^ e))), w6, w7, [], by simp [rngD, forL, fstW, wsW]⟩
  | f :: fs, at_, [], _, _, _, _, _, _, hl, _, _, _, _ => by simp [loopF] at hl
  | f :: fs, at_, v :: vs, a, e, ws, J, ⟨pa, a1, a2⟩, ⟨pre, h1, h2⟩, hl, he, hw, w6, w7 => by
    have hx : xs[at_ + 1]? = some v := by
      rw [h1, List.getElem?_append_right (by omega), h2]
      simp
    have hf : all[at_]? = some f := by
      rw [a1, List.getElem?_append_right (by omega), a2]
      simp
    simp only [loopF] at hl
    simp only [List.length_cons] at he hw
    cases hg : good f v with
    | false => simp [hg] at hl
    | true =>
      simp only [hg, if_true] at hl
      have hfl := fw_len hg
      obtain ⟨κ, e1⟩ := body_lw (Φ := Φ) (w1 := w1) (w2 := w2) (w7 := w7) (w8 := w8) (a := a) (b := 2 ^ e) (J := J) hf h7 hx hg (sml_pow (by omega)) (ws := ws) (by omega)
      obtain ⟨e', q1, q2, q3⟩ := flg1_pow (f := f) (v := v) (e := e)
      rw [q3] at e1
      obtain ⟨b', w6', w7', κ', ih⟩ := loop_lw (Φ := Φ) (xs := xs) (w1 := w1) (w2 := w2) (w8 := w8) h7 fs (at_ + 1) vs (fst1 f v a (2 ^ e)) e' (ws ++ fw f v) (J ++ κ) ⟨pa ++ [f], by rw [a1]; simp, by simp [a2]⟩ ⟨pre ++ [v], by rw [h1]; simp, by simp [h2]⟩ hl (by omega) (by rw [List.length_append]; omega) (some (.d (.int (at_ : Nat)))) (some (.d v))
      refine ⟨b', w6', w7', κ ++ κ', ?_⟩
      rw [List.length_cons, rng_cons]
      rw [forL_nx (ρ1 := [some (.d (.tuple xs)), w1, w2, some (.d (.str (chS all))), some (.d (.int (2 ^ e))), some (.h J.length), some (.d (.int (at_ : Nat))), w7, w8]) rfl e1]
      rw [show ((at_ : Int) + 1) = ((at_ + 1 : Nat) : Int) by simp, ih]
      simp only [fstW, wsW, q3, List.append_assoc]
theorem law_words_eq (k : Nat) {s : Str} {vs : List PyData} {r : Row} (hk : look s = some r) (hlp : loopF r.2.2 0 vs = none) (μ : Sto) : callF Pt (gOf T) Cn (k + 2) 32 [.d (.tuple (.str s :: vs))] μ = .ok (.h μ.length) (μ ++ [.lst (wordsOf r vs)]) := by
  obtain ⟨hr, rfl⟩ := look_mem hk
  obtain ⟨q1, q2, q3, q4, q5, q6, q7⟩ := row_all r hr
  rw [call_eq c__law_words rfl rfl, show startE c__law_words [.d (.tuple (.str r.1 :: vs))] = [some (.d (.tuple (.str r.1 :: vs))), none, none, none, none, none, none, none, none] from rfl]
  have er := rows_of (Φ := callF Pt (gOf T) Cn (k + 1)) (ρ := [some (.d (.tuple (.str r.1 :: vs))), none, none, none, none, none, none, none, none]) (μ := μ) (i := 0) (j := 8) (s := r.1) (vs := vs) (table_eq _ μ) (by decide) rfl (by simp)
  rw [filt_some hk] at er
  have hl := ch_len q5
  have hle := wsW_len _ _ _ hlp
  obtain ⟨b', w6', w7', κ, e3⟩ := loop_lw (Φ := callF Pt (gOf T) Cn (k + 1)) (xs := .str r.1 :: vs) (w1 := some (.d (.str r.1))) (w2 := some (.d (.int (r.2.1 : Nat)))) (w8 := none) q5 r.2.2 0 vs (r.2.1 : Nat) 4 [] μ ⟨[], rfl, rfl⟩ ⟨[.str r.1], rfl, rfl⟩ hlp (by omega) (by simp; omega) none none
  refine (congrArg _ (ss_nx (s_setT (w := .d (rowD r)) (ρ' := [some (.d (.tuple (.str r.1 :: vs))), some (.d (.str r.1)), some (.d (.int (r.2.1 : Nat))), some (.d (.str (chS r.2.2))), none, none, none, none, none]) (μ' := μ) (by rw [re_idx]; refine (congrArg (fun q : Res Val => q.bind _) er).trans ?_; simp [il0]) rfl))).trans ?_
  refine (congrArg _ (ss_nx (s_set (w := .d (.int 16)) (μ' := μ) (by simp)))).trans ?_
  refine (congrArg _ (ss_nx (s_set (w := .h μ.length) (μ' := μ ++ [.lst [.int (r.2.1 : Nat)]]) (by simp [l1])))).trans ?_
  refine (congrArg _ (ss_nx ((s_for (xs := rngD ((0 : Nat) : Int) r.2.2.length) (μ' := μ ++ [.lst [.int (r.2.1 : Nat)]]) ?_).trans e3))).trans ?_
  · rw [rr_rg1_ok (n := (r.2.2.length : Nat)) (μ' := μ ++ [.lst [.int (r.2.1 : Nat)]]) (by simp [hl, -len_s]) (rg_small q5), Int.toNat_natCast]
    rfl
  refine (congrArg _ (ss_rt (s_ret (w := .h (μ ++ κ).length) (μ' := (μ ++ κ) ++ [.lst (wordsOf r vs)]) ?_))).trans fin_hk
  simp [wordsOf]
/-- the place of a form among the fields -/
def fldAt (f : Fm) (r : Row) (vs : List PyData) : PyData := match r.2.2.findIdx? (fun g => decide (g = f)) with
  | some i => vs.getD i .none
  | none => .none
theorem idx_map (f : Fm) : ∀ fs : List Fm, (fs.map Fm.nm).findIdx? (fun y => decide (y = f.nm)) = fs.findIdx? (fun g => decide (g = f))
  | [] => rfl
  | g :: fs => by
    rw [List.map_cons, List.findIdx?_cons, List.findIdx?_cons, idx_map f fs]
    simp [nm_iff]
theorem in_forms (f : Fm) (fs : List Fm) : inD (.str f.nm) (tupS (fs.map Fm.nm)) = some (decide (f ∈ fs)) := by
  have h1 : ∀ l : List Str, (l.map PyData.str).all flatD = true := fun l => by
    rw [List.all_eq_true]
    intro x hx
    obtain ⟨z, _, rfl⟩ := List.mem_map.mp hx
    rfl
  have h2 : (((fs.map Fm.nm).map PyData.str).any fun z => PyData.eqv z (.str f.nm)) = decide (f ∈ fs) := by
    rw [Bool.eq_iff_iff, List.any_eq_true, decide_eq_true_eq]
    constructor
    · rintro ⟨x, hx, h⟩
      obtain ⟨z, hz, rfl⟩ := List.mem_map.mp hx
      obtain ⟨g, hg, rfl⟩ := List.mem_map.mp hz
      rw [eqv_s, decide_eq_true_eq, nm_iff] at h
      exact h ▸ hg
    · intro h
      exact ⟨.str f.nm, List.mem_map.mpr ⟨_, List.mem_map.mpr ⟨f, h, rfl⟩, rfl⟩, by rw [eqv_s]; simp⟩
  unfold tupS
  simp only [inD, flatD, h1, h2, Bool.true_and, if_true]
theorem field_of_eq (k : Nat) {s : Str} {vs : List PyData} {r : Row} (f : Fm) (hk : look s = some r) (hlen : vs.length = r.2.2.length) (μ : Sto) : callF Pt (gOf T) Cn (k + 1) 15 [.d (.tuple (.str s :: vs)), .d (.str f.nm)] μ = .ok (.d (fldAt f r vs)) μ := by
  obtain ⟨hr, rfl⟩ := look_mem hk
  obtain ⟨q1, q2, q3, q4, q5, q6, q7⟩ := row_all r hr
  rw [call_eq c_field_of rfl rfl, show startE c_field_of [.d (.tuple (.str r.1 :: vs)), .d (.str f.nm)] = [some (.d (.tuple (.str r.1 :: vs))), some (.d (.str f.nm)), none] from rfl]
  have e1 := tix_of q2
  have e2 : idxD (.tuple (formsL.map tupS)) (.int (r.2.1 : Nat)) = some (tupS (r.2.2.map Fm.nm)) := (ixn (by rw [List.getElem?_map, q3]; rfl)).1
  have e5 := in_forms f r.2.2
  by_cases hm : f ∈ r.2.2
  · obtain ⟨i, hi⟩ : ∃ i, r.2.2.findIdx? (fun g => decide (g = f)) = some i := by
      cases h : r.2.2.findIdx? (fun g => decide (g = f)) with
      | some i => exact ⟨i, rfl⟩
      | none =>
        rw [List.findIdx?_eq_none_iff] at h
        have := h f hm
        simp at this
    have hi' := hi
    rw [← idx_map] at hi'
    have e3 := tix_of hi'
    have hlt : i < vs.length := by
      rw [hlen]
      exact (List.findIdx?_eq_some_iff_getElem.mp hi).1
    have e4 : idxD (.tuple (.str r.1 :: vs)) (.int ((i : Int) + 1)) = some (vs.getD i .none) := by
      have := (ixn (xs := .str r.1 :: vs) (i := i + 1) (x := vs.getD i .none) (by simp [List.getElem?_eq_getElem hlt])).1
      simpa using this
    have e3' : pmD .tindex (tupS (r.2.2.map Fm.nm)) [.str f.nm] = some (.int (i : Nat)) := e3
    have kt : kcT (.kc (tupS (r.2.2.map Fm.nm))) = some (tupS (r.2.2.map Fm.nm)) := rfl
    simp [c_field_of, ix0, pmcD, e1, e2, cm_in, e5, hm, kt, e3', add_ok, e4, fldAt, hi]
  · have hi : r.2.2.findIdx? (fun g => decide (g = f)) = none := by
      rw [List.findIdx?_eq_none_iff]
      intro g hg
      rw [decide_eq_false_iff_not]
      rintro rfl
      exact hm hg
    simp [c_field_of, ix0, pmcD, e1, e2, cm_in, e5, hm, fldAt, hi]
theorem page_ok (k : Nat) {x : PyData} {s : Str} {vs : List PyData} {r : Row} (hx : x = .tuple (.str s :: vs)) (h : fault x = none) (hk : look s = some r) (hlen : vs.length = r.2.2.length) (μ : Sto) : callF Pt (gOf T) Cn (k + 6) 16 [.d x] μ = .ok (.d (fldAt .g r vs)) μ := by
  rw [call_eq c_page_of rfl rfl, show startE c_page_of [.d x] = [some (.d x)] from rfl]
  have e := field_of_eq (k + 4) .g hk hlen μ
  have c := check_ok k h μ
  subst hx
  simp [c_page_of, c, ln_g, e]
theorem page_no (k : Nat) {x : PyData} {i : Nat} (h : fault x = some i) (μ : Sto) : callF Pt (gOf T) Cn (k + 6) 16 [.d x] μ = .exc ⟨0, [.int (i : Nat)]⟩ μ := by
  rw [call_eq c_page_of rfl rfl, show startE c_page_of [.d x] = [some (.d x)] from rfl]
  simp [c_page_of, check_no k h]
theorem name_ok (k : Nat) {x : PyData} {s : Str} {vs : List PyData} {r : Row} (hx : x = .tuple (.str s :: vs)) (h : fault x = none) (hk : look s = some r) (hlen : vs.length = r.2.2.length) (μ : Sto) : callF Pt (gOf T) Cn (k + 6) 17 [.d x] μ = .ok (.d (fldAt .n r vs)) μ := by
  rw [call_eq c_name_of rfl rfl, show startE c_name_of [.d x] = [some (.d x)] from rfl]
  have e := field_of_eq (k + 4) .n hk hlen μ
  have c := check_ok k h μ
  subst hx
  simp [c_name_of, c, ln_n, e]
theorem name_no (k : Nat) {x : PyData} {i : Nat} (h : fault x = some i) (μ : Sto) : callF Pt (gOf T) Cn (k + 6) 17 [.d x] μ = .exc ⟨0, [.int (i : Nat)]⟩ μ := by
  rw [call_eq c_name_of rfl rfl, show startE c_name_of [.d x] = [some (.d x)] from rfl]
  simp [c_name_of, check_no k h]
end K11
set_option Elab.async false
set_option linter.all false
set_option maxRecDepth 100000
set_option maxHeartbeats 2000000
/-! K11: the program reads a field. -/
namespace K11
open PySem Ip

/-- what reading a field tells -/
inductive RF where
  | cut
  | bad (i : Nat)
  | got (v : PyData) (p : Nat)
def two (ns : List Int) (p : Nat) (c1 : Int → Bool) (c2 : Int → Int → Bool) (val : Int → Int → PyData) : RF := match ns[p]? with
  | none => .cut
  | some a => if c1 a then .bad p else match ns[p + 1]? with
    | none => .cut
    | some b => if c2 a b then .bad (p + 1) else .got (val a b) (p + 2)
def one (ns : List Int) (p : Nat) (c : Int → Bool) (val : Int → PyData) : RF := match ns[p]? with
  | none => .cut
  | some a => if c a then .bad p else .got (val a) (p + 1)
def rdF (ns : List Int) (f : Fm) (flag : Int) (p : Nat) : RF := match f with
  | .t => .got (.int flag) p
  | .n => two ns p (fun a => decide (a = 0)) (fun _ b => decide (b = 0)) (fun a b => .tuple [.int a, .int b])
  | .z => two ns p (fun _ => false) (fun _ _ => false) (fun a b => .int (65536 * a + b))
  | .o => two ns p (fun _ => false) (fun a b => decide (a = 0) && decide (b = 0)) (fun a b => .int (65536 * a + b))
  | .g => one ns p (fun a => decide (255 < a)) .int
  | .k => one ns p (fun _ => false) .int
  | .m => one ns p (fun a => decide (flag = 0) && decide (0 < a)) (fun a => if flag = 0 then .none else .int a)
  | .w => match ns[p]? with
    | none => .cut
    | some a => if 28 < a then .bad p else if p + 1 + a.toNat ≤ ns.length then .got (.tuple (((ns.drop (p + 1)).take a.toNat).map .int)) (p + 1 + a.toNat) else .cut
/-- a row of words -/
def Wd (ns : List Int) : Prop := (∀ x ∈ ns, 0 ≤ x ∧ x ≤ 65535) ∧ ns.length ≤ 1000000
abbrev wL (ns : List Int) : PyData := .list (ns.map .int)
theorem wl_len {ns : List Int} : biD .len [wL ns] = some (.int (ns.length : Nat)) := by simp
theorem wl_ix {ns : List Int} {p : Nat} {a : Int} (h : ns[p]? = some a) : idxD (wL ns) (.int (p : Nat)) = some (.int a) := (ixn (by rw [List.getElem?_map, h]; rfl)).2
theorem wd_at {ns : List Int} (h : Wd ns) {p : Nat} {a : Int} (ha : ns[p]? = some a) : 0 ≤ a ∧ a ≤ 65535 := h.1 a (List.mem_of_getElem? ha)
def outF (r : RF) (μ : Sto) : Res Val := match r with
  | .cut => .ok (.d .none) μ
  | .bad i => .exc ⟨0, [.int (i : Nat)]⟩ μ
  | .got v p => .ok (.d (.tuple [v, .int (p : Nat)])) μ
theorem len_of1 {ns : List Int} {p : Nat} {a : Int} (h : ns[p]? = some a) (h1 : ns[p + 1]? = none) : ((p : Int) + 1 = (ns.length : Int)) := by
  have := (List.getElem?_eq_some_iff.mp h).1
  have := List.getElem?_eq_none_iff.mp h1
  omega
theorem len_of2 {ns : List Int} {p : Nat} {b : Int} (h1 : ns[p + 1]? = some b) : ¬ ((p : Int) + 1 = (ns.length : Int)) := by
  have := (List.getElem?_eq_some_iff.mp h1).1
  omega
theorem pair_eq (k : Nat) {ns : List Int} (hw : Wd ns) {f : Fm} (hf : f = .n ∨ f = .o ∨ f = .z) {p : Nat} {a : Int} (ha : ns[p]? = some a) (μ : Sto) (flag : Int) : callF Pt (gOf T) Cn (k + 1) 11 [.d (.str f.nm), .d (wL ns), .d (.int (p : Nat))] μ = outF (rdF ns f flag p) μ := by
  rw [call_eq c_pair_at rfl rfl, show startE c_pair_at [.d (.str f.nm), .d (wL ns), .d (.int (p : Nat))] = [some (.d (.str f.nm)), some (.d (wL ns)), some (.d (.int (p : Nat))), none, none, none] from rfl]
  have e1 := wl_ix ha
  have ea := wd_at hw ha
  have hs := mul_ok (i := 65536) (j := a) (sml_of (by decide) (by decide)) (sml_of ea.1 (by omega))
  cases hb : ns[p + 1]? with
  | none =>
    have h2 := len_of1 ha hb
    rcases hf with rfl | rfl | rfl
    · by_cases h0 : a = 0 <;> simp [c_pair_at, e1, ln_n, nm_iff, h0, add_ok, wl_len, h2, rdF, two, ha, hb, outF]
    · simp [c_pair_at, e1, ln_n, nm_iff, add_ok, wl_len, h2, rdF, two, ha, hb, outF]
    · simp [c_pair_at, e1, ln_n, nm_iff, add_ok, wl_len, h2, rdF, two, ha, hb, outF]
  | some b =>
    have h2 := len_of2 hb
    have e2 := wl_ix hb
    have e2' : idxD (wL ns) (.int ((p : Int) + 1)) = some (.int b) := by simpa using e2
    have eb := wd_at hw hb
    rcases hf with rfl | rfl | rfl
    · by_cases h0 : a = 0
      · simp [c_pair_at, e1, ln_n, nm_iff, h0, add_ok, wl_len, h2, rdF, two, ha, hb, outF]
      · by_cases h1 : b = 0 <;> simp [c_pair_at, e1, e2', hs, ln_n, ln_o, nm_iff, h0, h1, add_ok, wl_len, h2, rdF, two, ha, hb, outF, l2]
    · by_cases h0 : a = 0 ∧ b = 0
      · obtain ⟨rfl, rfl⟩ := h0
        simp [c_pair_at, e1, e2', hs, ln_n, ln_o, nm_iff, add_ok, wl_len, h2, rdF, two, ha, hb, outF, l2]
      · have h3 : ¬ (65536 * a + b = 0) := by omega
        simp [c_pair_at, e1, e2', hs, ln_n, ln_o, nm_iff, add_ok, wl_len, h2, rdF, two, ha, hb, outF, l2, h3, h0]
    · simp [c_pair_at, e1, e2', hs, ln_n, ln_o, nm_iff, add_ok, wl_len, h2, rdF, two, ha, hb, outF, l2]
theorem cut_words {ns : List Int} {p n : Nat} (h : p + n ≤ ns.length) : slcD (wL ns) (some (p : Nat)) (some ((p : Int) + (n : Int))) = some (.list (((ns.drop p).take n).map .int)) := by
  have h1 : HT.sIx (ns.map PyData.int).length 0 (some (p : Int)) = p := by
    have hn : ¬ ((p : Int) < 0) := by omega
    simp [HT.sIx, hn]
    omega
  have h2 : HT.sIx (ns.map PyData.int).length (ns.map PyData.int).length (some ((p : Int) + (n : Int))) = p + n := by
    have hn : ¬ ((p : Int) + (n : Int) < 0) := by omega
    simp [HT.sIx, hn]
    omega
  simp only [wL, slcD, cutD, h1, h2, Nat.add_sub_cancel_left, List.map_take, List.map_drop]
theorem field_at_eq (k : Nat) {ns : List Int} (hw : Wd ns) (f : Fm) (flag : Int) {p : Nat} (hp : p ≤ ns.length) (μ : Sto) : callF Pt (gOf T) Cn (k + 2) 12 [.d (.str f.nm), .d (.int flag), .d (wL ns), .d (.int (p : Nat))] μ = outF (rdF ns f flag p) μ := by
  rw [call_eq c_field_at rfl rfl, show startE c_field_at [.d (.str f.nm), .d (.int flag), .d (wL ns), .d (.int (p : Nat))] = [some (.d (.str f.nm)), some (.d (.int flag)), some (.d (wL ns)), some (.d (.int (p : Nat))), none, none] from rfl]
  by_cases ht : f = .t
  · subst ht
    simp [c_field_at, ln_t, nm_iff, rdF, outF, l2]
  · cases ha : ns[p]? with
    | none =>
      have h2 : (p : Int) = (ns.length : Int) := by
        have := List.getElem?_eq_none_iff.mp ha
        omega
      have e : rdF ns f flag p = .cut := by
        cases f <;> first | exact absurd rfl ht | simp [rdF, two, one, ha]
      rw [e]
      simp [c_field_at, ln_t, nm_iff, ht, wl_len, h2, outF]
    | some a =>
      have h2 : ¬ ((p : Int) = (ns.length : Int)) := by
        have := (List.getElem?_eq_some_iff.mp ha).1
        omega
      have e1 := wl_ix ha
      have ea := wd_at hw ha
      by_cases h3 : f = .n ∨ f = .o ∨ f = .z
      · have ep := pair_eq k hw h3 ha μ flag
        cases hr : rdF ns f flag p <;> rw [hr] at ep <;> simp [c_field_at, show ("tree" : Str) = Fm.nm .t from rfl, nm_iff, ht, wl_len, h2, e1, cm_in, in_nnl, h3, l3, ep, outF]
      · cases f with
        | t => exact absurd rfl ht
        | n => simp at h3
        | o => simp at h3
        | z => simp at h3
        | w =>
          have e3 := in_nnl (f := .w)
          by_cases h28 : 28 < a
          · simp [c_field_at, ln_t, ln_w, nm_iff, wl_len, h2, e1, cm_in, e3, l3, h28, rdF, ha, outF]
          · by_cases hl : p + 1 + a.toNat ≤ ns.length
            · have hc := cut_words (ns := ns) (p := p + 1) (n := a.toNat) hl
              have ha2 : ((a.toNat : Nat) : Int) = a := by omega
              rw [ha2] at hc
              have hl2 : (p : Int) + 1 + a ≤ (ns.length : Int) := by omega
              have hc' : slcD (wL ns) (some ((p : Int) + 1)) (some ((p : Int) + 1 + a)) = some (.list (((ns.drop (p + 1)).take a.toNat).map .int)) := by simpa using hc
              have ha3 : max a 0 = a := by omega
              simp [c_field_at, ln_t, ln_w, nm_iff, wl_len, h2, e1, cm_in, e3, l3, h28, rdF, ha, outF, add_ok, hl2, hl, hc', l2, biD, ha2, ha3]
            · have hl2 : ¬ ((p : Int) + 1 + a ≤ (ns.length : Int)) := by omega
              simp [c_field_at, ln_t, ln_w, nm_iff, wl_len, h2, e1, cm_in, e3, l3, h28, rdF, ha, outF, add_ok, hl2, hl]
        | g =>
          have e3 := in_nnl (f := .g)
          by_cases h5 : 255 < a <;> simp [c_field_at, ln_t, ln_w, ln_g, ln_m, nm_iff, wl_len, h2, e1, cm_in, e3, l3, h5, rdF, one, ha, outF, add_ok, l2]
        | m =>
          have e3 := in_nnl (f := .m)
          by_cases h5 : flag = 0
          · by_cases h6 : 0 < a <;> simp [c_field_at, ln_t, ln_w, ln_g, ln_m, nm_iff, wl_len, h2, e1, cm_in, e3, l3, h5, h6, rdF, one, ha, outF, add_ok, l2]
          · simp [c_field_at, ln_t, ln_w, ln_g, ln_m, nm_iff, wl_len, h2, e1, cm_in, e3, l3, h5, rdF, one, ha, outF, add_ok, l2]
        | k =>
          have e3 := in_nnl (f := .k)
          simp [c_field_at, ln_t, ln_w, ln_g, ln_m, nm_iff, wl_len, h2, e1, cm_in, e3, l3, rdF, one, ha, outF, add_ok, l2]
end K11
set_option Elab.async false
set_option linter.all false
set_option maxRecDepth 100000
set_option maxHeartbeats 2000000
/-! K11: the program reads a record. -/
namespace K11
open PySem Ip

/-- what reading a record tells -/
inductive RL where
  | cut
  | bad (i : Nat)
  | got (vs : List PyData) (p : Nat)
def flN (f : Fm) (fl : Int) : Int := if f = .t ∨ f = .m then fl / 2 else fl
def rdFs (ns : List Int) : List Fm → Int → Nat → RL
  | [], _, p => .got [] p
  | f :: fs, fl, p => match rdF ns f (fl % 2) p with
    | .cut => .cut
    | .bad i => .bad i
    | .got v q => match rdFs ns fs (flN f fl) q with
      | .cut => .cut
      | .bad i => .bad i
      | .got vs q' => .got (v :: vs) q'
def isTM (f : Fm) : Bool := decide (f = .t ∨ f = .m)
def cntTM (fs : List Fm) : Nat := (fs.filter isTM).length
def due (ns : List Int) (p : Nat) : RL := match ns[p]? with
  | none => .cut
  | some a => match lookC (a % 16) with
    | none => .bad p
    | some r => if 2 ^ cntTM r.2.2 ≤ a / 16 then .bad p else match rdFs ns r.2.2 (a / 16) (p + 1) with
      | .cut => .cut
      | .bad i => .bad i
      | .got vs q => .got (.str r.1 :: vs) q
def outL (r : RL) (μ : Sto) : Res Val := match r with
  | .cut => .ok (.d .none) μ
  | .bad i => .exc ⟨0, [.int (i : Nat)]⟩ μ
  | .got vs p => .ok (.d (.tuple [.tuple vs, .int (p : Nat)])) μ
theorem two_le {ns : List Int} {p q : Nat} {c1 : Int → Bool} {c2 : Int → Int → Bool} {val : Int → Int → PyData} {v : PyData} (h : two ns p c1 c2 val = .got v q) : q ≤ ns.length := by
  unfold two at h
  split at h
  · cases h
  · split at h
    · cases h
    · split at h
      · cases h
      · rename_i hb
        split at h
        · cases h
        · cases h
          have := (List.getElem?_eq_some_iff.mp hb).1
          omega
theorem one_le {ns : List Int} {p q : Nat} {c : Int → Bool} {val : Int → PyData} {v : PyData} (h : one ns p c val = .got v q) : q ≤ ns.length := by
  unfold one at h
  split at h
  · cases h
  · rename_i ha
    split at h
    · cases h
    · cases h
      have := (List.getElem?_eq_some_iff.mp ha).1
      omega
theorem rdF_le {ns : List Int} {f : Fm} {flag : Int} {p q : Nat} {v : PyData} (hp : p ≤ ns.length) (h : rdF ns f flag p = .got v q) : q ≤ ns.length := by
  cases f <;> simp only [rdF] at h
  · exact two_le h
  · cases h
    exact hp
  · exact one_le h
  · exact one_le h
  · exact one_le h
  · exact two_le h
  · exact two_le h
  · split at h
    · cases h
    · split at h
      · cases h
      · split at h
        · cases h
          assumption
        · cases h
theorem body_unpacked (k : Nat) {ns : List Int} (hw : Wd ns) {f : Fm} {fl : Int} {p : Nat} (hp : p ≤ ns.length) {w1 w2 w4 w5 w9 w10 : Option Val} {its : List PyData} (hi : its.length ≤ 100) (μ : Sto) :
    ∃ w10', evalSs (callF Pt (gOf T) Cn (k + 2)) (gOf T) Cn b_unpacked_0 [some (.d (wL ns)), w1, w2, some (.d (.int fl)), w4, w5, some (.h μ.length), some (.d (.int (p : Nat))), some (.d (.str f.nm)), w9, w10] (μ ++ [.lst its]) =
    match rdF ns f (fl % 2) p with
    | .cut => .ok (.ret (.d .none)) (μ ++ [.lst its])
    | .bad i => .exc ⟨0, [.int (i : Nat)]⟩ (μ ++ [.lst its])
    | .got v q => .ok (.nx [some (.d (wL ns)), w1, w2, some (.d (.int (flN f fl))), w4, w5, some (.h μ.length), some (.d (.int (q : Nat))), some (.d (.str f.nm)), some (.d (.int (fl % 2))), w10']) (μ ++ [.lst (its ++ [v])]) := by
  have e := field_at_eq k hw f (fl % 2) hp (μ ++ [.lst its])
  have s1 : evalS (callF Pt (gOf T) Cn (k + 2)) (gOf T) Cn (.iff (.cmp .in_ (.var 8) (.tup (cesOf [(.kst (.str "tree")), (.kst (.str "maybe"))]))) (cssOf [(.set 3 (.bin .fdiv (.var 3) (.kst (.int (2)))))]) (cssOf [])) [some (.d (wL ns)), w1, w2, some (.d (.int fl)), w4, w5, some (.h μ.length), some (.d (.int (p : Nat))), some (.d (.str f.nm)), some (.d (.int (fl % 2))), w10] (μ ++ [.lst its]) =
      .ok (.nx [some (.d (wL ns)), w1, w2, some (.d (.int (flN f fl))), w4, w5, some (.h μ.length), some (.d (.int (p : Nat))), some (.d (.str f.nm)), some (.d (.int (fl % 2))), w10]) (μ ++ [.lst its]) := by
    have hs : sml 2 = true := sml_of (by decide) (by decide)
    by_cases hf : f = .t ∨ f = .m
    · simp [l2, cm_in, in_tm, hf, flN, binD, hs]
    · simp [l2, cm_in, in_tm, hf, flN]
  have s0 : ∀ R, evalSs (callF Pt (gOf T) Cn (k + 2)) (gOf T) Cn (cssOf [(.set 10 (.call 12 (cesOf [(.var 8), (.var 9), (.var 0), (.var 7)]))), (.iff (.cmp .is_ (.var 10) (.kst .none)) (cssOf [(.ret (.kst .none))]) (cssOf [])), (.ex (.mm .append 6 (cesOf [(.idx (.var 10) (.kst (.int (0))))]))), (.set 7 (.idx (.var 10) (.kst (.int (1)))))]) [some (.d (wL ns)), w1, w2, some (.d (.int (flN f fl))), w4, w5, some (.h μ.length), some (.d (.int (p : Nat))), some (.d (.str f.nm)), some (.d (.int (fl % 2))), w10] (μ ++ [.lst its]) = R → evalSs (callF Pt (gOf T) Cn (k + 2)) (gOf T) Cn b_unpacked_0 [some (.d (wL ns)), w1, w2, some (.d (.int fl)), w4, w5, some (.h μ.length), some (.d (.int (p : Nat))), some (.d (.str f.nm)), w9, w10] (μ ++ [.lst its]) = R := by
    intro R h
    refine (ss_nx (s_set (w := .d (.int (fl % 2))) (μ' := μ ++ [.lst its]) (by simp [binD]))).trans ?_
    exact (ss_nx s1).trans h
  cases hr : rdF ns f (fl % 2) p with
  | cut =>
    refine ⟨w10, s0 _ ?_⟩
    rw [hr] at e
    simp [e, outF, isNon]
  | bad i =>
    refine ⟨w10, s0 _ ?_⟩
    rw [hr] at e
    simp [e, outF]
  | got v q =>
    refine ⟨some (.d (.tuple [v, .int (q : Nat)])), s0 _ ?_⟩
    rw [hr] at e
    refine (ss_nx (s_set (w := .d (.tuple [v, .int (q : Nat)])) (μ' := μ ++ [.lst its]) (by simp [e, outF]))).trans ?_
    refine (ss_nx (s_if_no (μ' := μ ++ [.lst its]) (by simp [isNon]))).trans ?_
    refine (ss_nx (s_ex (mm_app (n := μ.length) (xs := its) (y := v) rfl get_last (by simp [ix0]) (by unfold lim; omega)))).trans ?_
    rw [set_last]
    refine (ss_nx (s_set (w := .d (.int (q : Nat))) (μ' := μ ++ [.lst (its ++ [v])]) (by simp [ix1]))).trans ?_
    rw [css_nil, rss_nil]
    rfl
theorem loop_unpacked (k : Nat) {ns : List Int} (hw : Wd ns) {w1 w2 w4 w5 : Option Val} (μ : Sto) : ∀ (fs : List Fm) (fl : Int) (p : Nat) (its : List PyData), p ≤ ns.length → its.length + fs.length ≤ 100 → ∀ w8 w9 w10, ∃ its' w3' w8' w9' w10',
    forL (.nm 8) (evalSs (callF Pt (gOf T) Cn (k + 2)) (gOf T) Cn b_unpacked_0) (fs.map fun f => .str f.nm) [some (.d (wL ns)), w1, w2, some (.d (.int fl)), w4, w5, some (.h μ.length), some (.d (.int (p : Nat))), w8, w9, w10] (μ ++ [.lst its]) =
    match rdFs ns fs fl p with
    | .cut => .ok (.ret (.d .none)) (μ ++ [.lst its'])
    | .bad i => .exc ⟨0, [.int (i : Nat)]⟩ (μ ++ [.lst its'])
    | .got vs q => .ok (.nx [some (.d (wL ns)), w1, w2, w3', w4, w5, some (.h μ.length), some (.d (.int (q : Nat))), w8', w9', w10']) (μ ++ [.lst (its ++ vs)])
  | [], fl, p, its, _, _, w8, w9, w10 => ⟨its, _, w8, w9, w10, by simp [forL, rdFs]; rfl⟩
  | f :: fs, fl, p, its, hp, hl, w8, w9, w10 => by
    simp only [List.length_cons] at hl
    obtain ⟨w10', e⟩ := body_unpacked k hw (f := f) (fl := fl) hp (w1 := w1) (w2 := w2) (w4 := w4) (w5 := w5) (w9 := w9) (w10 := w10) (its := its) (by omega) μ
    simp only [List.map_cons, rdFs]
    cases hr : rdF ns f (fl % 2) p with
    | cut =>
      rw [hr] at e
      exact ⟨its, none, none, none, none, forL_rt rfl e⟩
    | bad i =>
      rw [hr] at e
      exact ⟨its, none, none, none, none, forL_xc rfl e⟩
    | got v q =>
      rw [hr] at e
      obtain ⟨its', w3', w8', w9', w10'', ih⟩ := loop_unpacked k hw (w1 := w1) (w2 := w2) (w4 := w4) (w5 := w5) μ fs (flN f fl) q (its ++ [v]) (rdF_le hp hr) (by simp; omega) (some (.d (.str f.nm))) (some (.d (.int (fl % 2)))) w10'
      refine ⟨its', w3', w8', w9', w10'', (forL_nx rfl e).trans (ih.trans ?_)⟩
      dsimp only
      cases rdFs ns fs (flN f fl) q with
      | cut => rfl
      | bad i => rfl
      | got vs q' => simp
theorem code_all : ∀ c ∈ List.range 16, (lookC (c : Int)).isNone = (decide (15 ≤ c) || decide (namesL[c]? = some "")) := by decide +kernel
theorem cnt_all : ∀ r ∈ rowsL, cntTM r.2.2 ≤ 3 := by decide +kernel
theorem tm_forms {Φ : Nat → List Val → Sto → Res Val} {ρ : Ip.Env} {μ : Sto} {fs : List Fm} (h7 : fs.length ≤ 7) (h : ρ[4]? = some (some (.d (tupS (fs.map Fm.nm))))) (hj : 8 < ρ.length) :
    evalE Φ (gOf T) (.bi .len (.cons (.lcm false [8] (.var 8) (.nm 8) (.sq (.var 4)) (.so (.cmp .in_ (.var 8) (.tup (.cons (.kst (.str "tree")) (.cons (.kst (.str "maybe")) .nil)))))) .nil)) ρ μ = .ok (.d (.int (cntTM fs : Nat))) μ := by
  have e4 : itemsOf (tupS (fs.map Fm.nm)) = some (fs.map fun f => .str f.nm) := by simp [tupS]
  have e : evalR Φ (gOf T) (.sq (.var 4)) ρ μ = .ok (fs.map fun f => .str f.nm) μ := by simp [h, e4]
  have z := lcm_fm (own := [8]) (t := .nm 8) (elt := evalE Φ (gOf T) (.var 8)) (c := evalC Φ (gOf T) (.so (.cmp .in_ (.var 8) (.tup (.cons (.kst (.str "tree")) (.cons (.kst (.str "maybe")) .nil)))))) (ρ := ρ) (μ := μ) (fun x => match x with | .str z => decide (z = Fm.nm .t ∨ z = Fm.nm .m) | _ => false) id (fs.map fun f => .str f.nm) [] (fun x hx => by
    obtain ⟨f, _, rfl⟩ := List.mem_map.mp hx
    refine ⟨_, rfl, ?_, fun _ => by simp [wipeE, hj]⟩
    simp [wipeE, hj, cm_in, in_tm, l2, nm_iff]) (by simp; exact small_lim (by omega))
  have hc : ((fs.map fun f => PyData.str f.nm).filter (fun x => match x with | .str z => decide (z = Fm.nm .t ∨ z = Fm.nm .m) | _ => false)).length = cntTM fs := by
    rw [List.filter_map, List.length_map]
    unfold cntTM
    congr 1
    apply List.filter_congr
    intro f _
    simp [Function.comp, nm_iff, isTM]
  have hc' : ((cntTM fs : Nat) : Int) = (((fs.map fun f => PyData.str f.nm).filter (fun x => match x with | .str z => decide (z = Fm.nm .t ∨ z = Fm.nm .m) | _ => false)).length : Int) := by rw [hc]
  rw [re_bi, res_cons, re_lcm, e, Res.bind_ok, z]
  rw [hc']
  simp [noExc]
theorem unpacked_eq (k : Nat) {ns : List Int} (hw : Wd ns) {p : Nat} (hp : p ≤ ns.length) (μ : Sto) : callF Pt (gOf T) Cn (k + 3) 13 [.d (wL ns), .d (.int (p : Nat))] μ = outL (due ns p) μ := by
  rw [call_eq c_unpacked rfl rfl, show startE c_unpacked [.d (wL ns), .d (.int (p : Nat))] = [some (.d (wL ns)), some (.d (.int (p : Nat))), none, none, none, none, none, none, none, none, none] from rfl]
  cases ha : ns[p]? with
  | none =>
    have h2 : (p : Int) = (ns.length : Int) := by
      have := List.getElem?_eq_none_iff.mp ha
      omega
    simp [c_unpacked, due, ha, h2, outL]
  | some a =>
    have h2 : ¬ ((p : Int) = (ns.length : Int)) := by
      have := (List.getElem?_eq_some_iff.mp ha).1
      omega
    have hp1 : p + 1 ≤ ns.length := (List.getElem?_eq_some_iff.mp ha).1
    have e1 := wl_ix ha
    have ea := wd_at hw ha
    have hs : sml 16 = true := sml_of (by decide) (by decide)
    obtain ⟨c, hc⟩ : ∃ c : Nat, a % 16 = (c : Int) := ⟨(a % 16).toNat, by omega⟩
    have hc16 : c < 16 := by omega
    have hcode := code_all c (List.mem_range.mpr hc16)
    refine (congrArg _ (ss_nx (s_if_no (μ' := μ) (by simp [h2])))).trans ?_
    refine (congrArg _ (ss_nx (s_set (w := .d (.int (c : Nat))) (μ' := μ) (by simp [e1, binD, hc])))).trans ?_
    refine (congrArg _ (ss_nx (s_set (w := .d (.int (a / 16))) (μ' := μ) (by simp [e1, binD, hs])))).trans ?_
    cases hk : lookC (a % 16) with
    | none =>
      have hd : due ns p = .bad p := by simp [due, ha, hk]
      rw [hd]
      rw [hc] at hk
      rw [hk] at hcode
      simp only [Option.isNone_none, Bool.true_eq, Bool.or_eq_true, decide_eq_true_eq] at hcode
      refine (congrArg _ (ss_xc ((s_if_t (μ' := μ) ?_).trans (ss_xc (s_rse (ws := [.d (.int (p : Nat))]) (xs := [.int (p : Nat)]) (μ' := μ) (by simp) rfl))))).trans ?_
      · by_cases h15 : 15 ≤ c
        · have : (15 : Int) ≤ (c : Int) := by omega
          simp [show namesL.length = 15 from rfl, this]
        · have h15' : ¬ (15 : Int) ≤ (c : Int) := by omega
          have hn := hcode.resolve_left h15
          have en := (ixn (xs := namesL.map .str) (x := .str "") (i := c) (by rw [List.getElem?_map, hn]; rfl)).1
          simp [show namesL.length = 15 from rfl, h15', en]
      · simp [outL, List.take_left]
    | some r =>
      obtain ⟨hr, hrc⟩ := lookC_mem hk
      obtain ⟨q1, q2, q3, q4, q5, q6, q7⟩ := row_all r hr
      have hcr : r.2.1 = c := by omega
      have en := (ixn (xs := namesL.map .str) (x := .str r.1) (i := c) (by rw [← hcr, List.getElem?_map, q6]; rfl)).1
      have h15 : ¬ (15 : Int) ≤ (c : Int) := by omega
      have e2 : idxD (.tuple (formsL.map tupS)) (.int (c : Nat)) = some (tupS (r.2.2.map Fm.nm)) := (ixn (by rw [← hcr, List.getElem?_map, q3]; rfl)).1
      have e4 : itemsOf (tupS (r.2.2.map Fm.nm)) = some (r.2.2.map fun f => .str f.nm) := by simp [tupS]
      refine (congrArg _ (ss_nx (s_if_no (μ' := μ) (by simp [show namesL.length = 15 from rfl, h15, en, q1])))).trans ?_
      refine (congrArg _ (ss_nx (s_set (w := .d (tupS (r.2.2.map Fm.nm))) (μ' := μ) (by simp [e2])))).trans ?_
      refine (congrArg _ (ss_nx (s_set (w := .d (.int (cntTM r.2.2 : Nat))) (μ' := μ) (tm_forms q5 rfl (by simp))))).trans ?_
      have hsh : binD .shr (.int (a / 16)) (.int (cntTM r.2.2 : Nat)) = some (.int (a / 16 / 2 ^ cntTM r.2.2)) := by
        simp [binD]
      have hpos : (0 : Int) < 2 ^ cntTM r.2.2 := Int.pow_pos (by decide)
      have hiff : (0 < a / 16 / 2 ^ cntTM r.2.2) ↔ 2 ^ cntTM r.2.2 ≤ a / 16 := by
        constructor
        · intro h
          have := (Int.le_ediv_iff_mul_le hpos).mp (show (1 : Int) ≤ a / 16 / 2 ^ cntTM r.2.2 by omega)
          omega
        · intro h
          have := (Int.le_ediv_iff_mul_le (a := 1) (b := a / 16) hpos).mpr (by omega)
          omega
      by_cases hbig : 2 ^ cntTM r.2.2 ≤ a / 16
      · have hd : due ns p = .bad p := by simp only [due, ha, hk, if_pos hbig]
        rw [hd]
        have hb' := hiff.mpr hbig
        refine (congrArg _ (ss_xc ((s_if_t (μ' := μ) (by simp [hsh, hb'])).trans (ss_xc (s_rse (ws := [.d (.int (p : Nat))]) (xs := [.int (p : Nat)]) (μ' := μ) (by simp) rfl))))).trans ?_
        simp [outL, List.take_left]
      · have hb' : ¬ (0 < a / 16 / 2 ^ cntTM r.2.2) := fun h => hbig (hiff.mp h)
        refine (congrArg _ (ss_nx (s_if_no (μ' := μ) (by simp [hsh]; omega)))).trans ?_
        refine (congrArg _ (ss_nx (s_set (w := .h μ.length) (μ' := μ ++ [.lst [.str r.1]]) (by simp [en, l1])))).trans ?_
        refine (congrArg _ (ss_nx (s_set (w := .d (.int ((p + 1 : Nat) : Int))) (μ' := μ ++ [.lst [.str r.1]]) (by simp [add_ok])))).trans ?_
        obtain ⟨its', w3', w8', w9', w10', el⟩ := loop_unpacked k hw (w1 := some (.d (.int (p : Nat)))) (w2 := some (.d (.int (c : Nat)))) (w4 := some (.d (tupS (r.2.2.map Fm.nm)))) (w5 := some (.d (.int (cntTM r.2.2 : Nat)))) μ r.2.2 (a / 16) (p + 1) [.str r.1] hp1 (by simp; omega) none none none
        have ef := (s_for (Φ := callF Pt (gOf T) Cn (k + 2)) (G := gOf T) (C := Cn) (t := .nm 8) (src := .sq (.var 4)) (b := b_unpacked_0) (ρ := [some (.d (wL ns)), some (.d (.int (p : Nat))), some (.d (.int (c : Nat))), some (.d (.int (a / 16))), some (.d (tupS (r.2.2.map Fm.nm))), some (.d (.int (cntTM r.2.2 : Nat))), some (.h μ.length), some (.d (.int ((p + 1 : Nat) : Int))), none, none, none]) (μ := μ ++ [.lst [.str r.1]]) (xs := r.2.2.map fun f => .str f.nm) (μ' := μ ++ [.lst [.str r.1]]) (by simp [e4])).trans el
        cases hrd : rdFs ns r.2.2 (a / 16) (p + 1) with
        | cut =>
          have hd : due ns p = .cut := by simp only [due, ha, hk, if_neg hbig, hrd]
          rw [hrd] at ef
          rw [hd]
          refine (congrArg _ (ss_rt ef)).trans ?_
          simp [outL, List.take_left]
        | bad i =>
          have hd : due ns p = .bad i := by simp only [due, ha, hk, if_neg hbig, hrd]
          rw [hrd] at ef
          rw [hd]
          refine (congrArg _ (ss_xc ef)).trans ?_
          simp [outL, List.take_left]
        | got vs q =>
          have hd : due ns p = .got (.str r.1 :: vs) q := by simp only [due, ha, hk, if_neg hbig, hrd]
          rw [hrd] at ef
          rw [hd]
          refine (congrArg _ (ss_nx ef)).trans ?_
          refine (congrArg _ (ss_rt (s_ret (w := .d (.tuple [.tuple (.str r.1 :: vs), .int (q : Nat)])) (μ' := μ ++ [.lst (.str r.1 :: vs)]) (by simp [rd_last, biD, l2])))).trans ?_
          simp [outL, List.take_left]
end K11
set_option Elab.async false
set_option linter.all false
set_option maxRecDepth 100000
set_option maxHeartbeats 2000000
/-! K11: the law reads a field. -/
namespace K11
open PySem Ip

theorem get_mid {μ κ : Sto} {o : MO} : (μ ++ o :: κ)[μ.length]? = some o := by
  rw [List.getElem?_append_right (Nat.le_refl _), Nat.sub_self]
  rfl
theorem set_mid {μ κ : Sto} {o o' : MO} : (μ ++ o :: κ).set μ.length o' = μ ++ o' :: κ := by
  have h := List.set_append_right (s := μ) (t := o :: κ) (i := μ.length) (x := o') (Nat.le_refl _)
  rw [Nat.sub_self] at h
  exact h
theorem rd_mid {μ κ : Sto} {xs : List PyData} : rd (μ ++ .lst xs :: κ) (.h μ.length) = some (.list xs) := by
  unfold rd
  simp only [get_mid]
def no (i : Nat) : PyData := .list [.str "raised", .str "BadRecord", .tuple [.int (i : Nat)]]
def tolN : PyData := .list [.str "told", .none]
theorem law_no_eq (k : Nat) (i : Nat) (μ : Sto) : callF Pt (gOf T) Cn (k + 1) 33 [.d (.int (i : Nat))] μ = .ok (.d (no i)) μ := by
  rw [call_eq c__law_no rfl rfl, show startE c__law_no [.d (.int (i : Nat))] = [some (.d (.int (i : Nat)))] from rfl]
  simp [c__law_no, l1, l3, no]
def badW (f : Fm) (t : Nat) (gs : List Int) (a flag : Int) : Bool := match f with
  | .n => decide (a = 0)
  | .o => decide (t = 1) && (decide (a = 0) && decide (gs.getD 0 0 = 0))
  | .g => decide (255 < a)
  | .m => decide (flag = 0) && decide (0 < a)
  | .w => decide (t = 0) && decide (28 < a)
  | _ => false
theorem bad_word_eq (k : Nat) (f : Fm) (t : Nat) {gs : List Int} (a flag : Int) (J : Sto) (hg : f = .o → t = 1 → gs ≠ []) : callF Pt (gOf T) Cn (k + 1) 34 [.d (.str f.ch), .d (.int (t : Nat)), .h J.length, .d (.int a), .d (.int flag)] (J ++ [.lst (gs.map .int)]) = .ok (.d (.bool (badW f t gs a flag))) (J ++ [.lst (gs.map .int)]) := by
  rw [call_eq c__law_bad_word rfl rfl, show startE c__law_bad_word [.d (.str f.ch), .d (.int (t : Nat)), .h J.length, .d (.int a), .d (.int flag)] = [some (.d (.str f.ch)), some (.d (.int (t : Nat))), some (.h J.length), some (.d (.int a)), some (.d (.int flag))] from rfl]
  have ht : ((finV (J ++ [MO.lst (gs.map PyData.int)]).length (.ok (.ret (.d (.bool (badW f t gs a flag)))) (J ++ [.lst (gs.map .int)])))) = .ok (.d (.bool (badW f t gs a flag))) (J ++ [.lst (gs.map .int)]) := by
    rw [fin_d, List.take_length]
  rw [← ht]
  congr 1
  cases f with
  | o =>
    by_cases h1 : t = 1
    · subst h1
      match gs, hg rfl rfl with
      | x :: gs, _ =>
        by_cases h2 : a = 0
        · simp [c__law_bad_word, lc_n, lc_o, ch_iff, badW, h2, rd_last, il0]
        · simp [c__law_bad_word, lc_n, lc_o, ch_iff, badW, h2]
    · have h1' : ¬ ((t : Int) = 1) := by omega
      simp [c__law_bad_word, lc_n, lc_o, ch_iff, badW, h1, h1']
  | m => by_cases h2 : flag = 0 <;> simp [c__law_bad_word, lc_n, lc_o, lc_g, lc_m, ch_iff, badW, h2]
  | w => by_cases h2 : t = 0 <;> simp [c__law_bad_word, lc_n, lc_o, lc_g, lc_m, lc_w, ch_iff, badW, h2]
  | _ => simp [c__law_bad_word, lc_n, lc_o, lc_g, lc_m, lc_w, ch_iff, badW]
def valW (f : Fm) (gs : List Int) (flag : Int) : PyData := match f, gs with
  | .n, a :: b :: _ => .tuple [.int a, .int b]
  | .z, a :: b :: _ => .int (65536 * a + b)
  | .o, a :: b :: _ => .int (65536 * a + b)
  | .w, _ :: r => .tuple (r.map .int)
  | .m, a :: _ => if flag = 0 then .none else .int a
  | .g, a :: _ => .int a
  | .k, a :: _ => .int a
  | _, _ => .none
theorem slc1 {x : PyData} {xs : List PyData} : slcD (.list (x :: xs)) (some 1) none = some (.list xs) := by
  simp [slcD, cutD, HT.sIx]
theorem law_value_eq (k : Nat) (f : Fm) {gs : List Int} (flag : Int) (μ : Sto) (n : Nat) (hn : μ[n]? = some (.lst (gs.map .int))) (h1 : 1 ≤ gs.length) (h2 : f = .n ∨ f = .o ∨ f = .z → 2 ≤ gs.length) (hb : ∀ x ∈ gs, 0 ≤ x ∧ x ≤ 65535) (ht : f ≠ .t) : callF Pt (gOf T) Cn (k + 1) 35 [.d (.str f.ch), .h n, .d (.int flag)] μ = .ok (.d (valW f gs flag)) μ := by
  rw [call_eq c__law_value rfl rfl, show startE c__law_value [.d (.str f.ch), .h n, .d (.int flag)] = [some (.d (.str f.ch)), some (.h n), some (.d (.int flag))] from rfl]
  have e : rd μ (.h n) = some (.list (gs.map .int)) := by
    unfold rd
    simp only [hn]
  match gs, h1 with
  | [a], _ =>
    cases f with
    | n => simp at h2
    | o => simp at h2
    | z => simp at h2
    | t => exact absurd rfl ht
    | w => simp [c__law_value, lc_n, lc_z, lc_o, lc_w, ch_iff, e, slc1, biD, valW]
    | m =>
      by_cases h0 : flag = 0 <;> simp [c__law_value, lc_n, lc_z, lc_o, lc_w, lc_m, ch_iff, e, il0, valW, h0]
    | g => simp [c__law_value, lc_n, lc_z, lc_o, lc_w, lc_m, ch_iff, e, il0, valW]
    | k => simp [c__law_value, lc_n, lc_z, lc_o, lc_w, lc_m, ch_iff, e, il0, valW]
  | a :: b :: r, _ =>
    have ha := hb a (by simp)
    have hs := mul_ok (i := 65536) (j := a) (sml_of (by decide) (by decide)) (sml_of ha.1 (by omega))
    cases f with
    | t => exact absurd rfl ht
    | n => simp [c__law_value, lc_n, ch_iff, e, il0, il1, valW, l2]
    | o => simp [c__law_value, lc_n, lc_z, lc_o, ch_iff, e, il0, il1, valW, hs, add_ok]
    | z => simp [c__law_value, lc_n, lc_z, lc_o, ch_iff, e, il0, il1, valW, hs, add_ok]
    | w => simp [c__law_value, lc_n, lc_z, lc_o, lc_w, ch_iff, e, slc1, biD, valW]
    | m =>
      by_cases h0 : flag = 0 <;> simp [c__law_value, lc_n, lc_z, lc_o, lc_w, lc_m, ch_iff, e, il0, valW, h0]
    | g => simp [c__law_value, lc_n, lc_z, lc_o, lc_w, lc_m, ch_iff, e, il0, valW]
    | k => simp [c__law_value, lc_n, lc_z, lc_o, lc_w, lc_m, ch_iff, e, il0, valW]
section
variable {k : Nat} {ns : List Int} {f : Fm} {flag : Int} {p t : Nat} {w1 w2 w3 w4 w11 : Option Val} {many : Int} {gs : List Int} {J : Sto}
theorem turn_brk : evalSs (callF Pt (gOf T) Cn (k + 1)) (gOf T) Cn b__law_due_1 [some (.d (wL ns)), w1, w2, w3, w4, some (.d (.int (p : Nat))), some (.d (.str f.ch)), some (.d (.int flag)), some (.h J.length), some (.d (.int (t : Nat))), some (.d (.int (t : Nat))), w11] (J ++ [.lst (gs.map .int)]) =
    .ok (.bk [some (.d (wL ns)), w1, w2, w3, w4, some (.d (.int (p : Nat))), some (.d (.str f.ch)), some (.d (.int flag)), some (.h J.length), some (.d (.int (t : Nat))), some (.d (.int (t : Nat))), w11]) (J ++ [.lst (gs.map .int)]) := by
  refine (ss_bk ((s_if_t (μ' := J ++ [.lst (gs.map .int)]) (by simp)).trans (ss_bk rs_brk)))
theorem turn_cut (ht : (t : Int) ≠ many) (hp : p = ns.length) : evalSs (callF Pt (gOf T) Cn (k + 1)) (gOf T) Cn b__law_due_1 [some (.d (wL ns)), w1, w2, w3, w4, some (.d (.int (p : Nat))), some (.d (.str f.ch)), some (.d (.int flag)), some (.h J.length), some (.d (.int many)), some (.d (.int (t : Nat))), w11] (J ++ [.lst (gs.map .int)]) =
    .ok (.ret (.d tolN)) (J ++ [.lst (gs.map .int)]) := by
  refine (ss_nx (s_if_no (μ' := J ++ [.lst (gs.map .int)]) (by simp [ht]))).trans ?_
  exact (ss_rt ((s_if_t (μ' := J ++ [.lst (gs.map .int)]) (by simp [hp])).trans (ss_rt (s_ret (by simp [l2, tolN])))))
theorem turn_bad {a : Int} (ht : (t : Int) ≠ many) (ha : ns[p]? = some a) (hg : f = .o → t = 1 → gs ≠ []) (hb : badW f t gs a flag = true) : evalSs (callF Pt (gOf T) Cn (k + 1)) (gOf T) Cn b__law_due_1 [some (.d (wL ns)), w1, w2, w3, w4, some (.d (.int (p : Nat))), some (.d (.str f.ch)), some (.d (.int flag)), some (.h J.length), some (.d (.int many)), some (.d (.int (t : Nat))), w11] (J ++ [.lst (gs.map .int)]) =
    .ok (.ret (.d (no p))) (J ++ [.lst (gs.map .int)]) := by
  have h2 : ¬ ((p : Int) = (ns.length : Int)) := by
    have := (List.getElem?_eq_some_iff.mp ha).1
    omega
  have e1 := wl_ix ha
  have eb := bad_word_eq k f t a flag J hg
  rw [hb] at eb
  refine (ss_nx (s_if_no (μ' := J ++ [.lst (gs.map .int)]) (by simp [ht]))).trans ?_
  refine (ss_nx (s_if_no (μ' := J ++ [.lst (gs.map .int)]) (by simp [h2]))).trans ?_
  exact (ss_rt ((s_if_t (μ' := J ++ [.lst (gs.map .int)]) (by simp [e1, eb])).trans (ss_rt (s_ret (by simp [law_no_eq])))))
theorem turn_go {a : Int} (ht : (t : Int) ≠ many) (ha : ns[p]? = some a) (hg : f = .o → t = 1 → gs ≠ []) (hb : badW f t gs a flag = false) (hl : gs.length ≤ 100) : evalSs (callF Pt (gOf T) Cn (k + 1)) (gOf T) Cn b__law_due_1 [some (.d (wL ns)), w1, w2, w3, w4, some (.d (.int (p : Nat))), some (.d (.str f.ch)), some (.d (.int flag)), some (.h J.length), some (.d (.int many)), some (.d (.int (t : Nat))), w11] (J ++ [.lst (gs.map .int)]) =
    .ok (.nx [some (.d (wL ns)), w1, w2, w3, w4, some (.d (.int ((p + 1 : Nat) : Int))), some (.d (.str f.ch)), some (.d (.int flag)), some (.h J.length), some (.d (.int (if f = .w then 1 + (gs ++ [a]).getD 0 0 else many))), some (.d (.int (t : Nat))), w11]) (J ++ [.lst ((gs ++ [a]).map .int)]) := by
  have h2 : ¬ ((p : Int) = (ns.length : Int)) := by
    have := (List.getElem?_eq_some_iff.mp ha).1
    omega
  have e1 := wl_ix ha
  have eb := bad_word_eq k f t a flag J hg
  rw [hb] at eb
  refine (ss_nx (s_if_no (μ' := J ++ [.lst (gs.map .int)]) (by simp [ht]))).trans ?_
  refine (ss_nx (s_if_no (μ' := J ++ [.lst (gs.map .int)]) (by simp [h2]))).trans ?_
  refine (ss_nx (s_if_no (μ' := J ++ [.lst (gs.map .int)]) (by simp [e1, eb]))).trans ?_
  refine (ss_nx (s_ex (mm_app (n := J.length) (xs := gs.map .int) (y := .int a) rfl get_last (by simp [e1]) (by unfold lim; simp; omega)))).trans ?_
  rw [set_last, show gs.map PyData.int ++ [.int a] = (gs ++ [a]).map .int by simp]
  refine (ss_nx (s_set (w := .d (.int ((p + 1 : Nat) : Int))) (μ' := J ++ [.lst ((gs ++ [a]).map .int)]) (by simp [add_ok]))).trans ?_
  refine (ss_nx (s_set (w := .d (.int (if f = .w then 1 + (gs ++ [a]).getD 0 0 else many))) (μ' := J ++ [.lst ((gs ++ [a]).map .int)]) ?_)).trans ?_
  · by_cases hf : f = .w
    · subst hf
      have eix : idxD (.list ((gs ++ [a]).map .int)) (.int 0) = some (.int ((gs ++ [a]).getD 0 0)) := by
        cases gs with
        | nil => exact il0
        | cons g gs => exact il0
      have er := rd_last (μ := J) (xs := (gs ++ [a]).map .int)
      generalize (gs ++ [a]).map PyData.int = L at eix er
      generalize (gs ++ [a]).getD 0 0 = z at eix
      simp [lc_w, er, eix, add_ok]
    · simp [lc_w, ch_iff, hf]
  · rw [css_nil, rss_nil]
    rfl
end
end K11
set_option Elab.async false
set_option linter.all false
set_option maxRecDepth 100000
set_option maxHeartbeats 2000000
/-! K11: the law reads a field, all of its words. -/
namespace K11
open PySem Ip

theorem r30 : rngD 0 30 = .int ((0 : Nat) : Int) :: .int ((1 : Nat) : Int) :: .int ((2 : Nat) : Int) :: rngD 3 27 := rfl
/-- what the inner loop leaves: the words got -/
def InnerOk (f : Fm) (flag : Int) (v : PyData) (gs : List Int) : Prop := 1 ≤ gs.length ∧ (f = .n ∨ f = .o ∨ f = .z → 2 ≤ gs.length) ∧ (∀ x ∈ gs, 0 ≤ x ∧ x ≤ 65535) ∧ valW f gs flag = v
section
variable {k : Nat} {ns : List Int} {flag : Int} {p : Nat} {w1 w2 w3 w4 w10 w11 : Option Val} {J : Sto}
/-- the inner loop's run from its start -/
def Inner (k : Nat) (ns : List Int) (f : Fm) (flag : Int) (p : Nat) (w1 w2 w3 w4 w10 w11 : Option Val) (J : Sto) (many : Int) (r : RF) : Prop := ∃ (gs : List Int) (w9' w10' : Option Val), (∀ v q, r = .got v q → f ≠ .t → InnerOk f flag v gs) ∧
  forL (.nm 10) (evalSs (callF Pt (gOf T) Cn (k + 1)) (gOf T) Cn b__law_due_1) (rngD 0 30) [some (.d (wL ns)), w1, w2, w3, w4, some (.d (.int (p : Nat))), some (.d (.str f.ch)), some (.d (.int flag)), some (.h J.length), some (.d (.int many)), w10, w11] (J ++ [.lst []]) = match r with
  | .cut => .ok (.ret (.d tolN)) (J ++ [.lst (gs.map .int)])
  | .bad i => .ok (.ret (.d (no i))) (J ++ [.lst (gs.map .int)])
  | .got _ q => .ok (.nx [some (.d (wL ns)), w1, w2, w3, w4, some (.d (.int (q : Nat))), some (.d (.str f.ch)), some (.d (.int flag)), some (.h J.length), w9', w10', w11]) (J ++ [.lst (gs.map .int)])
theorem inner_one (hw : Wd ns) (hp : p ≤ ns.length) {f : Fm} (hf : f ≠ .w) (hn : ¬ (f = .n ∨ f = .o ∨ f = .z)) {c : Int → Bool} {val : Int → PyData} (hc : ∀ a, badW f 0 [] a flag = c a) (hv : ∀ a, valW f [a] flag = val a) : Inner k ns f flag p w1 w2 w3 w4 w10 w11 J 1 (one ns p c val) := by
  unfold Inner
  rw [r30]
  cases ha : ns[p]? with
  | none =>
    have hpl : p = ns.length := by
      have := List.getElem?_eq_none_iff.mp ha
      omega
    refine ⟨[], none, none, fun v q h => by simp [one, ha] at h, ?_⟩
    have e := turn_cut (k := k) (ns := ns) (f := f) (flag := flag) (p := p) (t := 0) (w1 := w1) (w2 := w2) (w3 := w3) (w4 := w4) (w11 := w11) (many := 1) (gs := []) (J := J) (by decide) hpl
    simp only [one, ha]
    exact forL_rt rfl e
  | some a =>
    have ea := wd_at hw ha
    cases hb : c a with
    | true =>
      refine ⟨[], none, none, fun v q h => by simp [one, ha, hb] at h, ?_⟩
      have e := turn_bad (k := k) (ns := ns) (f := f) (flag := flag) (p := p) (t := 0) (w1 := w1) (w2 := w2) (w3 := w3) (w4 := w4) (w11 := w11) (many := 1) (gs := []) (J := J) (by decide) ha (fun _ h => by cases h) ((hc a).trans hb)
      simp only [one, ha, hb, if_true]
      exact forL_rt rfl e
    | false =>
      have e := turn_go (k := k) (ns := ns) (f := f) (flag := flag) (p := p) (t := 0) (w1 := w1) (w2 := w2) (w3 := w3) (w4 := w4) (w11 := w11) (many := 1) (gs := []) (J := J) (by decide) ha (fun _ h => by cases h) ((hc a).trans hb) (by simp)
      rw [if_neg hf] at e
      have e2 := turn_brk (k := k) (ns := ns) (f := f) (flag := flag) (p := p + 1) (t := 1) (w1 := w1) (w2 := w2) (w3 := w3) (w4 := w4) (w11 := w11) (gs := [a]) (J := J)
      refine ⟨[a], some (.d (.int ((1 : Nat) : Int))), some (.d (.int ((1 : Nat) : Int))), fun v q h ht => ?_, ?_⟩
      · simp only [one, ha, hb, Bool.false_eq_true, if_false] at h
        cases h
        exact ⟨Nat.le_refl _, fun h => absurd h hn, fun x hx => by
          rw [List.mem_singleton] at hx
          subst hx
          exact ea, hv a⟩
      · simp only [one, ha, hb, Bool.false_eq_true, if_false]
        exact (forL_nx rfl e).trans (forL_bk rfl e2)
theorem inner_two (hw : Wd ns) (hp : p ≤ ns.length) {f : Fm} (hf : f ≠ .w) {c1 : Int → Bool} {c2 : Int → Int → Bool} {val : Int → Int → PyData} (hc1 : ∀ a, badW f 0 [] a flag = c1 a) (hc2 : ∀ a b, badW f 1 [a] b flag = c2 a b) (hv : ∀ a b, valW f [a, b] flag = val a b) : Inner k ns f flag p w1 w2 w3 w4 w10 w11 J 2 (two ns p c1 c2 val) := by
  unfold Inner
  rw [r30]
  cases ha : ns[p]? with
  | none =>
    have hpl : p = ns.length := by
      have := List.getElem?_eq_none_iff.mp ha
      omega
    refine ⟨[], none, none, fun v q h => by simp [two, ha] at h, ?_⟩
    have e := turn_cut (k := k) (ns := ns) (f := f) (flag := flag) (p := p) (t := 0) (w1 := w1) (w2 := w2) (w3 := w3) (w4 := w4) (w11 := w11) (many := 2) (gs := []) (J := J) (by decide) hpl
    simp only [two, ha]
    exact forL_rt rfl e
  | some a =>
    have ea := wd_at hw ha
    cases hb : c1 a with
    | true =>
      refine ⟨[], none, none, fun v q h => by simp [two, ha, hb] at h, ?_⟩
      have e := turn_bad (k := k) (ns := ns) (f := f) (flag := flag) (p := p) (t := 0) (w1 := w1) (w2 := w2) (w3 := w3) (w4 := w4) (w11 := w11) (many := 2) (gs := []) (J := J) (by decide) ha (fun _ h => by cases h) ((hc1 a).trans hb)
      simp only [two, ha, hb, if_true]
      exact forL_rt rfl e
    | false =>
      have e := turn_go (k := k) (ns := ns) (f := f) (flag := flag) (p := p) (t := 0) (w1 := w1) (w2 := w2) (w3 := w3) (w4 := w4) (w11 := w11) (many := 2) (gs := []) (J := J) (by decide) ha (fun _ h => by cases h) ((hc1 a).trans hb) (by simp)
      rw [if_neg hf] at e
      have hp1 : p + 1 ≤ ns.length := (List.getElem?_eq_some_iff.mp ha).1
      cases ha2 : ns[p + 1]? with
      | none =>
        have hpl : p + 1 = ns.length := by
          have := List.getElem?_eq_none_iff.mp ha2
          omega
        refine ⟨[a], none, none, fun v q h => by simp [two, ha, hb, ha2] at h, ?_⟩
        have e2 := turn_cut (k := k) (ns := ns) (f := f) (flag := flag) (p := p + 1) (t := 1) (w1 := w1) (w2 := w2) (w3 := w3) (w4 := w4) (w11 := w11) (many := 2) (gs := [a]) (J := J) (by decide) hpl
        simp only [two, ha, hb, ha2, Bool.false_eq_true, if_false]
        exact (forL_nx rfl e).trans (forL_rt rfl e2)
      | some b =>
        have eb := wd_at hw ha2
        cases hb2 : c2 a b with
        | true =>
          refine ⟨[a], none, none, fun v q h => by simp [two, ha, hb, ha2, hb2] at h, ?_⟩
          have e2 := turn_bad (k := k) (ns := ns) (f := f) (flag := flag) (p := p + 1) (t := 1) (w1 := w1) (w2 := w2) (w3 := w3) (w4 := w4) (w11 := w11) (many := 2) (gs := [a]) (J := J) (by decide) ha2 (fun _ _ => by simp) ((hc2 a b).trans hb2)
          simp only [two, ha, hb, ha2, hb2, Bool.false_eq_true, if_false, if_true]
          exact (forL_nx rfl e).trans (forL_rt rfl e2)
        | false =>
          have e2 := turn_go (k := k) (ns := ns) (f := f) (flag := flag) (p := p + 1) (t := 1) (w1 := w1) (w2 := w2) (w3 := w3) (w4 := w4) (w11 := w11) (many := 2) (gs := [a]) (J := J) (by decide) ha2 (fun _ _ => by simp) ((hc2 a b).trans hb2) (by simp)
          rw [if_neg hf] at e2
          have e3 := turn_brk (k := k) (ns := ns) (f := f) (flag := flag) (p := p + 2) (t := 2) (w1 := w1) (w2 := w2) (w3 := w3) (w4 := w4) (w11 := w11) (gs := [a, b]) (J := J)
          refine ⟨[a, b], some (.d (.int ((2 : Nat) : Int))), some (.d (.int ((2 : Nat) : Int))), fun v q h ht => ?_, ?_⟩
          · simp only [two, ha, hb, ha2, hb2, Bool.false_eq_true, if_false] at h
            cases h
            exact ⟨by simp, fun _ => by simp, fun x hx => by
              simp only [List.mem_cons, List.not_mem_nil, or_false] at hx
              rcases hx with rfl | rfl
              · exact ea
              · exact eb, hv a b⟩
          · simp only [two, ha, hb, ha2, hb2, Bool.false_eq_true, if_false]
            exact (forL_nx rfl e).trans ((forL_nx rfl e2).trans (forL_bk rfl e3))
theorem inner_tree : Inner k ns .t flag p w1 w2 w3 w4 w10 w11 J 0 (.got (.int flag) p) := by
  unfold Inner
  rw [r30]
  have e := turn_brk (k := k) (ns := ns) (f := .t) (flag := flag) (p := p) (t := 0) (w1 := w1) (w2 := w2) (w3 := w3) (w4 := w4) (w11 := w11) (gs := []) (J := J)
  exact ⟨[], some (.d (.int ((0 : Nat) : Int))), some (.d (.int ((0 : Nat) : Int))), fun v q _ h => absurd rfl h, forL_bk rfl e⟩
theorem loop_w (n : Nat) (hn : n ≤ 28) : ∀ (m d : Nat), d + m = n → p + 1 + d ≤ ns.length → ∀ w10, ∃ (gs : List Int) (w9' w10' : Option Val), forL (.nm 10) (evalSs (callF Pt (gOf T) Cn (k + 1)) (gOf T) Cn b__law_due_1) (rngD ((d + 1 : Nat) : Int) (29 - d)) [some (.d (wL ns)), w1, w2, w3, w4, some (.d (.int ((p + 1 + d : Nat) : Int))), some (.d (.str Fm.w.ch)), some (.d (.int flag)), some (.h J.length), some (.d (.int ((n + 1 : Nat) : Int))), w10, w11] (J ++ [.lst (((n : Int) :: (ns.drop (p + 1)).take d).map .int)]) =
    if p + 1 + n ≤ ns.length then .ok (.nx [some (.d (wL ns)), w1, w2, w3, w4, some (.d (.int ((p + 1 + n : Nat) : Int))), some (.d (.str Fm.w.ch)), some (.d (.int flag)), some (.h J.length), w9', w10', w11]) (J ++ [.lst (((n : Int) :: (ns.drop (p + 1)).take n).map .int)])
    else .ok (.ret (.d tolN)) (J ++ [.lst (gs.map .int)])
  | 0, d, hd, hle, w10 => by
    have hdn : d = n := by omega
    subst hdn
    refine ⟨[], some (.d (.int ((d + 1 : Nat) : Int))), some (.d (.int ((d + 1 : Nat) : Int))), ?_⟩
    rw [if_pos hle, show 29 - d = (28 - d) + 1 by omega, rng_cons]
    have e := turn_brk (k := k) (ns := ns) (f := .w) (flag := flag) (p := p + 1 + d) (t := d + 1) (w1 := w1) (w2 := w2) (w3 := w3) (w4 := w4) (w11 := w11) (gs := (d : Int) :: (ns.drop (p + 1)).take d) (J := J)
    exact forL_bk rfl e
  | m + 1, d, hd, hle, w10 => by
    rw [show 29 - d = (28 - d) + 1 by omega, rng_cons]
    have hne : ((d + 1 : Nat) : Int) ≠ ((n + 1 : Nat) : Int) := by omega
    cases ha : ns[p + 1 + d]? with
    | none =>
      have hpl : p + 1 + d = ns.length := by
        have := List.getElem?_eq_none_iff.mp ha
        omega
      have e := turn_cut (k := k) (ns := ns) (f := .w) (flag := flag) (p := p + 1 + d) (t := d + 1) (w1 := w1) (w2 := w2) (w3 := w3) (w4 := w4) (w11 := w11) (many := ((n + 1 : Nat) : Int)) (gs := (n : Int) :: (ns.drop (p + 1)).take d) (J := J) hne hpl
      refine ⟨(n : Int) :: (ns.drop (p + 1)).take d, none, none, ?_⟩
      rw [if_neg (by omega)]
      exact forL_rt rfl e
    | some a =>
      have hlt := (List.getElem?_eq_some_iff.mp ha).1
      have hb : badW .w (d + 1) ((n : Int) :: (ns.drop (p + 1)).take d) a flag = false := by simp [badW]
      have hgl : ((n : Int) :: (ns.drop (p + 1)).take d).length ≤ 100 := by
        rw [List.length_cons, List.length_take]
        omega
      have e := turn_go (k := k) (ns := ns) (f := .w) (flag := flag) (p := p + 1 + d) (t := d + 1) (w1 := w1) (w2 := w2) (w3 := w3) (w4 := w4) (w11 := w11) (many := ((n + 1 : Nat) : Int)) (gs := (n : Int) :: (ns.drop (p + 1)).take d) (J := J) hne ha (fun h => by cases h) hb hgl
      have ht : (n : Int) :: (ns.drop (p + 1)).take d ++ [a] = (n : Int) :: (ns.drop (p + 1)).take (d + 1) := by
        rw [List.take_add_one, List.getElem?_drop, ha]
        simp
      rw [if_pos rfl, ht] at e
      have h0 : ((n : Int) :: (ns.drop (p + 1)).take (d + 1)).getD 0 0 = n := rfl
      rw [h0, show (1 : Int) + (n : Int) = ((n + 1 : Nat) : Int) by omega] at e
      obtain ⟨gs, w9', w10', ih⟩ := loop_w n hn m (d + 1) (by omega) (by omega) (some (.d (.int ((d + 1 : Nat) : Int))))
      refine ⟨gs, w9', w10', (forL_nx rfl e).trans ?_⟩
      rw [show 29 - (d + 1) = 28 - d by omega] at ih
      exact ih
theorem inner_w (hw : Wd ns) (hp : p ≤ ns.length) : Inner k ns .w flag p w1 w2 w3 w4 w10 w11 J 1 (rdF ns .w flag p) := by
  unfold Inner
  rw [show rngD 0 30 = .int ((0 : Nat) : Int) :: rngD ((0 + 1 : Nat) : Int) (29 - 0) from rfl]
  cases ha : ns[p]? with
  | none =>
    have hpl : p = ns.length := by
      have := List.getElem?_eq_none_iff.mp ha
      omega
    refine ⟨[], none, none, fun v q h => by simp [rdF, ha] at h, ?_⟩
    have e := turn_cut (k := k) (ns := ns) (f := .w) (flag := flag) (p := p) (t := 0) (w1 := w1) (w2 := w2) (w3 := w3) (w4 := w4) (w11 := w11) (many := 1) (gs := []) (J := J) (by decide) hpl
    simp only [rdF, ha]
    exact forL_rt rfl e
  | some a =>
    have ea := wd_at hw ha
    by_cases hb : 28 < a
    · refine ⟨[], none, none, fun v q h => by simp [rdF, ha, hb] at h, ?_⟩
      have e := turn_bad (k := k) (ns := ns) (f := .w) (flag := flag) (p := p) (t := 0) (w1 := w1) (w2 := w2) (w3 := w3) (w4 := w4) (w11 := w11) (many := 1) (gs := []) (J := J) (by decide) ha (fun _ h => by cases h) (by simp [badW, hb])
      simp only [rdF, ha, if_pos hb]
      exact forL_rt rfl e
    · have e := turn_go (k := k) (ns := ns) (f := .w) (flag := flag) (p := p) (t := 0) (w1 := w1) (w2 := w2) (w3 := w3) (w4 := w4) (w11 := w11) (many := 1) (gs := []) (J := J) (by decide) ha (fun _ h => by cases h) (by simp [badW, hb]) (by simp)
      rw [if_pos rfl] at e
      obtain ⟨n, rfl⟩ : ∃ n : Nat, a = (n : Int) := ⟨a.toNat, by omega⟩
      have h0 : (([] : List Int) ++ [(n : Int)]).getD 0 0 = (n : Int) := rfl
      rw [h0, show (1 : Int) + (n : Int) = ((n + 1 : Nat) : Int) by omega] at e
      have hp1 : p + 1 ≤ ns.length := (List.getElem?_eq_some_iff.mp ha).1
      obtain ⟨gs, w9', w10', ih⟩ := loop_w (k := k) (ns := ns) (flag := flag) (p := p) (w1 := w1) (w2 := w2) (w3 := w3) (w4 := w4) (w11 := w11) (J := J) n (by omega) n 0 (by omega) (by omega) (some (.d (.int ((0 : Nat) : Int))))
      by_cases hl : p + 1 + n ≤ ns.length
      · rw [if_pos hl] at ih
        refine ⟨(n : Int) :: (ns.drop (p + 1)).take n, w9', w10', fun v q h _ => ?_, ?_⟩
        · simp only [rdF, ha, if_neg hb, Int.toNat_natCast, if_pos hl] at h
          cases h
          refine ⟨by simp, fun h => by simp at h, fun x hx => ?_, rfl⟩
          rcases List.mem_cons.mp hx with rfl | hx
          · exact ea
          · exact hw.1 x (List.mem_of_mem_drop (List.mem_of_mem_take hx))
        · simp only [rdF, ha, if_neg hb, Int.toNat_natCast, if_pos hl]
          exact (forL_nx rfl e).trans ih
      · rw [if_neg hl] at ih
        refine ⟨gs, none, none, fun v q h => ?_, ?_⟩
        · simp only [rdF, ha, if_neg hb, Int.toNat_natCast, if_neg hl] at h
          cases h
        · simp only [rdF, ha, if_neg hb, Int.toNat_natCast, if_neg hl]
          exact (forL_nx rfl e).trans ih
def many0 (f : Fm) : Int := if f = .t then 0 else if f = .n ∨ f = .z ∨ f = .o then 2 else 1
theorem inner_all (hw : Wd ns) (hp : p ≤ ns.length) (f : Fm) : Inner k ns f flag p w1 w2 w3 w4 w10 w11 J (many0 f) (rdF ns f flag p) := by
  cases f with
  | t => exact inner_tree
  | w => exact inner_w hw hp
  | n => exact inner_two hw hp (by decide) (fun a => rfl) (fun a b => rfl) (fun a b => rfl)
  | z => exact inner_two hw hp (by decide) (fun a => rfl) (fun a b => rfl) (fun a b => rfl)
  | o => exact inner_two hw hp (by decide) (fun a => rfl) (fun a b => by simp [badW, Bool.and_comm]) (fun a b => rfl)
  | g => exact inner_one hw hp (by decide) (by decide) (fun a => rfl) (fun a => rfl)
  | k => exact inner_one hw hp (by decide) (by decide) (fun a => rfl) (fun a => rfl)
  | m => exact inner_one hw hp (by decide) (by decide) (fun a => rfl) (fun a => rfl)
end
end K11
set_option Elab.async false
set_option linter.all false
set_option maxRecDepth 100000
set_option maxHeartbeats 2000000
/-! K11: the law reads a record; the program refuses wrong lists and places. -/
namespace K11
open PySem Ip

theorem cons_app {μ κ : Sto} {o o' : MO} : (μ ++ o :: κ) ++ [o'] = μ ++ o :: (κ ++ [o']) := by simp
theorem body_due (k : Nat) {ns : List Int} (hw : Wd ns) {f : Fm} {fl : Int} {p : Nat} (hp : p ≤ ns.length) {w1 w2 w7 w8 w9 w10 w11 : Option Val} {its : List PyData} (hi : its.length ≤ 100) (μ κ : Sto) :
    ∃ κ' w7' w8' w9' w10', evalSs (callF Pt (gOf T) Cn (k + 2)) (gOf T) Cn b__law_due_0 [some (.d (wL ns)), w1, w2, some (.d (.int fl)), some (.h μ.length), some (.d (.int (p : Nat))), some (.d (.str f.ch)), w7, w8, w9, w10, w11] (μ ++ .lst its :: κ) =
    match rdF ns f (fl % 2) p with
    | .cut => .ok (.ret (.d tolN)) (μ ++ .lst its :: κ')
    | .bad i => .ok (.ret (.d (no i))) (μ ++ .lst its :: κ')
    | .got v q => .ok (.nx [some (.d (wL ns)), w1, w2, some (.d (.int (flN f fl))), some (.h μ.length), some (.d (.int (q : Nat))), some (.d (.str f.ch)), w7', w8', w9', w10', w11]) (μ ++ .lst (its ++ [v]) :: κ') := by
  obtain ⟨J, hJ⟩ : ∃ J, J = μ ++ .lst its :: κ := ⟨_, rfl⟩
  have s1 : evalS (callF Pt (gOf T) Cn (k + 2)) (gOf T) Cn (.iff (.cmp .in_ (.var 6) (.kst (.str "tm"))) (cssOf [(.set 3 (.bin .fdiv (.var 3) (.kst (.int (2)))))]) (cssOf [])) [some (.d (wL ns)), w1, w2, some (.d (.int fl)), some (.h μ.length), some (.d (.int (p : Nat))), some (.d (.str f.ch)), some (.d (.int (fl % 2))), w8, w9, w10, w11] J =
      .ok (.nx [some (.d (wL ns)), w1, w2, some (.d (.int (flN f fl))), some (.h μ.length), some (.d (.int (p : Nat))), some (.d (.str f.ch)), some (.d (.int (fl % 2))), w8, w9, w10, w11]) J := by
    have hs : sml 2 = true := sml_of (by decide) (by decide)
    by_cases hf : f = .t ∨ f = .m
    · simp [cm_in, in_ctm, hf, flN, binD, hs]
    · simp [cm_in, in_ctm, hf, flN]
  obtain ⟨gs, w9', w10', hin, e⟩ := inner_all (k := k + 1) (w1 := w1) (w2 := w2) (w3 := some (.d (.int (flN f fl)))) (w4 := some (.h μ.length)) (w10 := w10) (w11 := w11) (J := J) hw hp f (flag := fl % 2)
  have s0 : ∀ R, evalSs (callF Pt (gOf T) Cn (k + 2)) (gOf T) Cn (cssOf [(.for_ (.nm 10) (.rg1 (.kst (.int (30)))) b__law_due_1), (.ex (.mm .append 4 (cesOf [(.ite (.cmp .eq (.var 6) (.kst (.str "t"))) (.var 7) (.call 35 (cesOf [(.var 6), (.var 8), (.var 7)])))])))]) [some (.d (wL ns)), w1, w2, some (.d (.int (flN f fl))), some (.h μ.length), some (.d (.int (p : Nat))), some (.d (.str f.ch)), some (.d (.int (fl % 2))), some (.h J.length), some (.d (.int (many0 f))), w10, w11] (J ++ [.lst []]) = R →
      evalSs (callF Pt (gOf T) Cn (k + 2)) (gOf T) Cn b__law_due_0 [some (.d (wL ns)), w1, w2, some (.d (.int fl)), some (.h μ.length), some (.d (.int (p : Nat))), some (.d (.str f.ch)), w7, w8, w9, w10, w11] J = R := by
    intro R h
    refine (ss_nx (s_set (w := .d (.int (fl % 2))) (μ' := J) (by simp [binD]))).trans ?_
    refine (ss_nx s1).trans ?_
    refine (ss_nx (s_set (w := .h J.length) (μ' := J ++ [.lst []]) (by simp [l0]))).trans ?_
    refine (ss_nx (s_set (w := .d (.int (many0 f))) (μ' := J ++ [.lst []]) ?_)).trans ?_
    rotate_left
    · exact h
    have e3 := in_nzo (f := f)
    by_cases h1 : f = .t
    · subst h1
      simp [lc_t, many0]
    · by_cases h2 : f = .n ∨ f = .z ∨ f = .o <;> simp [lc_t, ch_iff, many0, h1, cm_in, e3, h2]
  have hfor : evalR (callF Pt (gOf T) Cn (k + 2)) (gOf T) (.rg1 (.kst (.int (30)))) [some (.d (wL ns)), w1, w2, some (.d (.int (flN f fl))), some (.h μ.length), some (.d (.int (p : Nat))), some (.d (.str f.ch)), some (.d (.int (fl % 2))), some (.h J.length), some (.d (.int (many0 f))), w10, w11] (J ++ [.lst []]) = .ok (rngD 0 30) (J ++ [.lst []]) := by
    rw [rr_rg1_ok (n := 30) (μ' := J ++ [.lst []]) (by simp) (by decide)]
    rfl
  have ef := (s_for (t := .nm 10) (C := Cn) (b := b__law_due_1) hfor).trans e
  rw [← hJ]
  cases hr : rdF ns f (fl % 2) p with
  | cut =>
    rw [hr] at ef
    refine ⟨κ ++ [.lst (gs.map .int)], none, none, none, none, s0 _ ?_⟩
    rw [← cons_app, ← hJ]
    exact ss_rt ef
  | bad i =>
    rw [hr] at ef
    refine ⟨κ ++ [.lst (gs.map .int)], none, none, none, none, s0 _ ?_⟩
    rw [← cons_app, ← hJ]
    exact ss_rt ef
  | got v q =>
    rw [hr] at ef hin
    refine ⟨κ ++ [.lst (gs.map .int)], some (.d (.int (fl % 2))), some (.h J.length), w9', w10', s0 _ ?_⟩
    refine (ss_nx ef).trans ?_
    have hs : J ++ [.lst (gs.map .int)] = μ ++ .lst its :: (κ ++ [.lst (gs.map .int)]) := by rw [hJ, cons_app]
    refine (ss_nx (s_ex (mm_app (n := μ.length) (xs := its) (y := v) rfl (by rw [hs]; exact get_mid) ?_ (by unfold lim; omega)))).trans ?_
    · by_cases ht : f = .t
      · subst ht
        simp only [rdF] at hr
        cases hr
        simp [lc_t]
      · obtain ⟨i1, i2, i3, i4⟩ := hin v q rfl ht
        have ev := law_value_eq (k + 1) f (gs := gs) (fl % 2) (J ++ [.lst (gs.map .int)]) J.length get_last i1 i2 i3 ht
        rw [i4] at ev
        simp [lc_t, ch_iff, ht, ev]
    · rw [css_nil, rss_nil, hs, set_mid]
theorem loop_due (k : Nat) {ns : List Int} (hw : Wd ns) {w1 w2 w11 : Option Val} (μ : Sto) : ∀ (fs : List Fm) (fl : Int) (p : Nat) (its : List PyData) (κ : Sto), p ≤ ns.length → its.length + fs.length ≤ 100 → ∀ w6 w7 w8 w9 w10, ∃ κ' its' w3' w6' w7' w8' w9' w10',
    forL (.nm 6) (evalSs (callF Pt (gOf T) Cn (k + 2)) (gOf T) Cn b__law_due_0) (fs.map fun f => .str f.ch) [some (.d (wL ns)), w1, w2, some (.d (.int fl)), some (.h μ.length), some (.d (.int (p : Nat))), w6, w7, w8, w9, w10, w11] (μ ++ .lst its :: κ) =
    match rdFs ns fs fl p with
    | .cut => .ok (.ret (.d tolN)) (μ ++ .lst its' :: κ')
    | .bad i => .ok (.ret (.d (no i))) (μ ++ .lst its' :: κ')
    | .got vs q => .ok (.nx [some (.d (wL ns)), w1, w2, w3', some (.h μ.length), some (.d (.int (q : Nat))), w6', w7', w8', w9', w10', w11]) (μ ++ .lst (its ++ vs) :: κ')
  | [], fl, p, its, κ, _, _, w6, w7, w8, w9, w10 => ⟨κ, its, _, w6, w7, w8, w9, w10, by simp [forL, rdFs]; rfl⟩
  | f :: fs, fl, p, its, κ, hp, hl, w6, w7, w8, w9, w10 => by
    simp only [List.length_cons] at hl
    obtain ⟨κ1, w7', w8', w9', w10', e⟩ := body_due k hw (f := f) (fl := fl) hp (w1 := w1) (w2 := w2) (w7 := w7) (w8 := w8) (w9 := w9) (w10 := w10) (w11 := w11) (its := its) (by omega) μ κ
    simp only [List.map_cons, rdFs]
    cases hr : rdF ns f (fl % 2) p with
    | cut =>
      rw [hr] at e
      exact ⟨κ1, its, none, none, none, none, none, none, forL_rt rfl e⟩
    | bad i =>
      rw [hr] at e
      exact ⟨κ1, its, none, none, none, none, none, none, forL_rt rfl e⟩
    | got v q =>
      rw [hr] at e
      obtain ⟨κ2, its', w3', w6', w7'', w8'', w9'', w10'', ih⟩ := loop_due k hw (w1 := w1) (w2 := w2) (w11 := w11) μ fs (flN f fl) q (its ++ [v]) κ1 (rdF_le hp hr) (by simp; omega) (some (.d (.str f.ch))) w7' w8' w9' w10'
      refine ⟨κ2, its', w3', w6', w7'', w8'', w9'', w10'', (forL_nx rfl e).trans (ih.trans ?_)⟩
      dsimp only
      cases rdFs ns fs (flN f fl) q with
      | cut => rfl
      | bad i => rfl
      | got vs q' => simp
def dueD (r : RL) : PyData := match r with
  | .cut => tolN
  | .bad i => no i
  | .got vs q => .list [.str "told", .tuple [.tuple vs, .int (q : Nat)]]
theorem cnt_tm : ∀ r ∈ rowsL, Txt.count (chS r.2.2) "t" + Txt.count (chS r.2.2) "m" = (cntTM r.2.2 : Nat) := by decide +kernel
theorem pow_ix {n : Nat} (h : n ≤ 3) : idxD (.tuple [.int 1, .int 2, .int 4, .int 8]) (.int (n : Nat)) = some (.int (2 ^ n)) := by
  have h2 : n = 0 ∨ n = 1 ∨ n = 2 ∨ n = 3 := by omega
  rcases h2 with rfl | rfl | rfl | rfl <;> simp [idxD, ixP, L2.ixN]
theorem keyC_row {c : Int} {r : Row} : keyC c (rowD r) = decide ((r.2.1 : Int) = c) := rfl
theorem rowsC_of {Φ : Nat → List Val → Sto → Res Val} {ρ : Ip.Env} {μ : Sto} {ns : List Int} {p : Nat} {a : Int} (hΦ : Φ 26 [] μ = .ok (.d (.list (rowsL.map rowD))) μ) (h0 : ρ[0]? = some (some (.d (wL ns)))) (h1 : ρ[1]? = some (some (.d (.int (p : Nat))))) (hj : 11 < ρ.length) (ha : ns[p]? = some a) :
    evalE Φ (gOf T) (.lcm false [11] (.var 11) (.nm 11) (.sq (.call 26 .nil)) (.so (.cmp .eq (.idx (.var 11) (.kst (.int 1))) (.bin .mod (.bi .int (.cons (.idx (.var 0) (.var 1)) .nil)) (.kst (.int 16)))))) ρ μ = .ok (.d (.list ((rowsL.filter fun r => decide ((r.2.1 : Int) = a % 16)).map rowD))) μ := by
  have e : evalR Φ (gOf T) (.sq (.call 26 .nil)) ρ μ = .ok (rowsL.map rowD) μ := by simp [hΦ]
  have e1 := wl_ix ha
  have z := lcm_fm (own := [11]) (t := .nm 11) (elt := evalE Φ (gOf T) (.var 11)) (c := evalC Φ (gOf T) (.so (.cmp .eq (.idx (.var 11) (.kst (.int 1))) (.bin .mod (.bi .int (.cons (.idx (.var 0) (.var 1)) .nil)) (.kst (.int 16)))))) (ρ := ρ) (μ := μ) (keyC (a % 16)) id (rowsL.map rowD) [] (fun x hx => by
    obtain ⟨r, _, rfl⟩ := List.mem_map.mp hx
    refine ⟨_, rfl, ?_, fun _ => by simp [wipeE, hj]⟩
    simp [wipeE, hj, List.getElem?_set, h0, h1, rw1, e1, binD, keyC_row]) (by decide)
  rw [re_lcm, e, Res.bind_ok, z, List.map_id, List.nil_append, filt_rowsC]
  rfl

theorem law_due_eq (k : Nat) {ns : List Int} (hw : Wd ns) {p : Nat} (hp : p ≤ ns.length) (μ : Sto) : callF Pt (gOf T) Cn (k + 3) 36 [.d (wL ns), .d (.int (p : Nat))] μ = .ok (.d (dueD (due ns p))) μ := by
  rw [call_eq c__law_due rfl rfl, show startE c__law_due [.d (wL ns), .d (.int (p : Nat))] = [some (.d (wL ns)), some (.d (.int (p : Nat))), none, none, none, none, none, none, none, none, none, none] from rfl]
  cases ha : ns[p]? with
  | none =>
    have h2 : (p : Int) = (ns.length : Int) := by
      have := List.getElem?_eq_none_iff.mp ha
      omega
    refine (congrArg _ (ss_rt ((s_if_t (μ' := μ) (by simp [h2])).trans (ss_rt (s_ret (w := .d tolN) (μ' := μ) (by simp [l2, tolN])))))).trans ?_
    simp [due, ha, dueD]
  | some a =>
    have h2 : ¬ ((p : Int) = (ns.length : Int)) := by
      have := (List.getElem?_eq_some_iff.mp ha).1
      omega
    have hp1 : p + 1 ≤ ns.length := (List.getElem?_eq_some_iff.mp ha).1
    have e1 := wl_ix ha
    have ea := wd_at hw ha
    have hs : sml 16 = true := sml_of (by decide) (by decide)
    have er := rowsC_of (Φ := callF Pt (gOf T) Cn (k + 2)) (ρ := [some (.d (wL ns)), some (.d (.int (p : Nat))), none, none, none, none, none, none, none, none, none, none]) (μ := μ) (table_eq _ μ) rfl rfl (by simp) ha
    refine (congrArg _ (ss_nx (s_if_no (μ' := μ) (by simp [h2])))).trans ?_
    refine (congrArg _ (ss_nx (s_set er))).trans ?_
    refine (congrArg _ (ss_nx (s_set (w := .d (.int (a / 16))) (μ' := μ) (by simp [e1, binD, hs])))).trans ?_
    cases hk : lookC (a % 16) with
    | none =>
      rw [filtC_none hk]
      refine (congrArg _ (ss_rt ((s_if_t (μ' := μ) (by simp)).trans (ss_rt (s_ret (w := .d (no p)) (μ' := μ) (by simp [law_no_eq])))))).trans ?_
      simp [due, ha, hk, dueD]
    | some r =>
      obtain ⟨hr, hrc⟩ := lookC_mem hk
      obtain ⟨q1, q2, q3, q4, q5, q6, q7⟩ := row_all r hr
      have hcnt := cnt_tm r hr
      have hix := pow_ix (cnt_all r hr)
      rw [filtC_some hk]
      have hcond : evalE (callF Pt (gOf T) Cn (k + 2)) (gOf T) (.bop false (cesOf [(.cmp .eq (.bi .len (cesOf [(.var 2)])) (.kst (.int (0)))), (.cmp .ge (.var 3) (.idx (.tup (cesOf [(.kst (.int (1))), (.kst (.int (2))), (.kst (.int (4))), (.kst (.int (8)))])) (.bin .add (.pm .scount (.idx (.idx (.var 2) (.kst (.int (0)))) (.kst (.int (2)))) (cesOf [(.kst (.str "t"))])) (.pm .scount (.idx (.idx (.var 2) (.kst (.int (0)))) (.kst (.int (2)))) (cesOf [(.kst (.str "m"))])))))]))
          [some (.d (wL ns)), some (.d (.int (p : Nat))), some (.d (.list [rowD r])), some (.d (.int (a / 16))), none, none, none, none, none, none, none, none] μ = .ok (.d (.bool (decide (2 ^ cntTM r.2.2 ≤ a / 16)))) μ := by
        have l4 : 4 ≤ lim := by decide
        simp [il0, rw2, pmT, pmD, add_ok, hcnt, hix, l4]
      by_cases hbig : 2 ^ cntTM r.2.2 ≤ a / 16
      · rw [decide_eq_true hbig] at hcond
        refine (congrArg _ (ss_rt ((s_if_t hcond).trans (ss_rt (s_ret (w := .d (no p)) (μ' := μ) (by simp [law_no_eq])))))).trans ?_
        simp [due, ha, hk, dueD, hbig]
      · rw [decide_eq_false hbig] at hcond
        refine (congrArg _ (ss_nx (s_if_no hcond))).trans ?_
        refine (congrArg _ (ss_nx (s_set (w := .h μ.length) (μ' := μ ++ [.lst [.str r.1]]) (by simp [il0, rw0, l1])))).trans ?_
        refine (congrArg _ (ss_nx (s_set (w := .d (.int ((p + 1 : Nat) : Int))) (μ' := μ ++ [.lst [.str r.1]]) (by simp [add_ok])))).trans ?_
        obtain ⟨κ', its', w3', w6', w7', w8', w9', w10', el⟩ := loop_due k hw (w1 := some (.d (.int (p : Nat)))) (w2 := some (.d (.list [rowD r]))) (w11 := none) μ r.2.2 (a / 16) (p + 1) [.str r.1] [] hp1 (by simp; omega) none none none none none
        have ef := (s_for (Φ := callF Pt (gOf T) Cn (k + 2)) (G := gOf T) (C := Cn) (t := .nm 6) (src := .chs (.idx (.idx (.var 2) (.kst (.int (0)))) (.kst (.int (2))))) (b := b__law_due_0) (ρ := [some (.d (wL ns)), some (.d (.int (p : Nat))), some (.d (.list [rowD r])), some (.d (.int (a / 16))), some (.h μ.length), some (.d (.int ((p + 1 : Nat) : Int))), none, none, none, none, none, none]) (μ := μ ++ [.lst [.str r.1]]) (xs := r.2.2.map fun f => .str f.ch) (μ' := μ ++ [.lst [.str r.1]]) (by simp [il0, rw2, chs_of])).trans el
        cases hrd : rdFs ns r.2.2 (a / 16) (p + 1) with
        | cut =>
          have hd : due ns p = .cut := by simp only [due, ha, hk, if_neg hbig, hrd]
          rw [hrd] at ef
          rw [hd]
          refine (congrArg _ (ss_rt ef)).trans ?_
          simp [dueD, List.take_left]
        | bad i =>
          have hd : due ns p = .bad i := by simp only [due, ha, hk, if_neg hbig, hrd]
          rw [hrd] at ef
          rw [hd]
          refine (congrArg _ (ss_rt ef)).trans ?_
          simp [dueD, List.take_left]
        | got vs q =>
          have hd : due ns p = .got (.str r.1 :: vs) q := by simp only [due, ha, hk, if_neg hbig, hrd]
          rw [hrd] at ef
          rw [hd]
          refine (congrArg _ (ss_nx ef)).trans ?_
          refine (congrArg _ (ss_rt (s_ret (w := .d (dueD (.got (.str r.1 :: vs) q))) (μ' := μ ++ .lst (.str r.1 :: vs) :: κ') (by simp [rd_mid, biD, l2, dueD])))).trans ?_
          simp [List.take_left]
/-- the program's reading, of right arguments and of wrong ones -/
theorem record_at_eq (k : Nat) {ns : List Int} (hw : Wd ns) {p : Nat} (hp : p ≤ ns.length) (μ : Sto) : callF Pt (gOf T) Cn (k + 4) 14 [.d (wL ns), .d (.int (p : Nat))] μ = outL (due ns p) μ := by
  rw [call_eq c_record_at rfl rfl, show startE c_record_at [.d (wL ns), .d (.int (p : Nat))] = [some (.d (wL ns)), some (.d (.int (p : Nat))), none] from rfl]
  have e := isW_words (Φ := callF Pt (gOf T) Cn (k + 3)) (ρ := [some (.d (wL ns)), some (.d (.int (p : Nat))), none]) (μ := μ) (i := 0) (j := 2) (v := wL ns) (xs := ns.map .int) (fun v => is_word_eq (k + 1) v μ) rfl rfl (by simp) (by simp; exact small_lim hw.2)
  have hall : ((ns.map PyData.int).all fun x => isI x 0 65535) = true := by
    rw [List.all_eq_true]
    intro x hx
    obtain ⟨i, hi, rfl⟩ := List.mem_map.mp hx
    have := hw.1 i hi
    simp [isI, this]
  have hI : isI (.int (p : Nat)) 0 (ns.length : Nat) = true := by
    simp [isI]
    omega
  have eu := unpacked_eq k hw hp μ
  refine (congrArg _ (ss_nx (s_if_no (μ' := μ) (by simp [-re_lcm, e, all_map, hall, isiD, -List.all_map, -List.map_map])))).trans ?_
  refine (congrArg _ (ss_nx (s_if_no (μ' := μ) (by simp [is_int_eq, hI])))).trans ?_
  cases hd : due ns p <;> rw [hd] at eu <;> simp [eu, outL]
theorem record_at_words (k : Nat) {x v : PyData} (μ : Sto) (h : ∀ xs, x = .list xs → xs.length ≤ lim ∧ (xs.all fun x => isI x 0 65535) = false) : callF Pt (gOf T) Cn (k + 4) 14 [.d x, .d v] μ = .exc ⟨1, [.str "words"]⟩ μ := by
  rw [call_eq c_record_at rfl rfl, show startE c_record_at [.d x, .d v] = [some (.d x), some (.d v), none] from rfl]
  cases x with
  | list xs =>
    obtain ⟨h1, h2⟩ := h xs rfl
    have e := isW_words (Φ := callF Pt (gOf T) Cn (k + 3)) (ρ := [some (.d (.list xs)), some (.d v), none]) (μ := μ) (i := 0) (j := 2) (v := .list xs) (xs := xs) (fun v => is_word_eq (k + 1) v μ) rfl rfl (by simp) h1
    simp [-re_lcm, c_record_at, e, all_map, h2, isiD, -List.all_eq_false]
  | _ => simp [c_record_at, isiD]
theorem record_at_at (k : Nat) {ns : List Int} (hw : Wd ns) {v : PyData} (hv : isI v 0 (ns.length : Nat) = false) (μ : Sto) : callF Pt (gOf T) Cn (k + 4) 14 [.d (wL ns), .d v] μ = .exc ⟨1, [.str "at"]⟩ μ := by
  rw [call_eq c_record_at rfl rfl, show startE c_record_at [.d (wL ns), .d v] = [some (.d (wL ns)), some (.d v), none] from rfl]
  have e := isW_words (Φ := callF Pt (gOf T) Cn (k + 3)) (ρ := [some (.d (wL ns)), some (.d v), none]) (μ := μ) (i := 0) (j := 2) (v := wL ns) (xs := ns.map .int) (fun v => is_word_eq (k + 1) v μ) rfl rfl (by simp) (by simp; exact small_lim hw.2)
  have hall : ((ns.map PyData.int).all fun x => isI x 0 65535) = true := by
    rw [List.all_eq_true]
    intro x hx
    obtain ⟨i, hi, rfl⟩ := List.mem_map.mp hx
    have := hw.1 i hi
    simp [isI, this]
  refine (congrArg _ (ss_nx (s_if_no (μ' := μ) (by simp [-re_lcm, e, all_map, hall, isiD, -List.all_map, -List.map_map])))).trans ?_
  refine (congrArg _ (ss_xc ((s_if_t (μ' := μ) (by simp [is_int_eq, hv])).trans (ss_xc (s_rse (ws := [.d (.str "at")]) (xs := [.str "at"]) (μ' := μ) (by simp) rfl))))).trans ?_
  simp
end K11
set_option Elab.async false
set_option linter.all false
set_option maxRecDepth 100000
set_option maxHeartbeats 2000000
/-! K11: _law_same finds a plain value like itself, _law_copy copies it. -/
namespace K11
open PySem Ip

mutual
/-- plain data, with this many parts, of this depth at most; dicts are empty -/
inductive Pl : PyData → Nat → Nat → Prop
  | none (d : Nat) : Pl .none 1 d
  | int (i : Int) (d : Nat) : Pl (.int i) 1 d
  | bool (b : Bool) (d : Nat) : Pl (.bool b) 1 d
  | str (s : Str) (d : Nat) : Pl (.str s) 1 d
  | dct (d : Nat) : Pl (.dict []) 1 d
  | tup {xs : List PyData} {n d : Nat} (h : Pls xs n d) : Pl (.tuple xs) (n + 1) (d + 1)
  | lst {xs : List PyData} {n d : Nat} (h : Pls xs n d) : Pl (.list xs) (n + 1) (d + 1)
inductive Pls : List PyData → Nat → Nat → Prop
  | nil (d : Nat) : Pls [] 0 d
  | cons {x : PyData} {xs : List PyData} {a b d : Nat} (h1 : Pl x a d) (h2 : Pls xs b d) : Pls (x :: xs) (a + b) d
end
theorem pl_pos {x : PyData} {n d : Nat} (h : Pl x n d) : 1 ≤ n := by
  cases h <;> omega
theorem pls_len : ∀ {xs : List PyData} {n d : Nat}, Pls xs n d → xs.length ≤ n
  | [], _, _, _ => Nat.zero_le _
  | x :: xs, _, _, h => by
    cases h with
    | cons h1 h2 =>
      have := pl_pos h1
      have := pls_len h2
      simp only [List.length_cons]
      omega
theorem pls_app : ∀ {xs ys : List PyData} {a b d : Nat}, Pls xs a d → Pls ys b d → Pls (xs ++ ys) (a + b) d
  | [], ys, a, b, d, h1, h2 => by
    cases h1
    simpa using h2
  | x :: xs, ys, a, b, d, h1, h2 => by
    cases h1 with
    | @cons _ _ a1 b1 _ h3 h4 =>
      rw [Nat.add_assoc]
      exact .cons h3 (pls_app h4 h2)
theorem pls_snoc : ∀ {xs : List PyData} {x : PyData} {n d : Nat}, Pls (xs ++ [x]) n d → ∃ a b, Pls xs a d ∧ Pl x b d ∧ n = a + b
  | [], x, n, d, h => by
    cases h with
    | @cons _ _ a b _ h1 h2 =>
      cases h2
      exact ⟨0, a, .nil _, h1, by omega⟩
  | y :: xs, x, n, d, h => by
    cases h with
    | @cons _ _ a b _ h1 h2 =>
      obtain ⟨c, e, h3, h4, rfl⟩ := pls_snoc h2
      exact ⟨a + c, e, .cons h1 h3, h4, by omega⟩
mutual
theorem pl_up : ∀ {x : PyData} {n d : Nat}, Pl x n d → ∀ e, Pl x n (d + e)
  | _, _, _, .none d, e => .none _
  | _, _, _, .int i d, e => .int i _
  | _, _, _, .bool i d, e => .bool i _
  | _, _, _, .str i d, e => .str i _
  | _, _, _, .dct d, e => .dct _
  | _, _, _, @Pl.tup xs n d h, e => by
    have := pls_up h e
    rw [show d + 1 + e = (d + e) + 1 by omega]
    exact .tup this
  | _, _, _, @Pl.lst xs n d h, e => by
    have := pls_up h e
    rw [show d + 1 + e = (d + e) + 1 by omega]
    exact .lst this
theorem pls_up : ∀ {xs : List PyData} {n d : Nat}, Pls xs n d → ∀ e, Pls xs n (d + e)
  | _, _, _, .nil d, e => .nil _
  | _, _, _, .cons h1 h2, e => .cons (pl_up h1 e) (pls_up h2 e)
end
theorem pl_le {x : PyData} {n d d' : Nat} (h : Pl x n d) (hd : d ≤ d') : Pl x n d' := by
  have := pl_up h (d' - d)
  rwa [show d + (d' - d) = d' by omega] at this
theorem pls_le {x : List PyData} {n d d' : Nat} (h : Pls x n d) (hd : d ≤ d') : Pls x n d' := by
  have := pls_up h (d' - d)
  rwa [show d + (d' - d) = d' by omega] at this
theorem pls_take : ∀ (i : Nat) {xs : List PyData} {n d : Nat}, Pls xs n d → ∃ m, m ≤ n ∧ Pls (xs.take i) m d
  | 0, xs, n, d, h => ⟨0, Nat.zero_le _, by simpa using .nil d⟩
  | i + 1, _, _, _, .nil d => ⟨0, Nat.le_refl _, by simpa using .nil d⟩
  | i + 1, _, _, _, .cons (a := a) h1 h2 => by
    obtain ⟨m, h3, h4⟩ := pls_take i h2
    exact ⟨a + m, by omega, .cons h1 h4⟩
theorem pls_drop : ∀ (i : Nat) {xs : List PyData} {n d : Nat}, Pls xs n d → ∃ m, m ≤ n ∧ Pls (xs.drop i) m d
  | 0, xs, n, d, h => ⟨n, Nat.le_refl _, by simpa using h⟩
  | i + 1, _, _, _, .nil d => ⟨0, Nat.le_refl _, by simpa using .nil d⟩
  | i + 1, _, _, _, .cons (a := a) h1 h2 => by
    obtain ⟨m, h3, h4⟩ := pls_drop i h2
    exact ⟨m, by omega, h4⟩
theorem pls_mem : ∀ {xs : List PyData} {n d : Nat}, Pls xs n d → ∀ x ∈ xs, ∃ m, m ≤ n ∧ Pl x m d
  | _, _, _, .nil d, x, hx => by simp at hx
  | _, _, _, .cons (a := a) (b := b) h1 h2, x, hx => by
    rcases List.mem_cons.mp hx with rfl | hx
    · exact ⟨a, by omega, h1⟩
    · obtain ⟨m, h3, h4⟩ := pls_mem h2 x hx
      exact ⟨m, by omega, h4⟩
theorem ixT {xs : List PyData} {i : Nat} (h : i < xs.length) : idxD (.tuple xs) (.int (i : Int)) = some xs[i] := (ixn (List.getElem?_eq_getElem h)).1
def dup (x : PyData) : PyData := .tuple [x, x]
theorem pop_snoc {xs : List PyData} {y : PyData} : mmD .pop0 (xs ++ [y]) [] = some (xs, y) := by
  simp [mmD]
theorem cm_neb {a b : Bool} : cmpD .ne (.bool a) (.bool b) = some (a != b) := by
  cases a <;> cases b <;> rfl
theorem rg_mid (z : Int) (h1 : 0 ≤ z) (h3 : z ≤ 2000000) : rgOk z = true := by
  unfold rgOk
  rw [Bool.and_eq_true]
  exact ⟨decide_eq_true (by omega), decide_eq_true (by omega)⟩
theorem ixl_of {xs : List PyData} {i : Nat} (h : i < xs.length) : idxD (.list xs) (.int (i : Int)) = some xs[i] := ixT (xs := xs) h
theorem map_dup {xs : List PyData} {f : PyData → PyData} (hf : ∀ i (h : i < xs.length), f (.int ((i : Nat) : Int)) = dup xs[i]) : (rngD 0 xs.length).map f = xs.map dup := by
  apply List.ext_getElem
  · simp [rngD]
  · intro i h1 h2
    have h3 : i < xs.length := by simpa using h2
    simp [rngD, hf i h3]
theorem dup_eq {Φ : Nat → List Val → Sto → Res Val} {w0 w1 w2 w3 w6 w7 : Option Val} {o : PyData} {xs : List PyData} {μ : Sto} (hl : biD .len [o] = some (.int xs.length)) (hi : ∀ i (h : i < xs.length), idxD o (.int ((i : Nat) : Int)) = some xs[i]) (hs : xs.length ≤ 1000000) :
    evalE Φ (gOf T) (.lcm false [6] (.tup (.cons (.idx (.var 4) (.var 6)) (.cons (.idx (.var 5) (.var 6)) .nil))) (.nm 6) (.rg1 (.bi .len (.cons (.var 5) .nil))) .no) [w0, w1, w2, w3, some (.d o), some (.d o), w6, w7] μ = .ok (.d (.list (xs.map dup))) μ := by
  have z : evalE Φ (gOf T) (.bi .len (.cons (.var 5) .nil)) [w0, w1, w2, w3, some (.d o), some (.d o), w6, w7] μ = .ok (.d (.int xs.length)) μ := by simp [hl]
  have h : ∀ j : Int, j = (xs.length : Int) → rgOk j = true := fun j e => rg_mid j (by omega) (by omega)
  have y := rr_rg1_ok z (h _ rfl)
  rw [Int.toNat_natCast] at y
  let f : PyData → PyData := fun x => match x with
    | .int i => dup ((xs[i.toNat]?).getD .none)
    | _ => .none
  have hf : ∀ i (h : i < xs.length), f (.int ((i : Nat) : Int)) = dup xs[i] := fun i h => by
    simp [f, h]
  rw [re_lcm, y, Res.bind_ok]
  rw [lcm_map f (rngD 0 xs.length) []]
  · rw [map_dup hf]
    rfl
  · intro x hx
    unfold rngD at hx
    obtain ⟨i, hi1, rfl⟩ := List.mem_map.mp hx
    rw [List.mem_range] at hi1
    refine ⟨_, rfl, ?_, by simp⟩
    have h2 := hi i hi1
    have e : ((0 : Int) + ((i : Nat) : Int)) = (i : Int) := by omega
    rw [e]
    rw [hf i hi1]
    simp [wipeE, h2, l2, dup]
  · rw [rng_len]
    unfold lim
    simp
    omega
theorem len_last {Φ : Nat → List Val → Sto → Res Val} {ρ : Ip.Env} {μ : Sto} {xs : List PyData} {i : Nat} (h : ρ[i]? = some (some (.h μ.length))) : evalE Φ (gOf T) (.bi .len (.cons (.var i) .nil)) ρ (μ ++ [.lst xs]) = .ok (.d (.int xs.length)) (μ ++ [.lst xs]) := by
  simp [h, rd_last]
theorem same_body {Φ : Nat → List Val → Sto → Res Val} {w0 w1 w3 w4 w5 w6 w7 : Option Val} {μ : Sto} {L : List PyData} {x : PyData} {a b : Nat} {d : Nat} (ha : Pls L a d) (hb : Pl x b d) (hab : a + b ≤ 1000000) :
    WF (evalSs Φ (gOf T) Cn b__law_same_0 [w0, w1, some (.h μ.length), w3, w4, w5, w6, w7] (μ ++ [.lst ((L ++ [x]).map dup)])) fun f μ' => ∃ ys c w4 w5, f = .nx [w0, w1, some (.h μ.length), w3, w4, w5, w6, w7] ∧ μ' = μ ++ [.lst ((L ++ ys).map dup)] ∧ Pls ys c d ∧ c + 1 = b := by
  unfold b__law_same_0
  have hlen : ((((L ++ [x]).map dup).length : Nat) : Int) ≠ 0 := by simp; omega
  refine wf_if_no (μ' := μ ++ [.lst ((L ++ [x]).map dup)]) ?_ ?_
  · simp only [ces_cons, ces_nil, re_cmp, len_last (xs := (L ++ [x]).map dup) (ρ := [w0, w1, some (.h μ.length), w3, w4, w5, w6, w7]) (i := 2) rfl, Res.bind_ok, re_kst, rd_d, Option.bind_some, cm_eqi, decide_eq_false hlen, Option.map_some, Res.opt_some]
  refine wf_setT (P := fun w μ' => w = .d (dup x) ∧ μ' = μ ++ [.lst (L.map dup)]) (wf_mm (n := μ.length) (xs0 := (L ++ [x]).map dup) rfl get_last ⟨[], _, by simp, [], (L ++ [x]).map dup, (L.map dup, dup x), rfl, get_last, by rw [List.map_append]; exact pop_snoc, rfl, set_last⟩) ?_
  rintro w μ' ⟨rfl, rfl⟩
  refine ⟨[w0, w1, some (.h μ.length), w3, some (.d x), some (.d x), w6, w7], rfl, ?_⟩
  have hll := pls_len ha
  cases hb with
  | none _ =>
    refine wf_join (fun ρ μ' => ρ = [w0, w1, some (.h μ.length), w3, some (.d .none), some (.d .none), w6, w7] ∧ μ' = μ ++ [.lst (L.map dup)]) ⟨.nx [w0, w1, some (.h μ.length), w3, some (.d .none), some (.d .none), w6, w7], μ ++ [.lst (L.map dup)], by simp [isiD, isNon], _, rfl, rfl, rfl⟩ ?_
    rintro ρ μ' ⟨rfl, rfl⟩
    exact wf_nil ⟨[], 0, _, _, rfl, by simp, .nil _, rfl⟩
  | int i _ =>
    refine wf_join (fun ρ μ' => ρ = [w0, w1, some (.h μ.length), w3, some (.d (.int i)), some (.d (.int i)), w6, w7] ∧ μ' = μ ++ [.lst (L.map dup)]) ⟨.nx [w0, w1, some (.h μ.length), w3, some (.d (.int i)), some (.d (.int i)), w6, w7], μ ++ [.lst (L.map dup)], by simp [isiD, isNon], _, rfl, rfl, rfl⟩ ?_
    rintro ρ μ' ⟨rfl, rfl⟩
    exact wf_nil ⟨[], 0, _, _, rfl, by simp, .nil _, rfl⟩
  | bool i _ =>
    refine wf_join (fun ρ μ' => ρ = [w0, w1, some (.h μ.length), w3, some (.d (.bool i)), some (.d (.bool i)), w6, w7] ∧ μ' = μ ++ [.lst (L.map dup)]) ⟨.nx [w0, w1, some (.h μ.length), w3, some (.d (.bool i)), some (.d (.bool i)), w6, w7], μ ++ [.lst (L.map dup)], by simp [isiD, isNon, cm_neb], _, rfl, rfl, rfl⟩ ?_
    rintro ρ μ' ⟨rfl, rfl⟩
    exact wf_nil ⟨[], 0, _, _, rfl, by simp, .nil _, rfl⟩
  | str i _ =>
    refine wf_join (fun ρ μ' => ρ = [w0, w1, some (.h μ.length), w3, some (.d (.str i)), some (.d (.str i)), w6, w7] ∧ μ' = μ ++ [.lst (L.map dup)]) ⟨.nx [w0, w1, some (.h μ.length), w3, some (.d (.str i)), some (.d (.str i)), w6, w7], μ ++ [.lst (L.map dup)], by simp [isiD, isNon, cm_neb], _, rfl, rfl, rfl⟩ ?_
    rintro ρ μ' ⟨rfl, rfl⟩
    exact wf_nil ⟨[], 0, _, _, rfl, by simp, .nil _, rfl⟩
  | dct d =>
    refine wf_join (fun ρ μ' => ρ = [w0, w1, some (.h μ.length), w3, some (.d (.dict [])), some (.d (.dict [])), w6, w7] ∧ μ' = μ ++ [.lst (L.map dup)]) ?_ ?_
    · refine wf_ifS_f (μ' := μ ++ [.lst (L.map dup)]) (by simp [isiD]) ?_
      refine wf_if_t (μ' := μ ++ [.lst (L.map dup)]) (by simp [isiD]) ?_
      refine wf_if_no (μ' := μ ++ [.lst (L.map dup)]) (by simp [isiD, key0D, lcmL, noExc]) ?_
      refine wf_ex (P := fun w μ' => μ' = μ ++ [.lst (L.map dup)]) (wf_mm (n := μ.length) (xs0 := L.map dup) rfl get_last ⟨[.d (.list [])], μ ++ [.lst (L.map dup)], ?_, [.list []], L.map dup, (L.map dup ++ [], .none), rfl, get_last, ?_, ?_⟩) ?_
      · simp [key0D, lcmL, noExc]
      · refine ext_l ?_
        unfold lim
        simp
        omega
      · rw [List.append_nil]
        exact set_last
      · rintro w μ' rfl
        exact wf_nil (wf_nil ⟨_, rfl, rfl, rfl⟩)
    · rintro ρ μ' ⟨rfl, rfl⟩
      exact wf_nil ⟨[], 0, _, _, rfl, by simp, .nil _, rfl⟩
  | @tup xs n d h =>
    have hl2 := pls_len h
    refine wf_if_t (μ' := μ ++ [.lst (L.map dup)]) (by simp [isiD]) ?_
    refine wf_if_no (μ' := μ ++ [.lst (L.map dup)]) (by simp [isiD, cm_neb]) ?_
    have hd := dup_eq (Φ := Φ) (w0 := w0) (w1 := w1) (w2 := some (.h μ.length)) (w3 := w3) (w6 := w6) (w7 := w7) (o := .tuple xs) (xs := xs) (μ := μ ++ [.lst (L.map dup)]) rfl (fun i h => ixT h) (by omega)
    refine wf_ex (P := fun w μ' => μ' = μ ++ [.lst ((L ++ xs).map dup)]) (wf_mm (n := μ.length) (xs0 := L.map dup) rfl get_last ⟨[.d (.list (xs.map dup))], μ ++ [.lst (L.map dup)], ?_, [.list (xs.map dup)], L.map dup, ((L ++ xs).map dup, .none), rfl, get_last, ?_, set_last⟩) ?_
    · simp only [ces_cons, ces_nil, res_cons, res_nil, hd, Res.bind_ok]
    · rw [List.map_append]
      refine ext_l ?_
      unfold lim
      simp only [List.length_map]
      omega
    · rintro w μ' rfl
      exact wf_nil (wf_nil ⟨xs, n, _, _, rfl, rfl, pls_le h (by omega), rfl⟩)
  | @lst xs n d h =>
    have hl2 := pls_len h
    refine wf_if_t (μ' := μ ++ [.lst (L.map dup)]) (by simp [isiD]) ?_
    refine wf_if_no (μ' := μ ++ [.lst (L.map dup)]) (by simp [isiD, cm_neb]) ?_
    have hd := dup_eq (Φ := Φ) (w0 := w0) (w1 := w1) (w2 := some (.h μ.length)) (w3 := w3) (w6 := w6) (w7 := w7) (o := .list xs) (xs := xs) (μ := μ ++ [.lst (L.map dup)]) rfl (fun i h => ixl_of h) (by omega)
    refine wf_ex (P := fun w μ' => μ' = μ ++ [.lst ((L ++ xs).map dup)]) (wf_mm (n := μ.length) (xs0 := L.map dup) rfl get_last ⟨[.d (.list (xs.map dup))], μ ++ [.lst (L.map dup)], ?_, [.list (xs.map dup)], L.map dup, ((L ++ xs).map dup, .none), rfl, get_last, ?_, set_last⟩) ?_
    · simp only [ces_cons, ces_nil, res_cons, res_nil, hd, Res.bind_ok]
    · rw [List.map_append]
      refine ext_l ?_
      unfold lim
      simp only [List.length_map]
      omega
    · rintro w μ' rfl
      exact wf_nil (wf_nil ⟨xs, n, _, _, rfl, rfl, pls_le h (by omega), rfl⟩)
theorem same_eq (f : Nat) {x : PyData} {n : Nat} {d : Nat} (h : Pl x n d) (hn : n ≤ 1000000) (μ : Sto) : callF Pt (gOf T) Cn (f + 1) 24 [.d x, .d x] μ = .ok (.d (.bool true)) μ := by
  suffices hw : WF (callF Pt (gOf T) Cn (f + 1) 24 [.d x, .d x] μ) fun w μ' => w = .d (.bool true) ∧ μ' = μ by
    obtain ⟨w, μ', e, rfl, rfl⟩ := hw
    exact e
  rw [call_eq c__law_same rfl rfl, show startE c__law_same [.d x, .d x] = [some (.d x), some (.d x), none, none, none, none, none, none] from rfl]
  generalize callF Pt (gOf T) Cn f = Φ
  refine wf_fin ?_
  refine wf_set (w := .h μ.length) (μ' := μ ++ [.lst [dup x]]) (by simp [l2, dup, show 1 ≤ lim from by decide +kernel]) ?_
  obtain ⟨z, hz⟩ : ∃ z : Int, z = 2000000 := ⟨_, rfl⟩
  refine wf_forS (P := fun xs μ' => xs.length = z.toNat ∧ μ' = μ ++ [.lst [dup x]]) ⟨_, _, rr_rg1_ok (n := z) (by rw [re_kst, hz]) (rg_mid z (by omega) (by omega)), rng_len, rfl⟩ ?_
  rintro R μ' ⟨hlen, rfl⟩
  refine wf_for (fun r ρ μ' => ∃ L m w3 w4 w5, Pls L m d ∧ m < r.length ∧ m ≤ 1000000 ∧ ρ = [some (.d x), some (.d x), some (.h μ.length), w3, w4, w5, none, none] ∧ μ' = μ ++ [.lst (L.map dup)]) ?_ ?_ R ?_
  · rintro y r ρ μ' ⟨L, m, w3, w4, w5, h1, h2, h3, rfl, rfl⟩
    refine ⟨_, rfl, ?_⟩
    rcases List.eq_nil_or_concat L with rfl | ⟨L, z, rfl⟩
    · unfold b__law_same_0
      refine wf_if_t (μ' := μ ++ [.lst []]) ?_ (wf_ret ⟨.d (.bool true), μ ++ [.lst []], by simp, ?_⟩)
      · simp [rd_last]
      · simp only [sqQ]
        exact ⟨_, rfl, rfl, by simp⟩
    · rw [List.concat_eq_append] at h1 ⊢
      obtain ⟨a, b, ha, hb, rfl⟩ := pls_snoc h1
      refine wf_mono (same_body (w3 := some (.d y)) ha hb h3) ?_
      rintro f μ' ⟨ys, c, w4, w5, rfl, rfl, hc, hcb⟩
      simp only [List.length_cons] at h2
      exact ⟨_, a + c, _, _, _, pls_app ha hc, by omega, by omega, rfl, rfl⟩
  · rintro ρ μ' ⟨L, m, w3, w4, w5, h1, h2, _⟩
    simp at h2
  · exact ⟨[x], n + 0, none, none, none, .cons h (.nil _), by omega, by omega, rfl, rfl⟩

theorem map_id_of {f : PyData → PyData} {xs : List PyData} (h : ∀ x ∈ xs, f x = x) : xs.map f = xs := by
  rw [List.map_congr_left h, List.map_id']
theorem copy_list {Φ : Nat → List Val → Sto → Res Val} {w1 w2 w3 : Option Val} {μ : Sto} {v : PyData} {xs : List PyData} (hi : itemsOf v = some xs) (hl : xs.length ≤ lim) (h : ∀ x ∈ xs, Φ 25 [.d x] μ = .ok (.d x) μ) :
    evalE Φ (gOf T) (.lcm false [3] (.call 25 (.cons (.var 3) .nil)) (.nm 3) (.sq (.var 0)) .no) [some (.d v), w1, w2, w3] μ = .ok (.d (.list xs)) μ := by
  have e : evalR Φ (gOf T) (.sq (.var 0)) [some (.d v), w1, w2, w3] μ = .ok xs μ := by simp [hi]
  have z := lcm_map (own := [3]) (t := .nm 3) (elt := evalE Φ (gOf T) (.call 25 (.cons (.var 3) .nil))) (c := evalC Φ (gOf T) .no) (ρ := [some (.d v), w1, w2, w3]) (μ := μ) id xs [] (fun x hx => ⟨_, rfl, by simp [wipeE, h x hx], by simp⟩) (by simpa using hl)
  rw [re_lcm, e, Res.bind_ok, z, List.map_id]
  rfl
theorem copy_eq (k : Nat) (μ : Sto) : ∀ (d : Nat) (x : PyData) (n : Nat), Pl x n d → n ≤ 1000000 → callF Pt (gOf T) Cn (k + d + 1) 25 [.d x] μ = .ok (.d x) μ
  | d, x, n, h, hn => by
    rw [call_eq c__law_copy rfl rfl, show startE c__law_copy [.d x] = [some (.d x), none, none, none] from rfl]
    cases h with
    | none => simp [c__law_copy, isiD]
    | int i => simp [c__law_copy, isiD]
    | bool i => simp [c__law_copy, isiD]
    | str i => simp [c__law_copy, isiD]
    | dct => simp [c__law_copy, isiD, key0D, forL]
    | @tup xs n d h =>
      have hl := pls_len h
      have e := copy_list (Φ := callF Pt (gOf T) Cn (k + (d + 1))) (w1 := none) (w2 := none) (w3 := none) (μ := μ) (v := .tuple xs) (xs := xs) rfl (small_lim (by omega)) (fun x hx => by
        obtain ⟨m, h1, h2⟩ := pls_mem h x hx
        exact copy_eq k μ d x m h2 (by omega))
      simp [-re_lcm, c__law_copy, isiD, e, biD]
    | @lst xs n d h =>
      have hl := pls_len h
      have e := copy_list (Φ := callF Pt (gOf T) Cn (k + (d + 1))) (w1 := none) (w2 := none) (w3 := none) (μ := μ) (v := .list xs) (xs := xs) rfl (small_lim (by omega)) (fun x hx => by
        obtain ⟨m, h1, h2⟩ := pls_mem h x hx
        exact copy_eq k μ d x m h2 (by omega))
      simp [-re_lcm, c__law_copy, isiD, e]
theorem fin_t {μ : Sto} {y : PyData} {o : MO} : finV μ.length (.ok (.ret (.t y μ.length)) (μ ++ [o])) = .ok (.t y μ.length) (μ ++ [o]) := by
  simp only [finV, outV, if_neg (Nat.lt_irrefl _), get_last, List.take_left]
theorem err0 (i : Nat) : errD Cn ⟨0, [.int (i : Nat)]⟩ = some (no i) := rfl
def badV (s : Str) : PyData := .list [.str "raised", .str "BadValue", .tuple [.str s]]
theorem err1 (s : Str) : errD Cn ⟨1, [.str s]⟩ = some (badV s) := rfl
theorem sw_at : (("at" : Str) = "words") = False := by simp; decide +kernel
theorem sp_w : (("page" : Str) = "words") = False := by simp; decide +kernel
theorem sp_a : (("page" : Str) = "at") = False := by simp; decide +kernel
theorem sn_w : (("name" : Str) = "words") = False := by simp; decide +kernel
theorem sn_a : (("name" : Str) = "at") = False := by simp; decide +kernel
theorem sn_p : (("name" : Str) = "page") = False := by simp; decide +kernel
theorem asked_words_ok (k : Nat) {x a : PyData} {s : Str} {vs : List PyData} {r : Row} (hx : x = .tuple (.str s :: vs)) (h : fault x = none) (hk : look s = some r) (hlp : loopF r.2.2 0 vs = none) (μ : Sto) : callF Pt (gOf T) Cn (k + 7) 37 [.d (.str "words"), .d x, .d a] μ = .ok (.t (.str "told") μ.length) (μ ++ [.lst (wordsOf r vs)]) := by
  rw [call_eq c__law_asked rfl rfl, show startE c__law_asked [.d (.str "words"), .d x, .d a] = [some (.d (.str "words")), some (.d x), some (.d a), none] from rfl]
  refine Eq.trans ?_ fin_t
  congr 1
  simp [c__law_asked, record_words_ok k hx h hk hlp]
theorem asked_words_no (k : Nat) {x a : PyData} {i : Nat} (h : fault x = some i) (μ : Sto) : callF Pt (gOf T) Cn (k + 7) 37 [.d (.str "words"), .d x, .d a] μ = .ok (.d (no i)) μ := by
  rw [call_eq c__law_asked rfl rfl, show startE c__law_asked [.d (.str "words"), .d x, .d a] = [some (.d (.str "words")), some (.d x), some (.d a), none] from rfl]
  simp [c__law_asked, record_words_no k h, err0]
theorem asked_page_ok (k : Nat) {x a : PyData} {s : Str} {vs : List PyData} {r : Row} (hx : x = .tuple (.str s :: vs)) (h : fault x = none) (hk : look s = some r) (hlen : vs.length = r.2.2.length) (μ : Sto) : callF Pt (gOf T) Cn (k + 7) 37 [.d (.str "page"), .d x, .d a] μ = .ok (.d (.list [.str "told", fldAt .g r vs])) μ := by
  rw [call_eq c__law_asked rfl rfl, show startE c__law_asked [.d (.str "page"), .d x, .d a] = [some (.d (.str "page")), some (.d x), some (.d a), none] from rfl]
  simp [c__law_asked, page_ok k hx h hk hlen, sp_w, sp_a]
theorem asked_page_no (k : Nat) {x a : PyData} {i : Nat} (h : fault x = some i) (μ : Sto) : callF Pt (gOf T) Cn (k + 7) 37 [.d (.str "page"), .d x, .d a] μ = .ok (.d (no i)) μ := by
  rw [call_eq c__law_asked rfl rfl, show startE c__law_asked [.d (.str "page"), .d x, .d a] = [some (.d (.str "page")), some (.d x), some (.d a), none] from rfl]
  simp [c__law_asked, page_no k h, sp_w, sp_a, err0]
theorem asked_name_ok (k : Nat) {x a : PyData} {s : Str} {vs : List PyData} {r : Row} (hx : x = .tuple (.str s :: vs)) (h : fault x = none) (hk : look s = some r) (hlen : vs.length = r.2.2.length) (μ : Sto) : callF Pt (gOf T) Cn (k + 7) 37 [.d (.str "name"), .d x, .d a] μ = .ok (.d (.list [.str "told", fldAt .n r vs])) μ := by
  rw [call_eq c__law_asked rfl rfl, show startE c__law_asked [.d (.str "name"), .d x, .d a] = [some (.d (.str "name")), some (.d x), some (.d a), none] from rfl]
  simp [c__law_asked, name_ok k hx h hk hlen, sn_w, sn_a, sn_p]
theorem asked_name_no (k : Nat) {x a : PyData} {i : Nat} (h : fault x = some i) (μ : Sto) : callF Pt (gOf T) Cn (k + 7) 37 [.d (.str "name"), .d x, .d a] μ = .ok (.d (no i)) μ := by
  rw [call_eq c__law_asked rfl rfl, show startE c__law_asked [.d (.str "name"), .d x, .d a] = [some (.d (.str "name")), some (.d x), some (.d a), none] from rfl]
  simp [c__law_asked, name_no k h, sn_w, sn_a, sn_p, err0]
theorem asked_at (k : Nat) {ns : List Int} (hw : Wd ns) {p : Nat} (hp : p ≤ ns.length) (μ : Sto) : callF Pt (gOf T) Cn (k + 5) 37 [.d (.str "at"), .d (wL ns), .d (.int (p : Nat))] μ = .ok (.d (dueD (due ns p))) μ := by
  rw [call_eq c__law_asked rfl rfl, show startE c__law_asked [.d (.str "at"), .d (wL ns), .d (.int (p : Nat))] = [some (.d (.str "at")), some (.d (wL ns)), some (.d (.int (p : Nat))), none] from rfl]
  have e := record_at_eq k hw hp μ
  cases hd : due ns p <;> rw [hd] at e <;> simp [c__law_asked, e, sw_at, outL, dueD, err0, tolN]
theorem asked_at_words (k : Nat) {x v : PyData} (μ : Sto) (h : ∀ xs, x = .list xs → xs.length ≤ lim ∧ (xs.all fun x => isI x 0 65535) = false) : callF Pt (gOf T) Cn (k + 5) 37 [.d (.str "at"), .d x, .d v] μ = .ok (.d (badV "words")) μ := by
  rw [call_eq c__law_asked rfl rfl, show startE c__law_asked [.d (.str "at"), .d x, .d v] = [some (.d (.str "at")), some (.d x), some (.d v), none] from rfl]
  simp [c__law_asked, record_at_words k μ h, sw_at, err1]
theorem asked_at_at (k : Nat) {ns : List Int} (hw : Wd ns) {v : PyData} (hv : isI v 0 (ns.length : Nat) = false) (μ : Sto) : callF Pt (gOf T) Cn (k + 5) 37 [.d (.str "at"), .d (wL ns), .d v] μ = .ok (.d (badV "at")) μ := by
  rw [call_eq c__law_asked rfl rfl, show startE c__law_asked [.d (.str "at"), .d (wL ns), .d v] = [some (.d (.str "at")), some (.d (wL ns)), some (.d v), none] from rfl]
  simp [c__law_asked, record_at_at k hw hv μ, sw_at, err1]
end K11
set_option Elab.async false
set_option linter.all false
set_option maxRecDepth 100000
set_option maxHeartbeats 2000000
/-! K11: the stream, edges, fields, a drawn record. -/
namespace K11
open PySem Ip
/-- the stream: the script's numbers, the cell, how many were used -/
def Sm (B : Nat) (s : MO) : Prop := ∃ (ns : List PyData) (c k : Int), s = .lst [.list ns, .int c, .int k] ∧ (∀ x ∈ ns, ∃ i, x = .int i) ∧ ns.length ≤ 1000 ∧ 0 ≤ c ∧ 0 ≤ k ∧ k ≤ (B : Int)
theorem sm_le {A B : Nat} {s : MO} (h : Sm A s) (hab : A ≤ B) : Sm B s := by
  obtain ⟨ns, c, k, e, h1, h2, h3, h4, h5⟩ := h
  exact ⟨ns, c, k, e, h1, h2, h3, h4, by omega⟩
theorem p64 : ∃ P : Int, binD .pow (.int 10) (.int 64) = some (.int P) ∧ 0 < P ∧ sml P = true ∧ sml (P * P) = true := ⟨10 ^ 64, by simp [binD], by decide +kernel, by decide +kernel, by decide +kernel⟩
theorem p18 : binD .pow (.int 10) (.int 18) = some (.int 1000000000000000000) := by simp [binD]
theorem rd0 {xs : List PyData} {μ : Sto} : rd (.lst xs :: μ) (.h 0) = some (.list xs) := rfl
theorem abs_ok {i : Int} : biD .abs [.int i] = some (.int (if i < 0 then -i else i)) := rfl
theorem ixL {xs : List PyData} {k : Int} (h0 : 0 ≤ k) (h1 : k < xs.length) : ∃ x ∈ xs, idxD (.list xs) (.int k) = some x := by
  have h2 : k.toNat < xs.length := by omega
  refine ⟨xs[k.toNat], List.getElem_mem h2, ?_⟩
  have e : ixP xs.length k = some k.toNat := by
    unfold ixP L2.ixN
    rw [if_pos h0, if_pos h1]
  simp only [idxD, e, Option.bind_some, List.getElem?_eq_getElem h2]
theorem next_spec (f : Nat) {B : Nat} {s : MO} {rest : Sto} (h : Sm B s) (hB : B ≤ 1000000) {m : Int} (h1 : 1 ≤ m) (h2 : m ≤ 1000000000000000000000000000000) :
    WF (callF Pt (gOf T) Cn (f + 1) 19 [.h 0, .d (.int m)] (s :: rest)) fun w μ' => ∃ r s', w = .d (.int r) ∧ 0 ≤ r ∧ r < m ∧ μ' = s' :: rest ∧ Sm (B + 1) s' := by
  obtain ⟨ns, c, k, rfl, hns, hnl, hc, hk, hkB⟩ := h
  rw [call_eq c__law_next rfl rfl, show startE c__law_next [.h 0, .d (.int m)] = [some (.h 0), some (.d (.int m)), none, none, none] from rfl]
  generalize callF Pt (gOf T) Cn f = Φ
  refine wf_fin ?_
  refine wf_join (fun ρ μ => ∃ c' k' w2 w3, 0 ≤ c' ∧ 0 ≤ k' ∧ k' ≤ ((B + 1 : Nat) : Int) ∧ ρ = [some (.h 0), some (.d (.int m)), w2, w3, none] ∧ μ = .lst [.list ns, .int c', .int k'] :: rest) ?_ ?_
  · by_cases hc0 : c = 0
    · refine wf_ifS_t (μ' := .lst [.list ns, .int c, .int k] :: rest) (by simp [rd0, il1, hc0]) ?_
      refine wf_set (w := .d (.int k)) (μ' := .lst [.list ns, .int c, .int k] :: rest) (by simp [rd0, il2]) ?_
      refine wf_set (w := .d (.int (7 + k))) (μ' := .lst [.list ns, .int c, .int k] :: rest) (by simp [add_ok]) ?_
      refine wf_join (fun ρ μ => ∃ c', 0 ≤ c' ∧ ρ = [some (.h 0), some (.d (.int m)), some (.d (.int k)), some (.d (.int c')), none] ∧ μ = .lst [.list ns, .int c, .int k] :: rest) ?_ ?_
      · by_cases hl : k < (ns.length : Int)
        · refine wf_ifS_t (μ' := .lst [.list ns, .int c, .int k] :: rest) (by simp [rd0, il0, hl]) ?_
          obtain ⟨x, hx, e⟩ := ixL hk hl
          obtain ⟨i, rfl⟩ := hns x hx
          obtain ⟨P, e1, hP, s1, s2⟩ := p64
          have hPP : 0 < P * P * P := Int.mul_pos (Int.mul_pos hP hP) hP
          refine wf_set (w := .d (.int ((if i < 0 then -i else i) % (P * P * P)))) (μ' := .lst [.list ns, .int c, .int k] :: rest) ?_ (wf_nil ⟨_, rfl, _, Int.emod_nonneg _ (by omega), rfl, rfl⟩)
          simp [rd0, il0, e, abs_ok, e1, mul_ok s1 s1, mul_ok s2 s1, mod_ok hPP]
        · refine wf_ifS_f (μ' := .lst [.list ns, .int c, .int k] :: rest) (by simp [rd0, il0]; omega) ?_
          exact wf_nil ⟨_, rfl, _, by omega, rfl, rfl⟩
      · rintro ρ μ ⟨c1, hc1, rfl, rfl⟩
        refine wf_join (fun ρ μ => ∃ c', 0 ≤ c' ∧ ρ = [some (.h 0), some (.d (.int m)), some (.d (.int k)), some (.d (.int c')), none] ∧ μ = .lst [.list ns, .int c, .int k] :: rest) ?_ ?_
        · by_cases hl : c1 < 1000000000000000000
          · refine wf_ifS_t (μ' := .lst [.list ns, .int c, .int k] :: rest) (by simp [p18, hl]) ?_
            have q1 : sml c1 = true := sml_of hc1 (by omega)
            have q2 : sml 48271 = true := sml_of (by decide) (by decide)
            have q3 : sml k = true := sml_of hk (by omega)
            have q4 : sml 69621 = true := sml_of (by decide) (by decide)
            have q5 : (0 : Int) < 2147483647 := by decide
            refine wf_set (w := .d (.int ((c1 * 48271 + k * 69621 + 11) % 2147483647))) (μ' := .lst [.list ns, .int c, .int k] :: rest) (by simp [mul_ok q1 q2, mul_ok q3 q4, add_ok, mod_ok q5]) ?_
            have hc2 := Int.emod_nonneg (c1 * 48271 + k * 69621 + 11) (b := 2147483647) (by decide)
            have hc3 := Int.emod_lt_of_pos (c1 * 48271 + k * 69621 + 11) q5
            generalize (c1 * 48271 + k * 69621 + 11) % 2147483647 = c2 at hc2 hc3
            have q6 : sml c2 = true := sml_of hc2 (by omega)
            have q7 : sml 16807 = true := sml_of (by decide) (by decide)
            have q8 : sml 65537 = true := sml_of (by decide) (by decide)
            have hc4 := Int.emod_nonneg (c2 * 16807 + 13) (b := 2147483647) (by decide)
            have hc5 := Int.emod_lt_of_pos (c2 * 16807 + 13) q5
            have q9 : sml ((c2 * 16807 + 13) % 2147483647) = true := sml_of hc4 (by omega)
            refine wf_set (w := .d (.int ((c2 * 16807 + 13) % 2147483647 * 65537 + c2))) (μ' := .lst [.list ns, .int c, .int k] :: rest) (by simp [mul_ok q6 q7, add_ok, mod_ok q5, mul_ok q9 q8]) ?_
            exact wf_nil ⟨_, rfl, _, by omega, rfl, rfl⟩
          · refine wf_ifS_f (μ' := .lst [.list ns, .int c, .int k] :: rest) (by simp [p18]; omega) ?_
            exact wf_nil ⟨_, rfl, _, hc1, rfl, rfl⟩
        · rintro ρ μ ⟨c2, hc2, rfl, rfl⟩
          refine wf_sto (n := 0) (j := 1) (k := 1) (y := .int c2) (xs := [.list ns, .int c, .int k]) (μ' := .lst [.list ns, .int c, .int k] :: rest) (by simp) (by simp) (by simp) rfl rfl ?_
          refine wf_sto (n := 0) (j := 2) (k := 2) (y := .int (k + 1)) (xs := [.list ns, .int c2, .int k]) (μ' := .lst [.list ns, .int c2, .int k] :: rest) (by simp [add_ok]) (by simp) (by simp) rfl rfl ?_
          exact wf_nil ⟨_, rfl, c2, k + 1, some (.d (.int k)), some (.d (.int c2)), hc2, by omega, by omega, rfl, rfl⟩
    · refine wf_ifS_f (μ' := .lst [.list ns, .int c, .int k] :: rest) (by simp [rd0, il1, hc0]) ?_
      exact wf_nil ⟨_, rfl, c, k, none, none, hc, hk, by omega, rfl, rfl⟩
  · rintro ρ μ ⟨c', k', w2, w3, hc', hk', hkB', rfl, rfl⟩
    have q1 : sml m = true := sml_of (by omega) h2
    have q2 : 0 < m := by omega
    refine wf_set (w := .d (.int (c' % m))) (μ' := .lst [.list ns, .int c', .int k'] :: rest) (by simp [rd0, il1, mod_ok q2]) ?_
    refine wf_sto (n := 0) (j := 1) (k := 1) (y := .int (c' / m)) (xs := [.list ns, .int c', .int k']) (μ' := .lst [.list ns, .int c', .int k'] :: rest) (by simp [rd0, il1, div_ok q2 q1]) (by simp) (by simp) rfl rfl ?_
    refine wf_ret ⟨_, .lst [.list ns, .int (c' / m), .int k'] :: rest, by simp, _, rfl, c' % m, .lst [.list ns, .int (c' / m), .int k'], rfl, Int.emod_nonneg _ (by omega), Int.emod_lt_of_pos _ q2, by simp, ns, c' / m, k', rfl, hns, hnl, Int.ediv_nonneg hc' (by omega), hk', hkB'⟩
theorem pick_spec (f : Nat) {B : Nat} {s : MO} {rest : Sto} (h : Sm B s) (hB : B ≤ 1000000) {v : PyData} {xs : List PyData} (hv : v = .tuple xs ∨ v = .list xs) (h1 : xs ≠ []) (h2 : xs.length ≤ 1000000) :
    WF (callF Pt (gOf T) Cn (f + 2) 20 [.h 0, .d v] (s :: rest)) fun w μ' => ∃ x s', w = .d x ∧ x ∈ xs ∧ μ' = s' :: rest ∧ Sm (B + 1) s' := by
  rw [call_eq c__law_pick rfl rfl, show startE c__law_pick [.h 0, .d v] = [some (.h 0), some (.d v)] from rfl]
  have hx : 1 ≤ (xs.length : Int) := by
    cases xs with
    | nil => exact absurd rfl h1
    | cons x xs => simp only [List.length_cons]; omega
  have hn := next_spec f (rest := rest) h hB (m := xs.length) hx (by omega)
  obtain ⟨w, μ', e, r, s', rfl, h3, h4, rfl, h5⟩ := hn
  obtain ⟨x, hxm, ex⟩ := ixL h3 h4
  have hlen : biD .len [v] = some (.int xs.length) := by rcases hv with rfl | rfl <;> rfl
  have ex' : idxD v (.int r) = some x := by
    rcases hv with rfl | rfl
    · exact ex
    · exact ex
  refine wf_fin (wf_ret ⟨.d x, s' :: rest, ?_, x, rfl, x, s', rfl, hxm, by simp, h5⟩)
  simp [hlen, e, ex']
theorem from_spec (f : Nat) {B : Nat} {s : MO} {rest : Sto} (h : Sm B s) (hB : B ≤ 1000000) {lo hi : Int} (h1 : lo ≤ hi) (h2 : hi - lo ≤ 100000000000000000000) :
    WF (callF Pt (gOf T) Cn (f + 2) 21 [.h 0, .d (.int lo), .d (.int hi)] (s :: rest)) fun w μ' => ∃ r s', w = .d (.int r) ∧ lo ≤ r ∧ r ≤ hi ∧ μ' = s' :: rest ∧ Sm (B + 1) s' := by
  rw [call_eq c__law_from rfl rfl, show startE c__law_from [.h 0, .d (.int lo), .d (.int hi)] = [some (.h 0), some (.d (.int lo)), some (.d (.int hi))] from rfl]
  obtain ⟨w, μ', e, r, s', rfl, h3, h4, rfl, h5⟩ := next_spec f (rest := rest) h hB (m := hi - lo + 1) (by omega) (by omega)
  have es : binD .sub (.int hi) (.int lo) = some (.int (hi - lo)) := rfl
  refine wf_fin (wf_ret ⟨.d (.int (lo + r)), s' :: rest, ?_, _, rfl, lo + r, s', rfl, by omega, by omega, by simp, h5⟩)
  simp [es, add_ok, e]

/-- a comprehension whose turns may change the store -/
theorem wf_lcm {own : List Nat} {t : CT} {elt c : Ip.Env → Sto → Res Val} {ρ : Ip.Env} {Q : List PyData → Sto → Prop} (I : List PyData → List PyData → Sto → Prop)
    (hstep : ∀ x r acc μ, I (x :: r) acc μ → ∃ ρ', asg t (.d x) (wipeE ρ own) = some ρ' ∧ c ρ' μ = .ok (.d (.bool true)) μ ∧ acc.length < lim ∧ WF (elt ρ' μ) fun w μ' => ∃ y, w = .d y ∧ I r (acc ++ [y]) μ')
    (hend : ∀ acc μ, I [] acc μ → Q acc μ) : ∀ (xs acc : List PyData) {μ : Sto}, I xs acc μ → WF (lcmL own t elt c ρ xs acc μ) Q
  | [], acc, μ, h => by
    simp only [lcmL, wf_ok]
    exact hend acc μ h
  | x :: r, acc, μ, h => by
    obtain ⟨ρ', e1, e2, e3, w, μ', e4, y, rfl, h4⟩ := hstep x r acc μ h
    simp only [lcmL, e1, Res.opt_some, Res.bind_ok, e2, bOf_b, if_true, e4, dOf_d, if_pos e3]
    exact wf_lcm I hstep hend r (acc ++ [y]) h4
theorem wf_lcmE {Φ : Nat → List Val → Sto → Res Val} {own : List Nat} {t : CT} {elt : CE} {src : CSr} {ρ : Ip.Env} {μ μ1 : Sto} {xs : List PyData} {Q : Val → Sto → Prop} (I : List PyData → List PyData → Sto → Prop) (es : evalR Φ (gOf T) src ρ μ = .ok xs μ1)
    (hstep : ∀ x r acc μ, I (x :: r) acc μ → ∃ ρ', asg t (.d x) (wipeE ρ own) = some ρ' ∧ acc.length < lim ∧ WF (evalE Φ (gOf T) elt ρ' μ) fun w μ' => ∃ y, w = .d y ∧ I r (acc ++ [y]) μ')
    (hend : ∀ acc μ, I [] acc μ → Q (.d (.list acc)) μ) (h0 : I xs [] μ1) : WF (evalE Φ (gOf T) (.lcm false own elt t src .no) ρ μ) Q := by
  obtain ⟨ys, μ', e, hq⟩ := wf_lcm (own := own) (t := t) (elt := evalE Φ (gOf T) elt) (c := evalC Φ (gOf T) .no) (ρ := ρ) (Q := fun acc μ => Q (.d (.list acc)) μ) I (fun x r acc μ h => by
    obtain ⟨ρ', h1, h2, h3⟩ := hstep x r acc μ h
    exact ⟨ρ', h1, rc_no, h2, h3⟩) hend xs [] h0
  exact ⟨.d (.list ys), μ', by rw [re_lcm, es, Res.bind_ok, e]; rfl, hq⟩
end K11
set_option Elab.async false
set_option linter.all false
set_option maxRecDepth 100000
set_option maxHeartbeats 2000000
/-! K11: edges, fields, a drawn record. -/
namespace K11
open PySem Ip

def NX (Φ : Nat → List Val → Sto → Res Val) : Prop := ∀ {B : Nat} {s : MO} (rest : Sto), Sm B s → B ≤ 1000000 → ∀ {m : Int}, 1 ≤ m → m ≤ 1000000000000000000000000000000 → ∃ r s', Φ 19 [.h 0, .d (.int m)] (s :: rest) = .ok (.d (.int r)) (s' :: rest) ∧ 0 ≤ r ∧ r < m ∧ Sm (B + 1) s'
def PK (Φ : Nat → List Val → Sto → Res Val) : Prop := ∀ {B : Nat} {s : MO} (rest : Sto), Sm B s → B ≤ 1000000 → ∀ {v : PyData} {xs : List PyData}, (v = .tuple xs ∨ v = .list xs) → xs ≠ [] → xs.length ≤ 1000000 → ∃ x s', Φ 20 [.h 0, .d v] (s :: rest) = .ok (.d x) (s' :: rest) ∧ x ∈ xs ∧ Sm (B + 1) s'
def FR (Φ : Nat → List Val → Sto → Res Val) : Prop := ∀ {B : Nat} {s : MO} (rest : Sto), Sm B s → B ≤ 1000000 → ∀ {lo hi : Int}, lo ≤ hi → hi - lo ≤ 100000000000000000000 → ∃ r s', Φ 21 [.h 0, .d (.int lo), .d (.int hi)] (s :: rest) = .ok (.d (.int r)) (s' :: rest) ∧ lo ≤ r ∧ r ≤ hi ∧ Sm (B + 1) s'
def ED (Φ : Nat → List Val → Sto → Res Val) : Prop := ∀ {B : Nat} {s : MO} (rest : Sto), Sm B s → B ≤ 999000 → ∀ {lo hi : Int}, lo < hi → hi - lo ≤ 100000000000000000000 → ∃ r s', Φ 27 [.h 0, .d (.int lo), .d (.int hi)] (s :: rest) = .ok (.d (.int r)) (s' :: rest) ∧ lo ≤ r ∧ r ≤ hi ∧ Sm (B + 3) s'
theorem nx_of (f : Nat) : NX (callF Pt (gOf T) Cn (f + 1)) := fun rest h hB _ h1 h2 => by
  obtain ⟨_, _, e, r, s', rfl, a, b, rfl, c⟩ := next_spec f (rest := rest) h hB h1 h2
  exact ⟨r, s', e, a, b, c⟩
theorem pk_of (f : Nat) : PK (callF Pt (gOf T) Cn (f + 2)) := fun rest h hB _ _ hv h1 h2 => by
  obtain ⟨_, _, e, x, s', rfl, a, rfl, c⟩ := pick_spec f (rest := rest) h hB hv h1 h2
  exact ⟨x, s', e, a, c⟩
theorem fr_of (f : Nat) : FR (callF Pt (gOf T) Cn (f + 2)) := fun rest h hB _ _ h1 h2 => by
  obtain ⟨_, _, e, r, s', rfl, a, b, rfl, c⟩ := from_spec f (rest := rest) h hB h1 h2
  exact ⟨r, s', e, a, b, c⟩
theorem l6 : 6 ≤ lim := by decide
theorem l4 : 4 ≤ lim := by decide
theorem l5 : 5 ≤ lim := by decide
theorem fin_dl {n : Nat} {x : PyData} {μ : Sto} (h : n = μ.length) : finV n (.ok (.ret (.d x)) μ) = .ok (.d x) μ := by
  subst h
  rw [fin_d, List.take_length]
theorem ed_of (f : Nat) : ED (callF Pt (gOf T) Cn (f + 3)) := fun {B s} rest h hB lo hi h1 h2 => by
  obtain ⟨r1, s1, e1, a1, b1, m1⟩ := fr_of f rest h (by omega) (lo := lo) (hi := hi) (by omega) h2
  obtain ⟨r2, s2, e2, a2, b2, m2⟩ := fr_of f rest m1 (by omega) (lo := lo) (hi := hi) (by omega) h2
  obtain ⟨x, s3, e3, hx, m3⟩ := pk_of f rest m2 (by omega) (v := .tuple [.int lo, .int hi, .int (lo + 1), .int (hi - 1), .int r1, .int r2]) (.inl rfl) (by simp) (by simp)
  have hr : ∃ r, x = .int r ∧ lo ≤ r ∧ r ≤ hi := by
    simp only [List.mem_cons, List.not_mem_nil, or_false] at hx
    rcases hx with rfl | rfl | rfl | rfl | rfl | rfl
    · exact ⟨_, rfl, by omega, by omega⟩
    · exact ⟨_, rfl, by omega, by omega⟩
    · exact ⟨_, rfl, by omega, by omega⟩
    · exact ⟨_, rfl, by omega, by omega⟩
    · exact ⟨_, rfl, a1, b1⟩
    · exact ⟨_, rfl, a2, b2⟩
  obtain ⟨r, rfl, hr1, hr2⟩ := hr
  refine ⟨r, s3, ?_, hr1, hr2, m3⟩
  rw [call_eq c__law_edge rfl rfl, show startE c__law_edge [.h 0, .d (.int lo), .d (.int hi)] = [some (.h 0), some (.d (.int lo)), some (.d (.int hi))] from rfl]
  refine (congrArg _ (ss_rt (s_ret (w := .d (.int r)) (μ' := s3 :: rest) (by simp [e1, e2, add_ok, sub_ok, l6, e3])))).trans (fin_dl rfl)
theorem isI_of {i lo hi : Int} (h1 : lo ≤ i) (h2 : i ≤ hi) : isI (.int i) lo hi = true := by
  simp [isI, h1, h2]
def FD (Φ : Nat → List Val → Sto → Res Val) : Prop := ∀ {B : Nat} {s : MO} (rest : Sto), Sm B s → B ≤ 998000 → ∀ f : Fm, ∃ v s', Φ 28 [.h 0, .d (.str f.ch)] (s :: rest) = .ok (.d v) (s' :: rest) ∧ good f v = true ∧ Sm (B + 100) s'
theorem fd_of (f : Nat) : FD (callF Pt (gOf T) Cn (f + 4)) := fun {B s} rest h hB fm => by
  rw [call_eq c__law_field rfl rfl, show startE c__law_field [.h 0, .d (.str fm.ch)] = [some (.h 0), some (.d (.str fm.ch)), none] from rfl]
  cases fm with
  | n =>
    obtain ⟨r1, s1, e1, a1, b1, m1⟩ := ed_of f rest h (by omega) (lo := 1) (hi := 65535) (by decide) (by decide)
    obtain ⟨r2, s2, e2, a2, b2, m2⟩ := ed_of f rest m1 (by omega) (lo := 1) (hi := 65535) (by decide) (by decide)
    refine ⟨.tuple [.int r1, .int r2], s2, ?_, by simp [good, nameB, isI, a1, b1, a2, b2], sm_le m2 (by omega)⟩
    refine (congrArg _ (ss_rt ((s_if_t (μ' := s :: rest) (by simp [lc_n])).trans (ss_rt (s_ret (w := .d (.tuple [.int r1, .int r2])) (μ' := s2 :: rest) (by simp [e1, e2, l2])))))).trans (fin_dl rfl)
  | t =>
    obtain ⟨r1, s1, e1, a1, b1, m1⟩ := nx_of (f + 2) rest h (by omega) (m := 2) (by decide) (by decide)
    refine ⟨.int r1, s1, ?_, isI_of a1 (by omega), sm_le m1 (by omega)⟩
    refine (congrArg _ (ss_nx (s_if_no (μ' := s :: rest) (by simp [lc_n, ch_iff])))).trans ?_
    refine (congrArg _ (ss_rt ((s_if_t (μ' := s :: rest) (by simp [lc_t])).trans (ss_rt (s_ret (w := .d (.int r1)) (μ' := s1 :: rest) (by simp [e1])))))).trans (fin_dl rfl)
  | g =>
    obtain ⟨r1, s1, e1, a1, b1, m1⟩ := ed_of f rest h (by omega) (lo := 0) (hi := 255) (by decide) (by decide)
    refine ⟨.int r1, s1, ?_, isI_of a1 b1, sm_le m1 (by omega)⟩
    refine (congrArg _ (ss_nx (s_if_no (μ' := s :: rest) (by simp [lc_n, ch_iff])))).trans ?_
    refine (congrArg _ (ss_nx (s_if_no (μ' := s :: rest) (by simp [lc_t, ch_iff])))).trans ?_
    refine (congrArg _ (ss_rt ((s_if_t (μ' := s :: rest) (by simp [lc_g])).trans (ss_rt (s_ret (w := .d (.int r1)) (μ' := s1 :: rest) (by simp [e1])))))).trans (fin_dl rfl)
  | m =>
    obtain ⟨r1, s1, e1, a1, b1, m1⟩ := ed_of f rest h (by omega) (lo := 0) (hi := 65535) (by decide) (by decide)
    obtain ⟨x, s2, e2, hx, m2⟩ := pk_of (f + 1) rest m1 (by omega) (v := .tuple [.none, .int 0, .int r1]) (.inl rfl) (by simp) (by simp)
    refine ⟨x, s2, ?_, ?_, sm_le m2 (by omega)⟩
    · refine (congrArg _ (ss_nx (s_if_no (μ' := s :: rest) (by simp [lc_n, ch_iff])))).trans ?_
      refine (congrArg _ (ss_nx (s_if_no (μ' := s :: rest) (by simp [lc_t, ch_iff])))).trans ?_
      refine (congrArg _ (ss_nx (s_if_no (μ' := s :: rest) (by simp [lc_g, ch_iff])))).trans ?_
      refine (congrArg _ (ss_rt ((s_if_t (μ' := s :: rest) (by simp [lc_m])).trans (ss_rt (s_ret (w := .d x) (μ' := s2 :: rest) (by simp [e1, e2, l3])))))).trans (fin_dl rfl)
    · simp only [List.mem_cons, List.not_mem_nil, or_false] at hx
      rcases hx with rfl | rfl | rfl
      · rfl
      · rfl
      · simp [good, isI, a1, b1]
  | z =>
    obtain ⟨x, s1, e1, hx, m1⟩ := pk_of (f + 1) rest h (by omega) (v := .tuple [.int 3, .int 65536, .int 4294967295]) (.inl rfl) (by simp) (by simp)
    obtain ⟨hi, rfl, hh1, hh2⟩ : ∃ hi, x = .int hi ∧ 3 ≤ hi ∧ hi ≤ 4294967295 := by
      simp only [List.mem_cons, List.not_mem_nil, or_false] at hx
      rcases hx with rfl | rfl | rfl <;> exact ⟨_, rfl, by decide, by decide⟩
    obtain ⟨r2, s2, e2, a2, b2, m2⟩ := ed_of f rest m1 (by omega) (lo := 0) (hi := hi) (by omega) (by omega)
    refine ⟨.int r2, s2, ?_, isI_of a2 (by omega), sm_le m2 (by omega)⟩
    refine (congrArg _ (ss_nx (s_if_no (μ' := s :: rest) (by simp [lc_n, ch_iff])))).trans ?_
    refine (congrArg _ (ss_nx (s_if_no (μ' := s :: rest) (by simp [lc_t, ch_iff])))).trans ?_
    refine (congrArg _ (ss_nx (s_if_no (μ' := s :: rest) (by simp [lc_g, ch_iff])))).trans ?_
    refine (congrArg _ (ss_nx (s_if_no (μ' := s :: rest) (by simp [lc_m, ch_iff])))).trans ?_
    refine (congrArg _ (ss_rt ((s_if_t (μ' := s :: rest) (by simp [lc_z])).trans (ss_rt (s_ret (w := .d (.int r2)) (μ' := s2 :: rest) (by simp [lc_o, ch_iff, e1, l3, e2])))))).trans (fin_dl rfl)
  | o =>
    obtain ⟨x, s1, e1, hx, m1⟩ := pk_of (f + 1) rest h (by omega) (v := .tuple [.int 3, .int 65536, .int 4294967295]) (.inl rfl) (by simp) (by simp)
    obtain ⟨hi, rfl, hh1, hh2⟩ : ∃ hi, x = .int hi ∧ 3 ≤ hi ∧ hi ≤ 4294967295 := by
      simp only [List.mem_cons, List.not_mem_nil, or_false] at hx
      rcases hx with rfl | rfl | rfl <;> exact ⟨_, rfl, by decide, by decide⟩
    obtain ⟨r2, s2, e2, a2, b2, m2⟩ := ed_of f rest m1 (by omega) (lo := 1) (hi := hi) (by omega) (by omega)
    refine ⟨.int r2, s2, ?_, isI_of a2 (by omega), sm_le m2 (by omega)⟩
    refine (congrArg _ (ss_nx (s_if_no (μ' := s :: rest) (by simp [lc_n, ch_iff])))).trans ?_
    refine (congrArg _ (ss_nx (s_if_no (μ' := s :: rest) (by simp [lc_t, ch_iff])))).trans ?_
    refine (congrArg _ (ss_nx (s_if_no (μ' := s :: rest) (by simp [lc_g, ch_iff])))).trans ?_
    refine (congrArg _ (ss_nx (s_if_no (μ' := s :: rest) (by simp [lc_m, ch_iff])))).trans ?_
    refine (congrArg _ (ss_rt ((s_if_t (μ' := s :: rest) (by simp [lc_z, lc_o, ch_iff])).trans (ss_rt (s_ret (w := .d (.int r2)) (μ' := s2 :: rest) (by simp [lc_o, ch_iff, e1, l3, e2])))))).trans (fin_dl rfl)
  | k =>
    obtain ⟨r1, s1, e1, a1, b1, m1⟩ := ed_of f rest h (by omega) (lo := 0) (hi := 65535) (by decide) (by decide)
    refine ⟨.int r1, s1, ?_, isI_of a1 b1, sm_le m1 (by omega)⟩
    refine (congrArg _ (ss_nx (s_if_no (μ' := s :: rest) (by simp [lc_n, ch_iff])))).trans ?_
    refine (congrArg _ (ss_nx (s_if_no (μ' := s :: rest) (by simp [lc_t, ch_iff])))).trans ?_
    refine (congrArg _ (ss_nx (s_if_no (μ' := s :: rest) (by simp [lc_g, ch_iff])))).trans ?_
    refine (congrArg _ (ss_nx (s_if_no (μ' := s :: rest) (by simp [lc_m, ch_iff])))).trans ?_
    refine (congrArg _ (ss_nx (s_if_no (μ' := s :: rest) (by simp [lc_z, lc_o, ch_iff])))).trans ?_
    refine (congrArg _ (ss_nx (s_if_no (μ' := s :: rest) (by simp [lc_w, ch_iff])))).trans ?_
    refine (congrArg _ (ss_rt (s_ret (w := .d (.int r1)) (μ' := s1 :: rest) (by simp [e1])))).trans (fin_dl rfl)
  | w =>
    obtain ⟨r1, s1, e1, a1, b1, m1⟩ := nx_of (f + 2) rest h (by omega) (m := 29) (by decide) (by decide)
    obtain ⟨x, s2, e2, hx, m2⟩ := pk_of (f + 1) rest m1 (by omega) (v := .tuple [.int 0, .int 1, .int 3, .int 28, .int r1]) (.inl rfl) (by simp) (by simp)
    obtain ⟨c, rfl, hc⟩ : ∃ c : Nat, x = .int (c : Int) ∧ c ≤ 28 := by
      simp only [List.mem_cons, List.not_mem_nil, or_false] at hx
      rcases hx with rfl | rfl | rfl | rfl | rfl
      · exact ⟨0, rfl, by decide⟩
      · exact ⟨1, rfl, by decide⟩
      · exact ⟨3, rfl, by decide⟩
      · exact ⟨28, rfl, by decide⟩
      · exact ⟨r1.toNat, by rw [Int.toNat_of_nonneg a1], by omega⟩
    have es : evalR (callF Pt (gOf T) Cn (f + 3)) (gOf T) (.rg1 (.call 20 (cesOf [(.var 0), (.tup (cesOf [(.kst (.int (0))), (.kst (.int (1))), (.kst (.int (3))), (.kst (.int (28))), (.call 19 (cesOf [(.var 0), (.kst (.int (29)))]))]))]))) [some (.h 0), some (.d (.str Fm.w.ch)), none] (s :: rest) = .ok (rngD 0 c) (s2 :: rest) := by
      rw [rr_rg1_ok (n := (c : Int)) (μ' := s2 :: rest) (by simp [e1, e2, l5]) (rg_mid _ (by omega) (by omega)), Int.toNat_natCast]
    obtain ⟨v, μ', e, ys, s', rfl, rfl, hlen, hall, hm⟩ := wf_lcmE (own := [2]) (t := .nm 2) (elt := .call 27 (cesOf [(.var 0), (.kst (.int (0))), (.kst (.int (65535)))])) (Q := fun w μ => ∃ ys s', w = .d (.list ys) ∧ μ = s' :: rest ∧ ys.length ≤ 28 ∧ (ys.all fun x => isI x 0 65535) = true ∧ Sm (B + 100) s')
      (fun r acc μ => ∃ s', μ = s' :: rest ∧ acc.length + r.length ≤ 28 ∧ (acc.all fun x => isI x 0 65535) = true ∧ Sm (B + 2 + 3 * acc.length) s') es
      (by
        rintro x r acc μ ⟨s', rfl, h1, h2, h3⟩
        simp only [List.length_cons] at h1
        obtain ⟨y, s'', ey, ya, yb, ym⟩ := ed_of f rest h3 (by omega) (lo := 0) (hi := 65535) (by decide) (by decide)
        refine ⟨_, rfl, by unfold lim; omega, .d (.int y), s'' :: rest, by simp [wipeE, ey], .int y, rfl, s'', rfl, by simp; omega, by rw [List.all_append, h2]; simp [isI, ya, yb], ?_⟩
        rw [List.length_append, List.length_singleton]
        exact sm_le ym (by omega))
      (by
        rintro acc μ ⟨s', rfl, h1, h2, h3⟩
        exact ⟨acc, s', rfl, rfl, by simpa using h1, h2, sm_le h3 (by simp at h1; omega)⟩)
      ⟨s2, rfl, by simp [rng_len]; exact hc, rfl, sm_le m2 (by omega)⟩
    refine ⟨.tuple ys, s', ?_, ?_, hm⟩
    · refine (congrArg _ (ss_nx (s_if_no (μ' := s :: rest) (by simp [lc_n, ch_iff])))).trans ?_
      refine (congrArg _ (ss_nx (s_if_no (μ' := s :: rest) (by simp [lc_t, ch_iff])))).trans ?_
      refine (congrArg _ (ss_nx (s_if_no (μ' := s :: rest) (by simp [lc_g, ch_iff])))).trans ?_
      refine (congrArg _ (ss_nx (s_if_no (μ' := s :: rest) (by simp [lc_m, ch_iff])))).trans ?_
      refine (congrArg _ (ss_nx (s_if_no (μ' := s :: rest) (by simp [lc_z, lc_o, ch_iff])))).trans ?_
      refine (congrArg _ (ss_rt ((s_if_t (μ' := s :: rest) (by simp [lc_w, ch_iff])).trans (ss_rt (s_ret (w := .d (.tuple ys)) (μ' := s' :: rest) ?_))))).trans (fin_dl rfl)
      rw [re_bi, ces_cons, ces_nil, res_cons, e]
      simp [biD]
    · simp only [good, Bool.and_eq_true, decide_eq_true_eq]
      exact ⟨hlen, hall⟩
/-- a drawn record -/
theorem loopF_app {at_ : Nat} : ∀ (fs : List Fm) (vs : List PyData) (f : Fm) (v : PyData) (at_ : Nat), loopF fs at_ vs = none → vs.length = fs.length → good f v = true → loopF (fs ++ [f]) at_ (vs ++ [v]) = none
  | [], [], f, v, at_, _, _, hg => by simp [loopF, hg]
  | [], _ :: _, _, _, _, _, hl, _ => by simp at hl
  | _ :: _, [], _, _, _, _, hl, _ => by simp at hl
  | g :: fs, u :: vs, f, v, at_, h, hl, hg => by
    simp only [loopF] at h
    simp only [List.cons_append, loopF]
    cases hg2 : good g u with
    | false => simp [hg2] at h
    | true =>
      simp only [hg2, if_true] at h ⊢
      exact loopF_app (at_ := at_) fs vs f v (at_ + 1) h (by simpa using hl) hg
def DR (Φ : Nat → List Val → Sto → Res Val) : Prop := ∀ {B : Nat} {s : MO} (rest : Sto), Sm B s → B ≤ 990000 → ∃ x s', Φ 29 [.h 0] (s :: rest) = .ok (.d x) (s' :: rest) ∧ fault x = none ∧ Sm (B + 1000) s'
theorem look_row : ∀ r ∈ rowsL, look r.1 = some r := by decide +kernel
theorem dr_of (f : Nat) : DR (callF Pt (gOf T) Cn (f + 5)) := fun {B s} rest h hB => by
  rw [call_eq c__law_drawn rfl rfl, show startE c__law_drawn [.h 0] = [some (.h 0), none, none, none, none] from rfl]
  obtain ⟨x, s1, e1, hx, m1⟩ := pk_of (f + 2) rest h (by omega) (v := .list (rowsL.map rowD)) (.inr rfl) (by decide) (by decide)
  obtain ⟨r, hr, rfl⟩ := List.mem_map.mp hx
  obtain ⟨q1, q2, q3, q4, q5, q6, q7⟩ := row_all r hr
  have es : evalR (callF Pt (gOf T) Cn (f + 4)) (gOf T) (.chs (.var 3)) [some (.h 0), some (.d (.str r.1)), some (.d (.int (r.2.1 : Nat))), some (.d (.str (chS r.2.2))), none] (s1 :: rest) = .ok (r.2.2.map fun f => .str f.ch) (s1 :: rest) := by simp [chs_of]
  obtain ⟨v, μ', e, ys, s', rfl, rfl, hlp, hlen, hm⟩ := wf_lcmE (own := [4]) (t := .nm 4) (elt := .call 28 (cesOf [(.var 0), (.var 4)])) (Q := fun w μ => ∃ ys s', w = .d (.list ys) ∧ μ = s' :: rest ∧ loopF r.2.2 0 ys = none ∧ ys.length = r.2.2.length ∧ Sm (B + 1000) s')
      (fun q acc μ => ∃ s' done todo, μ = s' :: rest ∧ r.2.2 = done ++ todo ∧ q = todo.map (fun f => .str f.ch) ∧ loopF done 0 acc = none ∧ acc.length = done.length ∧ Sm (B + 1 + 100 * acc.length) s') es
      (by
        rintro x q acc μ ⟨s', done, todo, rfl, h1, h2, h3, h4, h5⟩
        match todo, h2 with
        | fm :: todo, h2 =>
          simp only [List.map_cons, List.cons.injEq] at h2
          obtain ⟨rfl, rfl⟩ := h2
          have hd : done.length + 1 ≤ 7 := by
            have := congrArg List.length h1
            simp only [List.length_append, List.length_cons] at this
            omega
          obtain ⟨y, s'', ey, yg, ym⟩ := fd_of f rest h5 (by omega) fm
          refine ⟨_, rfl, by unfold lim; omega, .d y, s'' :: rest, by simp [wipeE, ey], y, rfl, s'', done ++ [fm], todo, rfl, by rw [h1]; simp, rfl, loopF_app (at_ := 0) done acc fm y 0 h3 h4 yg, by simp [h4], ?_⟩
          rw [List.length_append, List.length_singleton]
          exact sm_le ym (by omega))
      (by
        rintro acc μ ⟨s', done, todo, rfl, h1, h2, h3, h4, h5⟩
        have ht : todo = [] := by
          cases todo with
          | nil => rfl
          | cons a t => simp at h2
        subst ht
        rw [List.append_nil] at h1
        subst h1
        exact ⟨acc, s', rfl, rfl, h3, h4, sm_le h5 (by omega)⟩)
      ⟨s1, [], r.2.2, rfl, rfl, rfl, rfl, rfl, sm_le m1 (by omega)⟩
  refine ⟨.tuple (.str r.1 :: ys), s', ?_, ?_, hm⟩
  · refine (congrArg _ (ss_nx (s_setT (w := .d (rowD r)) (ρ' := [some (.h 0), some (.d (.str r.1)), some (.d (.int (r.2.1 : Nat))), some (.d (.str (chS r.2.2))), none]) (μ' := s1 :: rest) (by simp [table_eq (f + 3), e1]) rfl))).trans ?_
    refine (congrArg _ (ss_rt (s_ret (w := .d (.tuple (.str r.1 :: ys))) (μ' := s' :: rest) ?_))).trans (fin_dl rfl)
    have ha := add_l (xs := [.str r.1]) (ys := ys) (small_lim (by simp; omega))
    rw [re_bi, ces_cons, ces_nil, res_cons, re_bin, re_lst]
    simp only [ces_cons, ces_nil, res_cons, res_nil, re_var, List.getElem?_cons_succ, List.getElem?_cons_zero, rdV_s, Res.bind_ok, dsOf_cons, dsOf_nil, dOf_d, Option.bind_some, Option.map_some, Res.opt_some, List.length_singleton, if_pos l1, newL_ff]
    simp only [ces_cons, ces_nil] at e
    rw [e]
    simp only [Res.bind_ok, rd_d, Option.bind_some, ha, Option.map_some, Res.opt_some, rds_cons, rds_nil]
    simp [biD]
  · simp only [fault, look_row r hr, hlp, hlen, if_true]
end K11
set_option Elab.async false
set_option linter.all false
set_option maxRecDepth 100000
set_option maxHeartbeats 2000000
/-! K11: bent records. -/
namespace K11
open PySem Ip

theorem e_bin {Φ : Nat → List Val → Sto → Res Val} {G : Nat → Option PyData} {ρ : Ip.Env} {μ μ1 μ2 : Sto} {o : BO} {a b : CE} {wa wb : Val} {x y z : PyData} (ea : evalE Φ G a ρ μ = .ok wa μ1) (eb : evalE Φ G b ρ μ1 = .ok wb μ2) (hx : rd μ2 wa = some x) (hy : rd μ2 wb = some y) (h : binD o x y = some z) : evalE Φ G (.bin o a b) ρ μ = .ok (.d z) μ2 := by
  rw [re_bin, ea, Res.bind_ok, eb, Res.bind_ok, hx, Option.bind_some, hy, Option.bind_some, h]
  rfl
theorem pls_rep {d : Nat} : ∀ n : Nat, Pls (List.replicate n (.int 0)) n d
  | 0 => .nil _
  | n + 1 => by
    rw [List.replicate_succ, Nat.add_comm]
    exact .cons (.int 0 d) (pls_rep n)
def rB1 (z : Int) : List PyData := [(.int (65536 + z)), (.int 256), (.int 65535), (.int 65536), (.int (-1)), (.int 0), (.int 1), (.int 2), (.bool true), (.bool false), .none, (.str "0"), (.int (4294967296 + z)), (.int 4294967295), (.tuple [(.int 0), (.int 1)]), (.tuple [(.int 1), (.int 0)])]
def rB2 : List PyData := [(.tuple [(.int 1), (.int 65536)]), (.tuple [(.int 1), (.int 2), (.int 3)]), (.tuple [(.int 1)]), (.list [(.int 1), (.int 2)]), (.tuple [(.bool true), (.int 1)]), (.tuple []), (.tuple (List.replicate 29 (.int 0))), (.tuple (List.replicate 28 (.int 0))), (.tuple [(.int 65536)]), (.tuple [(.int (-1))]), (.tuple [.none]), (.list [(.int 0)]), (.dict []), (.tuple [(.int 1), (.str "2")])]
theorem rB1_pl (z : Int) : ∀ x ∈ rB1 z, ∃ m, m ≤ 31 ∧ Pl x m 3 := by
  unfold rB1
  simp only [List.forall_mem_cons]
  exact ⟨⟨1, by decide, (.int _ _)⟩, ⟨1, by decide, (.int _ _)⟩, ⟨1, by decide, (.int _ _)⟩, ⟨1, by decide, (.int _ _)⟩, ⟨1, by decide, (.int _ _)⟩, ⟨1, by decide, (.int _ _)⟩, ⟨1, by decide, (.int _ _)⟩, ⟨1, by decide, (.int _ _)⟩, ⟨1, by decide, (.bool _ _)⟩, ⟨1, by decide, (.bool _ _)⟩, ⟨1, by decide, (.none _)⟩, ⟨1, by decide, (.str _ _)⟩, ⟨1, by decide, (.int _ _)⟩, ⟨1, by decide, (.int _ _)⟩, ⟨3, by decide, .tup (n := 2) (.cons (a := 1) (.int _ _) (.cons (a := 1) (.int _ _) (.nil _)))⟩, ⟨3, by decide, .tup (n := 2) (.cons (a := 1) (.int _ _) (.cons (a := 1) (.int _ _) (.nil _)))⟩, fun x hx => by simp at hx⟩
theorem rB2_pl : ∀ x ∈ rB2, ∃ m, m ≤ 31 ∧ Pl x m 3 := by
  unfold rB2
  simp only [List.forall_mem_cons]
  exact ⟨⟨3, by decide, .tup (n := 2) (.cons (a := 1) (.int _ _) (.cons (a := 1) (.int _ _) (.nil _)))⟩, ⟨4, by decide, .tup (n := 3) (.cons (a := 1) (.int _ _) (.cons (a := 1) (.int _ _) (.cons (a := 1) (.int _ _) (.nil _))))⟩, ⟨2, by decide, .tup (n := 1) (.cons (a := 1) (.int _ _) (.nil _))⟩, ⟨3, by decide, .lst (n := 2) (.cons (a := 1) (.int _ _) (.cons (a := 1) (.int _ _) (.nil _)))⟩, ⟨3, by decide, .tup (n := 2) (.cons (a := 1) (.bool _ _) (.cons (a := 1) (.int _ _) (.nil _)))⟩, ⟨1, by decide, .tup (n := 0) (.nil _)⟩, ⟨30, by decide, .tup (pls_rep 29)⟩, ⟨29, by decide, .tup (pls_rep 28)⟩, ⟨2, by decide, .tup (n := 1) (.cons (a := 1) (.int _ _) (.nil _))⟩, ⟨2, by decide, .tup (n := 1) (.cons (a := 1) (.int _ _) (.nil _))⟩, ⟨2, by decide, .tup (n := 1) (.cons (a := 1) (.none _) (.nil _))⟩, ⟨2, by decide, .lst (n := 1) (.cons (a := 1) (.int _ _) (.nil _))⟩, ⟨1, by decide, (.dct _)⟩, ⟨3, by decide, .tup (n := 2) (.cons (a := 1) (.int _ _) (.cons (a := 1) (.str _ _) (.nil _)))⟩, fun x hx => by simp at hx⟩

def kB : List PyData := [(.str "Begin"), (.str ""), (.str "root"), (.str "put "), (.str "checkpoint"), .none, (.int 3), (.tuple [.str "put"]), (.str "close"), (.str "und")]
theorem kB_pl : ∀ x ∈ kB, ∃ m, m ≤ 31 ∧ Pl x m 3 := by
  unfold kB
  simp only [List.forall_mem_cons]
  exact ⟨⟨1, by decide, .str _ _⟩, ⟨1, by decide, .str _ _⟩, ⟨1, by decide, .str _ _⟩, ⟨1, by decide, .str _ _⟩, ⟨1, by decide, .str _ _⟩, ⟨1, by decide, .none _⟩, ⟨1, by decide, .int _ _⟩, ⟨2, by decide, .tup (n := 1) (.cons (a := 1) (.str _ _) (.nil _))⟩, ⟨1, by decide, .str _ _⟩, ⟨1, by decide, .str _ _⟩, fun x hx => by simp at hx⟩
theorem mul29 : binD .mul (.tuple [.int 0]) (.int 29) = some (.tuple (List.replicate 29 (.int 0))) := rfl
theorem mul28 : binD .mul (.tuple [.int 0]) (.int 28) = some (.tuple (List.replicate 28 (.int 0))) := rfl
theorem p9 : binD .pow (.int 10) (.int 9) = some (.int 1000000000) := by simp [binD]
theorem p6 : binD .pow (.int 10) (.int 6) = some (.int 1000000) := by simp [binD]
theorem cutD_lo {xs : List PyData} {r : Nat} (h : r ≤ xs.length) : cutD xs none (some (r : Int)) = xs.take r := by
  have h2 : HT.sIx xs.length xs.length (some (r : Int)) = r := by
    have hn : ¬ ((r : Int) < 0) := by omega
    simp [HT.sIx, hn]
    omega
  have h1 : HT.sIx xs.length 0 none = 0 := rfl
  unfold cutD
  rw [h1, h2]
  simp
theorem cutD_hi {xs : List PyData} {r : Nat} (h : r ≤ xs.length) : cutD xs (some (r : Int)) none = xs.drop r := by
  have h2 : HT.sIx xs.length 0 (some (r : Int)) = r := by
    have hn : ¬ ((r : Int) < 0) := by omega
    simp [HT.sIx, hn]
    omega
  have h1 : HT.sIx xs.length xs.length none = xs.length := rfl
  unfold cutD
  rw [h1, h2]
  exact List.take_of_length_le (by simp)
theorem slt_lo {xs : List PyData} {r : Nat} (h : r ≤ xs.length) : slcD (.tuple xs) none (some (r : Int)) = some (.tuple (xs.take r)) := by
  simp only [slcD, cutD_lo h]
theorem slt_hi {xs : List PyData} {r : Nat} (h : r ≤ xs.length) : slcD (.tuple xs) (some (r : Int)) none = some (.tuple (xs.drop r)) := by
  simp only [slcD, cutD_hi h]
theorem sll_lo {xs : List PyData} {r : Nat} (h : r ≤ xs.length) : slcD (.list xs) none (some (r : Int)) = some (.list (xs.take r)) := by
  simp only [slcD, cutD_lo h]
theorem sll_hi {xs : List PyData} {r : Nat} (h : r ≤ xs.length) : slcD (.list xs) (some (r : Int)) none = some (.list (xs.drop r)) := by
  simp only [slcD, cutD_hi h]
def BT (Φ : Nat → List Val → Sto → Res Val) : Prop := ∀ {B : Nat} {s : MO} (rest : Sto), Sm B s → B ≤ 990000 → ∀ {x : PyData} {n : Nat}, Pl x n 4 → n ≤ 1000 → ∃ y s', Φ 38 [.h 0, .d x] (s :: rest) = .ok (.d y) (s' :: rest) ∧ (∃ m, m ≤ 2 * n + 40 ∧ Pl y m 4) ∧ Sm (B + 10) s'
theorem bt_of (f : Nat) : BT (callF Pt (gOf T) Cn (f + 3)) := fun {B s} rest h hB {x n} hp hn => by
  rw [call_eq c__law_bent rfl rfl, show startE c__law_bent [.h 0, .d x] = [some (.h 0), some (.d x), none, none, none] from rfl]
  by_cases hx : ∃ x0 xs, x = .tuple (x0 :: xs)
  · obtain ⟨x0, xs0, rfl⟩ := hx
    obtain ⟨xs, hxs⟩ : ∃ xs, xs = x0 :: xs0 := ⟨_, rfl⟩
    rw [← hxs] at hp ⊢
    have hpos : 1 ≤ xs.length := by rw [hxs]; simp
    cases hp with
    | @tup _ n d hp =>
    have hlen := pls_len hp
    have hne : ¬ ((xs.length : Int) = 0) := by omega
    have hne' : xs ≠ [] := by rw [hxs]; simp
    obtain ⟨a, s1, e1, a1, b1, m1⟩ := nx_of (f + 1) rest h (by omega) (m := (xs.length : Int) + 2) (by omega) (by omega)
    obtain ⟨z, s2, e2, a2, b2, m2⟩ := nx_of (f + 1) rest m1 (by omega) (m := 1000000000) (by decide) (by decide)
    suffices hq : ∃ y s', finV (s :: rest).length (evalSs (callF Pt (gOf T) Cn (f + 2)) (gOf T) Cn (match c__law_bent.body with | .cons _ (.cons _ (.cons _ b)) => b | b => b) [some (.h 0), some (.d (.tuple xs)), some (.d (.int a)), some (.d (.int z)), none] (s2 :: rest)) = .ok (.d y) (s' :: rest) ∧ (∃ m, m ≤ 2 * (n + 1) + 40 ∧ Pl y m 4) ∧ Sm (B + 10) s' by
      obtain ⟨y, s', h1, h2⟩ := hq
      refine ⟨y, s', ?_, h2⟩
      refine (congrArg _ (ss_nx (s_if_no (μ' := s :: rest) (by simp [is_row_eqN, hne, hne'])))).trans ?_
      refine (congrArg _ (ss_nx (s_set (w := .d (.int a)) (μ' := s1 :: rest) (by simp [add_ok, e1])))).trans ?_
      refine (congrArg _ (ss_nx (s_set (w := .d (.int z)) (μ' := s2 :: rest) (by simp [p9, e2])))).trans ?_
      exact h1
    by_cases hL : a = (xs.length : Int)
    · obtain ⟨c, s3, e3, a3, b3, m3⟩ := nx_of (f + 1) rest m2 (by omega) (m := (xs.length : Int)) (by omega) (by omega)
      obtain ⟨j, rfl⟩ : ∃ j : Nat, c = (j : Int) := ⟨c.toNat, by omega⟩
      obtain ⟨m, hm1, hm2⟩ := pls_take j hp
      refine ⟨.tuple (xs.take j), s3, ?_, ⟨m + 1, by omega, .tup hm2⟩, sm_le m3 (by omega)⟩
      refine (congrArg _ (ss_rt ((s_if_t (μ' := s2 :: rest) (by simp [hL])).trans (ss_rt (s_ret (w := .d (.tuple (xs.take j))) (μ' := s3 :: rest) (by simp [e3, slt_lo (show j ≤ xs.length by omega)])))))).trans (fin_dl rfl)
    · by_cases hG : (xs.length : Int) < a
      · have hadd : ∀ y, binD .add (.tuple xs) (.tuple [y]) = some (.tuple (xs ++ [y])) := fun y => add_t (small_lim (by simp; omega))
        have hlis : ∀ ρ : Ip.Env, ρ[1]? = some (some (.d (.tuple xs))) → evalE (callF Pt (gOf T) Cn (f + 2)) (gOf T) (.lis false (.var 1)) ρ (s2 :: rest) = .ok (.d (.list xs)) (s2 :: rest) := fun ρ hρ => by
          rw [re_lis_d (x := .tuple xs) (μ' := s2 :: rest) (by simp [hρ])]
          simp
        have l7 : 7 ≤ lim := by decide
        obtain ⟨y, s3, e3, hy, m3⟩ := pk_of f rest m2 (by omega) (v := .tuple [.tuple (xs ++ [.int 0]), .tuple (xs ++ [.none]), .list xs, .none, .int 0, .str "begin", .dict []]) (.inl rfl) (by simp) (by simp)
        refine ⟨y, s3, ?_, ?_, sm_le m3 (by omega)⟩
        · refine (congrArg _ (ss_nx (s_if_no (μ' := s2 :: rest) (by simp [hL])))).trans ?_
          refine (congrArg _ (ss_rt ((s_if_t (μ' := s2 :: rest) (by simp [hG])).trans (ss_rt (s_ret (w := .d y) (μ' := s3 :: rest) ?_))))).trans (fin_dl rfl)
          simp [l1, hadd, hlis, l7, e3]
        · simp only [List.mem_cons, List.not_mem_nil, or_false] at hy
          rcases hy with rfl | rfl | rfl | rfl | rfl | rfl | rfl
          · exact ⟨n + 1 + 1, by omega, .tup (pls_app hp (.cons (a := 1) (.int _ _) (.nil _)))⟩
          · exact ⟨n + 1 + 1, by omega, .tup (pls_app hp (.cons (a := 1) (.none _) (.nil _)))⟩
          · exact ⟨n + 1, by omega, .lst hp⟩
          · exact ⟨1, by omega, .none _⟩
          · exact ⟨1, by omega, .int _ _⟩
          · exact ⟨1, by omega, .str _ _⟩
          · exact ⟨1, by omega, .dct _⟩
      · by_cases h0 : a = 0
        · subst h0
          have l10 : 10 ≤ lim := by decide
          have hne3 : ¬ ((0 : Int) = (xs.length : Int)) := by omega
          obtain ⟨y, s3, e3, hy, m3⟩ := pk_of f rest m2 (by omega) (v := .tuple kB) (.inl rfl) (by simp [kB]) (by simp [kB])
          obtain ⟨m, hm1, hm2⟩ := kB_pl y hy
          obtain ⟨m', hm3, hm4⟩ := pls_drop 1 hp
          have hadd : binD .add (.tuple [y]) (.tuple (xs.drop 1)) = some (.tuple ([y] ++ xs.drop 1)) := add_t (small_lim (by simp; omega))
          have hsl := slt_hi (xs := xs) (r := 1) hpos
          have hsl' : slcD (.tuple xs) (some 1) none = some (.tuple (xs.drop 1)) := hsl
          refine ⟨.tuple ([y] ++ xs.drop 1), s3, ?_, ⟨m + 0 + m' + 1, by omega, .tup (pls_app (.cons hm2 (.nil _)) hm4)⟩, sm_le m3 (by omega)⟩
          refine (congrArg _ (ss_nx (s_if_no (μ' := s2 :: rest) (by simp; omega)))).trans ?_
          refine (congrArg _ (ss_nx (s_if_no (μ' := s2 :: rest) (by simp)))).trans ?_
          refine (congrArg _ (ss_rt ((s_if_t (μ' := s2 :: rest) (by simp)).trans (ss_rt (s_ret (w := .d (.tuple ([y] ++ xs.drop 1))) (μ' := s3 :: rest) ?_))))).trans (fin_dl rfl)
          unfold kB at e3
          have hadd' : binD .add (.tuple [y]) (.tuple xs.tail) = some (.tuple (y :: xs.tail)) := by simpa using hadd
          simp [l1, l10, e3, hsl', hadd']
        · obtain ⟨j, rfl⟩ : ∃ j : Nat, a = (j : Int) := ⟨a.toNat, by omega⟩
          have hj : j < xs.length := by omega
          have l16 : 16 ≤ lim := by decide
          have l14 : 14 ≤ lim := by decide
          have l30 : 30 ≤ lim := by decide
          have hsum : binD .add (.tuple (rB1 z)) (.tuple rB2) = some (.tuple (rB1 z ++ rB2)) := add_t l30
          obtain ⟨y, s3, e3, hy, m3⟩ := pk_of f rest m2 (by omega) (v := .tuple (rB1 z ++ rB2)) (.inl rfl) (by simp [rB1]) (by simp [rB1, rB2])
          obtain ⟨m, hm1, hm2⟩ : ∃ m, m ≤ 31 ∧ Pl y m 3 := by
            rcases List.mem_append.mp hy with h | h
            · exact rB1_pl z y h
            · exact rB2_pl y h
          obtain ⟨m', hm3, hm4⟩ := pls_take j hp
          obtain ⟨m'', hm5, hm6⟩ := pls_drop (j + 1) hp
          have hadd1 : binD .add (.tuple (xs.take j)) (.tuple [y]) = some (.tuple (xs.take j ++ [y])) := add_t (small_lim (by simp; omega))
          have hadd2 : binD .add (.tuple (xs.take j ++ [y])) (.tuple (xs.drop (j + 1))) = some (.tuple ((xs.take j ++ [y]) ++ xs.drop (j + 1))) := add_t (small_lim (by simp; omega))
          have hs1 := slt_lo (xs := xs) (r := j) (by omega)
          have hs2 : slcD (.tuple xs) (some ((j : Int) + 1)) none = some (.tuple (xs.drop (j + 1))) := by simpa using slt_hi (xs := xs) (r := j + 1) (by omega)
          refine ⟨.tuple ((xs.take j ++ [y]) ++ xs.drop (j + 1)), s3, ?_, ⟨m' + (m + 0) + m'' + 1, by omega, .tup (pls_app (pls_app hm4 (.cons hm2 (.nil _))) hm6)⟩, sm_le m3 (by omega)⟩
          refine (congrArg _ (ss_nx (s_if_no (μ' := s2 :: rest) (by simp [hL])))).trans ?_
          refine (congrArg _ (ss_nx (s_if_no (μ' := s2 :: rest) (by simp; omega)))).trans ?_
          refine (congrArg _ (ss_nx (s_if_no (μ' := s2 :: rest) (by simp [h0]; omega)))).trans ?_
          refine (congrArg _ (ss_nx (s_set (w := .d (.tuple (rB1 z))) (μ' := s2 :: rest) (by simp [add_ok, l2, l16, rB1])))).trans ?_
          refine (congrArg _ (ss_nx (s_set (w := .d (.tuple (rB1 z ++ rB2))) (μ' := s2 :: rest) ?_))).trans ?_
          · have e4 : evalE (callF Pt (gOf T) Cn (f + 2)) (gOf T) (match c__law_bent.body with | .cons _ (.cons _ (.cons _ (.cons _ (.cons _ (.cons _ (.cons _ (.cons (.set _ (.bin _ _ e)) _))))))) => e | _ => .bad) [some (.h 0), some (.d (.tuple xs)), some (.d (.int (j : Int))), some (.d (.int z)), some (.d (.tuple (rB1 z)))] (s2 :: rest) = .ok (.d (.tuple rB2)) (s2 :: rest) := by
              simp [c__law_bent, l0, l1, l2, l3, l14, mul29, mul28, rB2]
            exact e_bin (wa := .d (.tuple (rB1 z))) (wb := .d (.tuple rB2)) (μ1 := s2 :: rest) (by simp) e4 rfl rfl hsum
          · refine (congrArg _ (ss_rt (s_ret (w := .d (.tuple ((xs.take j ++ [y]) ++ xs.drop (j + 1)))) (μ' := s3 :: rest) ?_))).trans (fin_dl rfl)
            simp [add_ok, hs1, hs2, e3, l1, hadd1, hadd2, -List.append_assoc]
  · refine ⟨x, s, ?_, ⟨n, by omega, hp⟩, sm_le h (by omega)⟩
    refine (congrArg _ (ss_rt ((s_if_t (μ' := s :: rest) ?_).trans (ss_rt (s_ret (w := .d x) (μ' := s :: rest) (by simp)))))).trans (fin_dl rfl)
    cases x with
    | tuple xs =>
      match xs with
      | [] => simp [is_row_eqN]
      | y :: ys => exact absurd ⟨y, ys, rfl⟩ hx
    | _ => simp [is_row_eqN]
end K11
set_option Elab.async false
set_option linter.all false
set_option maxRecDepth 100000
set_option maxHeartbeats 2000000
/-! K11: what the words of a record are, and that they are read back. -/
namespace K11
open PySem Ip

def toI : PyData → Int
  | .int i => i
  | _ => 0
def AllI (xs : List PyData) : Prop := ∀ x ∈ xs, ∃ i, x = .int i ∧ 0 ≤ i ∧ i ≤ 65535
theorem allI_map {xs : List PyData} (h : AllI xs) : xs = (xs.map toI).map .int := by
  rw [List.map_map]
  refine (map_id_of fun x hx => ?_).symm
  obtain ⟨i, rfl, _⟩ := h x hx
  rfl
theorem allI_of_all {xs : List PyData} (h : (xs.all fun x => isI x 0 65535) = true) : AllI xs := fun x hx => by
  rw [List.all_eq_true] at h
  exact int_of (h x hx)
theorem fw_all {f : Fm} {v : PyData} (h : good f v = true) : AllI (fw f v) := by
  cases f with
  | n =>
    simp only [good, nameB] at h
    split at h
    · rename_i x y
      simp only [Bool.and_eq_true] at h
      obtain ⟨a, rfl, a1, a2⟩ := int_of h.1
      obtain ⟨b, rfl, b1, b2⟩ := int_of h.2
      intro x hx
      simp only [fw, List.mem_cons, List.not_mem_nil, or_false] at hx
      rcases hx with rfl | rfl
      · exact ⟨_, rfl, by omega, by omega⟩
      · exact ⟨_, rfl, by omega, by omega⟩
    · cases h
  | t => intro x hx; simp [fw] at hx
  | m =>
    intro x hx
    simp only [fw, List.mem_singleton] at hx
    cases hv : isNon v with
    | true =>
      rw [hv] at hx
      exact ⟨0, hx, by decide, by decide⟩
    | false =>
      rw [hv] at hx
      simp only [good, hv, Bool.false_or] at h
      obtain ⟨i, rfl, h1, h2⟩ := int_of h
      exact ⟨i, hx, h1, h2⟩
  | z =>
    obtain ⟨i, rfl, h1, h2⟩ := int_of h
    intro x hx
    simp only [fw, List.mem_cons, List.not_mem_nil, or_false] at hx
    rcases hx with rfl | rfl
    · exact ⟨_, rfl, by omega, by omega⟩
    · exact ⟨_, rfl, by omega, by omega⟩
  | o =>
    obtain ⟨i, rfl, h1, h2⟩ := int_of h
    intro x hx
    simp only [fw, List.mem_cons, List.not_mem_nil, or_false] at hx
    rcases hx with rfl | rfl
    · exact ⟨_, rfl, by omega, by omega⟩
    · exact ⟨_, rfl, by omega, by omega⟩
  | g =>
    obtain ⟨i, rfl, h1, h2⟩ := int_of h
    intro x hx
    simp only [fw, List.mem_cons, List.not_mem_nil, or_false] at hx
    exact ⟨i, hx, h1, by omega⟩
  | k =>
    obtain ⟨i, rfl, h1, h2⟩ := int_of h
    intro x hx
    simp only [fw, List.mem_cons, List.not_mem_nil, or_false] at hx
    exact ⟨i, hx, h1, by omega⟩
  | w =>
    simp only [good] at h
    split at h
    · rename_i ys
      simp only [Bool.and_eq_true, decide_eq_true_eq] at h
      intro x hx
      simp only [fw, List.mem_cons] at hx
      rcases hx with rfl | hx
      · exact ⟨_, rfl, by omega, by omega⟩
      · exact allI_of_all h.2 x hx
    · cases h
theorem good_head {f : Fm} {fs : List Fm} {v : PyData} {vs : List PyData} {at_ : Nat} (h : loopF (f :: fs) at_ (v :: vs) = none) : good f v = true ∧ loopF fs (at_ + 1) vs = none := by
  simp only [loopF] at h
  cases hg : good f v with
  | false => simp [hg] at h
  | true =>
    simp only [hg, if_true] at h
    exact ⟨rfl, h⟩
theorem ws_all : ∀ (fs : List Fm) (at_ : Nat) (vs : List PyData), loopF fs at_ vs = none → AllI (wsW fs vs)
  | [], _, _, _ => fun x hx => by simp [wsW] at hx
  | _ :: _, _, [], h => by simp [loopF] at h
  | f :: fs, at_, v :: vs, h => by
    obtain ⟨h1, h2⟩ := good_head h
    intro x hx
    simp only [wsW, List.mem_append] at hx
    rcases hx with hx | hx
    · exact fw_all h1 x hx
    · exact ws_all fs _ vs h2 x hx
/-- the flags as one number -/
def bitsW : List Fm → List PyData → Int
  | f :: fs, v :: vs => match fb f v with
    | none => bitsW fs vs
    | some c => c + 2 * bitsW fs vs
  | _, _ => 0
theorem fst_bits : ∀ (fs : List Fm) (vs : List PyData) (a b : Int), fstW fs vs a b = a + b * bitsW fs vs
  | [], vs, a, b => by simp [fstW, bitsW]
  | f :: fs, [], a, b => by simp [fstW, bitsW]
  | f :: fs, v :: vs, a, b => by
    simp only [fstW, bitsW, fst_bits fs vs, fst1, flg1]
    cases fb f v with
    | none => rfl
    | some c =>
      simp only
      rw [Int.mul_add, Int.mul_assoc, Int.add_assoc]
theorem fb_bit {f : Fm} {v : PyData} {c : Int} (hg : good f v = true) (h : fb f v = some c) : (c = 0 ∨ c = 1) ∧ (f = .t ∨ f = .m) := by
  cases f with
  | t =>
    obtain ⟨i, rfl, h1, h2⟩ := int_of hg
    cases h
    exact ⟨by omega, .inl rfl⟩
  | m =>
    simp only [fb, Option.some.injEq] at h
    subst h
    exact ⟨by cases isNon v <;> simp, .inr rfl⟩
  | _ => simp [fb] at h
theorem fb_none {f : Fm} {v : PyData} (hg : good f v = true) (h : fb f v = none) : ¬ (f = .t ∨ f = .m) := by
  rintro (rfl | rfl)
  · obtain ⟨i, rfl, h1, h2⟩ := int_of hg
    cases h
  · simp [fb] at h
theorem bits_le : ∀ (fs : List Fm) (at_ : Nat) (vs : List PyData), loopF fs at_ vs = none → 0 ≤ bitsW fs vs ∧ bitsW fs vs < 2 ^ cntTM fs
  | [], _, _, _ => by simp [bitsW, cntTM]
  | _ :: _, _, [], h => by simp [loopF] at h
  | f :: fs, at_, v :: vs, h => by
    obtain ⟨h1, h2⟩ := good_head h
    obtain ⟨i1, i2⟩ := bits_le fs _ vs h2
    simp only [bitsW]
    cases hb : fb f v with
    | none =>
      have hn := fb_none h1 hb
      have hc : cntTM (f :: fs) = cntTM fs := by
        simp [cntTM, isTM, hn]
      rw [hc]
      exact ⟨i1, i2⟩
    | some c =>
      obtain ⟨hc, hf⟩ := fb_bit h1 hb
      have hc2 : cntTM (f :: fs) = cntTM fs + 1 := by
        simp [cntTM, isTM, hf]
      rw [hc2, Int.pow_succ]
      generalize (2 : Int) ^ cntTM fs = m at i2
      simp only
      omega
def fwI (f : Fm) (v : PyData) : List Int := (fw f v).map toI
def wsI (fs : List Fm) (vs : List PyData) : List Int := (wsW fs vs).map toI
def wI (r : Row) (vs : List PyData) : List Int := ((r.2.1 : Nat) + 16 * bitsW r.2.2 vs) :: wsI r.2.2 vs
theorem words_wI {r : Row} {vs : List PyData} (h : loopF r.2.2 0 vs = none) : wordsOf r vs = (wI r vs).map .int := by
  unfold wordsOf wI wsI
  rw [fst_bits, List.map_cons, ← allI_map (ws_all _ _ _ h)]
theorem wI_ok {r : Row} {vs : List PyData} (hr : r ∈ rowsL) (h : loopF r.2.2 0 vs = none) : (∀ x ∈ wI r vs, 0 ≤ x ∧ x ≤ 65535) ∧ 1 ≤ (wI r vs).length ∧ (wI r vs).length ≤ 300 := by
  obtain ⟨q1, q2, q3, q4, q5, q6, q7⟩ := row_all r hr
  have hc := cnt_all r hr
  obtain ⟨b1, b2⟩ := bits_le _ _ _ h
  have hp : (2 : Int) ^ cntTM r.2.2 ≤ 8 := by
    have h2 : cntTM r.2.2 = 0 ∨ cntTM r.2.2 = 1 ∨ cntTM r.2.2 = 2 ∨ cntTM r.2.2 = 3 := by omega
    rcases h2 with h | h | h | h <;> rw [h] <;> decide
  have hle := wsW_len _ _ _ h
  refine ⟨fun x hx => ?_, by simp [wI], by simp [wI, wsI]; omega⟩
  simp only [wI, wsI, List.mem_cons, List.mem_map] at hx
  rcases hx with rfl | ⟨y, hy, rfl⟩
  · omega
  · obtain ⟨i, rfl, h1, h2⟩ := ws_all _ _ _ h y hy
    exact ⟨h1, h2⟩
theorem at_mid {pre l post : List Int} {j : Nat} {x : Int} (h : l[j]? = some x) : (pre ++ l ++ post)[pre.length + j]? = some x := by
  have hj := (List.getElem?_eq_some_iff.mp h).1
  rw [List.append_assoc, List.getElem?_append_right (by omega), Nat.add_sub_cancel_left, List.getElem?_append_left hj, h]
theorem rt_field {f : Fm} {v : PyData} (hg : good f v = true) {pre post : List Int} {flag : Int} (hf : ∀ c, fb f v = some c → flag = c) : rdF (pre ++ fwI f v ++ post) f flag pre.length = .got v (pre.length + (fwI f v).length) := by
  cases f with
  | t =>
    obtain ⟨i, rfl, _⟩ := int_of hg
    have := hf i rfl
    subst this
    rfl
  | n =>
    simp only [good, nameB] at hg
    split at hg
    · rename_i x y
      simp only [Bool.and_eq_true] at hg
      obtain ⟨a, rfl, a1, a2⟩ := int_of hg.1
      obtain ⟨b, rfl, b1, b2⟩ := int_of hg.2
      have e0 := at_mid (pre := pre) (l := fwI .n (.tuple [.int a, .int b])) (post := post) (j := 0) (x := a) rfl
      have e1 := at_mid (pre := pre) (l := fwI .n (.tuple [.int a, .int b])) (post := post) (j := 1) (x := b) rfl
      rw [Nat.add_zero] at e0
      have ha : ¬ a = 0 := by omega
      have hb : ¬ b = 0 := by omega
      simp only [rdF, two, e0, e1, ha, hb, decide_false, Bool.false_eq_true, if_false]
      rfl
    · cases hg
  | z =>
    obtain ⟨i, rfl, h1, h2⟩ := int_of hg
    have e0 := at_mid (pre := pre) (l := fwI .z (.int i)) (post := post) (j := 0) (x := i / 65536) rfl
    have e1 := at_mid (pre := pre) (l := fwI .z (.int i)) (post := post) (j := 1) (x := i % 65536) rfl
    rw [Nat.add_zero] at e0
    simp only [rdF, two, e0, e1, Bool.false_eq_true, if_false]
    rw [show 65536 * (i / 65536) + i % 65536 = i by omega]
    rfl
  | o =>
    obtain ⟨i, rfl, h1, h2⟩ := int_of hg
    have e0 := at_mid (pre := pre) (l := fwI .o (.int i)) (post := post) (j := 0) (x := i / 65536) rfl
    have e1 := at_mid (pre := pre) (l := fwI .o (.int i)) (post := post) (j := 1) (x := i % 65536) rfl
    rw [Nat.add_zero] at e0
    have hn : (decide (i / 65536 = 0) && decide (i % 65536 = 0)) = false := by
      rw [Bool.and_eq_false_iff, decide_eq_false_iff_not, decide_eq_false_iff_not]
      omega
    simp only [rdF, two, e0, e1, hn, Bool.false_eq_true, if_false]
    rw [show 65536 * (i / 65536) + i % 65536 = i by omega]
    rfl
  | g =>
    obtain ⟨i, rfl, h1, h2⟩ := int_of hg
    have e0 := at_mid (pre := pre) (l := fwI .g (.int i)) (post := post) (j := 0) (x := i) rfl
    rw [Nat.add_zero] at e0
    have hn : ¬ 255 < i := by omega
    simp only [rdF, one, e0, hn, decide_false, Bool.false_eq_true, if_false]
    rfl
  | k =>
    obtain ⟨i, rfl, h1, h2⟩ := int_of hg
    have e0 := at_mid (pre := pre) (l := fwI .k (.int i)) (post := post) (j := 0) (x := i) rfl
    rw [Nat.add_zero] at e0
    simp only [rdF, one, e0, Bool.false_eq_true, if_false]
    rfl
  | m =>
    cases hv : isNon v with
    | true =>
      have hv' : v = .none := by
        cases v <;> first | rfl | (cases hv)
      subst hv'
      have := hf 0 rfl
      subst this
      have e0 := at_mid (pre := pre) (l := fwI .m .none) (post := post) (j := 0) (x := 0) rfl
      rw [Nat.add_zero] at e0
      simp only [rdF, one, e0]
      rfl
    | false =>
      simp only [good, hv, Bool.false_or] at hg
      obtain ⟨i, rfl, h1, h2⟩ := int_of hg
      have := hf 1 rfl
      subst this
      have e0 := at_mid (pre := pre) (l := fwI .m (.int i)) (post := post) (j := 0) (x := i) rfl
      rw [Nat.add_zero] at e0
      simp only [rdF, one, e0]
      rfl
  | w =>
    simp only [good] at hg
    split at hg
    · rename_i ys
      simp only [Bool.and_eq_true, decide_eq_true_eq] at hg
      have hfw : fwI .w (.tuple ys) = (ys.length : Int) :: ys.map toI := rfl
      have hl : (fwI .w (.tuple ys)).length = ys.length + 1 := by rw [hfw]; simp
      have e0 := at_mid (pre := pre) (l := fwI .w (.tuple ys)) (post := post) (j := 0) (x := (ys.length : Int)) rfl
      rw [Nat.add_zero] at e0
      have hn : ¬ 28 < (ys.length : Int) := by omega
      have hle : pre.length + 1 + ys.length ≤ (pre ++ fwI .w (.tuple ys) ++ post).length := by
        simp only [List.length_append, hl]
        omega
      have ht : ((pre ++ fwI .w (.tuple ys) ++ post).drop (pre.length + 1)).take ys.length = ys.map toI := by
        rw [hfw, List.append_assoc, List.drop_append, List.drop_eq_nil_of_le (by omega), List.nil_append, Nat.add_sub_cancel_left, List.cons_append, List.drop_succ_cons, List.drop_zero, List.take_append_of_le_length (by simp)]
        exact List.take_of_length_le (by simp)
      simp only [rdF, e0, if_neg hn, Int.toNat_natCast, if_pos hle, ht, ← allI_map (allI_of_all hg.2), hl]
      congr 1
      omega
    · cases hg
theorem rt_fields : ∀ (fs : List Fm) (at_ : Nat) (vs : List PyData) (pre post : List Int), loopF fs at_ vs = none → vs.length = fs.length → rdFs (pre ++ wsI fs vs ++ post) fs (bitsW fs vs) pre.length = .got vs (pre.length + (wsI fs vs).length)
  | [], _, [], pre, post, _, _ => by simp [rdFs, wsI, wsW]
  | [], _, _ :: _, _, _, _, h => by simp at h
  | _ :: _, _, [], _, _, _, h => by simp at h
  | f :: fs, at_, v :: vs, pre, post, h, hl => by
    obtain ⟨h1, h2⟩ := good_head h
    obtain ⟨b1, b2⟩ := bits_le _ _ _ h2
    have hws : wsI (f :: fs) (v :: vs) = fwI f v ++ wsI fs vs := by simp [wsI, wsW, fwI]
    have ih := rt_fields fs (at_ + 1) vs (pre ++ fwI f v) post h2 (by simpa using hl)
    have e1 := rt_field (f := f) (v := v) h1 (pre := pre) (post := wsI fs vs ++ post) (flag := bitsW (f :: fs) (v :: vs) % 2) (by
      intro c hc
      obtain ⟨hc1, _⟩ := fb_bit h1 hc
      simp only [bitsW, hc]
      omega)
    have hfl : flN f (bitsW (f :: fs) (v :: vs)) = bitsW fs vs := by
      unfold flN
      cases hb : fb f v with
      | none => rw [if_neg (fb_none h1 hb)]; simp only [bitsW, hb]
      | some c =>
        obtain ⟨hc1, hf⟩ := fb_bit h1 hb
        rw [if_pos hf]
        simp only [bitsW, hb]
        omega
    have hns : pre ++ wsI (f :: fs) (v :: vs) ++ post = pre ++ fwI f v ++ (wsI fs vs ++ post) := by rw [hws]; simp
    have hns2 : pre ++ wsI (f :: fs) (v :: vs) ++ post = pre ++ fwI f v ++ wsI fs vs ++ post := by rw [hws]; simp
    simp only [rdFs]
    rw [hns, e1, hfl]
    dsimp only
    rw [← hns, hns2, show pre.length + (fwI f v).length = (pre ++ fwI f v).length by simp, ih]
    dsimp only
    rw [hws]
    simp [Nat.add_assoc]
theorem lookC_row : ∀ r ∈ rowsL, lookC (r.2.1 : Nat) = some r := by decide +kernel
theorem rt_due {r : Row} {vs : List PyData} (hr : r ∈ rowsL) (h : loopF r.2.2 0 vs = none) (hl : vs.length = r.2.2.length) (pre post : List Int) : due (pre ++ wI r vs ++ post) pre.length = .got (.str r.1 :: vs) (pre.length + (wI r vs).length) := by
  obtain ⟨q1, q2, q3, q4, q5, q6, q7⟩ := row_all r hr
  obtain ⟨b1, b2⟩ := bits_le _ _ _ h
  have e0 := at_mid (pre := pre) (l := wI r vs) (post := post) (j := 0) (x := (r.2.1 : Nat) + 16 * bitsW r.2.2 vs) rfl
  rw [Nat.add_zero] at e0
  have hm : ((r.2.1 : Nat) + 16 * bitsW r.2.2 vs) % 16 = (r.2.1 : Nat) := by omega
  have hd : ((r.2.1 : Nat) + 16 * bitsW r.2.2 vs) / 16 = bitsW r.2.2 vs := by omega
  have hn : ¬ (2 : Int) ^ cntTM r.2.2 ≤ bitsW r.2.2 vs := by omega
  have hns : pre ++ wI r vs ++ post = (pre ++ [((r.2.1 : Nat) : Int) + 16 * bitsW r.2.2 vs]) ++ wsI r.2.2 vs ++ post := by simp [wI]
  have ef := rt_fields r.2.2 0 vs (pre ++ [((r.2.1 : Nat) : Int) + 16 * bitsW r.2.2 vs]) post h hl
  rw [← hns, show (pre ++ [((r.2.1 : Nat) : Int) + 16 * bitsW r.2.2 vs]).length = pre.length + 1 by simp] at ef
  unfold due
  rw [e0]
  dsimp only
  rw [hm, lookC_row r hr]
  dsimp only
  rw [hd, if_neg hn, ef]
  dsimp only
  rw [show (wI r vs).length = 1 + (wsI r.2.2 vs).length by simp [wI]; omega, Nat.add_assoc]
end K11
set_option Elab.async false
set_option linter.all false
set_option maxRecDepth 100000
set_option maxHeartbeats 2000000
/-! K11: a record and bent ones are taken and refused as due. -/
namespace K11
open PySem Ip

theorem pls_ints {d : Nat} : ∀ l : List Int, Pls (l.map .int) l.length d
  | [] => .nil _
  | x :: l => by
    rw [List.map_cons, List.length_cons, Nat.add_comm]
    exact .cons (.int x d) (pls_ints l)
theorem pl_no (i : Nat) : Pl (no i) 5 2 := .lst (n := 4) (.cons (a := 1) (.str _ _) (.cons (a := 1) (.str _ _) (.cons (a := 2) (.tup (n := 1) (.cons (a := 1) (.int _ _) (.nil _))) (.nil _))))
theorem pl_badV (z : Str) : Pl (badV z) 5 2 := .lst (n := 4) (.cons (a := 1) (.str _ _) (.cons (a := 1) (.str _ _) (.cons (a := 2) (.tup (n := 1) (.cons (a := 1) (.str _ _) (.nil _))) (.nil _))))
theorem pl_told {x : PyData} {n d : Nat} (h : Pl x n d) : Pl (.list [.str "told", x]) (n + 2) (d + 1) := by
  have := Pl.lst (.cons (.str "told" d) (.cons h (.nil d)))
  rwa [show 1 + (n + 0) + 1 = n + 2 by omega] at this
/-- _law_same of two equal values, lent -/
theorem bc_same (f : Nat) {as : CEs} {ws : List Val} {ρ : Ip.Env} {μ μ1 : Sto} {x : PyData} {n d : Nat} (e : evalEs (callF Pt (gOf T) Cn (f + 1)) (gOf T) as ρ μ = .ok ws μ1) (hl : lends μ1 ws = some [x, x]) (hp : Pl x n d) (hn : n ≤ 1000000) : evalE (callF Pt (gOf T) Cn (f + 1)) (gOf T) (.bcall 24 as) ρ μ = .ok (.d (.bool true)) μ1 := by
  rw [re_bcall, e, Res.bind_ok, hl, Res.opt_some, Res.bind_ok]
  rw [show [x, x].map Val.d = [.d x, .d x] from rfl, same_eq f hp hn []]
  rfl
theorem not_t {Φ : Nat → List Val → Sto → Res Val} {ρ : Ip.Env} {μ μ1 : Sto} {a : CE} (e : evalE Φ (gOf T) a ρ μ = .ok (.d (.bool true)) μ1) : evalE Φ (gOf T) (.not a) ρ μ = .ok (.d (.bool false)) μ1 := by
  rw [re_not, e]
  rfl
theorem or_ff {Φ : Nat → List Val → Sto → Res Val} {ρ : Ip.Env} {μ μ1 μ2 : Sto} {a b : CE} (e1 : evalE Φ (gOf T) a ρ μ = .ok (.d (.bool false)) μ1) (e2 : evalE Φ (gOf T) b ρ μ1 = .ok (.d (.bool false)) μ2) : evalE Φ (gOf T) (.bop false (.cons a (.cons b .nil))) ρ μ = .ok (.d (.bool false)) μ2 := by
  rw [re_bop, rb_cons, e1]
  simp [e2]
theorem lend_t {μ : Sto} {y : PyData} {n : Nat} {xs : List PyData} (h : μ[n]? = some (.lst xs)) : lend μ (.t y n) = some (.list [y, .list xs]) := by
  unfold lend
  simp only [h]
theorem lends2 {μ : Sto} {a b : Val} {x y : PyData} (h1 : lend μ a = some x) (h2 : lend μ b = some y) : lends μ [a, b] = some [x, y] := by
  simp [h1, h2]
theorem lend_h {μ : Sto} {n : Nat} {xs : List PyData} (h : μ[n]? = some (.lst xs)) : lend μ (.h n) = some (.list xs) := by
  unfold lend
  simp only [h]
theorem isn_opt (o : Option Nat) : isNon (optN o) = o.isNone := by
  cases o <;> rfl
theorem rows_of2 {Φ : Nat → List Val → Sto → Res Val} {ρ : Ip.Env} {μ : Sto} {s : Str} {r : Row} {vs : List PyData} (hk : look s = some r) (hΦ : Φ 26 [] μ = .ok (.d (.list (rowsL.map rowD))) μ) (h : ρ[3]? = some (some (.d (.tuple (.str s :: vs))))) (hj : 12 < ρ.length) :
    evalE Φ (gOf T) (.lcm false [12] (.idx (.var 12) (.kst (.int 2))) (.nm 12) (.sq (.call 26 .nil)) (.so (.cmp .eq (.idx (.var 12) (.kst (.int 0))) (.idx (.var 3) (.kst (.int 0)))))) ρ μ = .ok (.d (.list [.str (chS r.2.2)])) μ := by
  have e : evalR Φ (gOf T) (.sq (.call 26 .nil)) ρ μ = .ok (rowsL.map rowD) μ := by simp [hΦ]
  have z := lcm_fm (own := [12]) (t := .nm 12) (elt := evalE Φ (gOf T) (.idx (.var 12) (.kst (.int 2)))) (c := evalC Φ (gOf T) (.so (.cmp .eq (.idx (.var 12) (.kst (.int 0))) (.idx (.var 3) (.kst (.int 0)))))) (ρ := ρ) (μ := μ) (keyP s) (fun x => (idxD x (.int 2)).getD .none) (rowsL.map rowD) [] (fun x hx => by
    obtain ⟨q, _, rfl⟩ := List.mem_map.mp hx
    refine ⟨_, rfl, ?_, fun _ => by simp [wipeE, hj, rw2]⟩
    simp [wipeE, hj, List.getElem?_set, h, rw0, ix0]
    rfl) (by decide)
  rw [re_lcm, e, Res.bind_ok, z, List.nil_append, filt_rows, filt_some hk]
  simp [noExc, rw2]
theorem g_in : ∀ r ∈ rowsL, inD (.str "g") (.str (chS r.2.2)) = some (decide (Fm.g ∈ r.2.2)) := by decide +kernel
theorem n_in : ∀ r ∈ rowsL, inD (.str "n") (.str (chS r.2.2)) = some (decide (Fm.n ∈ r.2.2)) := by decide +kernel
theorem g_ix : ∀ r ∈ rowsL, Builtin.Str.occurrences (chS r.2.2) "g" 0 (chS r.2.2).length 1 = (match r.2.2.findIdx? (fun f => decide (f = Fm.g)) with
    | some i => [i]
    | none => []) := by decide +kernel
theorem n_ix : ∀ r ∈ rowsL, r.2.2.findIdx? (fun f => decide (f = Fm.n)) = if Fm.n ∈ r.2.2 then some 0 else none := by decide +kernel
theorem page_e {Φ : Nat → List Val → Sto → Res Val} {ρ : Ip.Env} {μ : Sto} {r : Row} {vs : List PyData} (hr : r ∈ rowsL) (hlen : vs.length = r.2.2.length) (h3 : ρ[3]? = some (some (.d (.tuple (.str r.1 :: vs))))) (h9 : ρ[9]? = some (some (.d (.str (chS r.2.2))))) :
    evalE Φ (gOf T) (.ite (.cmp .in_ (.kst (.str "g")) (.var 9)) (.idx (.var 3) (.bin .add (.kst (.int (1))) (.pm .sindex (.var 9) (cesOf [(.kst (.str "g"))])))) (.kst .none)) ρ μ = .ok (.d (fldAt .g r vs)) μ := by
  have e1 := g_in r hr
  have e2 := g_ix r hr
  by_cases hm : Fm.g ∈ r.2.2
  · obtain ⟨i, hi⟩ : ∃ i, r.2.2.findIdx? (fun g => decide (g = Fm.g)) = some i := by
      cases h : r.2.2.findIdx? (fun g => decide (g = Fm.g)) with
      | some i => exact ⟨i, rfl⟩
      | none =>
        rw [List.findIdx?_eq_none_iff] at h
        have := h _ hm
        simp at this
    rw [hi] at e2
    have hlt : i < vs.length := by
      rw [hlen]
      exact (List.findIdx?_eq_some_iff_getElem.mp hi).1
    have e4 : idxD (.tuple (.str r.1 :: vs)) (.int (1 + (i : Int))) = some (vs.getD i .none) := by
      have := (ixn (xs := .str r.1 :: vs) (i := i + 1) (x := vs.getD i .none) (by simp [List.getElem?_eq_getElem hlt])).1
      rw [show (1 + (i : Int)) = ((i + 1 : Nat) : Int) by omega]
      exact this
    have e5 : pmD .sindex (.str (chS r.2.2)) [.str "g"] = some (.int (i : Nat)) := by
      simp only [pmD, e2]
    simp [cm_in, e1, hm, h3, h9, pmT, e5, add_ok, e4, fldAt, hi]
  · have hi : r.2.2.findIdx? (fun g => decide (g = Fm.g)) = none := by
      rw [List.findIdx?_eq_none_iff]
      intro g hg
      rw [decide_eq_false_iff_not]
      rintro rfl
      exact hm hg
    simp [cm_in, e1, hm, h9, fldAt, hi]
theorem name_e {Φ : Nat → List Val → Sto → Res Val} {ρ : Ip.Env} {μ : Sto} {r : Row} {vs : List PyData} (hr : r ∈ rowsL) (hlen : vs.length = r.2.2.length) (h3 : ρ[3]? = some (some (.d (.tuple (.str r.1 :: vs))))) (h9 : ρ[9]? = some (some (.d (.str (chS r.2.2))))) :
    evalE Φ (gOf T) (.ite (.cmp .in_ (.kst (.str "n")) (.var 9)) (.idx (.var 3) (.kst (.int (1)))) (.kst .none)) ρ μ = .ok (.d (fldAt .n r vs)) μ := by
  have e1 := n_in r hr
  have e2 := n_ix r hr
  by_cases hm : Fm.n ∈ r.2.2
  · rw [if_pos hm] at e2
    have hlt : 0 < vs.length := by
      rw [hlen]
      exact List.length_pos_of_mem hm
    have e4 : idxD (.tuple (.str r.1 :: vs)) (.int 1) = some (vs.getD 0 .none) :=
      (ixn (xs := .str r.1 :: vs) (i := 1) (x := vs.getD 0 .none) (by simp [List.getElem?_eq_getElem hlt])).1
    simp [cm_in, e1, hm, h3, h9, e4, fldAt, e2]
  · rw [if_neg hm] at e2
    simp [cm_in, e1, hm, h9, fldAt, e2]
theorem fld_pl {f : Fm} {r : Row} {vs : List PyData} {n d : Nat} (h : Pls vs n d) : ∃ m, m ≤ n + 1 ∧ Pl (fldAt f r vs) m d := by
  unfold fldAt
  split
  · rename_i i _
    rw [List.getD_eq_getElem?_getD]
    cases hv : vs[i]? with
    | none => exact ⟨1, by omega, .none _⟩
    | some v =>
      obtain ⟨m, h1, h2⟩ := pls_mem h v (List.mem_of_getElem? hv)
      exact ⟨m, by omega, h2⟩
  · exact ⟨1, by omega, .none _⟩
abbrev Fi (f : Nat) : Nat → List Val → Sto → Res Val := callF Pt (gOf T) Cn (f + 20)
section
variable {f : Nat} {w0 w1 w2 w6 w7 w8 w9 w10 w11 w12 : Option Val} {x : PyData} {S : Sto}
/-- the last loop's turn, of what is no record -/
theorem turn_no {i n : Nat} (hf : fault x = some i) (hp : Pl x n 4) (hn : n ≤ 10000) {z : Str} (hz : z = "words" ∨ z = "page" ∨ z = "name") :
    evalSs (Fi f) (gOf T) Cn b__law_records_fit_1 [w0, w1, w2, some (.d x), some (.d (.int (i : Nat))), some (.d x), w6, w7, some (.d (.str z)), w9, w10, w11, w12] S = .ok (.nx [w0, w1, w2, some (.d x), some (.d (.int (i : Nat))), some (.d x), some (.d (no i)), w7, some (.d (.str z)), w9, w10, w11, w12]) S := by
  have e1 : ∀ a, Fi f 37 [.d (.str z), .d x, .d a] S = .ok (.d (no i)) S := fun a => by
    rcases hz with rfl | rfl | rfl
    · exact asked_words_no (f + 13) hf S
    · exact asked_page_no (f + 13) hf S
    · exact asked_name_no (f + 13) hf S
  have e2 : Fi f 33 [.d (.int (i : Nat))] S = .ok (.d (no i)) S := law_no_eq (f + 19) i S
  refine (ss_nx (s_set (w := .d (no i)) (μ' := S) (by simp [isNon, e2]))).trans ?_
  refine (ss_nx (s_if_no (μ' := S) (or_ff (not_t (bc_same (f + 19) (ws := [.d (no i), .d (no i)]) (μ1 := S) (by simp [e1]) rfl (pl_no i) (by decide))) (not_t (bc_same (f + 19) (ws := [.d x, .d x]) (μ1 := S) (by simp) rfl hp (by omega)))))).trans ?_
  rw [css_nil, rss_nil]
  rfl
/-- the last loop's turn, of a record -/
theorem turn_rec {s : Str} {r : Row} {vs : List PyData} {n : Nat} (hx : x = .tuple (.str s :: vs)) (hf : fault x = none) (hk : look s = some r) (hlp : loopF r.2.2 0 vs = none) (hlen : vs.length = r.2.2.length) (hp : Pl x n 4) (hn : n ≤ 10000) {z : Str} (hz : z = "words" ∨ z = "page" ∨ z = "name") :
    ∃ κ w6', evalSs (Fi f) (gOf T) Cn b__law_records_fit_1 [w0, w1, w2, some (.d x), some (.d .none), some (.d x), w6, w7, some (.d (.str z)), w9, some (.d (fldAt .g r vs)), some (.d (fldAt .n r vs)), w12] S = .ok (.nx [w0, w1, w2, some (.d x), some (.d .none), some (.d x), w6', w7, some (.d (.str z)), w9, some (.d (fldAt .g r vs)), some (.d (fldAt .n r vs)), w12]) (S ++ κ) := by
  obtain ⟨hr, rfl⟩ := look_mem hk
  obtain ⟨q1, q2, q3⟩ := wI_ok hr hlp
  have hW := words_wI hlp
  have hvs : ∃ m, m ≤ n ∧ Pls vs m 3 := by
    subst hx
    cases hp with
    | tup h =>
      cases h with
      | cons h1 h2 => exact ⟨_, by omega, h2⟩
  obtain ⟨m, hm1, hm2⟩ := hvs
  rcases hz with rfl | rfl | rfl
  · -- words
    have e1 : ∀ μ, Fi f 32 [.d x] μ = .ok (.h μ.length) (μ ++ [.lst (wordsOf r vs)]) := fun μ => by
      subst hx
      exact law_words_eq (f + 18) hk hlp μ
    have e2 : ∀ a μ, Fi f 37 [.d (.str "words"), .d x, .d a] μ = .ok (.t (.str "told") μ.length) (μ ++ [.lst (wordsOf r vs)]) := fun a μ => asked_words_ok (f + 13) hx hf hk hlp μ
    refine ⟨[.fz (.list (wordsOf r vs)), .lst (wordsOf r vs)], some (.d (.list [.str "told", .list (wordsOf r vs)])), ?_⟩
    obtain ⟨J, hJ⟩ : ∃ J, J = S ++ [MO.fz (.list (wordsOf r vs))] := ⟨_, rfl⟩
    have hJ2 : S ++ [MO.fz (.list (wordsOf r vs)), .lst (wordsOf r vs)] = J ++ [.lst (wordsOf r vs)] := by rw [hJ]; simp
    have ef : ∀ ρ : Ip.Env, ρ[3]? = some (some (.d x)) → evalE (Fi f) (gOf T) (.fz (.call 32 (.cons (.var 3) .nil))) ρ S = .ok (.d (.list (wordsOf r vs))) J := fun ρ hρ => by
      rw [re_fz_h (n := S.length) (xs := wordsOf r vs) (μ1 := S ++ [.lst (wordsOf r vs)]) (by simp [hρ, e1]) get_last, set_last, hJ]
    refine (ss_nx (s_set (w := .d (.list [.str "told", .list (wordsOf r vs)])) (μ' := J) (by simp [isNon, ef, l2]))).trans ?_
    refine (ss_nx (s_if_no (μ' := J ++ [.lst (wordsOf r vs)]) (or_ff (not_t (bc_same (f + 19) (ws := [.t (.str "told") J.length, .d (.list [.str "told", .list (wordsOf r vs)])]) (μ1 := J ++ [.lst (wordsOf r vs)]) (x := .list [.str "told", .list (wordsOf r vs)]) (by simp [e2]) (lends2 (lend_t get_last) rfl) (pl_told (.lst (by rw [hW]; exact pls_ints (d := 0) _))) (by omega))) (not_t (bc_same (f + 19) (ws := [.d x, .d x]) (μ1 := J ++ [.lst (wordsOf r vs)]) (by simp) rfl hp (by omega)))))).trans ?_
    rw [css_nil, rss_nil, hJ2]
    rfl
  · -- page
    have e2 : ∀ a, Fi f 37 [.d (.str "page"), .d x, .d a] S = .ok (.d (.list [.str "told", fldAt .g r vs])) S := fun a => asked_page_ok (f + 13) hx hf hk hlen S
    obtain ⟨m', hm3, hm4⟩ := fld_pl (f := .g) (r := r) hm2
    refine ⟨[], some (.d (.list [.str "told", fldAt .g r vs])), ?_⟩
    rw [List.append_nil]
    refine (ss_nx (s_set (w := .d (.list [.str "told", fldAt .g r vs])) (μ' := S) (by simp [isNon, l2, sp_w]))).trans ?_
    refine (ss_nx (s_if_no (μ' := S) (or_ff (not_t (bc_same (f + 19) (ws := [.d (.list [.str "told", fldAt .g r vs]), .d (.list [.str "told", fldAt .g r vs])]) (μ1 := S) (by simp [e2]) rfl (pl_told hm4) (by omega))) (not_t (bc_same (f + 19) (ws := [.d x, .d x]) (μ1 := S) (by simp) rfl hp (by omega)))))).trans ?_
    rw [css_nil, rss_nil]
    rfl
  · -- name
    have e2 : ∀ a, Fi f 37 [.d (.str "name"), .d x, .d a] S = .ok (.d (.list [.str "told", fldAt .n r vs])) S := fun a => asked_name_ok (f + 13) hx hf hk hlen S
    obtain ⟨m', hm3, hm4⟩ := fld_pl (f := .n) (r := r) hm2
    refine ⟨[], some (.d (.list [.str "told", fldAt .n r vs])), ?_⟩
    rw [List.append_nil]
    refine (ss_nx (s_set (w := .d (.list [.str "told", fldAt .n r vs])) (μ' := S) (by simp [isNon, l2, sn_w, sn_p]))).trans ?_
    refine (ss_nx (s_if_no (μ' := S) (or_ff (not_t (bc_same (f + 19) (ws := [.d (.list [.str "told", fldAt .n r vs]), .d (.list [.str "told", fldAt .n r vs])]) (μ1 := S) (by simp [e2]) rfl (pl_told hm4) (by omega))) (not_t (bc_same (f + 19) (ws := [.d x, .d x]) (μ1 := S) (by simp) rfl hp (by omega)))))).trans ?_
    rw [css_nil, rss_nil]
    rfl
end
end K11
set_option Elab.async false
set_option linter.all false
set_option maxRecDepth 100000
set_option maxHeartbeats 2000000
/-! K11: _law_records_fit holds. -/
namespace K11
open PySem Ip

section
variable {f : Nat} {w0 w1 w2 w4 w5 w6 w7 w8 w9 w10 w11 w12 : Option Val} {x : PyData} {S : Sto}
theorem words_src {ρ : Ip.Env} {μ : Sto} : evalR (Fi f) (gOf T) (.sq (.tup (cesOf [(.kst (.str "words")), (.kst (.str "page")), (.kst (.str "name"))]))) ρ μ = .ok [.str "words", .str "page", .str "name"] μ := by
  simp [l3]
theorem body_fit {n : Nat} (hp : Pl x n 4) (hn : n ≤ 10000) : ∃ κ w4' w5' w6' w7' w8' w9' w10' w11' w12', evalSs (Fi f) (gOf T) Cn b__law_records_fit_0 [w0, w1, w2, some (.d x), w4, w5, w6, w7, w8, w9, w10, w11, w12] S = .ok (.nx [w0, w1, w2, some (.d x), w4', w5', w6', w7', w8', w9', w10', w11', w12']) (S ++ κ) := by
  have e31 : Fi f 31 [.d x] S = .ok (.d (optN (fault x))) S := law_fault_eq (f + 17) x S
  have e25 : Fi f 25 [.d x] S = .ok (.d x) S := copy_eq (f + 15) S 4 x n hp (by omega)
  have e7 : Fi f 7 [.d x] S = .ok (.d (.bool (fault x).isNone)) S := is_record_eq (f + 15) x S
  suffices hq : ∃ κ w4' w5' w6' w7' w8' w9' w10' w11' w12', evalSs (Fi f) (gOf T) Cn (match b__law_records_fit_0 with | .cons _ (.cons _ (.cons _ b)) => b | b => b) [w0, w1, w2, some (.d x), some (.d (optN (fault x))), some (.d x), w6, w7, w8, w9, w10, w11, w12] S = .ok (.nx [w0, w1, w2, some (.d x), w4', w5', w6', w7', w8', w9', w10', w11', w12']) (S ++ κ) by
    obtain ⟨κ, w4', w5', w6', w7', w8', w9', w10', w11', w12', h⟩ := hq
    refine ⟨κ, w4', w5', w6', w7', w8', w9', w10', w11', w12', ?_⟩
    refine (ss_nx (s_set (w := .d (optN (fault x))) (μ' := S) (by simp [e31]))).trans ?_
    refine (ss_nx (s_set (w := .d x) (μ' := S) (by simp [e25]))).trans ?_
    refine (ss_nx (s_if_no (μ' := S) (not_t (bc_same (f + 19) (ws := [.d (.bool (fault x).isNone), .d (.bool (fault x).isNone)]) (μ1 := S) (by simp [e7, isn_opt]) rfl (.bool _ 0) (by decide))))).trans ?_
    exact h
  cases hf : fault x with
  | some i =>
    have e33 : Fi f 33 [.d (.int (i : Nat))] S = .ok (.d (no i)) S := law_no_eq (f + 19) i S
    have e37 : ∀ a, Fi f 37 [.d (.str "words"), .d x, .d a] S = .ok (.d (no i)) S := fun a => asked_words_no (f + 13) hf S
    refine ⟨[], some (.d (.int (i : Nat))), some (.d x), some (.d (no i)), some (.d (no i)), some (.d (.str "name")), w9, w10, w11, w12, ?_⟩
    rw [List.append_nil]
    refine (ss_nx (s_set (w := .d (no i)) (μ' := S) (by simp [optN, isNon, e33]))).trans ?_
    refine (ss_nx (s_set (w := .d (no i)) (μ' := S) (by simp [e37]))).trans ?_
    refine (ss_nx (s_if_no (μ' := S) (not_t (bc_same (f + 19) (ws := [.d (no i), .d (no i)]) (μ1 := S) (by simp) rfl (pl_no i) (by decide))))).trans ?_
    refine (ss_nx (s_if_no (μ' := S) (by simp [optN, isNon]))).trans ?_
    refine (ss_nx ((s_for words_src).trans ?_)).trans (by rw [css_nil, rss_nil])
    refine (forL_nx rfl (turn_no (f := f) (z := "words") hf hp hn (.inl rfl))).trans ?_
    refine (forL_nx rfl (turn_no (f := f) (z := "page") hf hp hn (.inr (.inl rfl)))).trans ?_
    refine (forL_nx rfl (turn_no (f := f) (z := "name") hf hp hn (.inr (.inr rfl)))).trans ?_
    exact forL_nil
  | none =>
    obtain ⟨s, vs, r, hx, hk, hlp, hlen⟩ := fault_tup hf
    obtain ⟨hr, rfl⟩ := look_mem hk
    obtain ⟨q1, q2, q3⟩ := wI_ok hr hlp
    have hW := words_wI hlp
    obtain ⟨J, hJ⟩ : ∃ J, J = S ++ [MO.fz (.list (wordsOf r vs))] := ⟨_, rfl⟩
    have e32 : ∀ μ, Fi f 32 [.d x] μ = .ok (.h μ.length) (μ ++ [.lst (wordsOf r vs)]) := fun μ => by
      subst hx
      exact law_words_eq (f + 18) hk hlp μ
    have e37 : ∀ a μ, Fi f 37 [.d (.str "words"), .d x, .d a] μ = .ok (.t (.str "told") μ.length) (μ ++ [.lst (wordsOf r vs)]) := fun a μ => asked_words_ok (f + 13) hx hf hk hlp μ
    have ef : ∀ ρ : Ip.Env, ρ[3]? = some (some (.d x)) → evalE (Fi f) (gOf T) (.fz (.call 32 (.cons (.var 3) .nil))) ρ S = .ok (.d (.list (wordsOf r vs))) J := fun ρ hρ => by
      rw [re_fz_h (n := S.length) (xs := wordsOf r vs) (μ1 := S ++ [.lst (wordsOf r vs)]) (by simp [hρ, e32]) get_last, set_last, hJ]
    obtain ⟨L, hL⟩ : ∃ L, L = J ++ [MO.lst (wordsOf r vs ++ [.int 0])] := ⟨_, rfl⟩
    have e26 : Fi f 26 [] L = .ok (.d (.list (rowsL.map rowD))) L := table_eq (f + 19) L
    obtain ⟨κ1, v1, t1⟩ := turn_rec (f := f) (w0 := w0) (w1 := w1) (w2 := w2) (w6 := some (.d (.list [.str "told", .list (wordsOf r vs)]))) (w7 := some (.t (.str "told") J.length)) (w9 := some (.d (.str (chS r.2.2)))) (w12 := w12) (S := L) hx hf hk hlp hlen hp hn (z := "words") (.inl rfl)
    obtain ⟨κ2, v2, t2⟩ := turn_rec (f := f) (w0 := w0) (w1 := w1) (w2 := w2) (w6 := v1) (w7 := some (.t (.str "told") J.length)) (w9 := some (.d (.str (chS r.2.2)))) (w12 := w12) (S := L ++ κ1) hx hf hk hlp hlen hp hn (z := "page") (.inr (.inl rfl))
    obtain ⟨κ3, v3, t3⟩ := turn_rec (f := f) (w0 := w0) (w1 := w1) (w2 := w2) (w6 := v2) (w7 := some (.t (.str "told") J.length)) (w9 := some (.d (.str (chS r.2.2)))) (w12 := w12) (S := L ++ κ1 ++ κ2) hx hf hk hlp hlen hp hn (z := "name") (.inr (.inr rfl))
    refine ⟨[MO.fz (.list (wordsOf r vs))] ++ [MO.lst (wordsOf r vs ++ [.int 0])] ++ κ1 ++ κ2 ++ κ3, some (.d .none), some (.d x), v3, some (.t (.str "told") J.length), some (.d (.str "name")), some (.d (.str (chS r.2.2))), some (.d (fldAt .g r vs)), some (.d (fldAt .n r vs)), w12, ?_⟩
    have hS : S ++ ([MO.fz (.list (wordsOf r vs))] ++ [MO.lst (wordsOf r vs ++ [.int 0])] ++ κ1 ++ κ2 ++ κ3) = L ++ κ1 ++ κ2 ++ κ3 := by rw [hL, hJ]; simp
    rw [hS]
    refine (ss_nx (s_set (w := .d (.list [.str "told", .list (wordsOf r vs)])) (μ' := J) (by simp [optN, isNon, ef, l2]))).trans ?_
    refine (ss_nx (s_set (w := .t (.str "told") J.length) (μ' := J ++ [.lst (wordsOf r vs)]) (by simp [e37]))).trans ?_
    refine (ss_nx (s_if_no (μ' := J ++ [.lst (wordsOf r vs)]) (not_t (bc_same (f + 19) (ws := [.t (.str "told") J.length, .d (.list [.str "told", .list (wordsOf r vs)])]) (μ1 := J ++ [.lst (wordsOf r vs)]) (x := .list [.str "told", .list (wordsOf r vs)]) (by simp) (lends2 (lend_t get_last) rfl) (pl_told (.lst (by rw [hW]; exact pls_ints (d := 0) _))) (by omega))))).trans ?_
    refine (ss_nx (ρ' := [w0, w1, w2, some (.d x), some (.d .none), some (.d x), some (.d (.list [.str "told", .list (wordsOf r vs)])), some (.t (.str "told") J.length), w8, some (.d (.str (chS r.2.2))), some (.d (fldAt .g r vs)), some (.d (fldAt .n r vs)), w12]) (μ' := L) ((s_if_t (μ' := J ++ [.lst (wordsOf r vs)]) (by simp [optN, isNon])).trans ?_)).trans ?_
    · refine (ss_nx (s_ex (w := .d .none) (μ' := L) ?_)).trans ?_
      · refine (re_mmx (n := J.length) (xs0 := wordsOf r vs) (xs := wordsOf r vs) (ys := [PyData.int 0]) (ws := [.d (.int 0)]) (μ1 := J ++ [.lst (wordsOf r vs)]) (μ' := J ++ [.lst (wordsOf r vs)]) (r := (wordsOf r vs ++ [PyData.int 0], PyData.none)) (by simp) get_last (by simp) rfl get_last (app_1 (by rw [hW]; simp; unfold lim; omega))).trans ?_
        rw [set_last, hL]
      · refine (ss_nx (s_set (w := .d (.str (chS r.2.2))) (μ' := L) ?_)).trans ?_
        · have e9 := rows_of2 (Φ := Fi f) (ρ := [w0, w1, w2, some (.d x), some (.d .none), some (.d x), some (.d (.list [.str "told", .list (wordsOf r vs)])), some (.t (.str "told") J.length), w8, w9, w10, w11, w12]) (s := r.1) (vs := vs) hk e26 (by rw [hx]; rfl) (by simp)
          rw [re_idx]
          refine (congrArg (fun q : Res Val => q.bind _) e9).trans ?_
          simp [il0]
        · refine (ss_nx (s_set (w := .d (fldAt .g r vs)) (μ' := L) (page_e hr hlen (by rw [hx]; rfl) rfl))).trans ?_
          refine (ss_nx (s_set (w := .d (fldAt .n r vs)) (μ' := L) (name_e hr hlen (by rw [hx]; rfl) rfl))).trans ?_
          rw [css_nil, rss_nil]
          rfl
    · refine (ss_nx ((s_for words_src).trans ?_)).trans (by rw [css_nil, rss_nil])
      refine (forL_nx rfl t1).trans ?_
      refine (forL_nx rfl t2).trans ?_
      refine (forL_nx rfl t3).trans ?_
      exact forL_nil
end
theorem loop_fit {f : Nat} {w0 w1 w2 : Option Val} : ∀ (xs : List PyData), (∀ x ∈ xs, ∃ n, n ≤ 10000 ∧ Pl x n 4) → ∀ (S : Sto) w3 w4 w5 w6 w7 w8 w9 w10 w11 w12, ∃ κ ρ', forL (.nm 3) (evalSs (Fi f) (gOf T) Cn b__law_records_fit_0) xs [w0, w1, w2, w3, w4, w5, w6, w7, w8, w9, w10, w11, w12] S = .ok (.nx ρ') (S ++ κ)
  | [], _, S, w3, w4, w5, w6, w7, w8, w9, w10, w11, w12 => ⟨[], _, by rw [List.append_nil]; exact forL_nil⟩
  | x :: xs, h, S, w3, w4, w5, w6, w7, w8, w9, w10, w11, w12 => by
    obtain ⟨n, h1, h2⟩ := h x List.mem_cons_self
    obtain ⟨κ, w4', w5', w6', w7', w8', w9', w10', w11', w12', e⟩ := body_fit (f := f) (w0 := w0) (w1 := w1) (w2 := w2) (w4 := w4) (w5 := w5) (w6 := w6) (w7 := w7) (w8 := w8) (w9 := w9) (w10 := w10) (w11 := w11) (w12 := w12) (S := S) h2 h1
    obtain ⟨κ', ρ', ih⟩ := loop_fit (f := f) (w0 := w0) (w1 := w1) (w2 := w2) xs (fun y hy => h y (List.mem_cons_of_mem _ hy)) (S ++ κ) (some (.d x)) w4' w5' w6' w7' w8' w9' w10' w11' w12'
    exact ⟨κ ++ κ', ρ', (forL_nx rfl e).trans (by rw [← List.append_assoc]; exact ih)⟩
theorem pl_int1 {v : PyData} {lo hi : Int} (h : isI v lo hi = true) : Pl v 1 0 := by
  obtain ⟨i, rfl, _⟩ := int_of h
  exact .int _ _
theorem good_pl {f : Fm} {v : PyData} (h : good f v = true) : ∃ m, m ≤ 30 ∧ Pl v m 1 := by
  cases f with
  | n =>
    simp only [good, nameB] at h
    split at h
    · simp only [Bool.and_eq_true] at h
      exact ⟨3, by decide, .tup (n := 2) (.cons (a := 1) (pl_int1 h.1) (.cons (a := 1) (pl_int1 h.2) (.nil _)))⟩
    · cases h
  | w =>
    simp only [good] at h
    split at h
    · rename_i xs
      simp only [Bool.and_eq_true, decide_eq_true_eq] at h
      have := pls_ints (d := 0) (xs.map toI)
      rw [← allI_map (allI_of_all h.2), List.length_map] at this
      exact ⟨xs.length + 1, by omega, .tup this⟩
    · cases h
  | m =>
    cases hv : isNon v with
    | true =>
      have hv' : v = .none := by
        cases v <;> first | rfl | (cases hv)
      subst hv'
      exact ⟨1, by decide, .none _⟩
    | false =>
      simp only [good, hv, Bool.false_or] at h
      exact ⟨1, by decide, pl_le (pl_int1 h) (by omega)⟩
  | t => exact ⟨1, by decide, pl_le (pl_int1 h) (by omega)⟩
  | g => exact ⟨1, by decide, pl_le (pl_int1 h) (by omega)⟩
  | k => exact ⟨1, by decide, pl_le (pl_int1 h) (by omega)⟩
  | z => exact ⟨1, by decide, pl_le (pl_int1 h) (by omega)⟩
  | o => exact ⟨1, by decide, pl_le (pl_int1 h) (by omega)⟩
theorem loop_pl : ∀ (fs : List Fm) (at_ : Nat) (vs : List PyData), loopF fs at_ vs = none → vs.length = fs.length → ∃ m, m ≤ 30 * fs.length ∧ Pls vs m 1
  | [], _, [], _, _ => ⟨0, by simp, .nil _⟩
  | [], _, _ :: _, _, h => by simp at h
  | _ :: _, _, [], h, _ => by simp [loopF] at h
  | f :: fs, at_, v :: vs, h, hl => by
    obtain ⟨h1, h2⟩ := good_head h
    obtain ⟨m1, a1, a2⟩ := good_pl h1
    obtain ⟨m2, b1, b2⟩ := loop_pl fs _ vs h2 (by simpa using hl)
    exact ⟨m1 + m2, by simp only [List.length_cons]; omega, .cons a2 b2⟩
theorem rec_pl {x : PyData} (h : fault x = none) : ∃ n, n ≤ 300 ∧ Pl x n 4 := by
  obtain ⟨s, vs, r, rfl, hk, hlp, hlen⟩ := fault_tup h
  obtain ⟨hr, rfl⟩ := look_mem hk
  obtain ⟨q1, q2, q3, q4, q5, q6, q7⟩ := row_all r hr
  obtain ⟨m, h1, h2⟩ := loop_pl _ _ _ hlp hlen
  exact ⟨1 + m + 1, by omega, .tup (.cons (a := 1) (.str _ _) (pls_le h2 (by omega)))⟩
theorem fin_pre {n : Nat} {x : PyData} {μ κ : Sto} (h : n = μ.length) : finV n (.ok (.ret (.d x)) (μ ++ κ)) = .ok (.d x) μ := by
  subst h
  rw [fin_d, List.take_left]
def RF9 (Φ : Nat → List Val → Sto → Res Val) : Prop := ∀ {B : Nat} {s : MO} (rest : Sto), Sm B s → B ≤ 980000 → ∀ {x : PyData}, fault x = none → ∃ s', Φ 39 [.h 0, .d x] (s :: rest) = .ok (.d (.bool true)) (s' :: rest) ∧ Sm (B + 2000) s'
theorem rf_of (f : Nat) : RF9 (callF Pt (gOf T) Cn (f + 21)) := fun {B s} rest h hB x hx => by
  rw [call_eq c__law_records_fit rfl rfl, show startE c__law_records_fit [.h 0, .d x] = [some (.h 0), some (.d x), none, none, none, none, none, none, none, none, none, none, none] from rfl]
  obtain ⟨n, hn, hp⟩ := rec_pl hx
  obtain ⟨y1, s1, e1, ⟨m1, a1, b1⟩, k1⟩ := bt_of (f + 17) rest h (by omega) hp (by omega)
  obtain ⟨y2, s2, e2, ⟨m2, a2, b2⟩, k2⟩ := bt_of (f + 17) rest k1 (by omega) hp (by omega)
  obtain ⟨y3, s3, e3, ⟨m3, a3, b3⟩, k3⟩ := bt_of (f + 17) rest k2 (by omega) b2 (by omega)
  obtain ⟨y4, s4, e4, hf4, k4⟩ := dr_of (f + 15) rest k3 (by omega)
  obtain ⟨n4, hn4, hp4⟩ := rec_pl hf4
  obtain ⟨y5, s5, e5, ⟨m5, a5, b5⟩, k5⟩ := bt_of (f + 17) rest k4 (by omega) hp4 (by omega)
  refine ⟨s5, ?_, sm_le k5 (by omega)⟩
  obtain ⟨κ, ρ', el⟩ := loop_fit (f := f) (w0 := some (.h 0)) (w1 := some (.d x)) (w2 := some (.d (.list [x, y1, y3, y5]))) [x, y1, y3, y5] (by
    intro y hy
    simp only [List.mem_cons, List.not_mem_nil, or_false] at hy
    rcases hy with rfl | rfl | rfl | rfl
    · exact ⟨n, by omega, hp⟩
    · exact ⟨m1, by omega, b1⟩
    · exact ⟨m3, by omega, b3⟩
    · exact ⟨m5, by omega, b5⟩) (s5 :: rest) none none none none none none none none none none
  refine (congrArg _ (ss_nx (s_set (w := .d (.list [x, y1, y3, y5])) (μ' := s5 :: rest) (by simp [e1, e2, e3, e4, e5, l4])))).trans ?_
  refine (congrArg _ (ss_nx ((s_for (xs := [x, y1, y3, y5]) (μ' := s5 :: rest) (by simp)).trans el))).trans ?_
  refine (congrArg _ (ss_rt (s_ret (w := .d (.bool true)) (μ' := s5 :: rest ++ κ) (by simp)))).trans ?_
  exact fin_pre rfl
end K11
set_option Elab.async false
set_option linter.all false
set_option maxRecDepth 100000
set_option maxHeartbeats 2000000
/-! K11: rows of words are read as due; wrong lists and places are refused. -/
namespace K11
open PySem Ip

theorem rdF_pl {ns : List Int} {f : Fm} {flag : Int} {p q : Nat} {v : PyData} (h : rdF ns f flag p = .got v q) : ∃ m, m ≤ 30 ∧ Pl v m 1 := by
  have htwo : ∀ {c1 : Int → Bool} {c2 : Int → Int → Bool} {val : Int → Int → PyData}, (∀ a b, ∃ m, m ≤ 30 ∧ Pl (val a b) m 1) → two ns p c1 c2 val = .got v q → ∃ m, m ≤ 30 ∧ Pl v m 1 := by
    intro c1 c2 val hv h
    unfold two at h
    split at h
    · cases h
    · split at h
      · cases h
      · split at h
        · cases h
        · split at h
          · cases h
          · cases h
            exact hv _ _
  have hone : ∀ {c : Int → Bool} {val : Int → PyData}, (∀ a, ∃ m, m ≤ 30 ∧ Pl (val a) m 1) → one ns p c val = .got v q → ∃ m, m ≤ 30 ∧ Pl v m 1 := by
    intro c val hv h
    unfold one at h
    split at h
    · cases h
    · split at h
      · cases h
      · cases h
        exact hv _
  cases f <;> simp only [rdF] at h
  · exact htwo (fun a b => ⟨3, by decide, .tup (n := 2) (.cons (a := 1) (.int _ _) (.cons (a := 1) (.int _ _) (.nil _)))⟩) h
  · cases h
    exact ⟨1, by decide, .int _ _⟩
  · exact hone (fun a => ⟨1, by decide, .int _ _⟩) h
  · exact hone (fun a => ⟨1, by decide, .int _ _⟩) h
  · exact hone (fun a => by split; exact ⟨1, by decide, .none _⟩; exact ⟨1, by decide, .int _ _⟩) h
  · exact htwo (fun a b => ⟨1, by decide, .int _ _⟩) h
  · exact htwo (fun a b => ⟨1, by decide, .int _ _⟩) h
  · split at h
    · cases h
    · rename_i a _
      split at h
      · cases h
      · split at h
        · cases h
          refine ⟨_, ?_, .tup (pls_ints (d := 0) _)⟩
          rw [List.length_take]
          omega
        · cases h
theorem rdFs_pl {ns : List Int} : ∀ (fs : List Fm) (fl : Int) (p q : Nat) (vs : List PyData), rdFs ns fs fl p = .got vs q → ∃ m, m ≤ 30 * fs.length ∧ Pls vs m 1
  | [], fl, p, q, vs, h => by
    simp only [rdFs] at h
    cases h
    exact ⟨0, by simp, .nil _⟩
  | f :: fs, fl, p, q, vs, h => by
    simp only [rdFs] at h
    split at h
    · cases h
    · cases h
    · rename_i v q1 hv
      split at h
      · cases h
      · cases h
      · rename_i vs' q' hvs
        cases h
        obtain ⟨m1, a1, b1⟩ := rdF_pl hv
        obtain ⟨m2, a2, b2⟩ := rdFs_pl fs _ _ _ _ hvs
        exact ⟨m1 + m2, by simp only [List.length_cons]; omega, .cons b1 b2⟩
theorem dueD_pl (ns : List Int) (p : Nat) : ∃ m, m ≤ 300 ∧ Pl (dueD (due ns p)) m 4 := by
  cases hd : due ns p with
  | cut => exact ⟨3, by decide, pl_le (pl_told (.none 0)) (by decide)⟩
  | bad i => exact ⟨5, by decide, pl_le (pl_no i) (by decide)⟩
  | got vs q =>
    unfold due at hd
    split at hd
    · cases hd
    · split at hd
      · cases hd
      · rename_i r hr
        obtain ⟨hr1, _⟩ := lookC_mem hr
        obtain ⟨q1, q2, q3, q4, q5, q6, q7⟩ := row_all r hr1
        split at hd
        · cases hd
        · split at hd
          · cases hd
          · cases hd
          · rename_i vs' q' hvs
            cases hd
            obtain ⟨m, a1, b1⟩ := rdFs_pl _ _ _ _ _ hvs
            refine ⟨((1 + m + 1) + (1 + 0) + 1) + 2, by omega, pl_told (.tup (.cons (.tup (.cons (a := 1) (.str _ _) b1)) (.cons (a := 1) (.int _ _) (.nil _))))⟩
theorem wl_pl (ns : List Int) : Pl (wL ns) (ns.length + 1) 1 := .lst (pls_ints ns)
def pL (ps : List Nat) : PyData := .list (ps.map fun p => .int ((p : Nat) : Int))
theorem body_rows (f : Nat) {ns : List Int} (hw : Wd ns) (hl : ns.length ≤ 900000) {p : Nat} (hp : p ≤ ns.length) {w0 w2 w4 : Option Val} (S : Sto) : evalSs (Fi f) (gOf T) Cn b__law_rows_fit_0 [w0, some (.d (wL ns)), w2, some (.d (.int (p : Nat))), w4] S = .ok (.nx [w0, some (.d (wL ns)), w2, some (.d (.int (p : Nat))), some (.d (wL ns))]) S := by
  have e37 : Fi f 37 [.d (.str "at"), .d (wL ns), .d (.int (p : Nat))] S = .ok (.d (dueD (due ns p))) S := asked_at (f + 15) hw hp S
  have e36 : Fi f 36 [.d (wL ns), .d (.int (p : Nat))] S = .ok (.d (dueD (due ns p))) S := law_due_eq (f + 17) hw hp S
  obtain ⟨m, hm1, hm2⟩ := dueD_pl ns p
  refine (ss_nx (s_set (w := .d (wL ns)) (μ' := S) (by rw [re_lis_d (x := wL ns) (μ' := S) (by simp)]; simp))).trans ?_
  refine (ss_nx (s_if_no (μ' := S) (or_ff (not_t (bc_same (f + 19) (ws := [.d (dueD (due ns p)), .d (dueD (due ns p))]) (μ1 := S) (by simp [e37, e36]) rfl hm2 (by omega))) (not_t (bc_same (f + 19) (ws := [.d (wL ns), .d (wL ns)]) (μ1 := S) (by simp) rfl (wl_pl ns) (by omega)))))).trans ?_
  rw [css_nil, rss_nil]
  rfl
theorem loop_rows (f : Nat) {ns : List Int} (hw : Wd ns) (hl : ns.length ≤ 900000) {w0 w2 : Option Val} (S : Sto) : ∀ (ps : List Nat), (∀ p ∈ ps, p ≤ ns.length) → ∀ w3 w4, ∃ ρ', forL (.nm 3) (evalSs (Fi f) (gOf T) Cn b__law_rows_fit_0) (ps.map fun p => .int ((p : Nat) : Int)) [w0, some (.d (wL ns)), w2, w3, w4] S = .ok (.nx ρ') S
  | [], _, w3, w4 => ⟨_, forL_nil⟩
  | p :: ps, h, w3, w4 => by
    obtain ⟨ρ', ih⟩ := loop_rows f hw hl (w0 := w0) (w2 := w2) S ps (fun q hq => h q (List.mem_cons_of_mem _ hq)) (some (.d (.int ((p : Nat) : Int)))) (some (.d (wL ns)))
    exact ⟨ρ', (forL_nx rfl (body_rows f hw hl (h p List.mem_cons_self) S)).trans ih⟩
theorem rows_fit_eq (f : Nat) {ns : List Int} (hw : Wd ns) (hl : ns.length ≤ 900000) {ps : List Nat} (hps : ∀ p ∈ ps, p ≤ ns.length) (a : Val) (S : Sto) : callF Pt (gOf T) Cn (f + 21) 40 [a, .d (wL ns), .d (pL ps)] S = .ok (.d (.bool true)) S := by
  rw [call_eq c__law_rows_fit rfl rfl, show startE c__law_rows_fit [a, .d (wL ns), .d (pL ps)] = [some a, some (.d (wL ns)), some (.d (pL ps)), none, none] from rfl]
  obtain ⟨ρ', el⟩ := loop_rows f hw hl (w0 := some a) (w2 := some (.d (pL ps))) S ps hps none none
  refine (congrArg _ (ss_nx ((s_for (xs := ps.map fun p => .int ((p : Nat) : Int)) (μ' := S) (by simp [pL])).trans el))).trans ?_
  refine (congrArg _ (ss_rt (s_ret (w := .d (.bool true)) (μ' := S) (by simp)))).trans (fin_dl rfl)
def badL (z : Int) : List PyData := [.int z, .int (-1), .bool true, .none, .str "1", .int 65536]
theorem badL_no {z : Int} (hz : 65536 ≤ z) : ∀ x ∈ badL z, isI x 0 65535 = false := by
  unfold badL
  simp only [List.forall_mem_cons]
  refine ⟨?_, by decide, by decide, by decide, by decide, by decide, fun x hx => by simp at hx⟩
  simp [isI]
  omega
theorem body_ref0 (f : Nat) {B : Nat} {s : MO} {rest : Sto} (h : Sm B s) (hB : B ≤ 990000) {x : PyData} (hx : ∀ xs, x = .list xs → xs.length ≤ lim ∧ (xs.all fun x => isI x 0 65535) = false) {w1 w2 w3 w4 w6 : Option Val} :
    ∃ s', evalSs (Fi f) (gOf T) Cn b__law_refusals_fit_0 [some (.h 0), w1, w2, w3, w4, some (.d x), w6] (s :: rest) = .ok (.nx [some (.h 0), w1, w2, w3, w4, some (.d x), w6]) (s' :: rest) ∧ Sm (B + 1) s' := by
  obtain ⟨y, s', e, _, hm⟩ := pk_of (f + 18) rest h (by omega) (v := .tuple [.int 0, .int (-1), .none]) (.inl rfl) (by simp) (by simp)
  have e37 : Fi f 37 [.d (.str "at"), .d x, .d y] (s' :: rest) = .ok (.d (badV "words")) (s' :: rest) := asked_at_words (f + 15) (s' :: rest) hx
  refine ⟨s', ?_, hm⟩
  refine (ss_nx (s_if_no (μ' := s' :: rest) (not_t (bc_same (f + 19) (ws := [.d (badV "words"), .d (badV "words")]) (μ1 := s' :: rest) (by simp [e, e37, l3, l1, badV]) rfl (pl_badV _) (by decide))))).trans ?_
  rw [css_nil, rss_nil]
theorem loop_ref0 (f : Nat) {rest : Sto} {w1 w2 w3 w4 w6 : Option Val} : ∀ (xs : List PyData), (∀ x ∈ xs, ∀ ys, x = .list ys → ys.length ≤ lim ∧ (ys.all fun x => isI x 0 65535) = false) → ∀ (B : Nat) (s : MO) w5, Sm B s → B + xs.length ≤ 990000 → ∃ s' w5', forL (.nm 5) (evalSs (Fi f) (gOf T) Cn b__law_refusals_fit_0) xs [some (.h 0), w1, w2, w3, w4, w5, w6] (s :: rest) = .ok (.nx [some (.h 0), w1, w2, w3, w4, w5', w6]) (s' :: rest) ∧ Sm (B + xs.length) s'
  | [], _, B, s, w5, h, _ => ⟨s, w5, forL_nil, h⟩
  | x :: xs, hx, B, s, w5, h, hB => by
    simp only [List.length_cons] at hB
    obtain ⟨s1, e1, h1⟩ := body_ref0 f (rest := rest) (w1 := w1) (w2 := w2) (w3 := w3) (w4 := w4) (w6 := w6) h (by omega) (hx x List.mem_cons_self)
    obtain ⟨s2, w5', e2, h2⟩ := loop_ref0 f (rest := rest) (w1 := w1) (w2 := w2) (w3 := w3) (w4 := w4) (w6 := w6) xs (fun y hy => hx y (List.mem_cons_of_mem _ hy)) (B + 1) s1 (some (.d x)) h1 (by omega)
    exact ⟨s2, w5', (forL_nx rfl e1).trans e2, sm_le h2 (by simp only [List.length_cons]; omega)⟩
theorem body_ref1 (f : Nat) {ns : List Int} (hw : Wd ns) {v : PyData} (hv : isI v 0 (ns.length : Nat) = false) {S : Sto} {w0 w2 w3 w4 w5 : Option Val} :
    evalSs (Fi f) (gOf T) Cn b__law_refusals_fit_1 [w0, some (.d (wL ns)), w2, w3, w4, w5, some (.d v)] S = .ok (.nx [w0, some (.d (wL ns)), w2, w3, w4, w5, some (.d v)]) S := by
  have e37 : Fi f 37 [.d (.str "at"), .d (wL ns), .d v] S = .ok (.d (badV "at")) S := asked_at_at (f + 15) hw hv S
  refine (ss_nx (s_if_no (μ' := S) (not_t (bc_same (f + 19) (ws := [.d (badV "at"), .d (badV "at")]) (μ1 := S) (by simp [e37, l3, l1, badV]) rfl (pl_badV _) (by decide))))).trans ?_
  rw [css_nil, rss_nil]
theorem loop_ref1 (f : Nat) {ns : List Int} (hw : Wd ns) {S : Sto} {w0 w2 w3 w4 w5 : Option Val} : ∀ (xs : List PyData), (∀ x ∈ xs, isI x 0 (ns.length : Nat) = false) → ∀ w6, ∃ ρ', forL (.nm 6) (evalSs (Fi f) (gOf T) Cn b__law_refusals_fit_1) xs [w0, some (.d (wL ns)), w2, w3, w4, w5, w6] S = .ok (.nx ρ') S
  | [], _, w6 => ⟨_, forL_nil⟩
  | x :: xs, hx, w6 => by
    obtain ⟨ρ', ih⟩ := loop_ref1 f hw (S := S) (w0 := w0) (w2 := w2) (w3 := w3) (w4 := w4) (w5 := w5) xs (fun y hy => hx y (List.mem_cons_of_mem _ hy)) (some (.d x))
    exact ⟨ρ', (forL_nx rfl (body_ref1 f hw (hx x List.mem_cons_self))).trans ih⟩
/-- a list with one place exchanged -/
def put (ns : List PyData) (j : Nat) (x : PyData) : List PyData := ns.take j ++ [x] ++ ns.drop (j + 1)
theorem put_e {Φ : Nat → List Val → Sto → Res Val} {ρ : Ip.Env} {μ μ1 : Sto} {i k j : Nat} {xs : List PyData} {x : PyData} {e : CE} (hi : ρ[i]? = some (some (.d (.list xs)))) (hk : ρ[k]? = some (some (.d (.int (j : Nat))))) (hj : j < xs.length) (hl : xs.length ≤ 1000000) (he : evalE Φ (gOf T) e ρ μ = .ok (.d x) μ1) :
    evalE Φ (gOf T) (.bin .add (.bin .add (.slc (.var i) .no (.so (.var k))) (.lst false (.cons e .nil))) (.slc (.var i) (.so (.bin .add (.var k) (.kst (.int 1)))) .no)) ρ μ = .ok (.d (.list (put xs j x))) μ1 := by
  have h1 := sll_lo (xs := xs) (r := j) (by omega)
  have h2 : slcD (.list xs) (some ((j : Int) + 1)) none = some (.list (xs.drop (j + 1))) := by simpa using sll_hi (xs := xs) (r := j + 1) (by omega)
  have a1 : binD .add (.list (xs.take j)) (.list [x]) = some (.list (xs.take j ++ [x])) := add_l (small_lim (by simp; omega))
  have a2 : binD .add (.list (xs.take j ++ [x])) (.list (xs.drop (j + 1))) = some (.list (put xs j x)) := add_l (small_lim (by simp; omega))
  refine e_bin (wa := .d (.list (xs.take j ++ [x]))) (wb := .d (.list (xs.drop (j + 1)))) (μ1 := μ1) (e_bin (wa := .d (.list (xs.take j))) (wb := .d (.list [x])) (μ1 := μ) ?_ ?_ rfl rfl a1) ?_ rfl rfl a2
  · simp [hi, hk, h1]
  · simp [he, l1]
  · simp [hi, hk, add_ok, h2]
theorem put_all {xs : List PyData} {j : Nat} {x : PyData} (hx : isI x 0 65535 = false) : ((put xs j x).all fun x => isI x 0 65535) = false := by
  unfold put
  rw [List.all_append, List.all_append]
  simp [hx]
theorem put_len {xs : List PyData} {j : Nat} {x : PyData} (hj : j < xs.length) : (put xs j x).length = xs.length := by
  unfold put
  simp
  omega
def RU (Φ : Nat → List Val → Sto → Res Val) : Prop := ∀ {B : Nat} {s : MO} (rest : Sto), Sm B s → B ≤ 980000 → ∀ {ns : List Int}, Wd ns → 1 ≤ ns.length → ns.length ≤ 900000 → ∃ s', Φ 41 [.h 0, .d (wL ns)] (s :: rest) = .ok (.d (.bool true)) (s' :: rest) ∧ Sm (B + 10) s'
theorem ru_of (f : Nat) : RU (callF Pt (gOf T) Cn (f + 21)) := fun {B s} rest h hB {ns} hw hn1 hn2 => by
  rw [call_eq c__law_refusals_fit rfl rfl, show startE c__law_refusals_fit [.h 0, .d (wL ns)] = [some (.h 0), some (.d (wL ns)), none, none, none, none, none] from rfl]
  obtain ⟨c, s1, e1, a1, b1, m1⟩ := nx_of (f + 19) rest h (by omega) (m := (ns.length : Nat)) (by omega) (by omega)
  obtain ⟨j, rfl⟩ : ∃ j : Nat, c = (j : Int) := ⟨c.toNat, by omega⟩
  obtain ⟨z, s2, e2, a2, b2, m2⟩ := nx_of (f + 19) rest m1 (by omega) (m := 1000000) (by decide) (by decide)
  obtain ⟨y, s3, e3, hy, m3⟩ := pk_of (f + 18) rest m2 (by omega) (v := .tuple (badL (65536 + z))) (.inl rfl) (by simp [badL]) (by simp [badL])
  have hyb := badL_no (by omega) y hy
  have hj : j < (ns.map PyData.int).length := by simp; omega
  obtain ⟨s4, w5', e4, m4⟩ := loop_ref0 f (rest := rest) (w1 := some (.d (wL ns))) (w2 := some (.d (.int (j : Nat)))) (w3 := some (.d (.int (65536 + z)))) (w4 := some (.d (.list (put (ns.map .int) j y)))) (w6 := none) [.list (put (ns.map .int) j y), .tuple (ns.map .int), .none, .str "13"] (by
    intro x hx ys hxy
    simp only [List.mem_cons, List.not_mem_nil, or_false] at hx
    rcases hx with rfl | rfl | rfl | rfl
    · cases hxy
      exact ⟨by rw [put_len hj]; simp; exact small_lim (by omega), put_all hyb⟩
    · cases hxy
    · cases hxy
    · cases hxy) (B + 3) s3 none (sm_le m3 (by omega)) (by simp; omega)
  obtain ⟨ρ', e5⟩ := loop_ref1 f hw (S := s4 :: rest) (w0 := some (.h 0)) (w2 := some (.d (.int (j : Nat)))) (w3 := some (.d (.int (65536 + z)))) (w4 := some (.d (.list (put (ns.map .int) j y)))) (w5 := w5') [.int (-1), .int ((ns.length : Int) + 1), .int ((ns.length : Int) + (65536 + z)), .bool true, .none, .str "0", .tuple [.int 0]] (by
    simp only [List.forall_mem_cons]
    refine ⟨rfl, ?_, ?_, rfl, rfl, rfl, rfl, fun x hx => by simp at hx⟩
    · simp [isI]
      omega
    · simp [isI]
      omega) none
  refine ⟨s4, ?_, sm_le m4 (by simp)⟩
  have l7 : 7 ≤ lim := by decide
  refine (congrArg _ (ss_nx (s_set (w := .d (.int (j : Nat))) (μ' := s1 :: rest) (by simp [e1])))).trans ?_
  refine (congrArg _ (ss_nx (s_set (w := .d (.int (65536 + z))) (μ' := s2 :: rest) (by simp [p6, e2, add_ok])))).trans ?_
  refine (congrArg _ (ss_nx (s_set (w := .d (.list (put (ns.map .int) j y))) (μ' := s3 :: rest) (put_e rfl rfl hj (by simp; omega) (by unfold badL at e3; simp [l6, e3]))))).trans ?_
  refine (congrArg _ (ss_nx ((s_for (xs := [.list (put (ns.map .int) j y), .tuple (ns.map .int), .none, .str "13"]) (μ' := s3 :: rest) (by simp [biD, l4])).trans e4))).trans ?_
  refine (congrArg _ (ss_nx ((s_for (xs := [.int (-1), .int ((ns.length : Int) + 1), .int ((ns.length : Int) + (65536 + z)), .bool true, .none, .str "0", .tuple [.int 0]]) (μ' := s4 :: rest) (by simp [add_ok, l1, l7])).trans e5))).trans ?_
  refine (congrArg _ (ss_rt (s_ret (w := .d (.bool true)) (μ' := s4 :: rest) (by simp)))).trans (fin_dl rfl)
end K11
set_option Elab.async false
set_option linter.all false
set_option maxRecDepth 100000
set_option maxHeartbeats 2000000
/-! K11: the law holds. -/
namespace K11
open PySem Ip

theorem ix_m1 {xs : List PyData} {x : PyData} : idxD (.list (xs ++ [x])) (.int (-1)) = some x := by
  have e : ixP (xs ++ [x]).length (-1) = some xs.length := by
    unfold ixP L2.ixN
    simp
    omega
  simp only [idxD, e, Option.bind_some, List.getElem?_append_right (Nat.le_refl _), Nat.sub_self]
  rfl
theorem wd_app {a b : List Int} (ha : Wd a) (hb : ∀ x ∈ b, 0 ≤ x ∧ x ≤ 65535) (hl : a.length + b.length ≤ 1000000) : Wd (a ++ b) := by
  refine ⟨fun x hx => ?_, by rw [List.length_append]; exact hl⟩
  rcases List.mem_append.mp hx with h | h
  · exact ha.1 x h
  · exact hb x h
theorem stream_eq (k : Nat) (ns : List Int) : callF Pt (gOf T) Cn (k + 1) 18 [.s ns] [] = .ok (.h 0) [.lst [.list (ns.map .int), .int 0, .int 0]] := by
  rw [call_eq c__law_stream rfl rfl, show startE c__law_stream [.s ns] = [some (.s ns)] from rfl]
  refine (congrArg _ (ss_rt (s_ret (w := .h ([] : Sto).length) (μ' := ([] : Sto) ++ [.lst [.list (ns.map .int), .int 0, .int 0]]) ?_))).trans (fin_hn (μ := []))
  simp [re_lis_s (ns := ns) (μ' := []), l3]
section
variable {w0 w6 w7 w8 w9 w10 : Option Val} {rec_ : Option Val} {s : MO}
/-- one record more -/
theorem body_law0 {ns : List Int} {ps : List Nat} {κ : Sto} (hw : Wd ns) (hl : ns.length ≤ 3000) (hpl : ps.length ≤ 100) {x : PyData} (hx : fault x = none) : ∃ ns' κ', Wd ns' ∧ ns.length + 1 ≤ ns'.length ∧ ns'.length ≤ ns.length + 300 ∧
    evalSs (Fi 20) (gOf T) Cn b_law_0 [w0, some (.h 0), rec_, some (.d (wL ns)), some (.h 1), some (.d x), w6, w7, w8, w9, w10] (s :: .lst (ps.map fun p => .int ((p : Nat) : Int)) :: κ) =
    .ok (.nx [w0, some (.h 0), rec_, some (.d (wL ns')), some (.h 1), some (.d x), w6, w7, w8, w9, w10]) (s :: .lst ((ps ++ [ns.length]).map fun p => .int ((p : Nat) : Int)) :: κ') := by
  obtain ⟨z, vs, r, hxe, hk, hlp, hlen⟩ := fault_tup hx
  obtain ⟨hr, rfl⟩ := look_mem hk
  obtain ⟨q1, q2, q3⟩ := wI_ok hr hlp
  have hW := words_wI hlp
  have hw' : Wd (ns ++ wI r vs) := wd_app hw q1 (by omega)
  have hd := rt_due hr hlp hlen ns []
  rw [List.append_nil] at hd
  refine ⟨ns ++ wI r vs, κ ++ [.lst (wordsOf r vs)], hw', by rw [List.length_append]; omega, by rw [List.length_append]; omega, ?_⟩
  obtain ⟨M, hM⟩ : ∃ M : Sto, M = s :: .lst ((ps ++ [ns.length]).map fun p => .int ((p : Nat) : Int)) :: κ := ⟨_, rfl⟩
  have hM2 : (s :: .lst ((ps ++ [ns.length]).map fun p => .int ((p : Nat) : Int)) :: (κ ++ [.lst (wordsOf r vs)])) = M ++ [.lst (wordsOf r vs)] := by rw [hM]; rfl
  have hM1 : (M ++ [.lst (wordsOf r vs)])[1]? = some (.lst ((ps ++ [ns.length]).map fun p => .int ((p : Nat) : Int))) := by rw [← hM2]; rfl
  have e32 : Fi 20 32 [.d x] M = .ok (.h M.length) (M ++ [.lst (wordsOf r vs)]) := by
    subst hxe
    exact law_words_eq 38 hk hlp M
  have hadd : binD .add (wL ns) (.list (wordsOf r vs)) = some (wL (ns ++ wI r vs)) := by
    rw [hW]
    have := add_l (xs := ns.map PyData.int) (ys := (wI r vs).map .int) (small_lim (by simp; omega))
    rw [← List.map_append] at this
    exact this
  have e37 : Fi 20 37 [.d (.str "at"), .d (wL (ns ++ wI r vs)), .d (.int (ns.length : Nat))] (M ++ [.lst (wordsOf r vs)]) = .ok (.d (dueD (due (ns ++ wI r vs) ns.length))) (M ++ [.lst (wordsOf r vs)]) := asked_at 35 hw' (by rw [List.length_append]; omega) _
  rw [hd] at e37
  have hrd : rd (M ++ [.lst (wordsOf r vs)]) (.h 1) = some (.list ((ps ++ [ns.length]).map fun p => .int ((p : Nat) : Int))) := by
    unfold rd
    simp only [hM1]
  have hix : idxD (.list ((ps ++ [ns.length]).map fun p => PyData.int ((p : Nat) : Int))) (.int (-1)) = some (.int (ns.length : Nat)) := by
    rw [List.map_append]
    exact ix_m1
  have hrdw : rd (M ++ [.lst (wordsOf r vs)]) (.h M.length) = some (.list (wordsOf r vs)) := rd_last
  refine (ss_nx (s_ex (mm_app (n := 1) (xs := ps.map fun p => .int ((p : Nat) : Int)) (y := .int (ns.length : Nat)) rfl rfl (by simp) (by simp; unfold lim; omega)))).trans ?_
  rw [show (s :: .lst (ps.map fun p => PyData.int ((p : Nat) : Int)) :: κ).set 1 (.lst ((ps.map fun p => PyData.int ((p : Nat) : Int)) ++ [.int (ns.length : Nat)])) = M by rw [hM]; simp]
  refine (ss_nx (s_set (w := .d (wL (ns ++ wI r vs))) (μ' := M ++ [.lst (wordsOf r vs)]) (e_bin (wa := .d (wL ns)) (wb := .h M.length) (μ1 := M) (by simp) (by simp [e32]) rfl hrdw hadd))).trans ?_
  have hlis : ∀ (ρ : Ip.Env) (μ : Sto), ρ[3]? = some (some (.d (wL (ns ++ wI r vs)))) → evalE (Fi 20) (gOf T) (.lis false (.var 3)) ρ μ = .ok (.d (wL (ns ++ wI r vs))) μ := fun ρ μ hρ => by
    rw [re_lis_d (x := wL (ns ++ wI r vs)) (μ' := μ) (by simp [hρ])]
    rfl
  obtain ⟨n, hn, hp⟩ := rec_pl hx
  have hlen2 : biD .len [wL (ns ++ wI r vs)] = some (.int ((ns ++ wI r vs).length : Nat)) := wl_len
  obtain ⟨ws, hws⟩ : ∃ ws, ws = wL (ns ++ wI r vs) := ⟨_, rfl⟩
  have hdue : dueD (.got (.str r.1 :: vs) (ns.length + (wI r vs).length)) = .list [.str "told", .tuple [x, .int ((ns ++ wI r vs).length : Nat)]] := by
    rw [hxe, List.length_append]
    rfl
  rw [hdue] at e37
  rw [← hws] at e37 hlis hlen2 ⊢
  refine (ss_nx (s_if_no (μ' := M ++ [.lst (wordsOf r vs)]) (not_t (bc_same 39 (ws := [.d (.list [.str "told", .tuple [x, .int ((ns ++ wI r vs).length : Nat)]]), .d (.list [.str "told", .tuple [x, .int ((ns ++ wI r vs).length : Nat)]])]) (μ1 := M ++ [.lst (wordsOf r vs)]) ?_ rfl (pl_told (.tup (.cons hp (.cons (a := 1) (.int _ _) (.nil _))))) (by omega))))).trans ?_
  · simp [hlis, hrd, hix, e37, hlen2, l2, -List.map_append, -List.length_append]
  · rw [css_nil, rss_nil, hM2]
    rfl
theorem loop_law0 : ∀ (xs : List PyData), (∀ x ∈ xs, fault x = none) → ∀ (ns : List Int) (ps : List Nat) (κ : Sto) w5, Wd ns → ns.length + 300 * xs.length ≤ 3000 → ps.length + xs.length ≤ 100 → (∀ p ∈ ps, p ≤ ns.length) → ∃ (ns' : List Int) (ps' : List Nat) (κ' : Sto) (w5' : Option Val), Wd ns' ∧ ns.length + xs.length ≤ ns'.length ∧ ns'.length ≤ 3000 ∧ (∀ p ∈ ps', p ≤ ns'.length) ∧ ps'.length ≤ 100 ∧
    forL (.nm 5) (evalSs (Fi 20) (gOf T) Cn b_law_0) xs [w0, some (.h 0), rec_, some (.d (wL ns)), some (.h 1), w5, w6, w7, w8, w9, w10] (s :: .lst (ps.map fun p => .int ((p : Nat) : Int)) :: κ) =
    .ok (.nx [w0, some (.h 0), rec_, some (.d (wL ns')), some (.h 1), w5', w6, w7, w8, w9, w10]) (s :: .lst (ps'.map fun p => .int ((p : Nat) : Int)) :: κ')
  | [], _, ns, ps, κ, w5, hw, hl, hpl, hps => ⟨ns, ps, κ, w5, hw, by simp, by simpa using hl, hps, by simpa using hpl, forL_nil⟩
  | x :: xs, hx, ns, ps, κ, w5, hw, hl, hpl, hps => by
    simp only [List.length_cons] at hl hpl
    obtain ⟨ns1, κ1, hw1, h1, h2, e1⟩ := body_law0 (w0 := w0) (w6 := w6) (w7 := w7) (w8 := w8) (w9 := w9) (w10 := w10) (rec_ := rec_) (s := s) (ps := ps) (κ := κ) hw (by omega) (by omega) (hx x List.mem_cons_self)
    obtain ⟨ns2, ps2, κ2, w5', hw2, h3, h4, h5, h6, e2⟩ := loop_law0 xs (fun y hy => hx y (List.mem_cons_of_mem _ hy)) ns1 (ps ++ [ns.length]) κ1 (some (.d x)) hw1 (by omega) (by rw [List.length_append, List.length_singleton]; omega) (by
      intro p hp
      rcases List.mem_append.mp hp with h | h
      · have := hps p h
        omega
      · rw [List.mem_singleton] at h
        omega)
    exact ⟨ns2, ps2, κ2, w5', hw2, by simp only [List.length_cons]; omega, h4, h5, h6, (forL_nx rfl e1).trans e2⟩
end
theorem put_wd {ns : List Int} (hw : Wd ns) {j : Nat} (hj : j < ns.length) {i : Int} (h1 : 0 ≤ i) (h2 : i ≤ 65535) : ∃ ns', Wd ns' ∧ ns'.length = ns.length ∧ put (ns.map .int) j (.int i) = ns'.map .int := by
  refine ⟨ns.take j ++ [i] ++ ns.drop (j + 1), ⟨fun x hx => ?_, ?_⟩, ?_, ?_⟩
  · simp only [List.mem_append, List.mem_singleton] at hx
    rcases hx with (hx | hx) | hx
    · exact hw.1 x (List.mem_of_mem_take hx)
    · subst hx
      exact ⟨h1, h2⟩
    · exact hw.1 x (List.mem_of_mem_drop hx)
  · have := hw.2
    simp
    omega
  · simp
    omega
  · simp [put, List.map_take, List.map_drop]
section
variable {w0 w2 w5 w6 w7 w8 w9 w10 : Option Val}
/-- one word bent -/
theorem body_law1 {B : Nat} {s : MO} {κ : Sto} (h : Sm B s) (hB : B ≤ 900000) {ns : List Int} (hw : Wd ns) (hl : ns.length ≤ 3000) (hl1 : 1 ≤ ns.length) {ps : List Nat} (hps : ∀ p ∈ ps, p ≤ ns.length) : ∃ s' w8' w9', Sm (B + 10) s' ∧
    evalSs (Fi 20) (gOf T) Cn b_law_1 [w0, some (.h 0), w2, some (.d (wL ns)), some (.h 1), w5, w6, w7, w8, w9, w10] (s :: .fz (pL ps) :: κ) =
    .ok (.nx [w0, some (.h 0), w2, some (.d (wL ns)), some (.h 1), w5, w6, w7, w8', w9', w10]) (s' :: .fz (pL ps) :: κ) := by
  obtain ⟨c, s1, e1, a1, b1, m1⟩ := nx_of 39 (.fz (pL ps) :: κ) h (by omega) (m := (ns.length : Nat)) (by omega) (by omega)
  obtain ⟨j, rfl⟩ : ∃ j : Nat, c = (j : Int) := ⟨c.toNat, by omega⟩
  have hj : j < ns.length := by omega
  have hnj : ns[j]? = some ns[j] := List.getElem?_eq_getElem hj
  have ea := wd_at hw hnj
  have eix := wl_ix hnj
  obtain ⟨z, s2, e2, a2, b2, m2⟩ := nx_of 39 (.fz (pL ps) :: κ) m1 (by omega) (m := 65536) (by decide) (by decide)
  obtain ⟨y, s3, e3, hy, m3⟩ := pk_of 38 (.fz (pL ps) :: κ) m2 (by omega) (v := .tuple [.int 0, .int 1, .int 28, .int 29, .int 255, .int 256, .int 65535, .int (if ns[j] < 65535 then ns[j] + 1 else 0), .int z]) (.inl rfl) (by simp) (by simp)
  obtain ⟨i, rfl, hi1, hi2⟩ : ∃ i, y = .int i ∧ 0 ≤ i ∧ i ≤ 65535 := by
    simp only [List.mem_cons, List.not_mem_nil, or_false] at hy
    rcases hy with rfl | rfl | rfl | rfl | rfl | rfl | rfl | rfl | rfl
    · exact ⟨_, rfl, by decide, by decide⟩
    · exact ⟨_, rfl, by decide, by decide⟩
    · exact ⟨_, rfl, by decide, by decide⟩
    · exact ⟨_, rfl, by decide, by decide⟩
    · exact ⟨_, rfl, by decide, by decide⟩
    · exact ⟨_, rfl, by decide, by decide⟩
    · exact ⟨_, rfl, by decide, by decide⟩
    · refine ⟨_, rfl, ?_, ?_⟩ <;> split <;> omega
    · exact ⟨_, rfl, by omega, by omega⟩
  obtain ⟨ns', hw', hl', hput⟩ := put_wd hw hj hi1 hi2
  have e40 : Fi 20 40 [.h 0, .d (wL ns'), .d (pL ps)] (s3 :: .fz (pL ps) :: κ) = .ok (.d (.bool true)) (s3 :: .fz (pL ps) :: κ) := rows_fit_eq 19 hw' (by omega) (fun p hp => by rw [hl']; exact hps p hp) (.h 0) _
  refine ⟨s3, some (.d (.int (j : Nat))), some (.d (wL ns')), sm_le m3 (by omega), ?_⟩
  refine (ss_nx (s_set (w := .d (.int (j : Nat))) (μ' := s1 :: .fz (pL ps) :: κ) (by simp [e1]))).trans ?_
  have l9 : 9 ≤ lim := by decide
  obtain ⟨W, hW⟩ : ∃ W, W = wL ns := ⟨_, rfl⟩
  refine (ss_nx (s_set (w := .d (wL ns')) (μ' := s3 :: .fz (pL ps) :: κ) ?_)).trans ?_
  · have ep := put_e (Φ := Fi 20) (ρ := [w0, some (.h 0), w2, some (.d (wL ns)), some (.h 1), w5, w6, w7, some (.d (.int (j : Nat))), w9, w10]) (μ := s1 :: .fz (pL ps) :: κ) (μ1 := s3 :: .fz (pL ps) :: κ) (i := 3) (k := 8) (j := j) (xs := ns.map .int) (x := .int i)
      (e := .call 20 (cesOf [(.var 1), (.tup (cesOf [(.kst (.int (0))), (.kst (.int (1))), (.kst (.int (28))), (.kst (.int (29))), (.kst (.int (255))), (.kst (.int (256))), (.kst (.int (65535))), (.ite (.cmp .lt (.idx (.var 3) (.var 8)) (.kst (.int (65535)))) (.bin .add (.idx (.var 3) (.var 8)) (.kst (.int (1)))) (.kst (.int (0)))), (.call 19 (cesOf [(.var 1), (.kst (.int (65536)))]))]))])) rfl rfl (by simpa using hj) (by simp; omega) (by
        rw [← hW] at eix ⊢
        by_cases hlt : ns[j] < 65535
        · rw [if_pos hlt] at e3
          simp [eix, hlt, add_ok, e2, l9, e3]
        · rw [if_neg hlt] at e3
          simp [eix, hlt, add_ok, e2, l9, e3])
    rw [hput] at ep
    exact ep
  · have efz : ∀ ρ : Ip.Env, ρ[4]? = some (some (.h 1)) → evalE (Fi 20) (gOf T) (.fz (.var 4)) ρ (s3 :: .fz (pL ps) :: κ) = .ok (.d (pL ps)) (s3 :: .fz (pL ps) :: κ) := fun ρ hρ => re_fz_f (n := 1) (by simp [hρ]) rfl
    obtain ⟨W', hW'⟩ : ∃ W', W' = wL ns' := ⟨_, rfl⟩
    rw [← hW'] at e40 ⊢
    refine (ss_nx (s_if_no (μ' := s3 :: .fz (pL ps) :: κ) (not_t (by simp [efz, e40])))).trans ?_
    rw [css_nil, rss_nil]
    rfl
theorem loop_law1 {κ : Sto} {ns : List Int} (hw : Wd ns) (hl : ns.length ≤ 3000) (hl1 : 1 ≤ ns.length) {ps : List Nat} (hps : ∀ p ∈ ps, p ≤ ns.length) : ∀ (xs : List PyData) (B : Nat) (s : MO) w7 w8 w9, Sm B s → B + 10 * xs.length ≤ 900000 → ∃ s' w7' w8' w9', Sm (B + 10 * xs.length) s' ∧
    forL (.nm 7) (evalSs (Fi 20) (gOf T) Cn b_law_1) xs [w0, some (.h 0), w2, some (.d (wL ns)), some (.h 1), w5, w6, w7, w8, w9, w10] (s :: .fz (pL ps) :: κ) =
    .ok (.nx [w0, some (.h 0), w2, some (.d (wL ns)), some (.h 1), w5, w6, w7', w8', w9', w10]) (s' :: .fz (pL ps) :: κ)
  | [], B, s, w7, w8, w9, h, _ => ⟨s, w7, w8, w9, h, forL_nil⟩
  | x :: xs, B, s, w7, w8, w9, h, hB => by
    simp only [List.length_cons] at hB
    obtain ⟨s1, w8', w9', h1, e1⟩ := body_law1 (w0 := w0) (w2 := w2) (w5 := w5) (w6 := w6) (w7 := some (.d x)) (w8 := w8) (w9 := w9) (w10 := w10) (κ := κ) h (by omega) hw hl hl1 hps
    obtain ⟨s2, w7'', w8'', w9'', h2, e2⟩ := loop_law1 (κ := κ) hw hl hl1 hps xs (B + 10) s1 (some (.d x)) w8' w9' h1 (by omega)
    exact ⟨s2, w7'', w8'', w9'', sm_le h2 (by simp only [List.length_cons]; omega), (forL_nx rfl e1).trans e2⟩
end
end K11
set_option Elab.async false
set_option linter.all false
set_option maxRecDepth 100000
set_option maxHeartbeats 2000000
/-! K11: the plain law. -/
namespace K11
open PySem Ip

theorem e_call3 {Φ : Nat → List Val → Sto → Res Val} {G : Nat → Option PyData} {ρ : Ip.Env} {μ μ1 μ2 μ3 : Sto} {j : Nat} {a b c : CE} {wa wb wc : Val} {R : Res Val} (ea : evalE Φ G a ρ μ = .ok wa μ1) (eb : evalE Φ G b ρ μ1 = .ok wb μ2) (ec : evalE Φ G c ρ μ2 = .ok wc μ3) (h : Φ j [wa, wb, wc] μ3 = R) : evalE Φ G (.call j (.cons a (.cons b (.cons c .nil)))) ρ μ = R := by
  rw [re_call, res_cons, ea, Res.bind_ok, res_cons, eb, Res.bind_ok, res_cons, ec]
  simp [h]
theorem filt_pL (ps : List Nat) (c : Nat) : ((ps.map fun p => PyData.int ((p : Nat) : Int)).filter fun x => match x with | .int i => decide (i ≤ (c : Int)) | _ => false) = (ps.filter fun p => decide (p ≤ c)).map fun p => .int ((p : Nat) : Int) := by
  rw [List.filter_map]
  congr 1
  apply List.filter_congr
  intro p _
  simp [Function.comp]
theorem cut_places {ρ : Ip.Env} {s : MO} {κ : Sto} {ps : List Nat} {ns : List Int} {c : Nat} (hc : ns.length = c) (h4 : ρ[4]? = some (some (.h 1))) (h6 : ρ[6]? = some (some (.d (wL ns)))) (h8 : 8 < ρ.length) (hl : ps.length ≤ 100) :
    evalE (Fi 20) (gOf T) (.bin .add (.lcm false [8] (.var 8) (.nm 8) (.sq (.fz (.var 4))) (.so (.cmp .le (.var 8) (.bi .len (.cons (.var 6) .nil))))) (.lst false (.cons (.bi .len (.cons (.var 6) .nil)) .nil))) ρ (s :: .lst (ps.map fun p => .int ((p : Nat) : Int)) :: κ) = .ok (.d (pL ((ps.filter fun p => decide (p ≤ c)) ++ [c]))) (s :: .fz (pL ps) :: κ) := by
  subst hc
  have ef : evalE (Fi 20) (gOf T) (.fz (.var 4)) ρ (s :: .lst (ps.map fun p => .int ((p : Nat) : Int)) :: κ) = .ok (.d (pL ps)) (s :: .fz (pL ps) :: κ) := re_fz_h (n := 1) (xs := ps.map fun p => .int ((p : Nat) : Int)) (μ1 := s :: .lst (ps.map fun p => .int ((p : Nat) : Int)) :: κ) (by simp [h4]) rfl
  have e : evalR (Fi 20) (gOf T) (.sq (.fz (.var 4))) ρ (s :: .lst (ps.map fun p => .int ((p : Nat) : Int)) :: κ) = .ok (ps.map fun p => .int ((p : Nat) : Int)) (s :: .fz (pL ps) :: κ) := by
    rw [rr_sq, ef]
    rfl
  have h68 : ∀ y : Option Val, ((ρ.set 8 none).set 8 y)[6]? = some (some (.d (wL ns))) := fun y => by
    rw [List.getElem?_set_ne (by decide), List.getElem?_set_ne (by decide), h6]
  have z := lcm_fm (own := [8]) (t := .nm 8) (elt := evalE (Fi 20) (gOf T) (.var 8)) (c := evalC (Fi 20) (gOf T) (.so (.cmp .le (.var 8) (.bi .len (.cons (.var 6) .nil))))) (ρ := ρ) (μ := s :: .fz (pL ps) :: κ) (fun x => match x with | .int i => decide (i ≤ ((ns.length : Nat) : Int)) | _ => false) id (ps.map fun p => .int ((p : Nat) : Int)) [] (fun x hx => by
    obtain ⟨p, _, rfl⟩ := List.mem_map.mp hx
    refine ⟨_, rfl, ?_, fun _ => by simp [wipeE, h8]⟩
    simp [wipeE, h8, h68, h6]) (by simp; unfold lim; omega)
  have y : evalE (Fi 20) (gOf T) (.lcm false [8] (.var 8) (.nm 8) (.sq (.fz (.var 4))) (.so (.cmp .le (.var 8) (.bi .len (.cons (.var 6) .nil))))) ρ (s :: .lst (ps.map fun p => .int ((p : Nat) : Int)) :: κ) = .ok (.d (pL (ps.filter fun p => decide (p ≤ ns.length)))) (s :: .fz (pL ps) :: κ) := by
    rw [re_lcm, e, Res.bind_ok, z, List.map_id, List.nil_append, filt_pL]
    rfl
  have hlf : (ps.filter fun p => decide (p ≤ ns.length)).length ≤ ps.length := List.length_filter_le _ _
  have hadd : binD .add (pL (ps.filter fun p => decide (p ≤ ns.length))) (.list [.int (ns.length : Nat)]) = some (pL ((ps.filter fun p => decide (p ≤ ns.length)) ++ [ns.length])) := by
    unfold pL
    rw [add_l (small_lim (by simp only [List.length_map, List.length_singleton]; omega)), List.map_append]
    rfl
  exact e_bin (wa := .d (pL (ps.filter fun p => decide (p ≤ ns.length)))) (wb := .d (.list [.int (ns.length : Nat)])) (μ1 := s :: .fz (pL ps) :: κ) y (by simp [h6, l1]) rfl rfl hadd
theorem plain (ns : List Int) (hn : ns.length ≤ 63) : ∃ μ, callF Pt (gOf T) Cn (40 + 1) 42 [.s ns] [] = .ok (.d (.bool true)) μ := by
  rw [call_eq c_law rfl rfl, show startE c_law [.s ns] = [some (.s ns), none, none, none, none, none, none, none, none, none, none] from rfl]
  obtain ⟨s0, hs0⟩ : ∃ s0 : MO, s0 = .lst [.list (ns.map .int), .int 0, .int 0] := ⟨_, rfl⟩
  have m0 : Sm 0 s0 := ⟨ns.map .int, 0, 0, hs0, fun x hx => by
    obtain ⟨i, _, rfl⟩ := List.mem_map.mp hx
    exact ⟨i, rfl⟩, by simp; omega, by decide, by decide, by decide⟩
  have estr : Fi 20 18 [.s ns] [] = .ok (.h 0) [s0] := by
    rw [hs0]
    exact stream_eq 39 ns
  -- the records
  obtain ⟨c1, s1, e1, a1, b1, m1⟩ := fr_of 38 [] m0 (by omega) (lo := 1) (hi := 6) (by decide) (by decide)
  have es1 : evalR (Fi 20) (gOf T) (.rg1 (.call 21 (cesOf [(.var 1), (.kst (.int (1))), (.kst (.int (6)))]))) [some (.s ns), some (.h 0), none, none, none, none, none, none, none, none, none] [s0] = .ok (rngD 0 c1.toNat) [s1] := by
    rw [rr_rg1_ok (n := c1) (μ' := [s1]) (by simp [e1]) (rg_mid _ (by omega) (by omega))]
  obtain ⟨v2, μ2, e2, recs, s2, rfl, rfl, hr1, hr2, m2⟩ := wf_lcmE (own := [7]) (t := .nm 7) (elt := .call 29 (cesOf [(.var 1)])) (Q := fun w μ => ∃ xs s', w = .d (.list xs) ∧ μ = [s'] ∧ xs.length = c1.toNat ∧ (∀ x ∈ xs, fault x = none) ∧ Sm 7000 s')
    (fun r acc μ => ∃ s', μ = [s'] ∧ acc.length + r.length = c1.toNat ∧ (∀ x ∈ acc, fault x = none) ∧ Sm (1 + 1000 * acc.length) s') es1
    (by
      rintro x r acc μ ⟨s', rfl, h1, h2, h3⟩
      simp only [List.length_cons] at h1
      obtain ⟨y, s'', ey, hy, my⟩ := dr_of 35 [] h3 (by omega)
      refine ⟨_, rfl, by unfold lim; omega, .d y, [s''], by simp [wipeE, ey], y, rfl, s'', rfl, by rw [List.length_append, List.length_singleton]; omega, ?_, ?_⟩
      · intro x hx
        rcases List.mem_append.mp hx with h | h
        · exact h2 x h
        · rw [List.mem_singleton] at h
          exact h ▸ hy
      · rw [List.length_append, List.length_singleton]
        exact sm_le my (by omega))
    (by
      rintro acc μ ⟨s', rfl, h1, h2, h3⟩
      exact ⟨acc, s', rfl, rfl, by simpa using h1, h2, sm_le h3 (by simp at h1; omega)⟩)
    ⟨s1, rfl, by simp [rng_len], fun x hx => by simp at hx, sm_le m1 (by omega)⟩
  -- one of them, and bent ones
  obtain ⟨x3, s3, e3, hx3, m3⟩ := pk_of 38 [] m2 (by omega) (v := .list recs) (.inr rfl) (by
    intro h
    rw [h] at hr1
    simp at hr1
    omega) (by omega)
  obtain ⟨s4, e4, m4⟩ := rf_of 19 [] m3 (by omega) (hr2 x3 hx3)
  -- the words ahead
  obtain ⟨c5, s5, e5, a5, b5, m5⟩ := nx_of 39 [] m4 (by omega) (m := 4) (by decide) (by decide)
  have es5 : evalR (Fi 20) (gOf T) (.rg1 (.call 19 (cesOf [(.var 1), (.kst (.int (4)))]))) [some (.s ns), some (.h 0), some (.d (.list recs)), none, none, none, none, none, none, none, none] [s4] = .ok (rngD 0 c5.toNat) [s5] := by
    rw [rr_rg1_ok (n := c5) (μ' := [s5]) (by simp [e5]) (rg_mid _ (by omega) (by omega))]
  obtain ⟨v6, μ6, e6, w6, s6, rfl, rfl, hw1, hw2, m6⟩ := wf_lcmE (own := [7]) (t := .nm 7) (elt := .call 27 (cesOf [(.var 1), (.kst (.int (0))), (.kst (.int (65535)))])) (Q := fun w μ => ∃ l s', w = .d (wL l) ∧ μ = [s'] ∧ l.length ≤ 3 ∧ (∀ x ∈ l, 0 ≤ x ∧ x ≤ 65535) ∧ Sm 10100 s')
    (fun r acc μ => ∃ s' l, μ = [s'] ∧ acc = l.map .int ∧ acc.length + r.length ≤ 3 ∧ (∀ x ∈ l, 0 ≤ x ∧ x ≤ 65535) ∧ Sm (10002 + 3 * acc.length) s') es5
    (by
      rintro x r acc μ ⟨s', l, rfl, rfl, h1, h2, h3⟩
      simp only [List.length_cons, List.length_map] at h1 h3
      obtain ⟨y, s'', ey, ya, yb, my⟩ := ed_of 37 [] h3 (by omega) (lo := 0) (hi := 65535) (by decide) (by decide)
      refine ⟨_, rfl, by unfold lim; simp; omega, .d (.int y), [s''], by simp [wipeE, ey], .int y, rfl, s'', l ++ [y], rfl, by simp, by simp; omega, ?_, ?_⟩
      · intro x hx
        rcases List.mem_append.mp hx with h | h
        · exact h2 x h
        · rw [List.mem_singleton] at h
          subst h
          exact ⟨ya, yb⟩
      · rw [List.length_append, List.length_singleton, List.length_map]
        exact sm_le my (by omega))
    (by
      rintro acc μ ⟨s', l, rfl, rfl, h1, h2, h3⟩
      exact ⟨l, s', rfl, rfl, by simpa using h1, h2, sm_le h3 (by simp at h1 ⊢; omega)⟩)
    ⟨s5, [], rfl, rfl, by simp [rng_len]; omega, fun x hx => by simp at hx, sm_le m5 (by simp)⟩
  have hwd6 : Wd w6 := ⟨hw2, by omega⟩
  -- record behind record
  obtain ⟨ws, ps, κ, w5', hwd, hlo, hhi, hps, hpl, el0⟩ := loop_law0 (w0 := some (.s ns)) (rec_ := some (.d (.list recs))) (w6 := none) (w7 := none) (w8 := none) (w9 := none) (w10 := none) (s := s6) recs hr2 w6 [] [] none hwd6 (by omega) (by simp; omega) (fun p hp => by simp at hp)
  have hlen1 : 1 ≤ ws.length := by omega
  obtain ⟨S6, hS6⟩ : ∃ S6 : Sto, S6 = MO.lst (ps.map fun p => PyData.int ((p : Nat) : Int)) :: κ := ⟨_, rfl⟩
  obtain ⟨s7, e7, m7⟩ := ru_of 19 S6 m6 (by omega) hwd hlen1 (by omega)
  have e7a : Fi 20 40 [.h 0, .d (wL ws), .d (pL (ps ++ [0, ws.length]))] (s6 :: S6) = .ok (.d (.bool true)) (s6 :: S6) := rows_fit_eq 19 hwd (by omega) (fun p hp => by
    rcases List.mem_append.mp hp with h | h
    · exact hps p h
    · simp only [List.mem_cons, List.not_mem_nil, or_false] at h
      omega) (.h 0) _
  have hadd7 : binD .add (pL ps) (.list [.int 0, .int (ws.length : Nat)]) = some (pL (ps ++ [0, ws.length])) := by
    unfold pL
    rw [add_l (small_lim (by simp; omega)), List.map_append]
    rfl
  -- the cut
  obtain ⟨c8, s8, e8, a8, b8, m8⟩ := fr_of 38 S6 m7 (by omega) (lo := 0) (hi := (ws.length : Nat)) (by omega) (by omega)
  obtain ⟨c, rfl⟩ : ∃ c : Nat, c8 = (c : Int) := ⟨c8.toNat, by omega⟩
  have hcl : (ws.take c).length = c := by
    rw [List.length_take]
    omega
  have hsl : slcD (wL ws) none (some (c : Int)) = some (wL (ws.take c)) := by
    unfold wL
    rw [sll_lo (by simp; omega), List.map_take]
  have hwdc : Wd (ws.take c) := ⟨fun x hx => hwd.1 x (List.mem_of_mem_take hx), by rw [hcl]; omega⟩
  have e9 : Fi 20 40 [.h 0, .d (wL (ws.take c)), .d (pL ((ps.filter fun p => decide (p ≤ c)) ++ [c]))] (s8 :: .fz (pL ps) :: κ) = .ok (.d (.bool true)) (s8 :: .fz (pL ps) :: κ) := rows_fit_eq 19 hwdc (by omega) (fun p hp => by
    rw [hcl]
    rcases List.mem_append.mp hp with h | h
    · have := (List.mem_filter.mp h).2
      simpa using this
    · rw [List.mem_singleton] at h
      omega) (.h 0) _
  -- bent ones
  obtain ⟨s10, w7', w8', w9', m10, el1⟩ := loop_law1 (w0 := some (.s ns)) (w2 := some (.d (.list recs))) (w5 := w5') (w6 := some (.d (wL (ws.take c)))) (w10 := none) (κ := κ) hwd (by omega) hlen1 hps (rngD 0 3) (10111) s8 none none none (sm_le m8 (by omega)) (by rw [rng_len]; omega)
  -- free words
  have es11 : evalR (Fi 20) (gOf T) (.rg1 (.kst (.int (12)))) [some (.s ns), some (.h 0), some (.d (.list recs)), some (.d (wL ws)), some (.h 1), w5', some (.d (wL (ws.take c))), w7', w8', w9', none] (s10 :: .fz (pL ps) :: κ) = .ok (rngD 0 12) (s10 :: .fz (pL ps) :: κ) := by
    rw [rr_rg1_ok (n := 12) (μ' := s10 :: .fz (pL ps) :: κ) (by simp) (by decide)]
    rfl
  obtain ⟨v11, μ11, e11, fw11, s11, rfl, rfl, hf1, hf2, m11⟩ := wf_lcmE (own := [7]) (t := .nm 7) (elt := .call 20 (cesOf [(.var 1), (.tup (cesOf [(.call 19 (cesOf [(.var 1), (.kst (.int (16)))])), (.bin .add (.call 19 (cesOf [(.var 1), (.kst (.int (16)))])) (.bin .mul (.kst (.int (16))) (.call 19 (cesOf [(.var 1), (.kst (.int (9)))])))), (.call 19 (cesOf [(.var 1), (.kst (.int (300)))])), (.kst (.int (0)))]))])) (Q := fun w μ => ∃ l s', w = .d (wL l) ∧ μ = s' :: .fz (pL ps) :: κ ∧ l.length = 12 ∧ (∀ x ∈ l, 0 ≤ x ∧ x ≤ 65535) ∧ Sm 20000 s')
    (fun r acc μ => ∃ s' l, μ = s' :: .fz (pL ps) :: κ ∧ acc = l.map .int ∧ acc.length + r.length = 12 ∧ (∀ x ∈ l, 0 ≤ x ∧ x ≤ 65535) ∧ Sm (11000 + 5 * acc.length) s') es11
    (by
      rintro x r acc μ ⟨s', l, rfl, rfl, h1, h2, h3⟩
      simp only [List.length_cons, List.length_map] at h1 h3
      obtain ⟨z1, t1, f1, p1, q1, n1⟩ := nx_of 39 (.fz (pL ps) :: κ) h3 (by omega) (m := 16) (by decide) (by decide)
      obtain ⟨z2, t2, f2, p2, q2, n2⟩ := nx_of 39 (.fz (pL ps) :: κ) n1 (by omega) (m := 16) (by decide) (by decide)
      obtain ⟨z3, t3, f3, p3, q3, n3⟩ := nx_of 39 (.fz (pL ps) :: κ) n2 (by omega) (m := 9) (by decide) (by decide)
      obtain ⟨z4, t4, f4, p4, q4, n4⟩ := nx_of 39 (.fz (pL ps) :: κ) n3 (by omega) (m := 300) (by decide) (by decide)
      obtain ⟨y, t5, f5, hy, n5⟩ := pk_of 38 (.fz (pL ps) :: κ) n4 (by omega) (v := .tuple [.int z1, .int (z2 + 16 * z3), .int z4, .int 0]) (.inl rfl) (by simp) (by simp)
      obtain ⟨i, rfl, hi1, hi2⟩ : ∃ i, y = .int i ∧ 0 ≤ i ∧ i ≤ 65535 := by
        simp only [List.mem_cons, List.not_mem_nil, or_false] at hy
        rcases hy with rfl | rfl | rfl | rfl
        · exact ⟨_, rfl, by omega, by omega⟩
        · exact ⟨_, rfl, by omega, by omega⟩
        · exact ⟨_, rfl, by omega, by omega⟩
        · exact ⟨_, rfl, by omega, by omega⟩
      have hm := mul_ok (i := 16) (j := z3) (sml_of (by decide) (by decide)) (sml_of p3 (by omega))
      obtain ⟨W, hW⟩ : ∃ W, W = wL ws := ⟨_, rfl⟩
      obtain ⟨W', hW'⟩ : ∃ W', W' = wL (ws.take c) := ⟨_, rfl⟩
      refine ⟨_, rfl, by unfold lim; simp; omega, .d (.int i), t5 :: .fz (pL ps) :: κ, ?_, .int i, rfl, t5, l ++ [i], rfl, by simp, by simp; omega, ?_, ?_⟩
      · rw [← hW, ← hW']
        simp [wipeE, f1, f2, f3, f4, f5, hm, add_ok, l4]
      · intro x hx
        rcases List.mem_append.mp hx with h | h
        · exact h2 x h
        · rw [List.mem_singleton] at h
          subst h
          exact ⟨hi1, hi2⟩
      · rw [List.length_append, List.length_singleton, List.length_map]
        exact sm_le n5 (by omega))
    (by
      rintro acc μ ⟨s', l, rfl, rfl, h1, h2, h3⟩
      exact ⟨l, s', rfl, rfl, by simpa using h1, h2, sm_le h3 (by simp at h1 ⊢; omega)⟩)
    ⟨s10, [], rfl, rfl, by simp [rng_len], fun x hx => by simp at hx, sm_le m10 (by simp [rng_len])⟩
  have hwdf : Wd fw11 := ⟨hf2, by omega⟩
  have e12 : Fi 20 40 [.h 0, .d (wL fw11), .d (pL (List.range 13))] (s11 :: .fz (pL ps) :: κ) = .ok (.d (.bool true)) (s11 :: .fz (pL ps) :: κ) := rows_fit_eq 19 hwdf (by omega) (fun p hp => by
    rw [List.mem_range] at hp
    omega) (.h 0) _
  have er13 : rngD 0 13 = (List.range 13).map fun p => .int ((p : Nat) : Int) := rfl
  -- joined
  suffices hq : ∃ S, evalSs (Fi 20) (gOf T) Cn c_law.body [some (.s ns), none, none, none, none, none, none, none, none, none, none] [] = .ok (.ret (.d (.bool true))) S by
    obtain ⟨S, hS⟩ := hq
    exact ⟨_, (congrArg _ hS).trans rfl⟩
  refine ⟨s11 :: .fz (pL ps) :: κ, ?_⟩
  refine (ss_nx (s_set (w := .h 0) (μ' := [s0]) (by simp [estr]))).trans ?_
  refine (ss_nx (s_set e2)).trans ?_
  refine (ss_nx (s_if_no (μ' := [s4]) (not_t (by simp [e3, e4])))).trans ?_
  refine (ss_nx (s_set e6)).trans ?_
  refine (ss_nx (s_set (w := .h 1) (μ' := [s6, .lst []]) (by simp [l0]))).trans ?_
  refine (ss_nx ((s_for (xs := recs) (μ' := [s6, .lst []]) (by simp)).trans el0)).trans ?_
  rw [← hS6]
  obtain ⟨W, hW⟩ : ∃ W, W = wL ws := ⟨_, rfl⟩
  have hWl : biD .len [W] = some (.int (ws.length : Nat)) := by rw [hW]; exact wl_len
  have hrd7 : rd (s6 :: S6) (.h 1) = some (pL ps) := by rw [hS6]; rfl
  refine (ss_nx (s_if_no (μ' := s7 :: S6) (or_ff (μ1 := s6 :: S6) (not_t ?_) (not_t ?_)))).trans ?_
  · rw [← hW] at e7a ⊢
    simp [hWl, hrd7, hadd7, e7a, l2]
  · simp [e7]
  refine (ss_nx (s_set (w := .d (wL (ws.take c))) (μ' := s8 :: S6) ?_)).trans ?_
  · rw [← hW] at hsl ⊢
    simp [hWl, e8, hsl]
  rw [hS6]
  have hcp := cut_places (ρ := [some (.s ns), some (.h 0), some (.d (.list recs)), some (.d (wL ws)), some (.h 1), w5', some (.d (wL (ws.take c))), none, none, none, none]) (s := s8) (κ := κ) (ps := ps) (ns := ws.take c) (c := c) hcl rfl rfl (by simp) hpl
  refine (ss_nx (s_if_no (μ' := s8 :: .fz (pL ps) :: κ) (not_t ?_))).trans ?_
  · exact e_call3 (wa := .h 0) (wb := .d (wL (ws.take c))) (μ1 := s8 :: .lst (ps.map fun p => .int ((p : Nat) : Int)) :: κ) (μ2 := s8 :: .lst (ps.map fun p => .int ((p : Nat) : Int)) :: κ) (by simp) (by simp) hcp e9
  refine (ss_nx ((s_for (xs := rngD 0 3) (μ' := s8 :: .fz (pL ps) :: κ) ?_).trans el1)).trans ?_
  · rw [rr_rg1_ok (n := 3) (μ' := s8 :: .fz (pL ps) :: κ) (by simp) (by decide)]
    rfl
  refine (ss_nx (s_set e11)).trans ?_
  refine ss_rt (s_ret ?_)
  have e13 : evalR (Fi 20) (gOf T) (.rg1 (.kst (.int (13)))) [some (.s ns), some (.h 0), some (.d (.list recs)), some (.d (wL ws)), some (.h 1), w5', some (.d (wL (ws.take c))), w7', w8', w9', some (.d (wL fw11))] (s11 :: .fz (pL ps) :: κ) = .ok (rngD 0 13) (s11 :: .fz (pL ps) :: κ) := by
    rw [rr_rg1_ok (n := 13) (μ' := s11 :: .fz (pL ps) :: κ) (by simp) (by decide)]
    rfl
  have e14 : evalE (Fi 20) (gOf T) (.lisr (.rg1 (.kst (.int (13))))) [some (.s ns), some (.h 0), some (.d (.list recs)), some (.d (wL ws)), some (.h 1), w5', some (.d (wL (ws.take c))), w7', w8', w9', some (.d (wL fw11))] (s11 :: .fz (pL ps) :: κ) = .ok (.d (pL (List.range 13))) (s11 :: .fz (pL ps) :: κ) := by
    rw [re_lisr, e13, Res.bind_ok, if_pos (by rw [rng_len]; decide), er13]
    rfl
  exact e_call3 (wa := .h 0) (wb := .d (wL fw11)) (μ1 := s11 :: .fz (pL ps) :: κ) (μ2 := s11 :: .fz (pL ps) :: κ) (by simp) (by simp) e14 e12
end K11
set_option Elab.async false
set_option linter.all false
set_option maxRecDepth 100000
/-! K11: the claim, joined. -/
open PySem PySem.W PyProof.Rows
set_option maxRecDepth 100000 in
set_option maxHeartbeats 0 in
theorem PySem.Challenge.cw_whatstayed_k11_records_and_their_words_holds : PySem.Challenge.rw_whatstayed_k11_records_and_their_words.Holds := by
  w_on; o_law; k_head; (case hw => w_witness2)
  k_fill
  refine Ip.walk (l := PySem.Challenge.rw_whatstayed_k11_records_and_their_words) (T := K11.T) (Pt := K11.Pt) (C := K11.Cn) (L := K11.L) (j := 42) (m := 40) (n := 63) (x := "script") (st := K11.s_law) (N := K11.N_law) (cf := K11.c_law) rfl (by decide) rfl rfl ⟨rfl, by decide, by decide⟩ K11.Tx rfl K11.D_law (List.mem_of_getElem? (i := 42) rfl) K11.plain (fun w h Y => PySem.W.kIn_of Y) ?F
  case F =>
    intro w _
    refine ⟨?co, ?kd, ?bn, ?fs, ?cl, ?ke, ?vg⟩
    case co =>
      refine Ip.allP_cons ?_ ?_
      · show Ip.ConIn _ "TOP_WORD" (.int (65535))
        refine' Ip.con_int ?a1
        (case a1 => k_is)
      refine Ip.allP_cons ?_ ?_
      · show Ip.ConIn _ "MOST_WORDS" (.int (28))
        refine' Ip.con_int ?a2
        (case a2 => k_is)
      refine Ip.allP_cons ?_ ?_
      · show Ip.ConIn _ "NAMES" (.tuple [(.str ""), (.str "begin"), (.str "put"), (.str "undo"), (.str "commit"), (.str "abort"), (.str "gone"), (.str "fresh"), (.str "cut"), (.str "link"), (.str "unlink"), (.str "take"), (.str ""), (.str "closed"), (.str "void")])
        refine' Ip.con_tup ?g3 ?l3 ?s3 ?t3
        (case g3 => k_is)
        (case l3 => k_is)
        (case s3 => decide)
        case t3 =>
          refine Ip.TupD.str ?_
          refine Ip.TupD.str ?_
          refine Ip.TupD.str ?_
          refine Ip.TupD.str ?_
          refine Ip.TupD.str ?_
          refine Ip.TupD.str ?_
          refine Ip.TupD.str ?_
          refine Ip.TupD.str ?_
          refine Ip.TupD.str ?_
          refine Ip.TupD.str ?_
          refine Ip.TupD.str ?_
          refine Ip.TupD.str ?_
          refine Ip.TupD.str ?_
          refine Ip.TupD.str ?_
          refine Ip.TupD.str ?_
          exact Ip.TupD.nil
      refine Ip.allP_cons ?_ ?_
      · show Ip.ConIn _ "FORMS" (.tuple [(.tuple []), (.tuple [(.str "name")]), (.tuple [(.str "name"), (.str "tree"), (.str "page"), (.str "word"), (.str "maybe"), (.str "maybe"), (.str "link")]), (.tuple [(.str "name"), (.str "tree"), (.str "page"), (.str "word"), (.str "maybe"), (.str "maybe"), (.str "link")]), (.tuple [(.str "name"), (.str "number")]), (.tuple [(.str "name")]), (.tuple [(.str "tree"), (.str "page"), (.str "word"), (.str "word")]), (.tuple [(.str "page"), (.str "words")]), (.tuple [(.str "page"), (.str "word"), (.str "page"), (.str "word"), (.str "word")]), (.tuple [(.str "page"), (.str "word"), (.str "word"), (.str "page")]), (.tuple [(.str "page"), (.str "word"), (.str "word"), (.str "page")]), (.tuple [(.str "page"), (.str "page"), (.str "word"), (.str "word"), (.str "words")]), (.tuple []), (.tuple []), (.tuple [])])
        refine' Ip.con_tup ?g4 ?l4 ?s4 ?t4
        (case g4 => k_is)
        (case l4 => k_is)
        (case s4 => decide)
        case t4 =>
          refine' Ip.TupD.tup ?l5 ?s5 ?t5 ?_
          (case l5 => k_is)
          (case s5 => decide)
          case t5 =>
            exact Ip.TupD.nil
          refine' Ip.TupD.tup ?l6 ?s6 ?t6 ?_
          (case l6 => k_is)
          (case s6 => decide)
          case t6 =>
            refine Ip.TupD.str ?_
            exact Ip.TupD.nil
          refine' Ip.TupD.tup ?l7 ?s7 ?t7 ?_
          (case l7 => k_is)
          (case s7 => decide)
          case t7 =>
            refine Ip.TupD.str ?_
            refine Ip.TupD.str ?_
            refine Ip.TupD.str ?_
            refine Ip.TupD.str ?_
            refine Ip.TupD.str ?_
            refine Ip.TupD.str ?_
            refine Ip.TupD.str ?_
            exact Ip.TupD.nil
          refine' Ip.TupD.tup ?l8 ?s8 ?t8 ?_
          (case l8 => k_is)
          (case s8 => decide)
          case t8 =>
            refine Ip.TupD.str ?_
            refine Ip.TupD.str ?_
            refine Ip.TupD.str ?_
            refine Ip.TupD.str ?_
            refine Ip.TupD.str ?_
            refine Ip.TupD.str ?_
            refine Ip.TupD.str ?_
            exact Ip.TupD.nil
          refine' Ip.TupD.tup ?l9 ?s9 ?t9 ?_
          (case l9 => k_is)
          (case s9 => decide)
          case t9 =>
            refine Ip.TupD.str ?_
            refine Ip.TupD.str ?_
            exact Ip.TupD.nil
          refine' Ip.TupD.tup ?l10 ?s10 ?t10 ?_
          (case l10 => k_is)
          (case s10 => decide)
          case t10 =>
            refine Ip.TupD.str ?_
            exact Ip.TupD.nil
          refine' Ip.TupD.tup ?l11 ?s11 ?t11 ?_
          (case l11 => k_is)
          (case s11 => decide)
          case t11 =>
            refine Ip.TupD.str ?_
            refine Ip.TupD.str ?_
            refine Ip.TupD.str ?_
            refine Ip.TupD.str ?_
            exact Ip.TupD.nil
          refine' Ip.TupD.tup ?l12 ?s12 ?t12 ?_
          (case l12 => k_is)
          (case s12 => decide)
          case t12 =>
            refine Ip.TupD.str ?_
            refine Ip.TupD.str ?_
            exact Ip.TupD.nil
          refine' Ip.TupD.tup ?l13 ?s13 ?t13 ?_
          (case l13 => k_is)
          (case s13 => decide)
          case t13 =>
            refine Ip.TupD.str ?_
            refine Ip.TupD.str ?_
            refine Ip.TupD.str ?_
            refine Ip.TupD.str ?_
            refine Ip.TupD.str ?_
            exact Ip.TupD.nil
          refine' Ip.TupD.tup ?l14 ?s14 ?t14 ?_
          (case l14 => k_is)
          (case s14 => decide)
          case t14 =>
            refine Ip.TupD.str ?_
            refine Ip.TupD.str ?_
            refine Ip.TupD.str ?_
            refine Ip.TupD.str ?_
            exact Ip.TupD.nil
          refine' Ip.TupD.tup ?l15 ?s15 ?t15 ?_
          (case l15 => k_is)
          (case s15 => decide)
          case t15 =>
            refine Ip.TupD.str ?_
            refine Ip.TupD.str ?_
            refine Ip.TupD.str ?_
            refine Ip.TupD.str ?_
            exact Ip.TupD.nil
          refine' Ip.TupD.tup ?l16 ?s16 ?t16 ?_
          (case l16 => k_is)
          (case s16 => decide)
          case t16 =>
            refine Ip.TupD.str ?_
            refine Ip.TupD.str ?_
            refine Ip.TupD.str ?_
            refine Ip.TupD.str ?_
            refine Ip.TupD.str ?_
            exact Ip.TupD.nil
          refine' Ip.TupD.tup ?l17 ?s17 ?t17 ?_
          (case l17 => k_is)
          (case s17 => decide)
          case t17 =>
            exact Ip.TupD.nil
          refine' Ip.TupD.tup ?l18 ?s18 ?t18 ?_
          (case l18 => k_is)
          (case s18 => decide)
          case t18 =>
            exact Ip.TupD.nil
          refine' Ip.TupD.tup ?l19 ?s19 ?t19 ?_
          (case l19 => k_is)
          (case s19 => decide)
          case t19 =>
            exact Ip.TupD.nil
          exact Ip.TupD.nil
      trivial
    case kd =>
      refine Ip.allP_cons ?_ ?_
      · show Ip.KdIn _ _ "BOUNDS" _
        refine' Ip.kdIn_mk ?g20 ?l20 ?k20 ?q20
        (case g20 => k_is)
        (case l20 => k_is)
        (case k20 => exact ⟨⟨_, _, rfl, rfl⟩, ⟨⟨_, _, rfl, rfl⟩, ⟨⟨_, _, rfl, rfl⟩, ⟨⟨_, _, rfl, rfl⟩, ⟨⟨_, _, rfl, rfl⟩, trivial⟩⟩⟩⟩⟩)
        case q20 =>
          refine Ip.allP_cons ?_ ?_
          · show ∃ u v, PySem.W.nsIn _ _ "tree" = some (some u) ∧ _
            refine' Ip.kd_tup ?g21 ?l21 ?s21 ?t21
            (case g21 => k_is)
            (case l21 => k_is)
            (case s21 => decide)
            case t21 =>
              refine Ip.TupD.int ?_
              refine Ip.TupD.int ?_
              exact Ip.TupD.nil
          refine Ip.allP_cons ?_ ?_
          · show ∃ u v, PySem.W.nsIn _ _ "page" = some (some u) ∧ _
            refine' Ip.kd_tup ?g22 ?l22 ?s22 ?t22
            (case g22 => k_is)
            (case l22 => k_is)
            (case s22 => decide)
            case t22 =>
              refine Ip.TupD.int ?_
              refine Ip.TupD.int ?_
              exact Ip.TupD.nil
          refine Ip.allP_cons ?_ ?_
          · show ∃ u v, PySem.W.nsIn _ _ "word" = some (some u) ∧ _
            refine' Ip.kd_tup ?g23 ?l23 ?s23 ?t23
            (case g23 => k_is)
            (case l23 => k_is)
            (case s23 => decide)
            case t23 =>
              refine Ip.TupD.int ?_
              refine Ip.TupD.int ?_
              exact Ip.TupD.nil
          refine Ip.allP_cons ?_ ?_
          · show ∃ u v, PySem.W.nsIn _ _ "number" = some (some u) ∧ _
            refine' Ip.kd_tup ?g24 ?l24 ?s24 ?t24
            (case g24 => k_is)
            (case l24 => k_is)
            (case s24 => decide)
            case t24 =>
              refine Ip.TupD.int ?_
              refine Ip.TupD.int ?_
              exact Ip.TupD.nil
          refine Ip.allP_cons ?_ ?_
          · show ∃ u v, PySem.W.nsIn _ _ "link" = some (some u) ∧ _
            refine' Ip.kd_tup ?g25 ?l25 ?s25 ?t25
            (case g25 => k_is)
            (case l25 => k_is)
            (case s25 => decide)
            case t25 =>
              refine Ip.TupD.int ?_
              refine Ip.TupD.int ?_
              exact Ip.TupD.nil
          trivial
      trivial
    case bn =>
      refine Ip.allP_cons ?_ ?_
      · show PySem.W.nsIn _ mainGlobals "len" = some none
        k_is
      refine Ip.allP_cons ?_ ?_
      · show PySem.W.nsIn _ mainGlobals "abs" = some none
        k_is
      refine Ip.allP_cons ?_ ?_
      · show PySem.W.nsIn _ mainGlobals "int" = some none
        k_is
      refine Ip.allP_cons ?_ ?_
      · show PySem.W.nsIn _ mainGlobals "str" = some none
        k_is
      refine Ip.allP_cons ?_ ?_
      · show PySem.W.nsIn _ mainGlobals "tuple" = some none
        k_is
      refine Ip.allP_cons ?_ ?_
      · show PySem.W.nsIn _ mainGlobals "max" = some none
        k_is
      refine Ip.allP_cons ?_ ?_
      · show PySem.W.nsIn _ mainGlobals "min" = some none
        k_is
      refine Ip.allP_cons ?_ ?_
      · show PySem.W.nsIn _ mainGlobals "sorted" = some none
        k_is
      refine Ip.allP_cons ?_ ?_
      · show PySem.W.nsIn _ mainGlobals "all" = some none
        k_is
      refine Ip.allP_cons ?_ ?_
      · show PySem.W.nsIn _ mainGlobals "any" = some none
        k_is
      refine Ip.allP_cons ?_ ?_
      · show PySem.W.nsIn _ mainGlobals "sum" = some none
        k_is
      refine Ip.allP_cons ?_ ?_
      · show PySem.W.nsIn _ mainGlobals "list" = some none
        k_is
      refine Ip.allP_cons ?_ ?_
      · show PySem.W.nsIn _ mainGlobals "bool" = some none
        k_is
      refine Ip.allP_cons ?_ ?_
      · show PySem.W.nsIn _ mainGlobals "dict" = some none
        k_is
      refine Ip.allP_cons ?_ ?_
      · show PySem.W.nsIn _ mainGlobals "isinstance" = some none
        k_is
      refine Ip.allP_cons ?_ ?_
      · show PySem.W.nsIn _ mainGlobals "range" = some none
        k_is
      refine Ip.allP_cons ?_ ?_
      · show PySem.W.nsIn _ mainGlobals "enumerate" = some none
        k_is
      trivial
    case fs =>
      refine Ip.allP_cons ?_ ?_
      · show Ip.DefIn _ "is_int" K11.s_is_int K11.P_is_int
        refine' Ip.defIn_mk ?a26 ?l26 ?c26 ?k26 ?b26
        (case a26 => k_is); (case l26 => k_is); (case c26 => k_is); (case k26 => k_is)
        (case b26 => exact fun _ _ _ _ _ _ us hl => match us, hl with | [_, _, _], _ => rfl)
      refine Ip.allP_cons ?_ ?_
      · show Ip.DefIn _ "is_word" K11.s_is_word K11.P_is_word
        refine' Ip.defIn_mk ?a27 ?l27 ?c27 ?k27 ?b27
        (case a27 => k_is); (case l27 => k_is); (case c27 => k_is); (case k27 => k_is)
        (case b27 => exact fun _ _ _ _ _ _ us hl => match us, hl with | [_], _ => rfl)
      refine Ip.allP_cons ?_ ?_
      · show Ip.DefIn _ "split_number" K11.s_split_number K11.P_split_number
        refine' Ip.defIn_mk ?a28 ?l28 ?c28 ?k28 ?b28
        (case a28 => k_is); (case l28 => k_is); (case c28 => k_is); (case k28 => k_is)
        (case b28 => exact fun _ _ _ _ _ _ us hl => match us, hl with | [_], _ => rfl)
      refine Ip.allP_cons ?_ ?_
      · show Ip.DefIn _ "is_name" K11.s_is_name K11.P_is_name
        refine' Ip.defIn_mk ?a29 ?l29 ?c29 ?k29 ?b29
        (case a29 => k_is); (case l29 => k_is); (case c29 => k_is); (case k29 => k_is)
        (case b29 => exact fun _ _ _ _ _ _ us hl => match us, hl with | [_], _ => rfl)
      refine Ip.allP_cons ?_ ?_
      · show Ip.DefIn _ "is_field" K11.s_is_field K11.P_is_field
        refine' Ip.defIn_mk ?a30 ?l30 ?c30 ?k30 ?b30
        (case a30 => k_is); (case l30 => k_is); (case c30 => k_is); (case k30 => k_is)
        (case b30 => exact fun _ _ _ _ _ _ us hl => match us, hl with | [_, _], _ => rfl)
      refine Ip.allP_cons ?_ ?_
      · show Ip.DefIn _ "wrong_item" K11.s_wrong_item K11.P_wrong_item
        refine' Ip.defIn_mk ?a31 ?l31 ?c31 ?k31 ?b31
        (case a31 => k_is); (case l31 => k_is); (case c31 => k_is); (case k31 => k_is)
        (case b31 => exact fun _ _ _ _ _ _ us hl => match us, hl with | [_], _ => rfl)
      refine Ip.allP_cons ?_ ?_
      · show Ip.DefIn _ "check_record" K11.s_check_record K11.P_check_record
        refine' Ip.defIn_mk ?a32 ?l32 ?c32 ?k32 ?b32
        (case a32 => k_is); (case l32 => k_is); (case c32 => k_is); (case k32 => k_is)
        (case b32 => exact fun _ _ _ _ _ _ us hl => match us, hl with | [_], _ => rfl)
      refine Ip.allP_cons ?_ ?_
      · show Ip.DefIn _ "is_record" K11.s_is_record K11.P_is_record
        refine' Ip.defIn_mk ?a33 ?l33 ?c33 ?k33 ?b33
        (case a33 => k_is); (case l33 => k_is); (case c33 => k_is); (case k33 => k_is)
        (case b33 => exact fun _ _ _ _ _ _ us hl => match us, hl with | [_], _ => rfl)
      refine Ip.allP_cons ?_ ?_
      · show Ip.DefIn _ "field_words" K11.s_field_words K11.P_field_words
        refine' Ip.defIn_mk ?a34 ?l34 ?c34 ?k34 ?b34
        (case a34 => k_is); (case l34 => k_is); (case c34 => k_is); (case k34 => k_is)
        (case b34 => exact fun _ _ _ _ _ _ us hl => match us, hl with | [_, _], _ => rfl)
      refine Ip.allP_cons ?_ ?_
      · show Ip.DefIn _ "packed" K11.s_packed K11.P_packed
        refine' Ip.defIn_mk ?a35 ?l35 ?c35 ?k35 ?b35
        (case a35 => k_is); (case l35 => k_is); (case c35 => k_is); (case k35 => k_is)
        (case b35 => exact fun _ _ _ _ _ _ us hl => match us, hl with | [_], _ => rfl)
      refine Ip.allP_cons ?_ ?_
      · show Ip.DefIn _ "record_words" K11.s_record_words K11.P_record_words
        refine' Ip.defIn_mk ?a36 ?l36 ?c36 ?k36 ?b36
        (case a36 => k_is); (case l36 => k_is); (case c36 => k_is); (case k36 => k_is)
        (case b36 => exact fun _ _ _ _ _ _ us hl => match us, hl with | [_], _ => rfl)
      refine Ip.allP_cons ?_ ?_
      · show Ip.DefIn _ "pair_at" K11.s_pair_at K11.P_pair_at
        refine' Ip.defIn_mk ?a37 ?l37 ?c37 ?k37 ?b37
        (case a37 => k_is); (case l37 => k_is); (case c37 => k_is); (case k37 => k_is)
        (case b37 => exact fun _ _ _ _ _ _ us hl => match us, hl with | [_, _, _], _ => rfl)
      refine Ip.allP_cons ?_ ?_
      · show Ip.DefIn _ "field_at" K11.s_field_at K11.P_field_at
        refine' Ip.defIn_mk ?a38 ?l38 ?c38 ?k38 ?b38
        (case a38 => k_is); (case l38 => k_is); (case c38 => k_is); (case k38 => k_is)
        (case b38 => exact fun _ _ _ _ _ _ us hl => match us, hl with | [_, _, _, _], _ => rfl)
      refine Ip.allP_cons ?_ ?_
      · show Ip.DefIn _ "unpacked" K11.s_unpacked K11.P_unpacked
        refine' Ip.defIn_mk ?a39 ?l39 ?c39 ?k39 ?b39
        (case a39 => k_is); (case l39 => k_is); (case c39 => k_is); (case k39 => k_is)
        (case b39 => exact fun _ _ _ _ _ _ us hl => match us, hl with | [_, _], _ => rfl)
      refine Ip.allP_cons ?_ ?_
      · show Ip.DefIn _ "record_at" K11.s_record_at K11.P_record_at
        refine' Ip.defIn_mk ?a40 ?l40 ?c40 ?k40 ?b40
        (case a40 => k_is); (case l40 => k_is); (case c40 => k_is); (case k40 => k_is)
        (case b40 => exact fun _ _ _ _ _ _ us hl => match us, hl with | [_, _], _ => rfl)
      refine Ip.allP_cons ?_ ?_
      · show Ip.DefIn _ "field_of" K11.s_field_of K11.P_field_of
        refine' Ip.defIn_mk ?a41 ?l41 ?c41 ?k41 ?b41
        (case a41 => k_is); (case l41 => k_is); (case c41 => k_is); (case k41 => k_is)
        (case b41 => exact fun _ _ _ _ _ _ us hl => match us, hl with | [_, _], _ => rfl)
      refine Ip.allP_cons ?_ ?_
      · show Ip.DefIn _ "page_of" K11.s_page_of K11.P_page_of
        refine' Ip.defIn_mk ?a42 ?l42 ?c42 ?k42 ?b42
        (case a42 => k_is); (case l42 => k_is); (case c42 => k_is); (case k42 => k_is)
        (case b42 => exact fun _ _ _ _ _ _ us hl => match us, hl with | [_], _ => rfl)
      refine Ip.allP_cons ?_ ?_
      · show Ip.DefIn _ "name_of" K11.s_name_of K11.P_name_of
        refine' Ip.defIn_mk ?a43 ?l43 ?c43 ?k43 ?b43
        (case a43 => k_is); (case l43 => k_is); (case c43 => k_is); (case k43 => k_is)
        (case b43 => exact fun _ _ _ _ _ _ us hl => match us, hl with | [_], _ => rfl)
      refine Ip.allP_cons ?_ ?_
      · show Ip.DefIn _ "_law_stream" K11.s__law_stream K11.P__law_stream
        refine' Ip.defIn_mk ?a44 ?l44 ?c44 ?k44 ?b44
        (case a44 => k_is); (case l44 => k_is); (case c44 => k_is); (case k44 => k_is)
        (case b44 => exact fun _ _ _ _ _ _ us hl => match us, hl with | [_], _ => rfl)
      refine Ip.allP_cons ?_ ?_
      · show Ip.DefIn _ "_law_next" K11.s__law_next K11.P__law_next
        refine' Ip.defIn_mk ?a45 ?l45 ?c45 ?k45 ?b45
        (case a45 => k_is); (case l45 => k_is); (case c45 => k_is); (case k45 => k_is)
        (case b45 => exact fun _ _ _ _ _ _ us hl => match us, hl with | [_, _], _ => rfl)
      refine Ip.allP_cons ?_ ?_
      · show Ip.DefIn _ "_law_pick" K11.s__law_pick K11.P__law_pick
        refine' Ip.defIn_mk ?a46 ?l46 ?c46 ?k46 ?b46
        (case a46 => k_is); (case l46 => k_is); (case c46 => k_is); (case k46 => k_is)
        (case b46 => exact fun _ _ _ _ _ _ us hl => match us, hl with | [_, _], _ => rfl)
      refine Ip.allP_cons ?_ ?_
      · show Ip.DefIn _ "_law_from" K11.s__law_from K11.P__law_from
        refine' Ip.defIn_mk ?a47 ?l47 ?c47 ?k47 ?b47
        (case a47 => k_is); (case l47 => k_is); (case c47 => k_is); (case k47 => k_is)
        (case b47 => exact fun _ _ _ _ _ _ us hl => match us, hl with | [_, _, _], _ => rfl)
      refine Ip.allP_cons ?_ ?_
      · show Ip.DefIn _ "_law_number" K11.s__law_number K11.P__law_number
        refine' Ip.defIn_mk ?a48 ?l48 ?c48 ?k48 ?b48
        (case a48 => k_is); (case l48 => k_is); (case c48 => k_is); (case k48 => k_is)
        (case b48 => exact fun _ _ _ _ _ _ us hl => match us, hl with | [_, _, _], _ => rfl)
      refine Ip.allP_cons ?_ ?_
      · show Ip.DefIn _ "_law_is_row" K11.s__law_is_row K11.P__law_is_row
        refine' Ip.defIn_mk ?a49 ?l49 ?c49 ?k49 ?b49
        (case a49 => k_is); (case l49 => k_is); (case c49 => k_is); (case k49 => k_is)
        (case b49 => exact fun _ _ _ _ _ _ us hl => match us, hl with | [_, _, _], _ => rfl)
      refine Ip.allP_cons ?_ ?_
      · show Ip.DefIn _ "_law_same" K11.s__law_same K11.P__law_same
        refine' Ip.defIn_mk ?a50 ?l50 ?c50 ?k50 ?b50
        (case a50 => k_is); (case l50 => k_is); (case c50 => k_is); (case k50 => k_is)
        (case b50 => exact fun _ _ _ _ _ _ us hl => match us, hl with | [_, _], _ => rfl)
      refine Ip.allP_cons ?_ ?_
      · show Ip.DefIn _ "_law_copy" K11.s__law_copy K11.P__law_copy
        refine' Ip.defIn_mk ?a51 ?l51 ?c51 ?k51 ?b51
        (case a51 => k_is); (case l51 => k_is); (case c51 => k_is); (case k51 => k_is)
        (case b51 => exact fun _ _ _ _ _ _ us hl => match us, hl with | [_], _ => rfl)
      refine Ip.allP_cons ?_ ?_
      · show Ip.DefIn _ "_law_table" K11.s__law_table K11.P__law_table
        refine' Ip.defIn_mk ?a52 ?l52 ?c52 ?k52 ?b52
        (case a52 => k_is); (case l52 => k_is); (case c52 => k_is); (case k52 => k_is)
        (case b52 => exact fun _ _ _ _ _ _ us hl => match us, hl with | [], _ => rfl)
      refine Ip.allP_cons ?_ ?_
      · show Ip.DefIn _ "_law_edge" K11.s__law_edge K11.P__law_edge
        refine' Ip.defIn_mk ?a53 ?l53 ?c53 ?k53 ?b53
        (case a53 => k_is); (case l53 => k_is); (case c53 => k_is); (case k53 => k_is)
        (case b53 => exact fun _ _ _ _ _ _ us hl => match us, hl with | [_, _, _], _ => rfl)
      refine Ip.allP_cons ?_ ?_
      · show Ip.DefIn _ "_law_field" K11.s__law_field K11.P__law_field
        refine' Ip.defIn_mk ?a54 ?l54 ?c54 ?k54 ?b54
        (case a54 => k_is); (case l54 => k_is); (case c54 => k_is); (case k54 => k_is)
        (case b54 => exact fun _ _ _ _ _ _ us hl => match us, hl with | [_, _], _ => rfl)
      refine Ip.allP_cons ?_ ?_
      · show Ip.DefIn _ "_law_drawn" K11.s__law_drawn K11.P__law_drawn
        refine' Ip.defIn_mk ?a55 ?l55 ?c55 ?k55 ?b55
        (case a55 => k_is); (case l55 => k_is); (case c55 => k_is); (case k55 => k_is)
        (case b55 => exact fun _ _ _ _ _ _ us hl => match us, hl with | [_], _ => rfl)
      refine Ip.allP_cons ?_ ?_
      · show Ip.DefIn _ "_law_good" K11.s__law_good K11.P__law_good
        refine' Ip.defIn_mk ?a56 ?l56 ?c56 ?k56 ?b56
        (case a56 => k_is); (case l56 => k_is); (case c56 => k_is); (case k56 => k_is)
        (case b56 => exact fun _ _ _ _ _ _ us hl => match us, hl with | [_, _], _ => rfl)
      refine Ip.allP_cons ?_ ?_
      · show Ip.DefIn _ "_law_fault" K11.s__law_fault K11.P__law_fault
        refine' Ip.defIn_mk ?a57 ?l57 ?c57 ?k57 ?b57
        (case a57 => k_is); (case l57 => k_is); (case c57 => k_is); (case k57 => k_is)
        (case b57 => exact fun _ _ _ _ _ _ us hl => match us, hl with | [_], _ => rfl)
      refine Ip.allP_cons ?_ ?_
      · show Ip.DefIn _ "_law_words" K11.s__law_words K11.P__law_words
        refine' Ip.defIn_mk ?a58 ?l58 ?c58 ?k58 ?b58
        (case a58 => k_is); (case l58 => k_is); (case c58 => k_is); (case k58 => k_is)
        (case b58 => exact fun _ _ _ _ _ _ us hl => match us, hl with | [_], _ => rfl)
      refine Ip.allP_cons ?_ ?_
      · show Ip.DefIn _ "_law_no" K11.s__law_no K11.P__law_no
        refine' Ip.defIn_mk ?a59 ?l59 ?c59 ?k59 ?b59
        (case a59 => k_is); (case l59 => k_is); (case c59 => k_is); (case k59 => k_is)
        (case b59 => exact fun _ _ _ _ _ _ us hl => match us, hl with | [_], _ => rfl)
      refine Ip.allP_cons ?_ ?_
      · show Ip.DefIn _ "_law_bad_word" K11.s__law_bad_word K11.P__law_bad_word
        refine' Ip.defIn_mk ?a60 ?l60 ?c60 ?k60 ?b60
        (case a60 => k_is); (case l60 => k_is); (case c60 => k_is); (case k60 => k_is)
        (case b60 => exact fun _ _ _ _ _ _ us hl => match us, hl with | [_, _, _, _, _], _ => rfl)
      refine Ip.allP_cons ?_ ?_
      · show Ip.DefIn _ "_law_value" K11.s__law_value K11.P__law_value
        refine' Ip.defIn_mk ?a61 ?l61 ?c61 ?k61 ?b61
        (case a61 => k_is); (case l61 => k_is); (case c61 => k_is); (case k61 => k_is)
        (case b61 => exact fun _ _ _ _ _ _ us hl => match us, hl with | [_, _, _], _ => rfl)
      refine Ip.allP_cons ?_ ?_
      · show Ip.DefIn _ "_law_due" K11.s__law_due K11.P__law_due
        refine' Ip.defIn_mk ?a62 ?l62 ?c62 ?k62 ?b62
        (case a62 => k_is); (case l62 => k_is); (case c62 => k_is); (case k62 => k_is)
        (case b62 => exact fun _ _ _ _ _ _ us hl => match us, hl with | [_, _], _ => rfl)
      refine Ip.allP_cons ?_ ?_
      · show Ip.DefIn _ "_law_asked" K11.s__law_asked K11.P__law_asked
        refine' Ip.defIn_mk ?a63 ?l63 ?c63 ?k63 ?b63
        (case a63 => k_is); (case l63 => k_is); (case c63 => k_is); (case k63 => k_is)
        (case b63 => exact fun _ _ _ _ _ _ us hl => match us, hl with | [_, _, _], _ => rfl)
      refine Ip.allP_cons ?_ ?_
      · show Ip.DefIn _ "_law_bent" K11.s__law_bent K11.P__law_bent
        refine' Ip.defIn_mk ?a64 ?l64 ?c64 ?k64 ?b64
        (case a64 => k_is); (case l64 => k_is); (case c64 => k_is); (case k64 => k_is)
        (case b64 => exact fun _ _ _ _ _ _ us hl => match us, hl with | [_, _], _ => rfl)
      refine Ip.allP_cons ?_ ?_
      · show Ip.DefIn _ "_law_records_fit" K11.s__law_records_fit K11.P__law_records_fit
        refine' Ip.defIn_mk ?a65 ?l65 ?c65 ?k65 ?b65
        (case a65 => k_is); (case l65 => k_is); (case c65 => k_is); (case k65 => k_is)
        (case b65 => exact fun _ _ _ _ _ _ us hl => match us, hl with | [_, _], _ => rfl)
      refine Ip.allP_cons ?_ ?_
      · show Ip.DefIn _ "_law_rows_fit" K11.s__law_rows_fit K11.P__law_rows_fit
        refine' Ip.defIn_mk ?a66 ?l66 ?c66 ?k66 ?b66
        (case a66 => k_is); (case l66 => k_is); (case c66 => k_is); (case k66 => k_is)
        (case b66 => exact fun _ _ _ _ _ _ us hl => match us, hl with | [_, _, _], _ => rfl)
      refine Ip.allP_cons ?_ ?_
      · show Ip.DefIn _ "_law_refusals_fit" K11.s__law_refusals_fit K11.P__law_refusals_fit
        refine' Ip.defIn_mk ?a67 ?l67 ?c67 ?k67 ?b67
        (case a67 => k_is); (case l67 => k_is); (case c67 => k_is); (case k67 => k_is)
        (case b67 => exact fun _ _ _ _ _ _ us hl => match us, hl with | [_, _], _ => rfl)
      refine Ip.allP_cons ?_ ?_
      · show Ip.DefIn _ "law" K11.s_law K11.P_law
        refine' Ip.defIn_mk ?a68 ?l68 ?c68 ?k68 ?b68
        (case a68 => k_is); (case l68 => k_is); (case c68 => k_is); (case k68 => k_is)
        (case b68 => exact fun _ _ _ _ _ _ us hl => match us, hl with | [_], _ => rfl)
      refine Ip.allP_cons ?_ ?_
      · show Ip.DefIn _ "_law_named" K11.s__law_named (["error"] : List Str)
        refine' Ip.defIn_mk ?a69 ?l69 ?c69 ?k69 ?b69
        (case a69 => k_is); (case l69 => k_is); (case c69 => k_is); (case k69 => k_is)
        (case b69 => exact fun _ _ _ _ _ _ us hl => match us, hl with | [_], _ => rfl)
      refine Ip.allP_cons ?_ ?_
      · show Ip.DefIn _ "_law_attributes" K11.s__law_attributes (["e", "name"] : List Str)
        refine' Ip.defIn_mk ?a70 ?l70 ?c70 ?k70 ?b70
        (case a70 => k_is); (case l70 => k_is); (case c70 => k_is); (case k70 => k_is)
        (case b70 => exact fun _ _ _ _ _ _ us hl => match us, hl with | [_, _], _ => rfl)
      refine Ip.allP_cons ?_ ?_
      · show Ip.DefIn _ "_law_error" K11.s__law_error (["error"] : List Str)
        refine' Ip.defIn_mk ?a71 ?l71 ?c71 ?k71 ?b71
        (case a71 => k_is); (case l71 => k_is); (case c71 => k_is); (case k71 => k_is)
        (case b71 => exact fun _ _ _ _ _ _ us hl => match us, hl with | [_], _ => rfl)
      trivial
    case cl =>
      refine Ip.allP_cons ?_ ?_
      · show ∃ Dx, Ip.ClsIn _ "BadRecord" Dx
        refine' Ip.ex_cls (Ip.clsIn_mk (f := "word") (st := L2.inClass (K11.top 4) 0) (qn := "BadRecord.__init__") ?g72 ?xL72 ?hbm72 ?sa72 ?ga72 ?gg72 ?kC72 ?eC72 ?tC72 ?hC72 ?ca72 ?cn72 ?ck72 ?cm72 ?i172 ?t172 ?l172 ?c172 ?k172 ?kg72 ?kE72 ?kH72 ?kT72 ?kS72 ?ve72 ?nf72 ?isx72 rfl (by decide +kernel) ⟨rfl, rfl, rfl, by decide +kernel, rfl, by decide +kernel, by decide +kernel⟩ (by decide +kernel) ?b72)
        (case g72 => first | k_is | rfl | decide +kernel)
        (case xL72 => first | k_is | rfl | decide +kernel)
        (case hbm72 => decide +kernel)
        (case sa72 => first | k_is | rfl | decide +kernel)
        (case ga72 => first | k_is | rfl | decide +kernel)
        (case gg72 => first | k_is | rfl | decide +kernel)
        (case kC72 => first | k_is | rfl | decide +kernel)
        (case eC72 => first | k_is | rfl | decide +kernel)
        (case tC72 => first | k_is | rfl | decide +kernel)
        (case hC72 => first | k_is | rfl | decide +kernel)
        (case ca72 => first | k_is | rfl | decide +kernel)
        (case cn72 => first | k_is | rfl | decide +kernel)
        (case ck72 => first | k_is | rfl | decide +kernel)
        (case cm72 => first | k_is | rfl | decide +kernel)
        (case i172 => first | k_is | rfl | decide +kernel)
        (case t172 => first | k_is | rfl | decide +kernel)
        (case l172 => first | k_is | rfl | decide +kernel)
        (case c172 => first | k_is | rfl | decide +kernel)
        (case k172 => first | k_is | rfl | decide +kernel)
        (case kg72 => first | k_is | rfl | decide +kernel)
        (case kE72 => first | k_is | rfl | decide +kernel)
        (case kH72 => first | k_is | rfl | decide +kernel)
        (case kT72 => first | k_is | rfl | decide +kernel)
        (case kS72 => first | k_is | rfl | decide +kernel)
        (case ve72 => first | k_is | rfl | decide +kernel)
        case nf72 =>
          refine Ip.allP_cons ?_ ?_
          · show PySem.W.findIn _ _ "key" = some none
            k_is
          refine Ip.allP_cons ?_ ?_
          · show PySem.W.findIn _ _ "block" = some none
            k_is
          refine Ip.allP_cons ?_ ?_
          · show PySem.W.findIn _ _ "line" = some none
            k_is
          refine Ip.allP_cons ?_ ?_
          · show PySem.W.findIn _ _ "column" = some none
            k_is
          refine Ip.allP_cons ?_ ?_
          · show PySem.W.findIn _ _ "step" = some none
            k_is
          refine Ip.allP_cons ?_ ?_
          · show PySem.W.findIn _ _ "name" = some none
            k_is
          refine Ip.allP_cons ?_ ?_
          · show PySem.W.findIn _ _ "least" = some none
            k_is
          refine Ip.allP_cons ?_ ?_
          · show PySem.W.findIn _ _ "word" = some none
            k_is
          trivial
        case isx72 =>
          refine Ip.allP_cons ?_ ?_
          · show ∃ D', PySem.W.nsIn _ mainGlobals "BadSizes" = some (some (.ref D')) ∧ PySem.W.kitOne _ _ (.ref D') = some false
            refine' Ip.ex_isx ?x73 ?y73
            (case x73 => k_is)
            (case y73 => first | kit_is | k_is)
          refine Ip.allP_cons ?_ ?_
          · show ∃ D', PySem.W.nsIn _ mainGlobals "BadBlock" = some (some (.ref D')) ∧ PySem.W.kitOne _ _ (.ref D') = some false
            refine' Ip.ex_isx ?x74 ?y74
            (case x74 => k_is)
            (case y74 => first | kit_is | k_is)
          refine Ip.allP_cons ?_ ?_
          · show ∃ D', PySem.W.nsIn _ mainGlobals "BadRecord" = some (some (.ref D')) ∧ PySem.W.kitOne _ _ (.ref D') = some true
            refine' Ip.ex_isx ?x75 ?y75
            (case x75 => k_is)
            (case y75 => first | kit_is | k_is)
          refine Ip.allP_cons ?_ ?_
          · show ∃ D', PySem.W.nsIn _ mainGlobals "BadScript" = some (some (.ref D')) ∧ PySem.W.kitOne _ _ (.ref D') = some false
            refine' Ip.ex_isx ?x76 ?y76
            (case x76 => k_is)
            (case y76 => first | kit_is | k_is)
          refine Ip.allP_cons ?_ ?_
          · show ∃ D', PySem.W.nsIn _ mainGlobals "BadStep" = some (some (.ref D')) ∧ PySem.W.kitOne _ _ (.ref D') = some false
            refine' Ip.ex_isx ?x77 ?y77
            (case x77 => k_is)
            (case y77 => first | kit_is | k_is)
          refine Ip.allP_cons ?_ ?_
          · show ∃ D', PySem.W.nsIn _ mainGlobals "BadHistory" = some (some (.ref D')) ∧ PySem.W.kitOne _ _ (.ref D') = some false
            refine' Ip.ex_isx ?x78 ?y78
            (case x78 => k_is)
            (case y78 => first | kit_is | k_is)
          refine Ip.allP_cons ?_ ?_
          · show ∃ D', PySem.W.nsIn _ mainGlobals "BadValue" = some (some (.ref D')) ∧ PySem.W.kitOne _ _ (.ref D') = some false
            refine' Ip.ex_isx ?x79 ?y79
            (case x79 => k_is)
            (case y79 => first | kit_is | k_is)
          refine Ip.allP_cons ?_ ?_
          · show ∃ D', PySem.W.nsIn _ mainGlobals "NotOpen" = some (some (.ref D')) ∧ PySem.W.kitOne _ _ (.ref D') = some false
            refine' Ip.ex_isx ?x80 ?y80
            (case x80 => k_is)
            (case y80 => first | kit_is | k_is)
          refine Ip.allP_cons ?_ ?_
          · show ∃ D', PySem.W.nsIn _ mainGlobals "Waiting" = some (some (.ref D')) ∧ PySem.W.kitOne _ _ (.ref D') = some false
            refine' Ip.ex_isx ?x81 ?y81
            (case x81 => k_is)
            (case y81 => first | kit_is | k_is)
          refine Ip.allP_cons ?_ ?_
          · show ∃ D', PySem.W.nsIn _ mainGlobals "Lost" = some (some (.ref D')) ∧ PySem.W.kitOne _ _ (.ref D') = some false
            refine' Ip.ex_isx ?x82 ?y82
            (case x82 => k_is)
            (case y82 => first | kit_is | k_is)
          refine Ip.allP_cons ?_ ?_
          · show ∃ D', PySem.W.nsIn _ mainGlobals "Full" = some (some (.ref D')) ∧ PySem.W.kitOne _ _ (.ref D') = some false
            refine' Ip.ex_isx ?x83 ?y83
            (case x83 => k_is)
            (case y83 => first | kit_is | k_is)
          refine Ip.allP_cons ?_ ?_
          · show ∃ D', PySem.W.nsIn _ mainGlobals "Gone" = some (some (.ref D')) ∧ PySem.W.kitOne _ _ (.ref D') = some false
            refine' Ip.ex_isx ?x84 ?y84
            (case x84 => k_is)
            (case y84 => first | kit_is | k_is)
          refine Ip.allP_cons ?_ ?_
          · show ∃ D', PySem.W.nsIn _ mainGlobals "TooMany" = some (some (.ref D')) ∧ PySem.W.kitOne _ _ (.ref D') = some false
            refine' Ip.ex_isx ?x85 ?y85
            (case x85 => k_is)
            (case y85 => first | kit_is | k_is)
          refine Ip.allP_cons ?_ ?_
          · show ∃ D', PySem.W.nsIn _ mainGlobals "KeepError" = some (some (.ref D')) ∧ PySem.W.kitOne _ _ (.ref D') = some true
            refine' Ip.ex_isx ?x86 ?y86
            (case x86 => k_is)
            (case y86 => first | kit_is | k_is)
          trivial
        (case b72 => exact fun _ _ _ _ _ _ us hl => match us, hl with | [_, _], _ => rfl)
      refine Ip.allP_cons ?_ ?_
      · show ∃ Dx, Ip.ClsIn _ "BadValue" Dx
        refine' Ip.ex_cls (Ip.clsIn_mk (f := "name") (st := L2.inClass (K11.top 8) 0) (qn := "BadValue.__init__") ?g87 ?xL87 ?hbm87 ?sa87 ?ga87 ?gg87 ?kC87 ?eC87 ?tC87 ?hC87 ?ca87 ?cn87 ?ck87 ?cm87 ?i187 ?t187 ?l187 ?c187 ?k187 ?kg87 ?kE87 ?kH87 ?kT87 ?kS87 ?ve87 ?nf87 ?isx87 rfl (by decide +kernel) ⟨rfl, rfl, rfl, by decide +kernel, rfl, by decide +kernel, by decide +kernel⟩ (by decide +kernel) ?b87)
        (case g87 => first | k_is | rfl | decide +kernel)
        (case xL87 => first | k_is | rfl | decide +kernel)
        (case hbm87 => decide +kernel)
        (case sa87 => first | k_is | rfl | decide +kernel)
        (case ga87 => first | k_is | rfl | decide +kernel)
        (case gg87 => first | k_is | rfl | decide +kernel)
        (case kC87 => first | k_is | rfl | decide +kernel)
        (case eC87 => first | k_is | rfl | decide +kernel)
        (case tC87 => first | k_is | rfl | decide +kernel)
        (case hC87 => first | k_is | rfl | decide +kernel)
        (case ca87 => first | k_is | rfl | decide +kernel)
        (case cn87 => first | k_is | rfl | decide +kernel)
        (case ck87 => first | k_is | rfl | decide +kernel)
        (case cm87 => first | k_is | rfl | decide +kernel)
        (case i187 => first | k_is | rfl | decide +kernel)
        (case t187 => first | k_is | rfl | decide +kernel)
        (case l187 => first | k_is | rfl | decide +kernel)
        (case c187 => first | k_is | rfl | decide +kernel)
        (case k187 => first | k_is | rfl | decide +kernel)
        (case kg87 => first | k_is | rfl | decide +kernel)
        (case kE87 => first | k_is | rfl | decide +kernel)
        (case kH87 => first | k_is | rfl | decide +kernel)
        (case kT87 => first | k_is | rfl | decide +kernel)
        (case kS87 => first | k_is | rfl | decide +kernel)
        (case ve87 => first | k_is | rfl | decide +kernel)
        case nf87 =>
          refine Ip.allP_cons ?_ ?_
          · show PySem.W.findIn _ _ "key" = some none
            k_is
          refine Ip.allP_cons ?_ ?_
          · show PySem.W.findIn _ _ "block" = some none
            k_is
          refine Ip.allP_cons ?_ ?_
          · show PySem.W.findIn _ _ "line" = some none
            k_is
          refine Ip.allP_cons ?_ ?_
          · show PySem.W.findIn _ _ "column" = some none
            k_is
          refine Ip.allP_cons ?_ ?_
          · show PySem.W.findIn _ _ "step" = some none
            k_is
          refine Ip.allP_cons ?_ ?_
          · show PySem.W.findIn _ _ "name" = some none
            k_is
          refine Ip.allP_cons ?_ ?_
          · show PySem.W.findIn _ _ "least" = some none
            k_is
          refine Ip.allP_cons ?_ ?_
          · show PySem.W.findIn _ _ "word" = some none
            k_is
          trivial
        case isx87 =>
          refine Ip.allP_cons ?_ ?_
          · show ∃ D', PySem.W.nsIn _ mainGlobals "BadSizes" = some (some (.ref D')) ∧ PySem.W.kitOne _ _ (.ref D') = some false
            refine' Ip.ex_isx ?x88 ?y88
            (case x88 => k_is)
            (case y88 => first | kit_is | k_is)
          refine Ip.allP_cons ?_ ?_
          · show ∃ D', PySem.W.nsIn _ mainGlobals "BadBlock" = some (some (.ref D')) ∧ PySem.W.kitOne _ _ (.ref D') = some false
            refine' Ip.ex_isx ?x89 ?y89
            (case x89 => k_is)
            (case y89 => first | kit_is | k_is)
          refine Ip.allP_cons ?_ ?_
          · show ∃ D', PySem.W.nsIn _ mainGlobals "BadRecord" = some (some (.ref D')) ∧ PySem.W.kitOne _ _ (.ref D') = some false
            refine' Ip.ex_isx ?x90 ?y90
            (case x90 => k_is)
            (case y90 => first | kit_is | k_is)
          refine Ip.allP_cons ?_ ?_
          · show ∃ D', PySem.W.nsIn _ mainGlobals "BadScript" = some (some (.ref D')) ∧ PySem.W.kitOne _ _ (.ref D') = some false
            refine' Ip.ex_isx ?x91 ?y91
            (case x91 => k_is)
            (case y91 => first | kit_is | k_is)
          refine Ip.allP_cons ?_ ?_
          · show ∃ D', PySem.W.nsIn _ mainGlobals "BadStep" = some (some (.ref D')) ∧ PySem.W.kitOne _ _ (.ref D') = some false
            refine' Ip.ex_isx ?x92 ?y92
            (case x92 => k_is)
            (case y92 => first | kit_is | k_is)
          refine Ip.allP_cons ?_ ?_
          · show ∃ D', PySem.W.nsIn _ mainGlobals "BadHistory" = some (some (.ref D')) ∧ PySem.W.kitOne _ _ (.ref D') = some false
            refine' Ip.ex_isx ?x93 ?y93
            (case x93 => k_is)
            (case y93 => first | kit_is | k_is)
          refine Ip.allP_cons ?_ ?_
          · show ∃ D', PySem.W.nsIn _ mainGlobals "BadValue" = some (some (.ref D')) ∧ PySem.W.kitOne _ _ (.ref D') = some true
            refine' Ip.ex_isx ?x94 ?y94
            (case x94 => k_is)
            (case y94 => first | kit_is | k_is)
          refine Ip.allP_cons ?_ ?_
          · show ∃ D', PySem.W.nsIn _ mainGlobals "NotOpen" = some (some (.ref D')) ∧ PySem.W.kitOne _ _ (.ref D') = some false
            refine' Ip.ex_isx ?x95 ?y95
            (case x95 => k_is)
            (case y95 => first | kit_is | k_is)
          refine Ip.allP_cons ?_ ?_
          · show ∃ D', PySem.W.nsIn _ mainGlobals "Waiting" = some (some (.ref D')) ∧ PySem.W.kitOne _ _ (.ref D') = some false
            refine' Ip.ex_isx ?x96 ?y96
            (case x96 => k_is)
            (case y96 => first | kit_is | k_is)
          refine Ip.allP_cons ?_ ?_
          · show ∃ D', PySem.W.nsIn _ mainGlobals "Lost" = some (some (.ref D')) ∧ PySem.W.kitOne _ _ (.ref D') = some false
            refine' Ip.ex_isx ?x97 ?y97
            (case x97 => k_is)
            (case y97 => first | kit_is | k_is)
          refine Ip.allP_cons ?_ ?_
          · show ∃ D', PySem.W.nsIn _ mainGlobals "Full" = some (some (.ref D')) ∧ PySem.W.kitOne _ _ (.ref D') = some false
            refine' Ip.ex_isx ?x98 ?y98
            (case x98 => k_is)
            (case y98 => first | kit_is | k_is)
          refine Ip.allP_cons ?_ ?_
          · show ∃ D', PySem.W.nsIn _ mainGlobals "Gone" = some (some (.ref D')) ∧ PySem.W.kitOne _ _ (.ref D') = some false
            refine' Ip.ex_isx ?x99 ?y99
            (case x99 => k_is)
            (case y99 => first | kit_is | k_is)
          refine Ip.allP_cons ?_ ?_
          · show ∃ D', PySem.W.nsIn _ mainGlobals "TooMany" = some (some (.ref D')) ∧ PySem.W.kitOne _ _ (.ref D') = some false
            refine' Ip.ex_isx ?x100 ?y100
            (case x100 => k_is)
            (case y100 => first | kit_is | k_is)
          refine Ip.allP_cons ?_ ?_
          · show ∃ D', PySem.W.nsIn _ mainGlobals "KeepError" = some (some (.ref D')) ∧ PySem.W.kitOne _ _ (.ref D') = some true
            refine' Ip.ex_isx ?x101 ?y101
            (case x101 => k_is)
            (case y101 => first | kit_is | k_is)
          trivial
        (case b87 => exact fun _ _ _ _ _ _ us hl => match us, hl with | [_, _], _ => rfl)
      trivial
    case ke =>
      refine' Ip.ex_ref ?xK
      (case xK => k_is)
    case vg => k_is
